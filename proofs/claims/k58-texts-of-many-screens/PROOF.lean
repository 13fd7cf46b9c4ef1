import PyProof.Rows.All
import Wide.All
import OpenK.AllK
import Wide.FinOn
import HandS.ForMost
import HandS.ForExc
import HandS.IsInst
import HandS.Star
import HandS.TryMany
import HandS.ExcInit
import HandS.ExcField
import HandS.Wide
import KE.IntTextLaws
import HandS.Style
import HandS.Defaults
import HandS.Small
import HandS.ReplaceLit
import PyProof.ToksMono
import PySem.Challenge.RW_topmatches_k58_texts_of_many_screens
set_option Elab.async false
set_option linter.all false
set_option maxRecDepth 100000
set_option maxHeartbeats 4000000
/-! The data layer: what code does to plain data D, with a store FS of things that are changed. -/
namespace TM
open PySem PySem.Spec PyProof.Rows L2

/-! ### plain data -/
inductive D where
  | non | bl (b : Bool) | int (i : Int) | str (x : Str)
  | lst (xs : List D) | tup (xs : List D) | dct (ks : List Str) (xs : List D) | scr (ns : List Int) | exc (a dd : Addr) (f : Str) (x : D) | raw (v : V)

/-- the value v, in the heap P that is not changed any more, is the data d -/
inductive Rep (K : PySem.W.Frag) (P : Hp) : D → V → Prop
  | non : Rep K P .non .non
  | bl (b : Bool) : Rep K P (.bl b) (.bl b)
  | int (i : Int) : Rep K P (.int i) (.int i)
  | str (x : Str) : Rep K P (.str x) (.str x)
  | lst {ds : List D} {a : Addr} {vs : List V} (h : P a = some (.lst vs)) (r : Paired (Rep K P) ds vs) : Rep K P (.lst ds) (.ref a)
  | tup {ds : List D} {a : Addr} {vs : List V} (h : P a = some (.tup vs)) (r : Paired (Rep K P) ds vs) : Rep K P (.tup ds) (.ref a)
  | dct {ks : List Str} {ds : List D} {a : Addr} {vs : List V} (h : P a = some (.dK ((ks.map Sum.inr).zip vs))) (hl : ks.length = ds.length) (r : Paired (Rep K P) ds vs) : Rep K P (.dct ks ds) (.ref a)
  | scr {ns : List Int} {a : Addr} (h : SqL K P a (ns.map V.int)) : Rep K P (.scr ns) (.ref a)
  /-- a caught exception with one field -/
  | exc {a dd : Addr} {f : Str} {x : D} {v : V} (h : P dd = some (.xd [(f, v)])) (r : Rep K P x v) : Rep K P (.exc a dd f x) (.ref a)
  | raw (v : V) : Rep K P (.raw v) v
abbrev Reps (K : PySem.W.Frag) (P : Hp) : List D → List V → Prop := Paired (Rep K P)

theorem Same.sqT {K : PySem.W.Frag} {H H' : Hp} {a : Addr} {xs : List V} (e : Same H H') (h : SqT K H a xs) : SqT K H' a xs := by
  rcases h with (h | ⟨o, h⟩) | h
  · exact .inl (.inl (e _ _ h))
  · exact .inl (.inr ⟨o, e _ _ h⟩)
  · exact .inr h
theorem Rep.mono {K : PySem.W.Frag} {P P' : Hp} (s : Same P P') : ∀ {d : D} {v : V}, Rep K P d v → Rep K P' d v := by
  intro d v h
  induction h using Rep.rec (motive_2 := fun ds vs _ => Reps K P' ds vs) with
  | non => exact .non
  | bl b => exact .bl b
  | int i => exact .int i
  | str x => exact .str x
  | lst h r ih => exact .lst (s _ _ h) ih
  | tup h r ih => exact .tup (s _ _ h) ih
  | dct h hl r ih => exact .dct (s _ _ h) hl ih
  | scr h => exact .scr (Same.seq s h)
  | exc h r ih => exact .exc (s _ _ h) ih
  | raw v => exact .raw v
  | nil => exact .nil
  | cons r t ih1 ih2 => exact .cons ih1 ih2
theorem Reps.mono {K : PySem.W.Frag} {P P' : Hp} (s : Same P P') : ∀ {ds : List D} {vs : List V}, Reps K P ds vs → Reps K P' ds vs
  | _, _, .nil => .nil
  | _, _, .cons h t => .cons (h.mono s) (Reps.mono s t)
theorem Reps.get {K : PySem.W.Frag} {P : Hp} : ∀ {ds : List D} {vs : List V} {i : Nat} {d : D}, Reps K P ds vs → ds[i]? = some d → ∃ v, vs[i]? = some v ∧ Rep K P d v
  | _, _, i, d, .nil, e => by simp at e
  | _, _, 0, d, .cons h _, e => by
    simp at e
    subst e
    exact ⟨_, rfl, h⟩
  | _, _, i + 1, d, .cons _ t, e => by
    obtain ⟨v, h1, h2⟩ := Reps.get t (i := i) (d := d) (by simpa using e)
    exact ⟨v, by simpa using h1, h2⟩
theorem Reps.get' {K : PySem.W.Frag} {P : Hp} {ds : List D} {vs : List V} {i : Nat} {v : V} (r : Reps K P ds vs) (e : vs[i]? = some v) : ∃ d, ds[i]? = some d ∧ Rep K P d v := by
  have hl := Paired.length r
  have hi : i < vs.length := (List.getElem?_eq_some_iff.mp e).1
  obtain ⟨u, h1, h2⟩ := Reps.get r (i := i) (d := ds[i]) (by simp)
  rw [e] at h1
  cases h1
  exact ⟨_, by simp, h2⟩
theorem Reps.append {K : PySem.W.Frag} {P : Hp} : ∀ {ds es : List D} {vs us : List V}, Reps K P ds vs → Reps K P es us → Reps K P (ds ++ es) (vs ++ us)
  | _, _, _, _, .nil, s => s
  | _, _, _, _, .cons r t, s => .cons r (Reps.append t s)
theorem Reps.take {K : PySem.W.Frag} {P : Hp} : ∀ {ds : List D} {vs : List V} (n : Nat), Reps K P ds vs → Reps K P (ds.take n) (vs.take n)
  | _, _, 0, _ => .nil
  | _, _, _ + 1, .nil => .nil
  | _, _, n + 1, .cons r t => .cons r (Reps.take n t)
theorem Reps.drop {K : PySem.W.Frag} {P : Hp} : ∀ {ds : List D} {vs : List V} (n : Nat), Reps K P ds vs → Reps K P (ds.drop n) (vs.drop n)
  | _, _, 0, r => r
  | _, _, _ + 1, .nil => .nil
  | _, _, n + 1, .cons _ t => Reps.drop n t
theorem Reps.reverse {K : PySem.W.Frag} {P : Hp} : ∀ {ds : List D} {vs : List V}, Reps K P ds vs → Reps K P ds.reverse vs.reverse
  | _, _, .nil => .nil
  | _, _, .cons r t => by
    rw [List.reverse_cons, List.reverse_cons]
    exact Reps.append (Reps.reverse t) (.cons r .nil)
theorem Reps.set {K : PySem.W.Frag} {P : Hp} {d : D} {v : V} (r : Rep K P d v) : ∀ {ds : List D} {vs : List V} (i : Nat), Reps K P ds vs → Reps K P (ds.set i d) (vs.set i v)
  | _, _, _, .nil => .nil
  | _, _, 0, .cons _ t => .cons r t
  | _, _, i + 1, .cons q t => .cons q (Reps.set r i t)
theorem Reps.erase {K : PySem.W.Frag} {P : Hp} : ∀ {ds : List D} {vs : List V} (i : Nat), Reps K P ds vs → Reps K P (ds.eraseIdx i) (vs.eraseIdx i)
  | _, _, _, .nil => .nil
  | _, _, 0, .cons _ t => t
  | _, _, i + 1, .cons q t => .cons q (Reps.erase i t)
theorem Reps.strs {K : PySem.W.Frag} {P : Hp} : ∀ {ws : List Str} {vs : List V}, Reps K P (ws.map D.str) vs → vs = ws.map V.str
  | [], _, .nil => rfl
  | w :: ws, _, .cons h t => by
    cases h
    rw [List.map_cons, Reps.strs t]
theorem Reps.of_strs {K : PySem.W.Frag} {P : Hp} : ∀ {ws : List Str}, Reps K P (ws.map D.str) (ws.map V.str)
  | [] => .nil
  | w :: ws => .cons (.str w) Reps.of_strs
theorem Reps.bls {K : PySem.W.Frag} {P : Hp} : ∀ {ws : List Bool} {vs : List V}, Reps K P (ws.map D.bl) vs → vs = ws.map V.bl
  | [], _, .nil => rfl
  | w :: ws, _, .cons h t => by
    cases h
    rw [List.map_cons, Reps.bls t]
theorem Reps.ints {K : PySem.W.Frag} {P : Hp} : ∀ {ws : List Int} {vs : List V}, Reps K P (ws.map D.int) vs → vs = ws.map V.int
  | [], _, .nil => rfl
  | w :: ws, _, .cons h t => by
    cases h
    rw [List.map_cons, Reps.ints t]
theorem Reps.of_ints {K : PySem.W.Frag} {P : Hp} : ∀ {ws : List Int}, Reps K P (ws.map D.int) (ws.map V.int)
  | [] => .nil
  | w :: ws => .cons (.int w) Reps.of_ints

/-! ### the store -/
/-- a thing that may be changed -/
inductive MO where
  | lst (ds : List D)
  | ins (C dx : Addr) (ks : List Str) (ds : List D)
  | any (o : HO)
abbrev FS := Addr → Option MO
def updF (F : FS) (a : Addr) (m : MO) : FS := fun b => if b = a then some m else F b
def delF (F : FS) (a : Addr) : FS := fun b => if b = a then none else F b
theorem updF_same {F : FS} {a : Addr} {m : MO} : updF F a m a = some m := if_pos rfl
theorem updF_ne {F : FS} {a b : Addr} {m : MO} (h : b ≠ a) : updF F a m b = F b := if_neg h
theorem updF_updF {F : FS} {a : Addr} {m n : MO} : updF (updF F a m) a n = updF F a n := by
  funext b
  unfold updF
  split <;> rfl
theorem updF_comm {F : FS} {a b : Addr} {m n : MO} (h : a ≠ b) : updF (updF F a m) b n = updF (updF F b n) a m := by
  funext c
  unfold updF
  by_cases h1 : c = a
  · by_cases h2 : c = b
    · exact absurd (h1.symm.trans h2) h
    · simp [h1, h]
  · simp [h1]
theorem updF_self {F : FS} {a : Addr} {m : MO} (h : F a = some m) : updF F a m = F := by
  funext b
  unfold updF
  split
  · rename_i e
    rw [e, h]
  · rfl
theorem delF_updF {F : FS} {a : Addr} {m : MO} (h : F a = none) : delF (updF F a m) a = F := by
  funext b
  unfold delF updF
  by_cases e : b = a
  · rw [if_pos e, e, h]
  · rw [if_neg e, if_neg e]
def MoR (K : PySem.W.Frag) (P H : Hp) (a : Addr) : MO → Prop
  | .lst ds => ∃ vs, H a = some (.lst vs) ∧ Reps K P ds vs
  | .ins C dx ks ds => ∃ vs, H a = some (.ins C dx (ks.zip vs)) ∧ ks.length = ds.length ∧ Reps K P ds vs
  | .any o => H a = some o
/-- H is P, which stays, and what the store tells -/
structure Hd (K : PySem.W.Frag) (P : Hp) (F : FS) (H : Hp) : Prop where
  pure : Same P H
  mt : ∀ a m, F a = some m → P a = none ∧ MoR K P H a m
theorem MoR.there {K : PySem.W.Frag} {P H : Hp} {a : Addr} {m : MO} (h : MoR K P H a m) : ∃ o, H a = some o := by
  cases m with
  | lst ds => obtain ⟨vs, e, _⟩ := h; exact ⟨_, e⟩
  | ins C dx ks ds => obtain ⟨vs, e, _⟩ := h; exact ⟨_, e⟩
  | any o => exact ⟨o, h⟩
theorem MoR.mono {K : PySem.W.Frag} {P P' H H' : Hp} {a : Addr} {m : MO} (h : MoR K P H a m) (s : Same P P') (e : H' a = H a) : MoR K P' H' a m := by
  cases m with
  | lst ds => obtain ⟨vs, e1, r⟩ := h; exact ⟨vs, e.trans e1, Reps.mono s r⟩
  | ins C dx ks ds => obtain ⟨vs, e1, l, r⟩ := h; exact ⟨vs, e.trans e1, l, Reps.mono s r⟩
  | any o => exact e.trans h
theorem Hd.no {K : PySem.W.Frag} {P H : Hp} {F : FS} (h : Hd K P F H) {p : Addr} (hp : H p = none) : P p = none ∧ F p = none := by
  refine ⟨Same.free h.pure hp, ?_⟩
  cases e : F p with
  | none => rfl
  | some m =>
    obtain ⟨o, q⟩ := (h.mt p m e).2.there
    rw [hp] at q
    cases q
theorem same_upd {P : Hp} {p : Addr} {o : HO} (h : P p = none) : Same P (upd P p o) := fun b u e => by
  rw [upd_ne (ne_of_none e h)]
  exact e
/-- a new thing that stays -/
theorem Hd.new {K : PySem.W.Frag} {P H : Hp} {F : FS} (h : Hd K P F H) {p : Addr} (hp : H p = none) (o : HO) : Same P (upd P p o) ∧ Hd K (upd P p o) F (upd H p o) := by
  obtain ⟨h1, h2⟩ := h.no hp
  refine ⟨same_upd h1, fun b u e => ?_, fun a m e => ?_⟩
  · by_cases hb : b = p
    · rw [hb] at e ⊢
      rw [upd_same] at e ⊢
      exact e
    · rw [upd_ne hb] at e ⊢
      exact h.pure b u e
  · have ha : a ≠ p := fun z => by
      rw [z, h2] at e
      cases e
    obtain ⟨q1, q2⟩ := h.mt a m e
    exact ⟨by rw [upd_ne ha]; exact q1, q2.mono (same_upd h1) (upd_ne ha)⟩
/-- a new thing that may be changed -/
theorem Hd.newF {K : PySem.W.Frag} {P H : Hp} {F : FS} (h : Hd K P F H) {p : Addr} (hp : H p = none) {o : HO} {m : MO} (hm : MoR K P (upd H p o) p m) : Hd K P (updF F p m) (upd H p o) := by
  obtain ⟨h1, h2⟩ := h.no hp
  refine ⟨fun b u e => ?_, fun a m' e => ?_⟩
  · rw [upd_ne (ne_of_none e h1)]
    exact h.pure b u e
  · by_cases ha : a = p
    · subst ha
      rw [updF_same] at e
      cases e
      exact ⟨h1, hm⟩
    · rw [updF_ne ha] at e
      obtain ⟨q1, q2⟩ := h.mt a m' e
      exact ⟨q1, q2.mono (Same.refl P) (upd_ne ha)⟩
/-- a change of the store -/
theorem Hd.write {K : PySem.W.Frag} {P H : Hp} {F : FS} (h : Hd K P F H) {p : Addr} {m0 : MO} (hp : F p = some m0) {o : HO} {m : MO} (hm : MoR K P (upd H p o) p m) : Hd K P (updF F p m) (upd H p o) := by
  obtain ⟨h1, _⟩ := h.mt p m0 hp
  refine ⟨fun b u e => ?_, fun a m' e => ?_⟩
  · rw [upd_ne (ne_of_none e h1)]
    exact h.pure b u e
  · by_cases ha : a = p
    · subst ha
      rw [updF_same] at e
      cases e
      exact ⟨h1, hm⟩
    · rw [updF_ne ha] at e
      obtain ⟨q1, q2⟩ := h.mt a m' e
      exact ⟨q1, q2.mono (Same.refl P) (upd_ne ha)⟩
/-- a thing is changed no more: it joins what stays -/
theorem Hd.freeze {K : PySem.W.Frag} {P H : Hp} {F : FS} (h : Hd K P F H) {p : Addr} {m : MO} {o : HO} (hp : F p = some m) (ho : H p = some o) : Same P (upd P p o) ∧ Hd K (upd P p o) (delF F p) H := by
  obtain ⟨h1, _⟩ := h.mt p m hp
  refine ⟨same_upd h1, fun b u e => ?_, fun a m' e => ?_⟩
  · by_cases hb : b = p
    · rw [hb, upd_same] at e
      cases e
      rw [hb]
      exact ho
    · rw [upd_ne hb] at e
      exact h.pure b u e
  · unfold delF at e
    by_cases ha : a = p
    · rw [if_pos ha] at e
      cases e
    · rw [if_neg ha] at e
      obtain ⟨q1, q2⟩ := h.mt a m' e
      exact ⟨by rw [upd_ne ha]; exact q1, q2.mono (same_upd h1) rfl⟩
/-- a part of the store is forgotten -/
theorem Hd.less {K : PySem.W.Frag} {P H : Hp} {F F' : FS} (h : Hd K P F H) (s : ∀ a m, F' a = some m → F a = some m) : Hd K P F' H := ⟨h.pure, fun a m e => h.mt a m (s a m e)⟩

/-! ### the names' values -/
abbrev En := List (Option D)
structure EnvR (K : PySem.W.Frag) (P : Hp) (ρ : En) (σ : L2.St) : Prop where
  len : ρ.length = σ.length
  at_ : ∀ (i : Nat) (d : D), ρ[i]? = some (some d) → ∃ v, σ[i]? = some (some v) ∧ Rep K P d v
theorem EnvR.mono {K : PySem.W.Frag} {P P' : Hp} {ρ : En} {σ : L2.St} (h : EnvR K P ρ σ) (s : Same P P') : EnvR K P' ρ σ :=
  ⟨h.len, fun i d e => let ⟨v, h1, h2⟩ := h.at_ i d e; ⟨v, h1, h2.mono s⟩⟩
theorem EnvR.set {K : PySem.W.Frag} {P : Hp} {ρ : En} {σ : L2.St} {d : D} {v : V} (h : EnvR K P ρ σ) (i : Nat) (r : Rep K P d v) : EnvR K P (ρ.set i (some d)) (σ.set i (some v)) := by
  refine ⟨by rw [List.length_set, List.length_set]; exact h.len, fun j d' e => ?_⟩
  by_cases hj : i = j
  · subst hj
    have hi : i < ρ.length := by
      have z := (List.getElem?_eq_some_iff.mp e).1
      rwa [List.length_set] at z
    rw [List.getElem?_set_self hi] at e
    cases e
    exact ⟨v, by rw [List.getElem?_set_self (by rw [← h.len]; exact hi)], r⟩
  · rw [List.getElem?_set_ne hj] at e
    rw [List.getElem?_set_ne hj]
    exact h.at_ j d' e
theorem EnvR.unset {K : PySem.W.Frag} {P : Hp} {ρ : En} {σ : L2.St} (h : EnvR K P ρ σ) (i : Nat) (o : Option V) : EnvR K P (ρ.set i none) (σ.set i o) := by
  refine ⟨by rw [List.length_set, List.length_set]; exact h.len, fun j d' e => ?_⟩
  by_cases hj : i = j
  · subst hj
    have hi : i < ρ.length := by
      have z := (List.getElem?_eq_some_iff.mp e).1
      rwa [List.length_set] at z
    rw [List.getElem?_set_self hi] at e
    cases e
  · rw [List.getElem?_set_ne hj] at e
    rw [List.getElem?_set_ne hj]
    exact h.at_ j d' e
def wipeD (ρ : En) : List Nat → En
  | [] => ρ
  | v :: vs => (wipeD ρ vs).set v none
theorem EnvR.wiped {K : PySem.W.Frag} {P : Hp} {ρ : En} {σ : L2.St} (h : EnvR K P ρ σ) : ∀ vs : List Nat, EnvR K P (wipeD ρ vs) (wipe σ vs)
  | [] => h
  | v :: vs => (EnvR.wiped h vs).unset v none

/-! ### exceptions -/
structure Err where
  cls : Addr
  fld : Option (Str × D)
def ErrR (K : PySem.W.Frag) (P : Hp) (e : Err) (c : Value) (dd : Option Addr) : Prop :=
  c = .ref e.cls ∧ match e.fld with
    | none => dd = none
    | some (f, d) => ∃ a v, dd = some a ∧ P a = some (.xd [(f, v)]) ∧ Rep K P d v
abbrev XP := Err → En → FS → Prop
abbrev NoE : XP := fun _ _ _ => False
def wUp (K : PySem.W.Frag) (P : Hp) (Ψ : XP) : WX := fun c dd σ H => ∃ (e : Err) (ρ : En) (F : FS) (P' : Hp), Same P P' ∧ Hd K P' F H ∧ EnvR K P' ρ σ ∧ ErrR K P' e c dd ∧ Ψ e ρ F
theorem wUp.mono {K : PySem.W.Frag} {P P' : Hp} {Ψ : XP} (s : Same P P') {c : Value} {dd : Option Addr} {σ : L2.St} {H : Hp} (h : wUp K P' Ψ c dd σ H) : wUp K P Ψ c dd σ H := by
  obtain ⟨e, ρ, F, P2, s2, q⟩ := h
  exact ⟨e, ρ, F, P2, Same.trans s s2, q⟩
theorem takes_mono {X : Cx} {P P' : Hp} {Ψ : XP} (s : Same P P') (h : Takes X (wUp X.K P Ψ)) : Takes X (wUp X.K P' Ψ) := h.imp fun _ _ _ _ q => wUp.mono s q
theorem takes_no {X : Cx} {K : PySem.W.Frag} {P : Hp} : Takes X (wUp K P NoE) := fun u s' x => by
  obtain ⟨_, _, _, _, _, _, _, _, _, _, _, _, _, _, _, _, e, ρ, F, P2, _, _, _, _, z⟩ := x
  exact z.elim

/-! ### what an expression does -/
def tE (X : Cx) (Ψ : XP) (ρ : En) (F : FS) (Φ : D → FS → Prop) : TE := fun σ H Q => ∃ P, Takes X (wUp X.K P Ψ) ∧ Hd X.K P F H ∧ EnvR X.K P ρ σ ∧
  ∀ v d P' F' H', Same P P' → Hd X.K P' F' H' → Rep X.K P' d v → Φ d F' → Q v H'
structure Ev (X : Cx) (Ψ : XP) (ρ : En) (F : FS) (e : Expr) (Φ : D → FS → Prop) : Prop where
  pe : PE X e (tE X Ψ ρ F Φ)
def tT (X : Cx) (Ψ : XP) (ρ : En) (F : FS) (Φ : Bool → FS → Prop) : TT := fun σ H Q => ∃ P, Takes X (wUp X.K P Ψ) ∧ Hd X.K P F H ∧ EnvR X.K P ρ σ ∧
  ∀ b P' F' H', Same P P' → Hd X.K P' F' H' → Φ b F' → Q b H'
structure Et (X : Cx) (Ψ : XP) (ρ : En) (F : FS) (e : Expr) (Φ : Bool → FS → Prop) : Prop where
  pt : PT X e (tT X Ψ ρ F Φ)
structure Ew (X : Cx) (Ψ : XP) (ρ : En) (F : FS) (e : Expr) (Φ : Bool → FS → Prop) : Prop where
  pw : PW X e (tT X Ψ ρ F Φ)
def tAr (X : Cx) (Ψ : XP) (ρ : En) (F : FS) (Φ : List D → FS → Prop) : TA := fun σ H Q => ∃ P, Takes X (wUp X.K P Ψ) ∧ Hd X.K P F H ∧ EnvR X.K P ρ σ ∧
  ∀ vs ds P' F' H', Same P P' → Hd X.K P' F' H' → Reps X.K P' ds vs → Φ ds F' → Q vs H'
structure Ea (X : Cx) (Ψ : XP) (ρ : En) (F : FS) (es : List Expr) (Φ : List D → FS → Prop) : Prop where
  pa : PA X es (tAr X Ψ ρ F Φ)
structure Po where
  nx : En → FS → Prop
  rt : D → FS → Prop
  bk : En → FS → Prop := fun _ _ => False
  ct : En → FS → Prop := fun _ _ => False
def upS (K : PySem.W.Frag) (P : Hp) (A : En → FS → Prop) (B : L2.St → Hp → Prop) : Prop := ∀ σ' ρ' P' F' H', Same P P' → Hd K P' F' H' → EnvR K P' ρ' σ' → A ρ' F' → B σ' H'
def upV (K : PySem.W.Frag) (P : Hp) (A : D → FS → Prop) (B : VK) : Prop := ∀ v d P' F' H', Same P P' → Hd K P' F' H' → Rep K P' d v → A d F' → B v H'
def tSt (X : Cx) (Ψ : XP) (ρ : En) (F : FS) (Θ : Po) : TS := fun D σ H => ∃ P, Takes X (wUp X.K P Ψ) ∧ Hd X.K P F H ∧ EnvR X.K P ρ σ ∧
  upS X.K P Θ.nx D.nx ∧ upV X.K P Θ.rt D.rt ∧ upS X.K P Θ.bk D.bk ∧ upS X.K P Θ.ct D.ct
structure Es (X : Cx) (Ψ : XP) (ρ : En) (F : FS) (st : Stmt) (Θ : Po) : Prop where
  ps : PS X st (tSt X Ψ ρ F Θ)
structure Ess (X : Cx) (Ψ : XP) (ρ : En) (F : FS) (st : List Stmt) (Θ : Po) : Prop where
  pss : PSs X st (tSt X Ψ ρ F Θ)
theorem upS.mono {K : PySem.W.Frag} {P P' : Hp} {A : En → FS → Prop} {B : L2.St → Hp → Prop} (h : upS K P A B) (s : Same P P') : upS K P' A B := fun σ' ρ' P2 F' H' s2 => h σ' ρ' P2 F' H' (Same.trans s s2)
theorem upV.mono {K : PySem.W.Frag} {P P' : Hp} {A : D → FS → Prop} {B : VK} (h : upV K P A B) (s : Same P P') : upV K P' A B := fun σ' ρ' P2 F' H' s2 => h σ' ρ' P2 F' H' (Same.trans s s2)

/-! ### weaker readings, families of readings -/
section
variable {X : Cx} {e : Expr} {es : List Expr} {st : Stmt} {sts : List Stmt}
theorem pe_weak {t t' : TE} (h : PE X e t) (w : ∀ σ H Q, t' σ H Q → t σ H Q) : PE X e t' := ⟨fun pins s σ H Q I q => h.run pins s σ H Q I (w _ _ _ q)⟩
theorem pe_fam {ι : Type} {t : ι → TE} (h : ∀ i, PE X e (t i)) : PE X e (fun σ H Q => ∃ i, t i σ H Q) := ⟨fun pins s σ H Q I ⟨i, q⟩ => (h i).run pins s σ H Q I q⟩
theorem pt_weak {t t' : TT} (h : PT X e t) (w : ∀ σ H Q, t' σ H Q → t σ H Q) : PT X e t' := ⟨fun pins s σ H Q I q => h.run pins s σ H Q I (w _ _ _ q)⟩
theorem pt_fam {ι : Type} {t : ι → TT} (h : ∀ i, PT X e (t i)) : PT X e (fun σ H Q => ∃ i, t i σ H Q) := ⟨fun pins s σ H Q I ⟨i, q⟩ => (h i).run pins s σ H Q I q⟩
theorem pw_weak {t t' : TT} (h : PW X e t) (w : ∀ σ H Q, t' σ H Q → t σ H Q) : PW X e t' := ⟨fun wh pins s σ H Q I q => h.run wh pins s σ H Q I (w _ _ _ q)⟩
theorem pw_fam {ι : Type} {t : ι → TT} (h : ∀ i, PW X e (t i)) : PW X e (fun σ H Q => ∃ i, t i σ H Q) := ⟨fun wh pins s σ H Q I ⟨i, q⟩ => (h i).run wh pins s σ H Q I q⟩
theorem pa_weak {t t' : TA} (h : PA X es t) (w : ∀ σ H Q, t' σ H Q → t σ H Q) : PA X es t' := ⟨fun p pins s σ H Q I q => h.run p pins s σ H Q I (w _ _ _ q)⟩
theorem pa_fam {ι : Type} {t : ι → TA} (h : ∀ i, PA X es (t i)) : PA X es (fun σ H Q => ∃ i, t i σ H Q) := ⟨fun p pins s σ H Q I ⟨i, q⟩ => (h i).run p pins s σ H Q I q⟩
theorem ps_weak {t t' : TS} (h : PS X st t) (w : ∀ D σ H, t' D σ H → t D σ H) : PS X st t' := ⟨fun pins s σ H D I q => h.run pins s σ H D I (w _ _ _ q)⟩
theorem ps_fam {ι : Type} {t : ι → TS} (h : ∀ i, PS X st (t i)) : PS X st (fun D σ H => ∃ i, t i D σ H) := ⟨fun pins s σ H D I ⟨i, q⟩ => (h i).run pins s σ H D I q⟩
theorem pss_weak {t t' : TS} (h : PSs X sts t) (w : ∀ D σ H, t' D σ H → t D σ H) : PSs X sts t' := ⟨fun pins s σ H D I q => h.run pins s σ H D I (w _ _ _ q)⟩
theorem pss_fam {ι : Type} {t : ι → TS} (h : ∀ i, PSs X sts (t i)) : PSs X sts (fun D σ H => ∃ i, t i D σ H) := ⟨fun pins s σ H D I ⟨i, q⟩ => (h i).run pins s σ H D I q⟩
end
/-- what holds, as an index -/
abbrev Ix {α : Type} (Φ : α → FS → Prop) := { p : α × FS // Φ p.1 p.2 }
abbrev Br (b : Bool) (A B : Prop) : Prop := (b = true → A) ∧ (b = false → B)
theorem brT {A B : Prop} (h : A) : Br true A B := ⟨fun _ => h, fun z => absurd z.symm Bool.false_ne_true⟩
theorem brF {A B : Prop} (h : B) : Br false A B := ⟨fun z => absurd z Bool.false_ne_true, fun _ => h⟩

section
variable {X : Cx} {Ψ : XP} {ρ : En} {F : FS} {e a b c : Expr} {es : List Expr} {pos : Pos}
theorem Ev.mono {Φ Φ' : D → FS → Prop} (h : Ev X Ψ ρ F e Φ) (w : ∀ d F', Φ d F' → Φ' d F') : Ev X Ψ ρ F e Φ' :=
  ⟨pe_weak h.pe fun σ H Q ⟨P, tk, hd, en, k⟩ => ⟨P, tk, hd, en, fun v d P' F' H' s1 hd1 r φ => k v d P' F' H' s1 hd1 r (w _ _ φ)⟩⟩
theorem Et.mono {Φ Φ' : Bool → FS → Prop} (h : Et X Ψ ρ F e Φ) (w : ∀ d F', Φ d F' → Φ' d F') : Et X Ψ ρ F e Φ' :=
  ⟨pt_weak h.pt fun σ H Q ⟨P, tk, hd, en, k⟩ => ⟨P, tk, hd, en, fun b P' F' H' s1 hd1 φ => k b P' F' H' s1 hd1 (w _ _ φ)⟩⟩
/-- a reading that asks nothing of others -/
theorem ev_leaf {t : TE} {Φ : D → FS → Prop} (h : PE X e t) (k : ∀ P σ H Q, Takes X (wUp X.K P Ψ) → Hd X.K P F H → EnvR X.K P ρ σ → upV X.K P Φ Q → t σ H Q) : Ev X Ψ ρ F e Φ :=
  ⟨pe_weak h fun σ H Q ⟨P, tk, hd, en, q⟩ => k P σ H Q tk hd en q⟩
/-- what is asked behind one part -/
def L1 (X : Cx) (Ψ : XP) (ρ : En) (r : L2.St → V → Hp → VK → Prop) (x : D) (F : FS) (Φ : D → FS → Prop) : Prop :=
  ∀ P σ H u Q, Takes X (wUp X.K P Ψ) → Hd X.K P F H → EnvR X.K P ρ σ → Rep X.K P x u → upV X.K P Φ Q → r σ u H Q
theorem ev_one {r : L2.St → V → Hp → VK → Prop} {Φ : D → FS → Prop} (hT : ∀ ta, PE X a ta → PE X e (fun σ H Q => ta σ H fun x H1 => r σ x H1 Q)) (h : Ev X Ψ ρ F a (fun x F1 => L1 X Ψ ρ r x F1 Φ)) : Ev X Ψ ρ F e Φ :=
  ⟨pe_weak (hT _ h.pe) fun σ H Q ⟨P, tk, hd, en, k⟩ => ⟨P, tk, hd, en, fun v d P' F' H' s1 hd1 rp φ =>
    φ P' σ H' v Q (takes_mono s1 tk) hd1 (en.mono s1) rp fun v2 d2 P2 F2 H2 s2 => k v2 d2 P2 F2 H2 (Same.trans s1 s2)⟩⟩
/-- what is asked behind two parts -/
def LL2 (X : Cx) (Ψ : XP) (ρ : En) (r : L2.St → V → V → Hp → VK → Prop) (x y : D) (F : FS) (Φ : D → FS → Prop) : Prop :=
  ∀ P σ H u v Q, Takes X (wUp X.K P Ψ) → Hd X.K P F H → EnvR X.K P ρ σ → Rep X.K P x u → Rep X.K P y v → upV X.K P Φ Q → r σ u v H Q
theorem ev_two {r : L2.St → V → V → Hp → VK → Prop} {Φ : D → FS → Prop} (hT : ∀ ta tb, PE X a ta → PE X b tb → PE X e (fun σ H Q => ta σ H fun x H1 => tb σ H1 fun y H2 => r σ x y H2 Q))
    (h : Ev X Ψ ρ F a (fun x F1 => Ev X Ψ ρ F1 b (fun y F2 => LL2 X Ψ ρ r x y F2 Φ))) : Ev X Ψ ρ F e Φ :=
  ⟨pe_weak (hT _ _ h.pe (pe_fam (ι := Ix fun x F1 => Ev X Ψ ρ F1 b (fun y F2 => LL2 X Ψ ρ r x y F2 Φ)) fun i => i.2.pe)) fun σ H Q ⟨P, tk, hd, en, k⟩ => ⟨P, tk, hd, en, fun v d P1 F1 H1 s1 hd1 rp φ =>
    ⟨⟨(d, F1), φ⟩, P1, takes_mono s1 tk, hd1, en.mono s1, fun v2 d2 P2 F2 H2 s2 hd2 rp2 φ2 =>
      φ2 P2 σ H2 v v2 Q (takes_mono (Same.trans s1 s2) tk) hd2 (en.mono (Same.trans s1 s2)) (rp.mono s2) rp2 fun v3 d3 P3 F3 H3 s3 => k v3 d3 P3 F3 H3 (Same.trans s1 (Same.trans s2 s3))⟩⟩⟩
/-- what is asked behind the arguments -/
def LA (X : Cx) (Ψ : XP) (ρ : En) (r : L2.St → List V → Hp → VK → Prop) (xs : List D) (F : FS) (Φ : D → FS → Prop) : Prop :=
  ∀ P σ H us Q, Takes X (wUp X.K P Ψ) → Hd X.K P F H → EnvR X.K P ρ σ → Reps X.K P xs us → upV X.K P Φ Q → r σ us H Q
theorem ev_args {r : L2.St → List V → Hp → VK → Prop} {Φ : D → FS → Prop} (hT : ∀ t, PA X es t → PE X e (fun σ H Q => t σ H fun vs H1 => r σ vs H1 Q)) (h : Ea X Ψ ρ F es (fun xs F1 => LA X Ψ ρ r xs F1 Φ)) : Ev X Ψ ρ F e Φ :=
  ⟨pe_weak (hT _ h.pa) fun σ H Q ⟨P, tk, hd, en, k⟩ => ⟨P, tk, hd, en, fun v d P' F' H' s1 hd1 rp φ =>
    φ P' σ H' v Q (takes_mono s1 tk) hd1 (en.mono s1) rp fun v2 d2 P2 F2 H2 s2 => k v2 d2 P2 F2 H2 (Same.trans s1 s2)⟩⟩
/-- an object's part, then arguments -/
def LM (X : Cx) (Ψ : XP) (ρ : En) (r : L2.St → V → List V → Hp → VK → Prop) (x : D) (xs : List D) (F : FS) (Φ : D → FS → Prop) : Prop :=
  ∀ P σ H u us Q, Takes X (wUp X.K P Ψ) → Hd X.K P F H → EnvR X.K P ρ σ → Rep X.K P x u → Reps X.K P xs us → upV X.K P Φ Q → r σ u us H Q
theorem ev_meth {g : V → Hp → Prop} {r : L2.St → V → List V → Hp → VK → Prop} {Φ : D → FS → Prop} (hT : ∀ ta t, PE X a ta → PA X es t → PE X e (fun σ H Q => ta σ H fun x H1 => g x H1 ∧ t σ H1 fun vs H2 => r σ x vs H2 Q))
    (h : Ev X Ψ ρ F a (fun x F1 => (∀ P H u, Hd X.K P F1 H → Rep X.K P x u → g u H) ∧ Ea X Ψ ρ F1 es (fun xs F2 => LM X Ψ ρ r x xs F2 Φ))) : Ev X Ψ ρ F e Φ :=
  ⟨pe_weak (hT _ _ h.pe (pa_fam (ι := Ix fun x F1 => Ea X Ψ ρ F1 es (fun xs F2 => LM X Ψ ρ r x xs F2 Φ)) fun i => i.2.pa)) fun σ H Q ⟨P, tk, hd, en, k⟩ => ⟨P, tk, hd, en, fun v d P1 F1 H1 s1 hd1 rp φ =>
    ⟨φ.1 P1 H1 v hd1 rp, ⟨(d, F1), φ.2⟩, P1, takes_mono s1 tk, hd1, en.mono s1, fun v2 d2 P2 F2 H2 s2 hd2 rp2 φ2 =>
      φ2 P2 σ H2 v v2 Q (takes_mono (Same.trans s1 s2) tk) hd2 (en.mono (Same.trans s1 s2)) (rp.mono s2) rp2 fun v3 d3 P3 F3 H3 s3 => k v3 d3 P3 F3 H3 (Same.trans s1 (Same.trans s2 s3))⟩⟩⟩

/-! ### names, constants -/
theorem ev_var {i : Nat} {x : Str} {d : D} {Φ : D → FS → Prop} (h : PE X (.Name x pos) (tVar i)) (hi : ρ[i]? = some (some d)) (k : Φ d F) : Ev X Ψ ρ F (.Name x pos) Φ :=
  ev_leaf h fun P σ H Q _ hd en q => by
    obtain ⟨v, h1, h2⟩ := en.at_ i d hi
    exact ⟨v, h1, q v d P F H (Same.refl P) hd h2 k⟩
theorem ev_const {d : D} {v : V} {Φ : D → FS → Prop} (h : PE X e (tC v)) (r : ∀ K P, Rep K P d v) (k : Φ d F) : Ev X Ψ ρ F e Φ :=
  ev_leaf h fun P σ H Q _ hd en q => q v d P F H (Same.refl P) hd (r _ _) k
theorem ev_int {i : Int} {j : Nat} {Φ : D → FS → Prop} (k : Φ (.int i) F) : Ev X Ψ ρ F (.Constant (.int i) j pos) Φ := ev_const pe_int (fun _ _ => .int i) k
theorem ev_bl {i : Bool} {j : Nat} {Φ : D → FS → Prop} (k : Φ (.bl i) F) : Ev X Ψ ρ F (.Constant (.bool i) j pos) Φ := ev_const pe_bl (fun _ _ => .bl i) k
theorem ev_non {j : Nat} {Φ : D → FS → Prop} (k : Φ .non F) : Ev X Ψ ρ F (.Constant .none j pos) Φ := ev_const pe_non (fun _ _ => .non) k
theorem ev_str {i : Str} {j : Nat} {Φ : D → FS → Prop} (k : Φ (.str i) F) : Ev X Ψ ρ F (.Constant (.str i) j pos) Φ := ev_const pe_str (fun _ _ => .str i) k

/-! ### argument lists -/
theorem ea_nil {Φ : List D → FS → Prop} (k : Φ [] F) : Ea X Ψ ρ F [] Φ :=
  ⟨pa_weak pa_nil fun σ H Q ⟨P, tk, hd, en, q⟩ => q [] [] P F H (Same.refl P) hd .nil k⟩
theorem ea_cons {Φ : List D → FS → Prop} (h : Ev X Ψ ρ F a (fun x F1 => Ea X Ψ ρ F1 es (fun xs F2 => Φ (x :: xs) F2))) (hs : starEach (a :: es) X.env = (false, eval a X.env) :: starEach es X.env := by rfl) : Ea X Ψ ρ F (a :: es) Φ :=
  ⟨pa_weak (pa_cons h.pe (pa_fam (ι := Ix fun x F1 => Ea X Ψ ρ F1 es (fun xs F2 => Φ (x :: xs) F2)) fun i => i.2.pa) hs) fun σ H Q ⟨P, tk, hd, en, k⟩ => ⟨P, tk, hd, en, fun v d P1 F1 H1 s1 hd1 rp φ =>
    ⟨⟨(d, F1), φ⟩, P1, takes_mono s1 tk, hd1, en.mono s1, fun v2 d2 P2 F2 H2 s2 hd2 rp2 φ2 => k (v :: v2) (d :: d2) P2 F2 H2 (Same.trans s1 s2) hd2 (.cons (rp.mono s2) rp2) φ2⟩⟩⟩
/-- *e among the arguments -/
def StarD (x : D) (Φ : List D → Prop) : Prop := match x with
  | .lst xs => Φ xs
  | .tup xs => Φ xs
  | _ => False
theorem ea_star {Φ : List D → FS → Prop} {p : Pos} (h : Ev X Ψ ρ F a (fun x F1 => StarD x fun xs => Ea X Ψ ρ F1 es (fun ys F2 => Φ (xs ++ ys) F2))) (hs : starEach (.Starred a p :: es) X.env = (true, eval a X.env) :: starEach es X.env := by rfl) : Ea X Ψ ρ F (.Starred a p :: es) Φ :=
  ⟨pa_weak (StX.pa_star h.pe (pa_fam (ι := Ix fun xs F1 => Ea X Ψ ρ F1 es (fun ys F2 => Φ (xs ++ ys) F2)) fun i => i.2.pa) hs) fun σ H Q ⟨P, tk, hd, en, k⟩ => ⟨P, tk, hd, en, fun v d P1 F1 H1 s1 hd1 rp φ => by
    cases rp with
    | @lst ds ad vs hq rr =>
      exact ⟨ad, vs, rfl, .inr (SqL.of (hd1.pure _ _ hq)), ⟨(ds, F1), φ⟩, P1, takes_mono s1 tk, hd1, en.mono s1, fun v2 d2 P2 F2 H2 s2 hd2 rp2 φ2 => k (vs ++ v2) (ds ++ d2) P2 F2 H2 (Same.trans s1 s2) hd2 (Reps.append (Reps.mono s2 rr) rp2) φ2⟩
    | @tup ds ad vs hq rr =>
      exact ⟨ad, vs, rfl, .inl (SqT.of (hd1.pure _ _ hq)), ⟨(ds, F1), φ⟩, P1, takes_mono s1 tk, hd1, en.mono s1, fun v2 d2 P2 F2 H2 s2 hd2 rp2 φ2 => k (vs ++ v2) (ds ++ d2) P2 F2 H2 (Same.trans s1 s2) hd2 (Reps.append (Reps.mono s2 rr) rp2) φ2⟩
    | _ => exact False.elim φ⟩⟩

/-! ### displays -/
theorem ev_tup {Φ : D → FS → Prop} {x1} (h : Ea X Ψ ρ F es (fun xs F1 => xs.length ≤ sizeLine ∧ Φ (.tup xs) F1)) : Ev X Ψ ρ F (.Tuple es x1 pos) Φ :=
  ev_args (r := fun _ vs H Q => vs.length ≤ sizeLine ∧ ∀ p, H p = none → Q (.ref p) (upd H p (.tup vs))) (fun t ht => pe_tup ht) ⟨pa_weak h.pa fun σ H Q ⟨P, tk, hd, en, k⟩ => ⟨P, tk, hd, en, fun vs ds P1 F1 H1 s1 hd1 rp φ => k vs ds P1 F1 H1 s1 hd1 rp
    fun P2 σ2 H2 us Q2 _ hd2 en2 rp2 q2 => ⟨by rw [← Paired.length rp2]; exact φ.1, fun p hp => by
      obtain ⟨z1, z2⟩ := hd2.new hp (.tup us)
      exact q2 _ _ _ _ _ z1 z2 (.tup upd_same (Reps.mono z1 rp2)) φ.2⟩⟩⟩
theorem ev_lst {Φ : D → FS → Prop} (h : Ea X Ψ ρ F es (fun xs F1 => xs.length ≤ sizeLine ∧ Φ (.lst xs) F1)) : Ev X Ψ ρ F (.List es pos) Φ :=
  ev_args (r := fun _ vs H Q => vs.length ≤ sizeLine ∧ ∀ p, H p = none → Q (.ref p) (upd H p (.lst vs))) (fun t ht => pe_lst ht) ⟨pa_weak h.pa fun σ H Q ⟨P, tk, hd, en, k⟩ => ⟨P, tk, hd, en, fun vs ds P1 F1 H1 s1 hd1 rp φ => k vs ds P1 F1 H1 s1 hd1 rp
    fun P2 σ2 H2 us Q2 _ hd2 en2 rp2 q2 => ⟨by rw [← Paired.length rp2]; exact φ.1, fun p hp => by
      obtain ⟨z1, z2⟩ := hd2.new hp (.lst us)
      exact q2 _ _ _ _ _ z1 z2 (.lst upd_same (Reps.mono z1 rp2)) φ.2⟩⟩⟩
/-- a list that will be changed -/
theorem ev_lstM {Φ : D → FS → Prop} (h : Ea X Ψ ρ F es (fun xs F1 => xs.length ≤ sizeLine ∧ ∀ p, F1 p = none → Φ (.raw (.ref p)) (updF F1 p (.lst xs)))) : Ev X Ψ ρ F (.List es pos) Φ :=
  ev_args (r := fun _ vs H Q => vs.length ≤ sizeLine ∧ ∀ p, H p = none → Q (.ref p) (upd H p (.lst vs))) (fun t ht => pe_lst ht) ⟨pa_weak h.pa fun σ H Q ⟨P, tk, hd, en, k⟩ => ⟨P, tk, hd, en, fun vs ds P1 F1 H1 s1 hd1 rp φ => k vs ds P1 F1 H1 s1 hd1 rp
    fun P2 σ2 H2 us Q2 _ hd2 en2 rp2 q2 => ⟨by rw [← Paired.length rp2]; exact φ.1, fun p hp =>
      q2 _ _ P2 _ _ (Same.refl _) (hd2.newF hp (m := .lst ds) ⟨us, upd_same, rp2⟩) (.raw _) (φ.2 p (hd2.no hp).2)⟩⟩⟩
end
end TM

set_option Elab.async false
set_option linter.all false
set_option maxRecDepth 100000
set_option maxHeartbeats 4000000
/-! The data layer: tests, operators, statements, loops, comprehensions. -/
namespace TM
open PySem PySem.Spec PyProof.Rows L2
section
variable {X : Cx} {Ψ : XP} {ρ : En} {F : FS} {e a b c : Expr} {es : List Expr} {pos : Pos}

/-! ### tests -/
def BlD (x : D) (Φ : Bool → Prop) : Prop := match x with
  | .bl b => Φ b
  | _ => False
theorem et_val {Φ : Bool → FS → Prop} (h : Ev X Ψ ρ F e (fun x F1 => BlD x fun k => Φ k F1)) (he : ∀ whole, isTrue e X.env whole = (do let v ← whole; standAt e.pos; holding [v] (truthy v)) := by intro _; rfl) : Et X Ψ ρ F e Φ :=
  ⟨pt_weak (pt_val h.pe he) fun σ H Q ⟨P, tk, hd, en, k⟩ => ⟨P, tk, hd, en, fun v d P1 F1 H1 s1 hd1 rp φ => by
    cases rp with
    | bl x => exact ⟨x, rfl, k x P1 F1 H1 s1 hd1 φ⟩
    | _ => exact False.elim φ⟩⟩
/-- a comparison as a test -/
theorem et_cmp {op : CmpOp} {Φ : Bool → FS → Prop} (h : Ev X Ψ ρ F (.Compare a [op] [b] pos) (fun x F1 => BlD x fun k => Φ k F1)) (hp : ∀ t, PE X (.Compare a [op] [b] pos) t → PT X (.Compare a [op] [b] pos) (tB t)) : Et X Ψ ρ F (.Compare a [op] [b] pos) Φ :=
  ⟨pt_weak (hp _ h.pe) fun σ H Q ⟨P, tk, hd, en, k⟩ => ⟨P, tk, hd, en, fun v d P1 F1 H1 s1 hd1 rp φ => by
    cases rp with
    | bl x => exact ⟨x, rfl, k x P1 F1 H1 s1 hd1 φ⟩
    | _ => exact False.elim φ⟩⟩
theorem et_w {Φ : Bool → FS → Prop} (h : Ew X Ψ ρ F e Φ) : Et X Ψ ρ F e Φ := ⟨h.pw.pt⟩
theorem ew_and1 {Φ : Bool → FS → Prop} (h : Et X Ψ ρ F a Φ) : Ew X Ψ ρ F (.BoolOp .And [a] pos) Φ := ⟨pw_and1 h.pt⟩
theorem ew_or1 {Φ : Bool → FS → Prop} (h : Et X Ψ ρ F a Φ) : Ew X Ψ ρ F (.BoolOp .Or [a] pos) Φ := ⟨pw_or1 h.pt⟩
theorem ew_and {Φ : Bool → FS → Prop} (h : Et X Ψ ρ F a (fun k F1 => Br k (Ew X Ψ ρ F1 (.BoolOp .And (b :: es) pos) Φ) (Φ false F1))) : Ew X Ψ ρ F (.BoolOp .And (a :: b :: es) pos) Φ :=
  ⟨pw_weak (pw_and h.pt (pw_fam (ι := { F1 : FS // Ew X Ψ ρ F1 (.BoolOp .And (b :: es) pos) Φ }) fun i => i.2.pw)) fun σ H Q ⟨P, tk, hd, en, k⟩ => ⟨P, tk, hd, en, fun z P1 F1 H1 s1 hd1 φ => by
    cases z with
    | true =>
      rw [if_pos rfl]
      exact ⟨⟨F1, φ.1 rfl⟩, P1, takes_mono s1 tk, hd1, en.mono s1, fun z2 P2 F2 H2 s2 => k z2 P2 F2 H2 (Same.trans s1 s2)⟩
    | false =>
      rw [if_neg Bool.false_ne_true]
      exact k false P1 F1 H1 s1 hd1 (φ.2 rfl)⟩⟩
theorem ew_or {Φ : Bool → FS → Prop} (h : Et X Ψ ρ F a (fun k F1 => Br k (Φ true F1) (Ew X Ψ ρ F1 (.BoolOp .Or (b :: es) pos) Φ))) : Ew X Ψ ρ F (.BoolOp .Or (a :: b :: es) pos) Φ :=
  ⟨pw_weak (pw_or h.pt (pw_fam (ι := { F1 : FS // Ew X Ψ ρ F1 (.BoolOp .Or (b :: es) pos) Φ }) fun i => i.2.pw)) fun σ H Q ⟨P, tk, hd, en, k⟩ => ⟨P, tk, hd, en, fun z P1 F1 H1 s1 hd1 φ => by
    cases z with
    | true =>
      rw [if_pos rfl]
      exact k true P1 F1 H1 s1 hd1 (φ.1 rfl)
    | false =>
      rw [if_neg Bool.false_ne_true]
      exact ⟨⟨F1, φ.2 rfl⟩, P1, takes_mono s1 tk, hd1, en.mono s1, fun z2 P2 F2 H2 s2 => k z2 P2 F2 H2 (Same.trans s1 s2)⟩⟩⟩
theorem et_not {Φ : Bool → FS → Prop} (h : Et X Ψ ρ F a (fun k F1 => Φ (!k) F1)) : Et X Ψ ρ F (.UnaryOp .Not a pos) Φ :=
  ⟨pt_weak (pt_not h.pt) fun σ H Q ⟨P, tk, hd, en, k⟩ => ⟨P, tk, hd, en, fun z P1 F1 H1 s1 hd1 φ => k (!z) P1 F1 H1 s1 hd1 φ⟩⟩
/-- and, or, not as values of bools -/
theorem ev_b1 {op : BoolOp} {Φ : D → FS → Prop} (h : Ev X Ψ ρ F a Φ) : Ev X Ψ ρ F (.BoolOp op [a] pos) Φ := ⟨pe_one h.pe⟩
theorem ev_and {Φ : D → FS → Prop} (h : Ev X Ψ ρ F a (fun x F1 => BlD x fun k => Br k (Ev X Ψ ρ F1 (.BoolOp .And (b :: es) pos) Φ) (Φ (.bl false) F1))) : Ev X Ψ ρ F (.BoolOp .And (a :: b :: es) pos) Φ :=
  ⟨pe_weak (pe_and h.pe (pe_fam (ι := { F1 : FS // Ev X Ψ ρ F1 (.BoolOp .And (b :: es) pos) Φ }) fun i => i.2.pe)) fun σ H Q ⟨P, tk, hd, en, k⟩ => ⟨P, tk, hd, en, fun v d P1 F1 H1 s1 hd1 rp φ => by
    cases rp with
    | bl z =>
      refine ⟨z, rfl, ?_⟩
      cases z with
      | true =>
        rw [if_pos rfl]
        exact ⟨⟨F1, φ.1 rfl⟩, P1, takes_mono s1 tk, hd1, en.mono s1, fun v2 d2 P2 F2 H2 s2 => k v2 d2 P2 F2 H2 (Same.trans s1 s2)⟩
      | false =>
        rw [if_neg Bool.false_ne_true]
        exact k _ _ P1 F1 H1 s1 hd1 (.bl false) (φ.2 rfl)
    | _ => exact False.elim φ⟩⟩
theorem ev_or {Φ : D → FS → Prop} (h : Ev X Ψ ρ F a (fun x F1 => BlD x fun k => Br k (Φ (.bl true) F1) (Ev X Ψ ρ F1 (.BoolOp .Or (b :: es) pos) Φ))) : Ev X Ψ ρ F (.BoolOp .Or (a :: b :: es) pos) Φ :=
  ⟨pe_weak (pe_or h.pe (pe_fam (ι := { F1 : FS // Ev X Ψ ρ F1 (.BoolOp .Or (b :: es) pos) Φ }) fun i => i.2.pe)) fun σ H Q ⟨P, tk, hd, en, k⟩ => ⟨P, tk, hd, en, fun v d P1 F1 H1 s1 hd1 rp φ => by
    cases rp with
    | bl z =>
      refine ⟨z, rfl, ?_⟩
      cases z with
      | true =>
        rw [if_pos rfl]
        exact k _ _ P1 F1 H1 s1 hd1 (.bl true) (φ.1 rfl)
      | false =>
        rw [if_neg Bool.false_ne_true]
        exact ⟨⟨F1, φ.2 rfl⟩, P1, takes_mono s1 tk, hd1, en.mono s1, fun v2 d2 P2 F2 H2 s2 => k v2 d2 P2 F2 H2 (Same.trans s1 s2)⟩
    | _ => exact False.elim φ⟩⟩
theorem ev_not {Φ : D → FS → Prop} (h : Ev X Ψ ρ F a (fun x F1 => BlD x fun k => Φ (.bl (!k)) F1)) : Ev X Ψ ρ F (.UnaryOp .Not a pos) Φ :=
  ⟨pe_weak (pe_not h.pe) fun σ H Q ⟨P, tk, hd, en, k⟩ => ⟨P, tk, hd, en, fun v d P1 F1 H1 s1 hd1 rp φ => by
    cases rp with
    | bl z => exact ⟨z, rfl, k _ _ P1 F1 H1 s1 hd1 (.bl _) φ⟩
    | _ => exact False.elim φ⟩⟩
/-- a if c else b -/
theorem ev_if {Φ : D → FS → Prop} (h : Et X Ψ ρ F c (fun k F1 => Br k (Ev X Ψ ρ F1 a Φ) (Ev X Ψ ρ F1 b Φ))) : Ev X Ψ ρ F (.IfExp c a b pos) Φ :=
  ⟨pe_weak (pe_ifExp h.pt (pe_fam (ι := { F1 : FS // Ev X Ψ ρ F1 a Φ }) fun i => i.2.pe) (pe_fam (ι := { F1 : FS // Ev X Ψ ρ F1 b Φ }) fun i => i.2.pe)) fun σ H Q ⟨P, tk, hd, en, k⟩ => ⟨P, tk, hd, en, fun z P1 F1 H1 s1 hd1 φ => by
    cases z with
    | true =>
      rw [if_pos rfl]
      exact ⟨⟨F1, φ.1 rfl⟩, P1, takes_mono s1 tk, hd1, en.mono s1, fun v2 d2 P2 F2 H2 s2 => k v2 d2 P2 F2 H2 (Same.trans s1 s2)⟩
    | false =>
      rw [if_neg Bool.false_ne_true]
      exact ⟨⟨F1, φ.2 rfl⟩, P1, takes_mono s1 tk, hd1, en.mono s1, fun v2 d2 P2 F2 H2 s2 => k v2 d2 P2 F2 H2 (Same.trans s1 s2)⟩⟩⟩

/-! ### operators -/
theorem ev_op {op : Operator} {r : R2} {Φ : D → FS → Prop} (ho : OpR X (binaryOp op) r) (h : Ev X Ψ ρ F a (fun x F1 => Ev X Ψ ρ F1 b (fun y F2 => LL2 X Ψ ρ (fun _ => r) x y F2 Φ))) : Ev X Ψ ρ F (.BinOp a op b pos) Φ :=
  ev_two (r := fun _ => r) (fun ta tb h1 h2 => pe_op ho h1 h2) h
theorem ev_cmp {op : CmpOp} {r : R2} {Φ : D → FS → Prop} (ho : OpR X (compareOp op) r) (hm : behindInMarks op b = false) (h : Ev X Ψ ρ F a (fun x F1 => Ev X Ψ ρ F1 b (fun y F2 => LL2 X Ψ ρ (fun _ => r) x y F2 Φ))) : Ev X Ψ ρ F (.Compare a [op] [b] pos) Φ :=
  ev_two (r := fun _ => r) (fun ta tb h1 h2 => pe_cmpR ho h1 h2 hm) h
theorem et_cmpR {op : CmpOp} {r : R2} {Φ : Bool → FS → Prop} (ho : OpR X (compareOp op) r) (hm : behindInMarks op b = false)
    (h : Ev X Ψ ρ F a (fun x F1 => Ev X Ψ ρ F1 b (fun y F2 => LL2 X Ψ ρ (fun _ => r) x y F2 (fun d F3 => BlD d fun k => Φ k F3)))) : Et X Ψ ρ F (.Compare a [op] [b] pos) Φ :=
  ⟨pt_weak (pt_cmpR ho h.pe (pe_fam (ι := Ix fun x F1 => Ev X Ψ ρ F1 b (fun y F2 => LL2 X Ψ ρ (fun _ => r) x y F2 (fun d F3 => BlD d fun k => Φ k F3))) fun i => i.2.pe) hm) fun σ H Q ⟨P, tk, hd, en, k⟩ => ⟨P, tk, hd, en, fun v d P1 F1 H1 s1 hd1 rp φ =>
    ⟨⟨(d, F1), φ⟩, P1, takes_mono s1 tk, hd1, en.mono s1, fun v2 d2 P2 F2 H2 s2 hd2 rp2 φ2 =>
      φ2 P2 σ H2 v v2 _ (takes_mono (Same.trans s1 s2) tk) hd2 (en.mono (Same.trans s1 s2)) (rp.mono s2) rp2 fun v3 d3 P3 F3 H3 s3 hd3 rp3 φ3 => by
        cases rp3 with
        | bl x => exact ⟨x, rfl, k x P3 F3 H3 (Same.trans s1 (Same.trans s2 s3)) hd3 φ3⟩
        | _ => exact False.elim φ3⟩⟩⟩

/-! ### statements -/
theorem ess_nil {Θ : Po} (k : Θ.nx ρ F) : Ess X Ψ ρ F [] Θ :=
  ⟨pss_weak pss_nil fun D σ H ⟨P, tk, hd, en, n, _⟩ => n σ ρ P F H (Same.refl P) hd en k⟩
theorem ess_cons {st : Stmt} {sts : List Stmt} {Θ : Po} (h : Es X Ψ ρ F st { Θ with nx := fun ρ1 F1 => Ess X Ψ ρ1 F1 sts Θ }) : Ess X Ψ ρ F (st :: sts) Θ :=
  ⟨pss_weak (pss_cons h.ps (pss_fam (ι := { p : En × FS // Ess X Ψ p.1 p.2 sts Θ }) fun i => i.2.pss)) fun D σ H ⟨P, tk, hd, en, n, rt, bk, ct⟩ => ⟨P, tk, hd, en,
    fun σ1 ρ1 P1 F1 H1 s1 hd1 en1 φ => ⟨⟨(ρ1, F1), φ⟩, P1, takes_mono s1 tk, hd1, en1, n.mono s1, rt.mono s1, bk.mono s1, ct.mono s1⟩, rt, bk, ct⟩⟩
theorem ess_one {st : Stmt} {Θ : Po} (h : Es X Ψ ρ F st Θ) : Ess X Ψ ρ F [st] Θ := ⟨pss_one h.ps⟩
theorem es_pass {Θ : Po} (k : Θ.nx ρ F) : Es X Ψ ρ F (.Pass pos) Θ := ⟨ps_weak ps_pass fun D σ H ⟨P, tk, hd, en, n, _⟩ => n σ ρ P F H (Same.refl P) hd en k⟩
theorem es_break {Θ : Po} (k : Θ.bk ρ F) : Es X Ψ ρ F (.Break pos) Θ := ⟨ps_weak ps_break fun D σ H ⟨P, tk, hd, en, n, r, bk, _⟩ => bk σ ρ P F H (Same.refl P) hd en k⟩
theorem es_continue {Θ : Po} (k : Θ.ct ρ F) : Es X Ψ ρ F (.Continue pos) Θ := ⟨ps_weak ps_continue fun D σ H ⟨P, tk, hd, en, n, r, bk, ct⟩ => ct σ ρ P F H (Same.refl P) hd en k⟩
theorem es_expr {Θ : Po} (h : Ev X Ψ ρ F e (fun _ F1 => Θ.nx ρ F1)) (hs : swapsWith e none pos.line X.env = pure false := by rfl) : Es X Ψ ρ F (.Expr e pos) Θ :=
  ⟨ps_weak (ps_expr h.pe hs) fun D σ H ⟨P, tk, hd, en, n, _⟩ => ⟨P, tk, hd, en, fun v d P1 F1 H1 s1 hd1 rp φ => n σ ρ P1 F1 H1 s1 hd1 (en.mono s1) φ⟩⟩
theorem es_ret {Θ : Po} (h : Ev X Ψ ρ F e Θ.rt) : Es X Ψ ρ F (.Return (some e) pos) Θ :=
  ⟨ps_weak (ps_ret h.pe) fun D σ H ⟨P, tk, hd, en, n, rt, _⟩ => ⟨P, tk, hd, en, rt⟩⟩
theorem es_retN {Θ : Po} (k : Θ.rt .non F) : Es X Ψ ρ F (.Return none pos) Θ :=
  ⟨ps_weak ps_retN fun D σ H ⟨P, tk, hd, en, n, rt, _⟩ => rt .non .non P F H (Same.refl P) hd .non k⟩
theorem es_if {Θ : Po} {A B : List Stmt} (h : Et X Ψ ρ F c (fun k F1 => Br k (Ess X Ψ ρ F1 A Θ) (Ess X Ψ ρ F1 B Θ))) : Es X Ψ ρ F (.If c A B pos) Θ :=
  ⟨ps_weak (ps_if h.pt (pss_fam (ι := { F1 : FS // Ess X Ψ ρ F1 A Θ }) fun i => i.2.pss) (pss_fam (ι := { F1 : FS // Ess X Ψ ρ F1 B Θ }) fun i => i.2.pss)) fun D σ H ⟨P, tk, hd, en, n, rt, bk, ct⟩ => ⟨P, tk, hd, en, fun z P1 F1 H1 s1 hd1 φ => by
    cases z with
    | true =>
      rw [if_pos rfl]
      exact ⟨⟨F1, φ.1 rfl⟩, P1, takes_mono s1 tk, hd1, en.mono s1, n.mono s1, rt.mono s1, bk.mono s1, ct.mono s1⟩
    | false =>
      rw [if_neg Bool.false_ne_true]
      exact ⟨⟨F1, φ.2 rfl⟩, P1, takes_mono s1 tk, hd1, en.mono s1, n.mono s1, rt.mono s1, bk.mono s1, ct.mono s1⟩⟩⟩
/-- targets -/
def tGt (X : Cx) (Ψ : XP) (ρ : En) (F : FS) (d : D) (A : En → FS → Prop) : TG := fun v σ H Q => ∃ P, Takes X (wUp X.K P Ψ) ∧ Hd X.K P F H ∧ EnvR X.K P ρ σ ∧ Rep X.K P d v ∧ upS X.K P A Q
structure Eg (X : Cx) (Ψ : XP) (ρ : En) (F : FS) (tg : Expr) (d : D) (A : En → FS → Prop) : Prop where
  pg : PG X tg (tGt X Ψ ρ F d A)
theorem pg_weak {tg : Expr} {t t' : TG} (h : PG X tg t) (w : ∀ v σ H Q, t' v σ H Q → t v σ H Q) : PG X tg t' := ⟨fun pins s σ H v u Q I r q => h.run pins s σ H v u Q I r (w _ _ _ _ q)⟩
theorem pg_fam {tg : Expr} {ι : Type} {t : ι → TG} (h : ∀ i, PG X tg (t i)) : PG X tg (fun v σ H Q => ∃ i, t i v σ H Q) := ⟨fun pins s σ H v u Q I r ⟨i, q⟩ => (h i).run pins s σ H v u Q I r q⟩
theorem eg_name {i : Nat} {x : Str} {d : D} {A : En → FS → Prop} (h : PG X (.Name x pos) (gName i)) (k : A (ρ.set i (some d)) F) : Eg X Ψ ρ F (.Name x pos) d A :=
  ⟨pg_weak h fun v σ H Q ⟨P, tk, hd, en, r, q⟩ => q _ _ P F H (Same.refl P) hd (en.set i r) k⟩
def tGts (X : Cx) (Ψ : XP) (ρ : En) (F : FS) (ds : List D) (A : En → FS → Prop) : TGs := fun vs σ H Q => ∃ P, Takes X (wUp X.K P Ψ) ∧ Hd X.K P F H ∧ EnvR X.K P ρ σ ∧ Reps X.K P ds vs ∧ upS X.K P A Q
structure Egs (X : Cx) (Ψ : XP) (ρ : En) (F : FS) (tgs : List Expr) (ds : List D) (A : En → FS → Prop) : Prop where
  pgs : PGs X tgs (tGts X Ψ ρ F ds A)
theorem pgs_weak {tg : List Expr} {t t' : TGs} (h : PGs X tg t) (w : ∀ v σ H Q, t' v σ H Q → t v σ H Q) : PGs X tg t' := ⟨fun pins s σ H v u Q I r q => h.run pins s σ H v u Q I r (w _ _ _ _ q)⟩
theorem pgs_fam {tg : List Expr} {ι : Type} {t : ι → TGs} (h : ∀ i, PGs X tg (t i)) : PGs X tg (fun v σ H Q => ∃ i, t i v σ H Q) := ⟨fun pins s σ H v u Q I r ⟨i, q⟩ => (h i).run pins s σ H v u Q I r q⟩
theorem egs_nil {A : En → FS → Prop} (k : A ρ F) : Egs X Ψ ρ F [] [] A :=
  ⟨pgs_weak pgs_nil fun v σ H Q ⟨P, tk, hd, en, r, q⟩ => by
    cases r
    exact ⟨rfl, q _ _ P F H (Same.refl P) hd en k⟩⟩
theorem egs_cons {tg : Expr} {tgs : List Expr} {d : D} {ds : List D} {A : En → FS → Prop} (h : Eg X Ψ ρ F tg d (fun ρ1 F1 => Egs X Ψ ρ1 F1 tgs ds A)) (hs : (assignEach (tg :: tgs) X.env).map (·.2) = assign tg X.env :: (assignEach tgs X.env).map (·.2) := by rfl) : Egs X Ψ ρ F (tg :: tgs) (d :: ds) A :=
  ⟨pgs_weak (pgs_cons h.pg (pgs_fam (ι := { p : En × FS // Egs X Ψ p.1 p.2 tgs ds A }) fun i => i.2.pgs) hs) fun v σ H Q ⟨P, tk, hd, en, r, q⟩ => by
    cases r with
    | cons r rr => exact ⟨_, _, rfl, P, tk, hd, en, r, fun σ1 ρ1 P1 F1 H1 s1 hd1 en1 φ => ⟨⟨(ρ1, F1), φ⟩, P1, takes_mono s1 tk, hd1, en1, Reps.mono s1 rr, q.mono s1⟩⟩⟩
/-- (a, b, ..) from a tuple -/
def TupD (x : D) (Φ : List D → Prop) : Prop := match x with
  | .tup xs => Φ xs
  | _ => False
theorem eg_tup {tgs : List Expr} {k n : Nat} {d : D} {A : En → FS → Prop} (hc : X.calm = true) (h : TupD d fun ds => ds.length = n ∧ Egs X Ψ ρ F tgs ds A) (hn : (assignEach tgs X.env).length = n := by rfl) (hst : (assignEach tgs X.env).findIdx? (·.1) = none := by rfl) : Eg X Ψ ρ F (.Tuple tgs k pos) d A := by
  cases d with
  | tup ds =>
    refine ⟨pg_weak (pg_tup hc h.2.pgs hn hst) fun v σ H Q ⟨P, tk, hd, en, r, q⟩ => ?_⟩
    cases r with
    | tup hq rr => exact ⟨_, _, rfl, SqT.of (hd.pure _ _ hq), by rw [← Paired.length rr]; exact h.1, P, tk, hd, en, rr, q⟩
  | _ => exact False.elim h
theorem es_asg {tg : Expr} {Θ : Po} (h : Ev X Ψ ρ F e (fun d F1 => Eg X Ψ ρ F1 tg d Θ.nx)) (hs : swapsWithSole [tg] e pos.line X.env = pure false := by rfl) (hw : swappedStores [tg] e X.env = pure none := by rfl)
    (h1 : (assignEach [tg] X.env).map (·.2) = [assign tg X.env] := by rfl) : Es X Ψ ρ F (.Assign [tg] e pos) Θ :=
  ⟨ps_weak (ps_asg h.pe (pg_fam (ι := Ix fun d F1 => Eg X Ψ ρ F1 tg d Θ.nx) fun i => i.2.pg) hs hw h1) fun D σ H ⟨P, tk, hd, en, n, _⟩ => ⟨P, tk, hd, en, fun v d P1 F1 H1 s1 hd1 rp φ =>
    ⟨⟨(d, F1), φ⟩, P1, takes_mono s1 tk, hd1, en.mono s1, rp, n.mono s1⟩⟩⟩
theorem es_set {i : Nat} {x : Str} {Θ : Po} {pos' : Pos} (hN : X.N.Nodup) (hi : X.N[i]? = some x) (hx : Loc X.env.scope x) (hf : X.fn x = true ∨ X.env.scope.names.lookup x = some .local) (h : Ev X Ψ ρ F e (fun d F1 => Θ.nx (ρ.set i (some d)) F1))
    (hs : swapsWith e (some (.Name x pos')) pos.line X.env = pure false := by rfl) : Es X Ψ ρ F (.Assign [.Name x pos'] e pos) Θ :=
  ⟨ps_weak (ps_set hN hi hx h.pe hs hf) fun D σ H ⟨P, tk, hd, en, n, _⟩ => ⟨P, tk, hd, en, fun v d P1 F1 H1 s1 hd1 rp φ => n _ _ P1 F1 H1 s1 hd1 ((en.mono s1).set i rp) φ⟩⟩
/-- a, b = x, y -/
theorem es_par {i j : Nat} {x y : Str} {Θ : Po} {px py pt : Pos} {kt k2 pt2} (hc : X.calm = true) (hN : X.N.Nodup) (hi : X.N[i]? = some x) (hj : X.N[j]? = some y) (hij : i ≠ j) (hx : X.env.scope.names.lookup x = some .local) (hy : X.env.scope.names.lookup y = some .local)
    (hw : swappedStores [.Tuple [.Name x px, .Name y py] kt pt] (.Tuple [a, b] k2 pt2) X.env = pure (some [x, y]))
    (h : Ea X Ψ ρ F [a, b] (fun ds F1 => ∃ d d', ds = [d, d'] ∧ Θ.nx ((ρ.set i (some d)).set j (some d')) F1))
    (hs : swapsWithSole [.Tuple [.Name x px, .Name y py] kt pt] (.Tuple [a, b] k2 pt2) pos.line X.env = pure false := by rfl) : Es X Ψ ρ F (.Assign [.Tuple [.Name x px, .Name y py] kt pt] (.Tuple [a, b] k2 pt2) pos) Θ :=
  ⟨ps_weak (ps_par hc hN hi hj hij hx hy h.pa hw hs) fun D σ H ⟨P, tk, hd, en, n, _⟩ => ⟨P, tk, hd, en, fun v d P1 F1 H1 s1 hd1 rp φ => by
    obtain ⟨d1, d2, rfl, φ⟩ := φ
    cases rp with
    | cons r1 rr =>
      cases rr with
      | cons r2 rr2 =>
        cases rr2
        exact ⟨_, _, rfl, n _ _ P1 F1 H1 s1 hd1 (((en.mono s1).set i r1).set j r2) φ⟩⟩⟩
theorem es_raise {Θ : Po} {t : L2.St → Hp → XK → Prop} (hc : X.calm = true) (he : PMk X e t) (k : ∀ P σ H, Hd X.K P F H → EnvR X.K P ρ σ → t σ H (fun c dd H' => wUp X.K P Ψ c dd σ H')) : Es X Ψ ρ F (.Raise (some e) none pos) Θ :=
  ⟨⟨fun pins s σ H D I h => by
    obtain ⟨P, tk, hd, en, _⟩ := h
    exact (ps_raise (W := wUp X.K P Ψ) hc tk he).run pins s σ H D I (k P σ H hd en)⟩⟩
end

/-! ### what is walked -/
/-- J yields the data ys, one after another -/
structure ItOk (K : PySem.W.Frag) (J : It) (P : Hp) (ys : List D) : Prop where
  go : ∀ P' F H i, Same P P' → Hd K P' F H → i < ys.length → J.go i H
  yld : ∀ P' F H i x H', Same P P' → Hd K P' F H → J.yld i H x H' → ∀ d, ys[i]? = some d → ∃ P2, Same P' P2 ∧ Hd K P2 F H' ∧ Rep K P2 d x
  stop : ∀ P' F H, Same P P' → Hd K P' F H → J.stop ys.length H
theorem ItOk.mono {K : PySem.W.Frag} {J : It} {P P' : Hp} {ys : List D} (h : ItOk K J P ys) (s : Same P P') : ItOk K J P' ys :=
  ⟨fun P2 F H i s2 => h.go P2 F H i (Same.trans s s2), fun P2 F H i x H' s2 => h.yld P2 F H i x H' (Same.trans s s2), fun P2 F H s2 => h.stop P2 F H (Same.trans s s2)⟩
def tIt (X : Cx) (Ψ : XP) (ρ : En) (F : FS) (Φ : List D → FS → Prop) : TI := fun σ H R => ∃ P, Takes X (wUp X.K P Ψ) ∧ Hd X.K P F H ∧ EnvR X.K P ρ σ ∧
  ∀ J ys P' F' H', Same P P' → Hd X.K P' F' H' → ItOk X.K J P' ys → Φ ys F' → R J H'
structure Ei (X : Cx) (Ψ : XP) (ρ : En) (F : FS) (tg iter : Expr) (Φ : List D → FS → Prop) : Prop where
  pi : PI X tg iter (tIt X Ψ ρ F Φ)
section
variable {X : Cx} {Ψ : XP} {ρ : En} {F : FS} {tg iter a b : Expr} {es : List Expr} {pos : Pos}
theorem pi_weak {t t' : TI} (h : PI X tg iter t) (w : ∀ σ H R, t' σ H R → t σ H R) : PI X tg iter t' := ⟨fun pins s σ H R I q => h.run pins s σ H R I (w _ _ _ q)⟩
/-- over a list -/
def LstD (x : D) (Φ : List D → Prop) : Prop := match x with
  | .lst xs => Φ xs
  | _ => False
theorem ei_list {Φ : List D → FS → Prop} (h : Ev X Ψ ρ F iter (fun x F1 => LstD x fun ds => Φ ds F1)) : Ei X Ψ ρ F tg iter Φ :=
  ⟨pi_weak (pi_list h.pe) fun σ H R ⟨P, tk, hd, en, k⟩ => ⟨P, tk, hd, en, fun v d P1 F1 H1 s1 hd1 rp φ => by
    cases rp with
    | @lst ds ad vs hq rr =>
      refine ⟨ad, rfl, ⟨vs, SqL.of (hd1.pure _ _ hq)⟩, k _ ds P1 F1 H1 s1 hd1 ⟨fun P' F H i s hd hi => ⟨vs, vs[i]'(by rw [← Paired.length rr]; exact hi), SqL.of (hd.pure _ _ (s _ _ hq)), by simp⟩, fun P' F H i x H' s hd ⟨e, y⟩ d hdi => ?_,
        fun P' F H s hd => ⟨vs, SqL.of (hd.pure _ _ (s _ _ hq)), by rw [← Paired.length rr]; exact Nat.le_refl _⟩⟩ φ⟩
      subst e
      obtain ⟨v, h1, h2⟩ := Reps.get rr hdi
      have hx := y vs (SqL.of (hd.pure _ _ (s _ _ hq)))
      rw [h1] at hx
      cases hx
      exact ⟨P', Same.refl _, hd, h2.mono s⟩
    | _ => exact False.elim φ⟩⟩
theorem ei_tup {Φ : List D → FS → Prop} (h : Ev X Ψ ρ F iter (fun x F1 => TupD x fun ds => Φ ds F1)) : Ei X Ψ ρ F tg iter Φ :=
  ⟨pi_weak (pi_tup h.pe) fun σ H R ⟨P, tk, hd, en, k⟩ => ⟨P, tk, hd, en, fun v d P1 F1 H1 s1 hd1 rp φ => by
    cases rp with
    | @tup ds ad vs hq rr =>
      refine ⟨ad, rfl, ⟨vs, SqT.of (hd1.pure _ _ hq)⟩, k _ ds P1 F1 H1 s1 hd1 ⟨fun P' F H i s hd hi => ⟨vs, vs[i]'(by rw [← Paired.length rr]; exact hi), SqT.of (hd.pure _ _ (s _ _ hq)), by simp⟩, fun P' F H i x H' s hd ⟨e, y⟩ d hdi => ?_,
        fun P' F H s hd => ⟨vs, SqT.of (hd.pure _ _ (s _ _ hq)), by rw [← Paired.length rr]; exact Nat.le_refl _⟩⟩ φ⟩
      subst e
      obtain ⟨v, h1, h2⟩ := Reps.get rr hdi
      have hx := y vs (SqT.of (hd.pure _ _ (s _ _ hq)))
      rw [h1] at hx
      cases hx
      exact ⟨P', Same.refl _, hd, h2.mono s⟩
    | _ => exact False.elim φ⟩⟩
/-- the signs of a text, each a text -/
def signsD (x : Str) : List D := x.cps.toList.map fun c => D.str ⟨#[c]⟩
def StrD (x : D) (Φ : Str → Prop) : Prop := match x with
  | .str z => Φ z
  | _ => False
theorem ei_str {Φ : List D → FS → Prop} (h : Ev X Ψ ρ F iter (fun x F1 => StrD x fun z => Φ (signsD z) F1)) : Ei X Ψ ρ F tg iter Φ :=
  ⟨pi_weak (pi_str h.pe) fun σ H R ⟨P, tk, hd, en, k⟩ => ⟨P, tk, hd, en, fun v d P1 F1 H1 s1 hd1 rp φ => by
    cases rp with
    | str x =>
      have hl : (signsD x).length = x.cps.size := by simp [signsD]
      refine ⟨x, rfl, k _ (signsD x) P1 F1 H1 s1 hd1 ⟨fun P' F H i s hd hi => by rw [hl] at hi; exact hi, fun P' F H i y H' s hd ⟨e, c, hc, ey⟩ d hdi => ?_, fun P' F H s hd => by rw [hl]; exact Nat.le_refl _⟩ φ⟩
      subst e ey
      have e2 : d = D.str ⟨#[c]⟩ := by
        unfold signsD at hdi
        rw [List.getElem?_map, Array.getElem?_toList, hc] at hdi
        exact (Option.some.inj hdi).symm
      subst e2
      exact ⟨P', Same.refl _, hd, .str _⟩
    | _ => exact False.elim φ⟩⟩
/-- range(n), range(a, b) -/
def rangeD (lo : Int) (n : Nat) : List D := (List.range n).map fun i => D.int (lo + (i : Nat))
theorem rangeD_len {lo : Int} {n : Nat} : (rangeD lo n).length = n := by simp [rangeD]
theorem rangeD_get {lo : Int} {n i : Nat} {d : D} (h : (rangeD lo n)[i]? = some d) : i < n ∧ d = .int (lo + (i : Nat)) := by
  unfold rangeD at h
  rw [List.getElem?_map] at h
  cases e : (List.range n)[i]? with
  | none =>
    rw [e] at h
    cases h
  | some j =>
    obtain ⟨h1, h2⟩ := List.getElem?_eq_some_iff.mp e
    rw [List.length_range] at h1
    rw [List.getElem_range] at h2
    subst h2
    rw [e] at h
    exact ⟨h1, (Option.some.inj h).symm⟩
theorem itOk_range {K : PySem.W.Frag} {P : Hp} {lo : Int} {n : Nat} : ItOk K (Itr lo n) P (rangeD lo n) where
  go := fun P' F H i s hd hi => by rw [rangeD_len] at hi; exact hi
  yld := fun P' F H i x H' s hd ⟨e, ex⟩ d hdi => by
    obtain ⟨_, ed⟩ := rangeD_get hdi
    subst e ex ed
    exact ⟨P', Same.refl _, hd, .int _⟩
  stop := fun P' F H s hd => by rw [rangeD_len]; exact Nat.le_refl _
theorem ei_range1 {Φ : List D → FS → Prop} {p : Pos} (hg : Gl X "range") (hm : X.mg "range" = none) (h : Ea X Ψ ρ F [a] (fun xs F1 => ∃ j : Int, xs = [.int j] ∧ -(2 ^ 62) ≤ j ∧ j < 2 ^ 62 ∧ Φ (rangeD 0 j.toNat) F1)) (hs : starEach [a] X.env = [(false, eval a X.env)] := by rfl) : Ei X Ψ ρ F tg (.Call (.Name "range" p) [a] [] pos) Φ :=
  ⟨pi_weak (pi_range1 hg hm h.pa hs) fun σ H R ⟨P, tk, hd, en, k⟩ => ⟨P, tk, hd, en, fun v d P1 F1 H1 s1 hd1 rp φ => by
    obtain ⟨j, rfl, h1, h2, φ⟩ := φ
    cases rp with
    | cons r rr =>
      cases rr
      cases r
      exact ⟨j, rfl, h1, h2, k _ _ P1 F1 H1 s1 hd1 itOk_range φ⟩⟩⟩
theorem ei_range2 {Φ : List D → FS → Prop} {p : Pos} (hg : Gl X "range") (hm : X.mg "range" = none) (h : Ea X Ψ ρ F [a, b] (fun xs F1 => ∃ i j : Int, xs = [.int i, .int j] ∧ (-(2 ^ 62) ≤ i ∧ i < 2 ^ 62 ∧ -(2 ^ 62) ≤ j ∧ j < 2 ^ 62) ∧ Φ (rangeD i (j - i).toNat) F1))
    (hs : starEach [a, b] X.env = [(false, eval a X.env), (false, eval b X.env)] := by rfl) (hs2 : starEach [b] X.env = [(false, eval b X.env)] := by rfl) : Ei X Ψ ρ F tg (.Call (.Name "range" p) [a, b] [] pos) Φ :=
  ⟨pi_weak (pi_range2 hg hm h.pa hs hs2) fun σ H R ⟨P, tk, hd, en, k⟩ => ⟨P, tk, hd, en, fun v d P1 F1 H1 s1 hd1 rp φ => by
    obtain ⟨i, j, rfl, h1, φ⟩ := φ
    cases rp with
    | cons r rr =>
      cases rr with
      | cons r2 rr =>
        cases rr
        cases r
        cases r2
        exact ⟨i, j, rfl, h1, k _ _ P1 F1 H1 s1 hd1 itOk_range φ⟩⟩⟩

/-! ### for -/
theorem es_for {body : List Stmt} {Θ : Po} (hp : PassesOwn (model X.prog X.w) X.A X.env X.xe) (hc : X.calm = true)
    (h : Ei X Ψ ρ F tg iter (fun ys F1 => ∃ I : Nat → En → FS → Prop, I 0 ρ F1 ∧
      (∀ i d ρ2 F2, ys[i]? = some d → I i ρ2 F2 → Eg X Ψ ρ2 F2 tg d (fun ρ3 F3 => Ess X Ψ ρ3 F3 body { nx := I (i + 1), ct := I (i + 1), bk := Θ.nx, rt := Θ.rt })) ∧ ∀ ρ2 F2, I ys.length ρ2 F2 → Θ.nx ρ2 F2))
    (hs : ∀ x, foldedSetIterable iter X.env x = pure x := by intro _; rfl) : Es X Ψ ρ F (.For tg iter body [] pos) Θ := by
  -- the index of a turn: what is known of it
  let ι := { p : (D × En × FS) × (En → FS → Prop) // Eg X Ψ p.1.2.1 p.1.2.2 tg p.1.1 (fun ρ3 F3 => Ess X Ψ ρ3 F3 body { nx := p.2, ct := p.2, bk := Θ.nx, rt := Θ.rt }) }
  let κ := { p : (En × FS) × (En → FS → Prop) // Ess X Ψ p.1.1 p.1.2 body { nx := p.2, ct := p.2, bk := Θ.nx, rt := Θ.rt } }
  refine ⟨ps_weak (ps_for hp hc h.pi (pg_fam (ι := ι) fun i => i.2.pg) (pss_fam (ι := κ) fun i => i.2.pss) hs) fun D σ H ⟨P, tk, hd, en, n, rt, bk, ct⟩ => ⟨P, tk, hd, en, fun J ys P1 F1 H1 s1 hd1 ok φ => ?_⟩⟩
  obtain ⟨I, h0, step, last⟩ := φ
  refine ⟨fun i m σ' H' => m = ys.length - i ∧ i ≤ ys.length ∧ ∃ ρ2 F2 P2, Same P1 P2 ∧ Hd X.K P2 F2 H' ∧ EnvR X.K P2 ρ2 σ' ∧ I i ρ2 F2, ⟨ys.length, by simp, Nat.zero_le _, ρ, F1, P1, Same.refl _, hd1, en.mono s1, h0⟩, ?_⟩
  rintro i m σ2 H2 ⟨rfl, hi, ρ2, F2, P2, s2, hd2, en2, w⟩
  by_cases hlt : i < ys.length
  · refine .inr ⟨ok.go P2 F2 H2 i s2 hd2 hlt, fun σ3 H3 => ∃ ρ3 F3 P3, Same P1 P3 ∧ Hd X.K P3 F3 H3 ∧ EnvR X.K P3 ρ3 σ3 ∧ I (i + 1) ρ3 F3, fun σ3 H3 ⟨ρ3, F3, P3, s3, hd3, en3, w3⟩ => ⟨ys.length - (i + 1), by omega, rfl, hlt, ρ3, F3, P3, s3, hd3, en3, w3⟩, fun x H3 y => ?_⟩
    have hdi : ys[i]? = some ys[i] := by simp [hlt]
    obtain ⟨P3, s3, hd3, r3⟩ := ok.yld P2 F2 H2 i x H3 s2 hd2 y _ hdi
    refine ⟨⟨((ys[i], ρ2, F2), I (i + 1)), step i _ ρ2 F2 hdi w⟩, P3, takes_mono (Same.trans s1 (Same.trans s2 s3)) tk, hd3, en2.mono s3, r3, fun σ4 ρ4 P4 F4 H4 s4 hd4 en4 φ4 => ?_⟩
    have s14 : Same P1 P4 := Same.trans s2 (Same.trans s3 s4)
    exact ⟨⟨((ρ4, F4), I (i + 1)), φ4⟩, P4, takes_mono (Same.trans s1 s14) tk, hd4, en4, fun σ5 ρ5 P5 F5 H5 s5 hd5 en5 φ5 => ⟨ρ5, F5, P5, Same.trans s14 s5, hd5, en5, φ5⟩, rt.mono (Same.trans s1 s14), n.mono (Same.trans s1 s14),
      fun σ5 ρ5 P5 F5 H5 s5 hd5 en5 φ5 => ⟨ρ5, F5, P5, Same.trans s14 s5, hd5, en5, φ5⟩⟩
  · have e : i = ys.length := by omega
    subst e
    exact .inl ⟨ok.stop P2 F2 H2 s2 hd2, n σ2 ρ2 P2 F2 H2 (Same.trans s1 s2) hd2 en2 (last ρ2 F2 w)⟩
end
end TM

set_option Elab.async false
set_option linter.all false
set_option maxRecDepth 100000
set_option maxHeartbeats 4000000
/-! The data layer: what a def promises, its body, its calls; the law's end. -/
namespace TM
open PySem PySem.Spec PyProof.Rows L2

structure RoomG (k : Nat) (A : Around) : Prop where
  room : Room k A
  gd : A.guards = some []
theorem RoomG.mono {j k : Nat} {A : Around} (r : RoomG k A) (h : j ≤ k) : RoomG j A := ⟨r.room.mono h, r.gd⟩
/-- where a program stands -/
structure Wd where
  P : Program
  w : World
  K : PySem.W.Frag
  mg : Str → Option Value
  base : Heap
abbrev Spec := List D → FS → (D → FS → Prop) → (Err → FS → Prop) → Prop
def spD (K : PySem.W.Frag) (S : Spec) : Sp := fun vs H Q E => ∃ P F ds Φ Ψ, Hd K P F H ∧ Reps K P ds vs ∧ S ds F Φ Ψ ∧ upV K P Φ Q ∧
  ∀ e c dd P' F' H', Same P P' → Hd K P' F' H' → ErrR K P' e c dd → Ψ e F' → E c dd H'
structure FnD (W : Wd) (k : Nat) (f : Addr) (fd : FuncData) (ps : List Str) (S : Spec) : Prop where
  len : ∀ ds F Φ Ψ, S ds F Φ Ψ → ds.length = ps.length
  run : ∀ (A : Around) (outer : List Env) (s : Shared) (H : Hp) (args : Args) (us : List Value) (vs : List V) (Q : VK) (E : XK), RoomG k A → Env0 W.P W.w W.K W.mg W.base A outer s H →
    BindsTo s fd args (ps.zip us) → Vals vs us → spD W.K S vs H Q E → codeAny (model W.P W.w) A (.call (.ref f) args) (CR (L2.CX W.P W.w) outer W.P W.w H s Q E) s
theorem FnD.imp {W : Wd} {k : Nat} {f : Addr} {fd : FuncData} {ps : List Str} {S S' : Spec} (h : FnD W k f fd ps S) (i : ∀ ds F Φ Ψ, S' ds F Φ Ψ → S ds F Φ Ψ) : FnD W k f fd ps S' :=
  ⟨fun ds F Φ Ψ q => h.len ds F Φ Ψ (i _ _ _ _ q), fun A outer s H args us vs Q E hr e0 hb rv ⟨P, F, ds, Φ, Ψ, h1, h2, h3, h4⟩ => h.run A outer s H args us vs Q E hr e0 hb rv ⟨P, F, ds, Φ, Ψ, h1, h2, i _ _ _ _ h3, h4⟩⟩
theorem FnD.mono {W : Wd} {j k : Nat} {f : Addr} {fd : FuncData} {ps : List Str} {S : Spec} (h : FnD W j f fd ps S) (hk : j ≤ k) : FnD W k f fd ps S :=
  ⟨h.len, fun A outer s H args us vs Q E hr => h.run A outer s H args us vs Q E (hr.mono hk)⟩

/-- the names' values at a def's entry -/
def enter (N : List Str) (ds : List D) : En := ds.map some ++ List.replicate (N.length - ds.length) none
theorem enter_rel {K : PySem.W.Frag} {P : Hp} {N : List Str} {ds : List D} {vs : List V} (r : Reps K P ds vs) : EnvR K P (enter N ds) (L2.start N vs) := by
  have hl := Paired.length r
  refine ⟨by unfold enter L2.start; simp [hl], fun i d e => ?_⟩
  unfold enter at e
  have hi : i < ds.length := by
    by_cases hi : i < ds.length
    · exact hi
    · rw [List.getElem?_append_right (by simpa using hi), List.getElem?_replicate] at e
      split at e <;> cases e
  rw [List.getElem?_append_left (by simpa using hi), List.getElem?_map] at e
  cases q : ds[i]? with
  | none =>
    rw [q] at e
    cases e
  | some d2 =>
    rw [q] at e
    have e2 : d2 = d := Option.some.inj (Option.some.inj e)
    subst e2
    obtain ⟨v, h1, h2⟩ := Reps.get r q
    refine ⟨v, ?_, h2⟩
    unfold L2.start
    rw [List.getElem?_append_left (by rw [List.length_map, ← hl]; exact hi), List.getElem?_map, h1]
    rfl

/-- what a body's context has -/
structure Ct (X : Cx) (k : Nat) : Prop where
  nd : X.N.Nodup
  calm : X.calm = true
  room : RoomG k X.A
  pass : PassesOwn (model X.prog X.w) X.A X.env X.xe
abbrev bodyX (W : Wd) (N : List Str) (qual : Str) (sc : Scope) (f : Addr) (cdv : Value) (A : Around) (outer : List Env) (s : Shared) (H : Hp) (E : XK) : Cx :=
  cxOf (L2.CX W.P W.w) W.P W.w W.K W.mg W.base N qual sc f cdv A outer s H E
/-- THE RULE of a def by its body -/
theorem FnD.of {W : Wd} {name qual : Str} {params : Arguments} {body : List Stmt} {sc : Scope} {dV kV doc pm cdv ct oc : Value} {an od : Option Addr} {osl : Array (Option Value)} {N ps : List Str} {k : Nat} {f : Addr} {S : Spec}
    (lk : W.K.lookup f = some ⟨oc, od, .func (PySem.W.fnOf name qual params body sc dV kV doc pm an cdv ct), osl⟩) (hcd : PySem.W.codeIn W.K cdv qual = true) (S1 : FnScope N ps sc) (len : ∀ ds F Φ Ψ, S ds F Φ Ψ → ds.length = ps.length)
    (hb : ∀ (A : Around) (outer : List Env) (s : Shared) (H : Hp) (E : XK), Ct (bodyX W N qual sc f cdv A outer s H E) k → ∀ ds F Φ Ψ, S ds F Φ Ψ →
      Ess (bodyX W N qual sc f cdv A outer s H E) (fun e _ F' => Ψ e F') (enter N ds) F body { nx := fun _ F' => Φ .non F', rt := Φ }) :
    FnD W (k + 1) f (PySem.W.fnOf name qual params body sc dV kV doc pm an cdv ct) ps S := by
  refine ⟨len, fun A outer s H args us vs Q E hr e0 hbind rv hsp => ?_⟩
  obtain ⟨P, F, ds, Φ, Ψ, hd, rp, hS, hQ, hE⟩ := hsp
  have lv : vs.length = ps.length := (Paired.length rp).symm.trans (len _ _ _ _ hS)
  have KX : W.K.In s.heap := e0.mod.kin.keeps fun b o z => (e0.bs b o z).1
  have NL : s.heap.NoLimit := e0.mod.nolimit.keeps fun b o z => (e0.bs b o z).1
  refine codeAny_call_function hr.room.depth (KX _ _ lk) rfl S1.co S1.gen rfl (PySem.W.codeRec_of KX hcd) (hbind _ _ _ _ ?_)
  refine wpAny_newFunctionEnv_cells S1.kind (fun y hy => ?_) (fun env ee s1 x => ?_)
  · rcases S1.par y.1 (List.of_mem_zip (a := y.1) (b := y.2) hy).1 with z | z
    · exact .inl z
    · exact .inr ⟨z, PySem.W.cellsFrom_some _ _ _ (.inl z)⟩
  · subst ee
    refine ⟨NL.keeps x.toInCall.keep, codeAny_func ?_⟩
    have I : Inv (bodyX W N qual sc f cdv A outer s H E) [] (L2.start N vs) H s1 := inv_start S1 hr.room.hd e0 lv rv x
    have rd : RoomG k (A.deeper (envOfC qual sc s.heap.objs.size f cdv)) := ⟨hr.room.deeper _, hr.gd⟩
    have C : Ct (bodyX W N qual sc f cdv A outer s H E) k := ⟨S1.nd, rfl, rd, passes_of rfl⟩
    have B := hb A outer s H E C ds F Φ Ψ hS
    have tk : Takes (bodyX W N qual sc f cdv A outer s H E) (wUp W.K P (fun e _ F' => Ψ e F')) :=
      (takes_of (X := bodyX W N qual sc f cdv A outer s H E) (E := E) rfl rfl rfl rfl).imp fun c dd σ H1 ⟨e, ρ, F1, P1, s1, hd1, _, r1, ψ⟩ => hE e c dd P1 F1 H1 s1 hd1 r1 ψ
    refine wpAny_mono (B.pss.run [] s1 (L2.start N vs) H { nx := fun _ H' => Q .non H', rt := Q } I ⟨P, tk, hd, enter_rel rp, fun σ' ρ' P' F' H' s2 hd2 _ φ => hQ .non .non P' F' H' s2 hd2 .non φ, hQ, fun _ _ _ _ _ _ _ _ z => z.elim, fun _ _ _ _ _ _ _ _ z => z.elim⟩)
      (fun fl s' hs => ?_) fun _ _ z => z
    cases fl with
    | ret u =>
      obtain ⟨v, σ', H', J, rv', q⟩ := hs
      exact ⟨v, H', J.os, J.bare, J.base, J.hok, rv', q⟩
    | next =>
      obtain ⟨σ', H', J, q⟩ := hs
      exact ⟨V.non, H', J.os, J.bare, J.base, J.hok, rfl, q⟩
    | brk =>
      obtain ⟨_, _, _, q⟩ := hs
      exact False.elim q
    | cont =>
      obtain ⟨_, _, _, q⟩ := hs
      exact False.elim q

/-! ### calls -/
section
variable {X : Cx} {Ψ : XP} {ρ : En} {F : FS}
abbrev wd (X : Cx) : Wd := ⟨X.prog, X.w, X.K, X.mg, X.base⟩
/-- a call's run, the arguments bound -/
theorem run_D {pins : List (Addr × Obj)} {σ : L2.St} {H P : Hp} {s : Shared} {k : Nat} {f : Addr} {fd : FuncData} {ps : List Str} {S : Spec} {pos : List Value} {kw : List (Str × Value)} {us : List Value} {vs : List V} {ds : List D} {Φ : D → FS → Prop} {Q : VK}
    (Fn : FnD (wd X) k f fd ps S) (hr : RoomG k X.A) (hb : BindsTo s fd ⟨pos, kw⟩ (ps.zip us)) (rv : Vals vs us) (rp : Reps X.K P ds vs) (I : Inv X pins σ H s) (tk : Takes X (wUp X.K P Ψ)) (hd : Hd X.K P F H) (en : EnvR X.K P ρ σ)
    (hS : S ds F Φ (fun e F' => Ψ e ρ F')) (q : upV X.K P Φ Q) : wpAny (model X.prog X.w) X.A (call (.ref f) pos kw) (EP X pins σ Q) X.xe s := by
  refine wpAny_call (codeAny_mono (Fn.run X.A X.stack s H ⟨pos, kw⟩ us vs Q (WE (wUp X.K P Ψ) σ) hr I.env0 hb rv ⟨P, F, ds, Φ, _, hd, rp, hS, q, fun e c dd P' F' H' s1 hd1 r1 ψ => ⟨e, ρ, F', P', s1, hd1, en.mono s1, r1, ψ⟩⟩) fun r s' hq => ?_)
  cases r with
  | error e => exact passAt tk σ pins H s e s' I hq
  | ok fl =>
    cases fl with
    | ret u => exact I.after hq
    | next => exact False.elim hq
    | brk => exact False.elim hq
    | cont => exact False.elim hq
end
/-- a def of the module with its promise -/
structure OkAt (W : Wd) (k : Nat) (x : Str) (st : Stmt) (ps : List Str) (S : Spec) (f : Addr) (fd : FuncData) : Prop where
  at_ : W.mg x = some (.ref f)
  fn : Fun W.K x x st f fd
  bi : ∀ us : List Value, us.length = ps.length → bindArgs fd ⟨us, []⟩ = pure (ps.zip us)
  ok : FnD W k f fd ps S
def Ok (W : Wd) (k : Nat) (x : Str) (st : Stmt) (ps : List Str) (S : Spec) : Prop := ∃ f fd, OkAt W k x st ps S f fd
/-- where a def stands -/
def At (W : Wd) (x : Str) (st : Stmt) : Prop := ∃ f fd, W.mg x = some (.ref f) ∧ Fun W.K x x st f fd
theorem Ok.of {W : Wd} {x : Str} {st : Stmt} {N ps : List Str} {k : Nat} {S : Spec} (a : At W x st) (sc : FnScope N ps (defScope st)) (len : ∀ ds F Φ Ψ, S ds F Φ Ψ → ds.length = ps.length)
    (hbi : ∀ (kV doc pm : Value) (an : Option Addr) (cdv ct : Value) (us : List Value), us.length = ps.length → bindArgs (PySem.W.fnOf x x (defArgs st) (defBody st) (defScope st) .none kV doc pm an cdv ct) ⟨us, []⟩ = pure (ps.zip us))
    (hb : ∀ (f : Addr) (cdv : Value) (A : Around) (outer : List Env) (s : Shared) (H : Hp) (E : XK), Ct (bodyX W N x (defScope st) f cdv A outer s H E) k → ∀ ds F Φ Ψ, S ds F Φ Ψ →
      Ess (bodyX W N x (defScope st) f cdv A outer s H E) (fun e _ F' => Ψ e F') (enter N ds) F (defBody st) { nx := fun _ F' => Φ .non F', rt := Φ }) : Ok W (k + 1) x st ps S := by
  obtain ⟨f, fd, h1, h2⟩ := a
  obtain ⟨oc, od, kV, doc, pm, an, cdv, ct, osl, rfl, lk, hcd⟩ := id h2.ex
  exact ⟨f, _, h1, h2, fun us hl => hbi kV doc pm an cdv ct us hl, FnD.of lk hcd sc len fun A outer s H E C => hb f cdv A outer s H E C⟩
theorem Ok.imp {W : Wd} {k : Nat} {x : Str} {st : Stmt} {ps : List Str} {S S' : Spec} (h : Ok W k x st ps S) (i : ∀ ds F Φ Ψ, S' ds F Φ Ψ → S ds F Φ Ψ) : Ok W k x st ps S' :=
  let ⟨f, fd, a⟩ := h
  ⟨f, fd, a.at_, a.fn, a.bi, a.ok.imp i⟩
theorem Ok.mono {W : Wd} {j k : Nat} {x : Str} {st : Stmt} {ps : List Str} {S : Spec} (h : Ok W j x st ps S) (hk : j ≤ k) : Ok W k x st ps S :=
  let ⟨f, fd, a⟩ := h
  ⟨f, fd, a.at_, a.fn, a.bi, a.ok.mono hk⟩
section
variable {X : Cx} {Ψ : XP} {ρ : En} {F : FS} {e : Expr} {es : List Expr} {x : Str} {p pos : Pos} {k : Nat} {st : Stmt} {ps : List Str} {S : Spec} {Φ : D → FS → Prop}
/-- f(e, ..) -/
theorem ev_call (h : Ok (wd X) k x st ps S) (hr : RoomG k X.A) (hg : Gl X x) (ha : Ea X Ψ ρ F (e :: es) (fun ds F1 => S ds F1 Φ (fun er F' => Ψ er ρ F'))) (hdb : (x == ("__debug__" : Str)) = false := by decide)
    (he : starEach (e :: es) X.env = (false, eval e X.env) :: starEach es X.env := by rfl) (hpl : (backTo pos (starEach es X.env)).any (·.1) = false := by rfl) : Ev X Ψ ρ F (.Call (.Name x p) (e :: es) [] pos) Φ := by
  obtain ⟨f, fd, a⟩ := h
  refine ⟨⟨fun pins s σ H Q I ⟨P, tk, hd, en, q⟩ => ?_⟩⟩
  refine wpAny_Call_Name_kw (ld_glob I hg a.at_ ?_ hdb)
  refine PySem.W.callWith_K (h₀ := X.base) I.ok.mod.kin a.fn.kp (thn (ha.pa.run pos pins s σ H (fun vs H1 => ∃ P1 F1 ds, Same P P1 ∧ Hd X.K P1 F1 H1 ∧ Reps X.K P1 ds vs ∧ S ds F1 Φ (fun er F' => Ψ er ρ F')) I ⟨P, tk, hd, en, fun vs ds P1 F1 H1 s1 hd1 rp φ => ⟨P1, F1, ds, s1, hd1, rp, φ⟩⟩)
    fun us s1 ⟨vs, H1, I1, r, P1, F1, ds, ss, hd1, rp, φ⟩ => ⟨I1.kIn, ?_⟩) he hpl
  exact run_D a.ok hr (.of_eq (a.bi us (by rw [← r.length, ← Paired.length rp]; exact a.ok.len _ _ _ _ φ))) r rp I1 (takes_mono ss tk) hd1 (en.mono ss) φ (upV.mono (P := P) q ss)
/-- f() -/
theorem ev_call0 (h : Ok (wd X) k x st ps S) (hr : RoomG k X.A) (hg : Gl X x) (ha : S [] F Φ (fun er F' => Ψ er ρ F')) (hdb : (x == ("__debug__" : Str)) = false := by decide) : Ev X Ψ ρ F (.Call (.Name x p) [] [] pos) Φ := by
  obtain ⟨f, fd, a⟩ := h
  refine ⟨⟨fun pins s σ H Q I ⟨P, tk, hd, en, q⟩ => ?_⟩⟩
  refine wpAny_Call_Name_kw (ld_glob I hg a.at_ ?_ hdb)
  exact PySem.W.callWith_K0 I.kIn a.fn.kp (run_D (us := []) a.ok hr (.of_eq (a.bi [] (a.ok.len _ _ _ _ ha))) .nil .nil I tk hd en ha q)
/-- the values of keywords -/
structure Ek (X : Cx) (Ψ : XP) (ρ : En) (F : FS) (kws : List Keyword) (Φ : List D → FS → Prop) : Prop where
  pk : PK X kws (tAr X Ψ ρ F Φ)
theorem pk_weak {kws : List Keyword} {t t' : TA} (h : PK X kws t) (w : ∀ σ H Q, t' σ H Q → t σ H Q) : PK X kws t' := ⟨fun p pins s σ H Q I q => h.run p pins s σ H Q I (w _ _ _ q)⟩
theorem pk_fam {kws : List Keyword} {ι : Type} {t : ι → TA} (h : ∀ i, PK X kws (t i)) : PK X kws (fun σ H Q => ∃ i, t i σ H Q) := ⟨fun p pins s σ H Q I ⟨i, q⟩ => (h i).run p pins s σ H Q I q⟩
theorem ek_nil {Φ : List D → FS → Prop} (k : Φ [] F) : Ek X Ψ ρ F [] Φ :=
  ⟨pk_weak pk_nil fun σ H Q ⟨P, tk, hd, en, q⟩ => q [] [] P F H (Same.refl P) hd .nil k⟩
theorem ek_cons {nm : Option Str} {kpos : Pos} {kws : List Keyword} {Φ : List D → FS → Prop} (h : Ev X Ψ ρ F e (fun x F1 => Ek X Ψ ρ F1 kws (fun xs F2 => Φ (x :: xs) F2))) : Ek X Ψ ρ F (⟨nm, e, kpos⟩ :: kws) Φ :=
  ⟨pk_weak (pk_cons h.pe (pk_fam (ι := Ix fun x F1 => Ek X Ψ ρ F1 kws (fun xs F2 => Φ (x :: xs) F2)) fun i => i.2.pk)) fun σ H Q ⟨P, tk, hd, en, k⟩ => ⟨P, tk, hd, en, fun v d P1 F1 H1 s1 hd1 rp φ =>
    ⟨⟨(d, F1), φ⟩, P1, takes_mono s1 tk, hd1, en.mono s1, fun v2 d2 P2 F2 H2 s2 hd2 rp2 φ2 => k (v :: v2) (d :: d2) P2 F2 H2 (Same.trans s1 s2) hd2 (.cons (rp.mono s2) rp2) φ2⟩⟩⟩
/-- a rearrangement of a list's items -/
structure Perms (g : {α : Type} → List α → List α) : Prop where
  rel : ∀ {K : PySem.W.Frag} {P : Hp} {ds : List D} {vs : List V}, Reps K P ds vs → Reps K P (g ds) (g vs)
  val : ∀ {vs : List V} {us : List Value}, Vals vs us → Vals (g vs) (g us)
/-- f(k = v, ..), by names alone -/
theorem ev_callK {kws : List Keyword} {ks : List Str} (g : {α : Type} → List α → List α) (pg : Perms g) (h : Ok (wd X) k x st ps S) (hr : RoomG k X.A) (hg : Gl X x)
    (hb : ∀ (kV doc pm : Value) (an : Option Addr) (cdv ct : Value) (us : List Value), us.length = ks.length → bindArgs (PySem.W.fnOf x x (defArgs st) (defBody st) (defScope st) .none kV doc pm an cdv ct) ⟨[], ks.zip us⟩ = pure (ps.zip (g us)))
    (ha : Ek X Ψ ρ F kws (fun ds F1 => ds.length = ks.length ∧ S (g ds) F1 Φ (fun er F' => Ψ er ρ F')))
    (hall : (backToKw pos (keywordEach kws X.env)).all (·.1.isSome) = true := by rfl) (hks : (backToKw pos (keywordEach kws X.env)).filterMap (·.1) = ks := by rfl) (hdb : (x == ("__debug__" : Str)) = false := by decide)
    (hpl : ((backTo pos (starEach [] X.env)).any (·.1) || (backToKw pos (keywordEach kws X.env)).any (·.1.isNone)) = false := by rfl) : Ev X Ψ ρ F (.Call (.Name x p) [] kws pos) Φ := by
  obtain ⟨f, fd, a⟩ := h
  obtain ⟨oc, od, kV, doc, pm, an, cdv, ct, osl, rfl, lk, hcd⟩ := id a.fn.ex
  refine ⟨⟨fun pins s σ H Q I ⟨P, tk, hd, en, q⟩ => ?_⟩⟩
  refine wpAny_Call_Name_kw (ld_glob I hg a.at_ ?_ hdb)
  refine PySem.W.callWith_KW0 (h₀ := X.base) I.ok.mod.kin a.fn.kp hall ?_ hpl
  refine thn (ha.pk.run pos pins s σ H (fun vs H1 => ∃ P1 F1 ds, Same P P1 ∧ Hd X.K P1 F1 H1 ∧ Reps X.K P1 ds vs ∧ ds.length = ks.length ∧ S (g ds) F1 Φ (fun er F' => Ψ er ρ F')) I ⟨P, tk, hd, en, fun vs ds P1 F1 H1 s1 hd1 rp φ => ⟨P1, F1, ds, s1, hd1, rp, φ⟩⟩)
    fun us s1 ⟨vs, H1, I1, r, P1, F1, ds, ss, hd1, rp, hl, φ⟩ => ⟨I1.kIn, ?_⟩
  rw [hks]
  exact run_D a.ok hr (.of_eq (hb kV doc pm an cdv ct us (by rw [← r.length, ← Paired.length rp]; exact hl))) (pg.val r) (pg.rel rp) I1 (takes_mono ss tk) hd1 (en.mono ss) φ (upV.mono (P := P) q ss)
end

/-! ### the end -/
def noH : Hp := fun _ => none
theorem noH_no {b : Addr} {u : HO} : ¬ noH b = some u := fun z => by cases z
def oneH (a : Addr) (o : HO) : Hp := fun b => if b = a then some o else none
theorem oneH_at {a : Addr} {o : HO} : oneH a o a = some o := if_pos rfl
theorem oneH_no {a b : Addr} {o : HO} (h : b ≠ a) : oneH a o b = none := if_neg h
theorem oneH_of {a b : Addr} {o u : HO} (h : oneH a o b = some u) : b = a ∧ u = o := by
  by_cases e : b = a
  · subst e
    rw [oneH_at] at h
    exact ⟨rfl, (Option.some.inj h).symm⟩
  · rw [oneH_no e] at h
    cases h
/-- the law's def at the heap behind the top -/
theorem end_call {W : World → Wd} {P : Program} {w : World} {mb : Str → Option Value} {k : Nat} {fa a : Addr} {fd : FuncData} {x : Str} {S : Spec} {s : Shared} {us : List Value} {ns : List Int} {K : PySem.W.Frag} {mg : Str → Option Value}
    (KX : K.In s.heap) (hns : s.heap.Ns mainGlobals mg) (hb : s.heap.Ns builtinsNs mb) (hbb : ∀ x : Str, x ≠ "__name__" → mb x = bootBuiltins x) (hlim : s.heap.NoLimit) (hg : s.gens = #[])
    (ha : s.heap.get? a = some { cls := .type "list", data := .seq us.toArray }) (hi : IntsAre us ns) (hl : ns.length ≤ sizeLine) (hr : Room k callerA)
    (Fn : ∀ base : Heap, K.In base → base.Ns mainGlobals mg → FnD ⟨P, w, K, mg, base⟩ k fa fd [x] S) (hbind : ∀ (s : Shared) (u : Value), BindsTo s fd ⟨[u], []⟩ [(x, u)])
    (hS : S [.scr ns] (fun _ => none) (fun d _ => d = .bl true) (fun _ _ => False)) :
    codeAny (model P w) callerA (.call (.ref fa) ⟨[.ref a], []⟩) (fun r s' => r = .ok (.ret (.bool true)) ∧ OldK s.heap s'.heap ∧ s'.os = s.os ∧ AllBare s'.gens) s := by
  have rv : Vals (ns.map V.int) us := vals_ints hi
  -- the abstract heap: nothing but the script, if it is not the module's own
  obtain ⟨H, hO, hq, hok, hA, hK⟩ : ∃ H : Hp, (∀ b u, H b = some u → b = a ∧ ∃ o xs, u = .frz o (.lst xs)) ∧ SqL K H a (ns.map V.int) ∧ HOk P w H s.heap ∧ (∀ b o, s.heap.get? b = some o → (∃ es ep, o.data = .dict es ep) → H b = none) ∧ ∀ b o, K.lookup b = some o → H b = none := by
    cases hk : K.lookup a with
    | some o =>
      have e := KX a o hk
      rw [ha] at e
      cases e
      refine ⟨noH, fun b u z => absurd z noH_no, .inr ⟨_, us.toArray, _, hk, rfl, rfl, rfl, by rw [List.size_toArray, hi.length]; exact hl, by simpa using rv⟩, fun b u z => absurd z noH_no, fun _ _ _ _ => rfl, fun _ _ _ => rfl⟩
    | none =>
      refine ⟨oneH a (.frz { cls := .type "list", data := .seq us.toArray } (.lst (ns.map V.int))), fun b u z => ?_, .inl (.inr ⟨_, oneH_at⟩), fun b u z => ?_, fun b o e z => ?_, fun b o e => ?_⟩
      · obtain ⟨h1, h2⟩ := oneH_of z
        exact ⟨h1, _, _, h2⟩
      · obtain ⟨h1, h2⟩ := oneH_of z
        subst h1 h2
        exact ⟨ha, by rw [List.length_map]; exact hl, us, _, rv, ha⟩
      · refine oneH_no fun hb2 => ?_
        subst hb2
        rw [ha] at e
        cases e
        obtain ⟨es, ep, z⟩ := z
        cases z
      · refine oneH_no fun hb2 => ?_
        subst hb2
        rw [hk] at e
        cases e
  have nsK : ∀ {b : Addr} {m : Str → Option Value}, s.heap.Ns b m → (hidT s.heap H).Ns b m := fun {b m} ⟨o, es, ep, e, d, r⟩ => ⟨o, es, ep, hidT_get e (hA b o e ⟨es, ep, d⟩), d, r⟩
  have hKb : K.In (hidT s.heap H) := fun b o e => hidT_get (KX b o e) (hK b o e)
  obtain ⟨ml, l1, l2⟩ := hlim
  have hM : Mod K mg (hidT s.heap H) := ⟨hKb, nsK hns, ⟨mb, nsK hb, hbb⟩, ⟨ml, nsK l1, l2⟩⟩
  have e0 : Env0 P w K mg (hidT s.heap H) callerA [] s H := ⟨rfl, hM, fun b o e => of_hidT e, Nat.le_of_eq (hidT_size _ _), trivial, (fun b hb => absurd hb (by simp [frs])), hok, .of_eq hg⟩
  refine codeAny_mono ((Fn _ hKb (nsK hns)).run callerA [] s H ⟨[.ref a], []⟩ [.ref a] [.ref a] (fun v _ => v = .bl true) (fun _ _ _ => False) ⟨hr, rfl⟩ e0 (hbind s (.ref a)) (.cons rfl .nil)
    ⟨H, fun _ => none, _, _, _, ⟨Same.refl H, (fun _ _ z => nomatch z)⟩, .cons (.scr hq) .nil, hS, fun v d P' F' H' _ _ r e => by
      subst e
      cases r
      rfl, fun _ _ _ _ _ _ _ _ _ z => z⟩) fun r s' h => ?_
  cases r with
  | error e =>
    obtain ⟨_, _, _, _, _, _, _, _, _, _, _, _, z⟩ := h
    exact z.elim
  | ok fl =>
    cases fl with
    | ret u =>
      obtain ⟨v, H', os, bare, un, hok', r', q⟩ := h
      subst q
      obtain rfl : u = Value.bool true := r'
      refine ⟨rfl, OldK.of_keep fun b o e => ?_, os, bare⟩
      cases z : H b with
      | none => exact un.keep b o e z (fun y => nomatch y) (fun y => nomatch y)
      | some t =>
        obtain ⟨rfl, ob, xs, rfl⟩ := hO b t z
        obtain ⟨e2, _⟩ := hok' _ _ (un.frzs _ _ _ z)
        obtain ⟨e1, _⟩ := hok _ _ z
        rw [e] at e1
        cases e1
        exact e2
    | next => exact False.elim h
    | brk => exact False.elim h
    | cont => exact False.elim h
theorem end_walk {l : PySem.W.OpenLaw} {n k : Nat} {q : Program} {loose : List Str} {XP : (Str → Option Value) → Heap → Prop} {YP : World → Heap → Prop} {d : DefRec} {K : Params → PySem.W.Frag} {S : Spec} {x : Str} {st : Stmt}
    (hn : l.most = some n) (hn2 : n ≤ sizeLine) (hdf : d.params.defaults = []) (hr : Room k callerA) (hY : ∀ (w : World) (h : Heap), YP w h → (K w.params).In h)
    (Fn : ∀ (w : World) (mg : Str → Option Value) (fa : Addr) (h : Heap), (K w.params).In h → h.Ns mainGlobals mg → mg d.name = some (.ref fa) →
      ∃ fd : FuncData, (∀ (s : Shared) (u : Value), BindsTo s fd ⟨[u], []⟩ [(x, u)]) ∧ ∀ base : Heap, (K w.params).In base → base.Ns mainGlobals mg → FnD ⟨l.prog, w, K w.params, mg, base⟩ k fa fd [x] S)
    (hS : ∀ ns : List Int, ns.length ≤ n → S [.scr ns] (fun _ => none) (fun d _ => d = .bl true) (fun _ _ => False)) :
    PySem.W.WalkO q loose XP YP l.row.toRowW d [] (fun f vs => PySem.call f vs) := by
  refine Att.attach_call hn hdf fun w s0 s1 mg mb fa o pm cd doc a us ns G Y ho hd hcd hmg hobj hints hlen hg => ?_
  obtain ⟨fd, hb, hF⟩ := Fn w mg fa _ (hY w _ Y) G.T.g hmg
  exact end_call (W := fun w => ⟨l.prog, w, K w.params, mg, s1.heap⟩) (hY w _ Y) G.T.g G.T.b G.T.builtins G.T.nolimit hg hobj hints (Nat.le_trans hlen hn2) hr hF hb (hS ns hlen)
end TM

set_option Elab.async false
set_option linter.all false
set_option maxRecDepth 100000
set_option maxHeartbeats 4000000
/-! The data layer: operators, items, slices, built-in functions and methods. -/
namespace TM
open PySem PySem.Spec PyProof.Rows L2
section
variable {X : Cx} {Ψ : XP} {ρ : En} {F : FS} {e a b c : Expr} {es : List Expr} {pos : Pos}

/-! ### + -/
theorem op_catL : OpR X (binaryOp .Add) (fun x y H Q => ∃ l m xs zs, x = .ref l ∧ y = .ref m ∧ SqL X.K H l xs ∧ SqL X.K H m zs ∧ xs.length + zs.length ≤ sizeLine ∧ ∀ p, H p = none → Q (.ref p) (upd H p (.lst (xs ++ zs)))) := by
  intro pins s σ H x y v u Q I rx ry h
  obtain ⟨l, m, xs, zs, rfl, rfl, h1, h2, hz, q⟩ := h
  cases rx
  cases ry
  obtain ⟨i1, r1, ⟨⟨c1, d1, t1, s1⟩, n1, g1, e1, e2, e3⟩, _⟩ := I.list h1
  obtain ⟨i2, r2, ⟨⟨c2, d2, t2, s2⟩, n2, g2, f1, f2, f3⟩, _⟩ := I.list h2
  simp only at e1 e3 f1 f3
  subst e1 e3 f1 f3
  have l1 := r1.length
  have l2 := r2.length
  have ea : i1.toArray ++ i2.toArray = (i1 ++ i2).toArray := by simp
  refine concat_meets ⟨_, g1, rfl⟩ ⟨_, g2, rfl⟩ noFill_list_add seq_list_add PySem.F.slot_list_add PySem.F.entry_list_add (PySem.F.args_list_add_2 _ _) (list_addW l m i1.toArray i2.toArray n1 n2 d1 d2 s1 s2 (by simp only [List.size_toArray]; omega)) ⟨g1, g2, ?_⟩
  rw [ea]
  exact ⟨.ref _, _, I.lnew (t' := s.toks) (r1.append r2) (by rw [List.length_append]; exact hz), rfl, q _ I.fresh⟩
def AddD (x y : D) (Φ : D → Prop) : Prop := match x, y with
  | .int i, .int j => Φ (.int (i + j))
  | .str i, .str j => i.length + j.length ≤ sizeLine ∧ Φ (.str (i ++ j))
  | .lst i, .lst j => i.length + j.length ≤ sizeLine ∧ Φ (.lst (i ++ j))
  | _, _ => False
theorem ev_add {Φ : D → FS → Prop} (h : Ev X Ψ ρ F a (fun x F1 => Ev X Ψ ρ F1 b (fun y F2 => AddD x y fun d => Φ d F2))) : Ev X Ψ ρ F (.BinOp a .Add b pos) Φ := by
  refine ev_op (op_add.or (op_add_str.or op_catL)) (h.mono fun x F1 h1 => h1.mono fun y F2 h2 P σ H u v Q tk hd en r1 r2 q => ?_)
  cases r1 with
  | int i =>
    cases r2 with
    | int j => exact .inl ⟨i, j, rfl, rfl, q _ _ P F2 H (Same.refl P) hd (.int _) h2⟩
    | _ => exact False.elim h2
  | str i =>
    cases r2 with
    | str j => exact .inr (.inl ⟨i, j, rfl, rfl, h2.1, q _ _ P F2 H (Same.refl P) hd (.str _) h2.2⟩)
    | _ => exact False.elim h2
  | @lst ds ad vs hq rr =>
    cases r2 with
    | @lst ds2 ad2 vs2 hq2 rr2 =>
      refine .inr (.inr ⟨_, _, _, _, rfl, rfl, SqL.of (hd.pure _ _ hq), SqL.of (hd.pure _ _ hq2), by rw [← Paired.length rr, ← Paired.length rr2]; exact h2.1, fun p hp => ?_⟩)
      obtain ⟨z1, z2⟩ := hd.new hp (.lst (vs ++ vs2))
      exact q _ _ _ _ _ z1 z2 (.lst upd_same (Reps.mono z1 (Reps.append rr rr2))) h2.2
    | _ => exact False.elim h2
  | _ => exact False.elim h2

/-! ### whole numbers -/
def IntD (x : D) (Φ : Int → Prop) : Prop := match x with
  | .int i => Φ i
  | _ => False
theorem ev_arith {op : Operator} {C : Int → Int → Prop} {g : Int → Int → Int} {Φ : D → FS → Prop} (ho : OpR X (binaryOp op) (rI C fun i j => .int (g i j)))
    (h : Ev X Ψ ρ F a (fun x F1 => Ev X Ψ ρ F1 b (fun y F2 => IntD x fun i => IntD y fun j => C i j ∧ Φ (.int (g i j)) F2))) : Ev X Ψ ρ F (.BinOp a op b pos) Φ :=
  ev_op ho (h.mono fun x F1 h1 => h1.mono fun y F2 h2 P σ H u v Q tk hd en r1 r2 q => by
    cases r1 with
    | int i =>
      cases r2 with
      | int j => exact ⟨i, j, rfl, rfl, h2.1, q _ _ P F2 H (Same.refl P) hd (.int _) h2.2⟩
      | _ => exact False.elim h2
    | _ => exact False.elim h2)
theorem ev_arith0 {op : Operator} {g : Int → Int → Int} {Φ : D → FS → Prop} (ho : OpR X (binaryOp op) (rI0 fun i j => .int (g i j)))
    (h : Ev X Ψ ρ F a (fun x F1 => Ev X Ψ ρ F1 b (fun y F2 => IntD x fun i => IntD y fun j => Φ (.int (g i j)) F2))) : Ev X Ψ ρ F (.BinOp a op b pos) Φ :=
  ev_op ho (h.mono fun x F1 h1 => h1.mono fun y F2 h2 P σ H u v Q tk hd en r1 r2 q => by
    cases r1 with
    | int i =>
      cases r2 with
      | int j => exact ⟨i, j, rfl, rfl, q _ _ P F2 H (Same.refl P) hd (.int _) h2⟩
      | _ => exact False.elim h2
    | _ => exact False.elim h2)
theorem ev_sub {Φ : D → FS → Prop} (h : Ev X Ψ ρ F a (fun x F1 => Ev X Ψ ρ F1 b (fun y F2 => IntD x fun i => IntD y fun j => Φ (.int (i - j)) F2))) : Ev X Ψ ρ F (.BinOp a .Sub b pos) Φ := ev_arith0 op_sub h
theorem ev_mod {Φ : D → FS → Prop} (h : Ev X Ψ ρ F a (fun x F1 => Ev X Ψ ρ F1 b (fun y F2 => IntD x fun i => IntD y fun j => 0 < j ∧ Φ (.int (i % j)) F2))) : Ev X Ψ ρ F (.BinOp a .Mod b pos) Φ := ev_arith (C := fun _ j => 0 < j) op_mod h
theorem ev_fdiv {Φ : D → FS → Prop} (h : Ev X Ψ ρ F a (fun x F1 => Ev X Ψ ρ F1 b (fun y F2 => IntD x fun i => IntD y fun j => CDiv i j ∧ Φ (.int (i / j)) F2))) : Ev X Ψ ρ F (.BinOp a .FloorDiv b pos) Φ := ev_arith op_fdiv h
theorem ev_fdivW {Φ : D → FS → Prop} (h : Ev X Ψ ρ F a (fun x F1 => Ev X Ψ ρ F1 b (fun y F2 => IntD x fun i => IntD y fun j => CDivW i j ∧ Φ (.int (i / j)) F2))) : Ev X Ψ ρ F (.BinOp a .FloorDiv b pos) Φ := ev_arith op_fdivW h
/-- powers: of at most a million bits -/
def CPowW (i j : Int) : Prop := 0 ≤ j ∧ j ≤ 1000 ∧ i.natAbs.log2 < 100000
theorem op_powW : OpR X (binaryOp .Pow) (rI CPowW fun i j => .int (i ^ j.toNat)) := by
  intro pins s σ H x y v u Q I rx ry h
  obtain ⟨i, j, rfl, rfl, ⟨h1, h2, h3⟩, q⟩ := h
  obtain ⟨t, rfl⟩ := rx
  obtain ⟨t', rfl⟩ := ry
  have fin : ∀ z : Int, z = i ^ j.toNat → (Made.int z).post (EP X pins σ Q) s := fun z ez => by
    subst ez
    exact ⟨.int _, H, I.tok _, ⟨_, rfl⟩, q⟩
  by_cases c0 : j = 0
  · subst c0
    exact AutoIntOps.pow_0 h1 rfl (fin 1 (by simp))
  · have n0 : ¬ (j == 0) = true := by simpa using c0
    have hn : j.toNat ≠ 0 := by omega
    by_cases c1 : i = 0 ∨ i = 1
    · refine AutoIntOps.pow_1 h1 n0 (by simpa using c1) (fin i ?_)
      rcases c1 with rfl | rfl
      · rw [Int.zero_pow hn]
      · rw [Int.one_pow]
    · have n1 : ¬ (i == 0 || i == 1) = true := by simpa using c1
      by_cases c2 : i = -1
      · subst c2
        refine AutoIntOps.pow_2 h1 n0 n1 rfl (fin _ ?_)
        by_cases ev : j % 2 = 0
        · have e2 : (j % 2 == 0) = true := by simpa using ev
          rw [if_pos e2]
          obtain ⟨m, hm⟩ : ∃ m : Nat, j.toNat = 2 * m := ⟨j.toNat / 2, by omega⟩
          rw [hm, Int.pow_mul]
          simp [Int.one_pow]
        · have e2 : ¬ (j % 2 == 0) = true := by simpa using ev
          rw [if_neg e2]
          obtain ⟨m, hm⟩ : ∃ m : Nat, j.toNat = 2 * m + 1 := ⟨j.toNat / 2, by omega⟩
          rw [hm, Int.pow_add, Int.pow_mul]
          simp [Int.one_pow]
      · refine AutoIntOps.pow_4 h1 n0 n1 (by simpa using c2) ?_ (fin _ rfl)
        have eb : bitsLine = 134217728 := by decide
        have hb : Builtin.Int.intBits i ≤ 100000 := by
          unfold Builtin.Int.intBits
          split <;> omega
        unfold Builtin.Int.intTooBig
        rw [eb]
        have h5 : ((Builtin.Int.intBits i : Nat) : Int) * j ≤ 100000 * 1000 := Int.mul_le_mul (by omega) h2 h1 (by omega)
        simp only [decide_eq_true_eq]
        omega
theorem ev_pow {Φ : D → FS → Prop} (h : Ev X Ψ ρ F a (fun x F1 => Ev X Ψ ρ F1 b (fun y F2 => IntD x fun i => IntD y fun j => CPowW i j ∧ Φ (.int (i ^ j.toNat)) F2))) : Ev X Ψ ρ F (.BinOp a .Pow b pos) Φ := ev_arith op_powW h
/-- text * int -/
def repS (z : Str) (n : Nat) : Str := ⟨(List.replicate n z.cps.toList).flatten.toArray⟩
theorem foldl_cps (z : List Nat) : ∀ (n : Nat) (acc : List Nat), (List.replicate n z.toArray).foldl (fun x y => x ++ y) acc.toArray = (acc ++ (List.replicate n z).flatten).toArray
  | 0, acc => by simp
  | n + 1, acc => by
    rw [List.replicate_succ, List.foldl_cons, List.replicate_succ, List.flatten_cons, ← List.append_assoc, ← foldl_cps z n (acc ++ z)]
    simp
theorem op_mulS : OpR X (binaryOp .Mult) (fun x y H Q => ∃ z n, x = .str z ∧ y = .int n ∧ 0 ≤ n ∧ n ≤ 10000 ∧ z.length ≤ 1000 ∧ Q (.str (repS z n.toNat)) H) := by
  intro pins s σ H x y v u Q I rx ry h
  obtain ⟨z, n, rfl, rfl, h0, h1, hz, q⟩ := h
  obtain ⟨t, rfl⟩ := rx
  obtain ⟨t', rfl⟩ := ry
  have hn : n < 2 ^ 63 := by omega
  refine P.mul_str ?_ (fun g1 _ => ?_) (fun g1 _ => ?_) ?_
  · rw [decide_eq_false (by omega), decide_eq_false (by omega)]
    rfl
  · have h3 : (1000 : Int) ≤ (2 ^ 63 - 1) / n := by
      rw [Int.le_ediv_iff_mul_le (by omega)]
      omega
    omega
  · unfold Builtin.Str.tooLong
    have e : sizeLine = 16777216 := sizeLine_eq
    have h4 : z.length * n.toNat ≤ 1000 * 10000 := Nat.mul_le_mul hz (by omega)
    exact decide_eq_false (by omega)
  · by_cases g : n < 1
    · rw [if_pos g]
      have e : n.toNat = 0 := by omega
      rw [e] at q
      exact ⟨by decide, .str Str.empty, H, I.tok _, ⟨_, rfl⟩, q⟩
    · rw [if_neg g]
      by_cases g2 : (n == 1 || z.length == 0) = true
      · rw [if_pos g2]
        refine ⟨.str z, H, I, ⟨_, rfl⟩, ?_⟩
        have e : repS z n.toNat = z := by
          simp only [Bool.or_eq_true, beq_iff_eq] at g2
          unfold repS
          rcases g2 with g2 | g2
          · subst g2
            obtain ⟨zc⟩ := z
            simp
          · obtain ⟨zc⟩ := z
            have e0 : zc = #[] := by
              have : zc.size = 0 := g2
              exact Array.eq_empty_of_size_eq_zero this
            subst e0
            simp
        rw [e] at q
        exact q
      · rw [if_neg g2]
        have e : (⟨(List.replicate n.toNat z.cps).foldl (· ++ ·) #[]⟩ : Str) = repS z n.toNat := by
          unfold repS
          have := foldl_cps z.cps.toList n.toNat []
          simp only [Array.toArray_toList, List.nil_append] at this
          rw [show (#[] : Array Nat) = ([] : List Nat).toArray from rfl, this]
        rw [e]
        have hsz : (repS z n.toNat).length ≤ sizeLine := by
          have es : sizeLine = 16777216 := sizeLine_eq
          have h4 : z.length * n.toNat ≤ 1000 * 10000 := Nat.mul_le_mul hz (by omega)
          have e5 : (repS z n.toNat).length = n.toNat * z.length := by
            unfold repS Str.length
            simp
          rw [e5, Nat.mul_comm]
          omega
        exact ⟨hsz, .str _, H, I.tok _, ⟨_, rfl⟩, q⟩
def MulD (x y : D) (Φ : D → Prop) : Prop := match x, y with
  | .int i, .int j => CMulW i j ∧ Φ (.int (i * j))
  | .str z, .int n => 0 ≤ n ∧ n ≤ 10000 ∧ z.length ≤ 1000 ∧ Φ (.str (repS z n.toNat))
  | _, _ => False
theorem ev_mul {Φ : D → FS → Prop} (h : Ev X Ψ ρ F a (fun x F1 => Ev X Ψ ρ F1 b (fun y F2 => MulD x y fun d => Φ d F2))) : Ev X Ψ ρ F (.BinOp a .Mult b pos) Φ := by
  refine ev_op (op_mulW.or op_mulS) (h.mono fun x F1 h1 => h1.mono fun y F2 h2 P σ H u v Q tk hd en r1 r2 q => ?_)
  cases r1 with
  | int i =>
    cases r2 with
    | int j => exact .inl ⟨i, j, rfl, rfl, h2.1, q _ _ P F2 H (Same.refl P) hd (.int _) h2.2⟩
    | _ => exact False.elim h2
  | str i =>
    cases r2 with
    | int j => exact .inr ⟨i, j, rfl, rfl, h2.1, h2.2.1, h2.2.2.1, q _ _ P F2 H (Same.refl P) hd (.str _) h2.2.2.2⟩
    | _ => exact False.elim h2
  | _ => exact False.elim h2

/-! ### the order of ints and of texts -/
def ltS (i j : Str) : Bool := decide (i.cps.toList < j.cps.toList)
def LtD (x y : D) (Φ : Bool → Prop) : Prop := match x, y with
  | .int i, .int j => Φ (decide (i < j))
  | .str i, .str j => Φ (ltS i j)
  | _, _ => False
def LeD (x y : D) (Φ : Bool → Prop) : Prop := match x, y with
  | .int i, .int j => Φ (decide (i ≤ j))
  | .str i, .str j => Φ (!ltS j i)
  | _, _ => False
def rOrd (ri : Int → Int → Bool) (rs : Str → Str → Bool) : R2 := fun x y H Q => (∃ i j, x = .int i ∧ y = .int j ∧ Q (.bl (ri i j)) H) ∨ ∃ i j, x = .str i ∧ y = .str j ∧ Q (.bl (rs i j)) H
theorem ord_lt : OpR X (compareOp .Lt) (rOrd (fun i j => decide (i < j)) ltS) := op_lt.or op_lt_str
theorem ord_le : OpR X (compareOp .LtE) (rOrd (fun i j => decide (i ≤ j)) (fun i j => !ltS j i)) := op_le.or op_le_str
theorem ord_gt : OpR X (compareOp .Gt) (rOrd (fun i j => decide (j < i)) (fun i j => ltS j i)) := op_gt.or op_gt_str
theorem ord_ge : OpR X (compareOp .GtE) (rOrd (fun i j => decide (j ≤ i)) (fun i j => !ltS i j)) := op_ge.or op_ge_str
def OrdD (ri : Int → Int → Bool) (rs : Str → Str → Bool) (x y : D) (Φ : Bool → Prop) : Prop := match x, y with
  | .int i, .int j => Φ (ri i j)
  | .str i, .str j => Φ (rs i j)
  | _, _ => False
theorem ord_lift {ri : Int → Int → Bool} {rs : Str → Str → Bool} {x y : D} {Φ : D → FS → Prop} (h : OrdD ri rs x y fun k => Φ (.bl k) F) : LL2 X Ψ ρ (fun _ => rOrd ri rs) x y F Φ := fun P σ H u v Q tk hd en r1 r2 q => by
  cases r1 with
  | int i =>
    cases r2 with
    | int j => exact .inl ⟨i, j, rfl, rfl, q _ _ P F H (Same.refl P) hd (.bl _) h⟩
    | _ => exact False.elim h
  | str i =>
    cases r2 with
    | str j => exact .inr ⟨i, j, rfl, rfl, q _ _ P F H (Same.refl P) hd (.bl _) h⟩
    | _ => exact False.elim h
  | _ => exact False.elim h
theorem ev_ord {op : CmpOp} {ri : Int → Int → Bool} {rs : Str → Str → Bool} {Φ : D → FS → Prop} (ho : OpR X (compareOp op) (rOrd ri rs)) (hm : behindInMarks op b = false) (h : Ev X Ψ ρ F a (fun x F1 => Ev X Ψ ρ F1 b (fun y F2 => OrdD ri rs x y fun k => Φ (.bl k) F2))) : Ev X Ψ ρ F (.Compare a [op] [b] pos) Φ :=
  ev_cmp ho hm (h.mono fun x F1 h1 => h1.mono fun y F2 h2 => ord_lift h2)
theorem et_ord {op : CmpOp} {ri : Int → Int → Bool} {rs : Str → Str → Bool} {Φ : Bool → FS → Prop} (ho : OpR X (compareOp op) (rOrd ri rs)) (hm : behindInMarks op b = false) (h : Ev X Ψ ρ F a (fun x F1 => Ev X Ψ ρ F1 b (fun y F2 => OrdD ri rs x y fun k => Φ k F2))) : Et X Ψ ρ F (.Compare a [op] [b] pos) Φ :=
  et_cmpR ho hm (h.mono fun x F1 h1 => h1.mono fun y F2 h2 => ord_lift (Φ := fun d F3 => BlD d fun k => Φ k F3) h2)
theorem ev_lt {Φ : D → FS → Prop} (h : Ev X Ψ ρ F a (fun x F1 => Ev X Ψ ρ F1 b (fun y F2 => OrdD (fun i j => decide (i < j)) ltS x y fun k => Φ (.bl k) F2))) : Ev X Ψ ρ F (.Compare a [.Lt] [b] pos) Φ := ev_ord ord_lt (nomark _) h
theorem ev_le {Φ : D → FS → Prop} (h : Ev X Ψ ρ F a (fun x F1 => Ev X Ψ ρ F1 b (fun y F2 => OrdD (fun i j => decide (i ≤ j)) (fun i j => !ltS j i) x y fun k => Φ (.bl k) F2))) : Ev X Ψ ρ F (.Compare a [.LtE] [b] pos) Φ := ev_ord ord_le (nomark _) h
theorem ev_gt {Φ : D → FS → Prop} (h : Ev X Ψ ρ F a (fun x F1 => Ev X Ψ ρ F1 b (fun y F2 => OrdD (fun i j => decide (j < i)) (fun i j => ltS j i) x y fun k => Φ (.bl k) F2))) : Ev X Ψ ρ F (.Compare a [.Gt] [b] pos) Φ := ev_ord ord_gt (nomark _) h
theorem ev_ge {Φ : D → FS → Prop} (h : Ev X Ψ ρ F a (fun x F1 => Ev X Ψ ρ F1 b (fun y F2 => OrdD (fun i j => decide (j ≤ i)) (fun i j => !ltS i j) x y fun k => Φ (.bl k) F2))) : Ev X Ψ ρ F (.Compare a [.GtE] [b] pos) Φ := ev_ord ord_ge (nomark _) h
theorem et_lt {Φ : Bool → FS → Prop} (h : Ev X Ψ ρ F a (fun x F1 => Ev X Ψ ρ F1 b (fun y F2 => OrdD (fun i j => decide (i < j)) ltS x y fun k => Φ k F2))) : Et X Ψ ρ F (.Compare a [.Lt] [b] pos) Φ := et_ord ord_lt (nomark _) h
theorem et_le {Φ : Bool → FS → Prop} (h : Ev X Ψ ρ F a (fun x F1 => Ev X Ψ ρ F1 b (fun y F2 => OrdD (fun i j => decide (i ≤ j)) (fun i j => !ltS j i) x y fun k => Φ k F2))) : Et X Ψ ρ F (.Compare a [.LtE] [b] pos) Φ := et_ord ord_le (nomark _) h
theorem et_gt {Φ : Bool → FS → Prop} (h : Ev X Ψ ρ F a (fun x F1 => Ev X Ψ ρ F1 b (fun y F2 => OrdD (fun i j => decide (j < i)) (fun i j => ltS j i) x y fun k => Φ k F2))) : Et X Ψ ρ F (.Compare a [.Gt] [b] pos) Φ := et_ord ord_gt (nomark _) h
theorem et_ge {Φ : Bool → FS → Prop} (h : Ev X Ψ ρ F a (fun x F1 => Ev X Ψ ρ F1 b (fun y F2 => OrdD (fun i j => decide (j ≤ i)) (fun i j => !ltS i j) x y fun k => Φ k F2))) : Et X Ψ ρ F (.Compare a [.GtE] [b] pos) Φ := et_ord ord_ge (nomark _) h
/-- a op b op' c -/
theorem ev_chain {op op' : CmpOp} {ri ri' : Int → Int → Bool} {rs rs' : Str → Str → Bool} {Φ : D → FS → Prop} (ho : OpR X (compareOp op) (rOrd ri rs)) (ho' : OpR X (compareOp op') (rOrd ri' rs'))
    (h : Ev X Ψ ρ F a (fun x F1 => Ev X Ψ ρ F1 b (fun y F2 => OrdD ri rs x y fun k => Br k (Ev X Ψ ρ F2 c (fun z F3 => OrdD ri' rs' y z fun k' => Φ (.bl k') F3)) (Φ (.bl false) F2))))
    (hm : lastMarks [op, op'] [b, c] = false := by with_unfolding_all rfl) : Ev X Ψ ρ F (.Compare a [op, op'] [b, c] pos) Φ := by
  let ι1 := Ix fun x F1 => Ev X Ψ ρ F1 b (fun y F2 => OrdD ri rs x y fun k => Br k (Ev X Ψ ρ F2 c (fun z F3 => OrdD ri' rs' y z fun k' => Φ (.bl k') F3)) (Φ (.bl false) F2))
  let ι2 := Ix fun y F2 => Ev X Ψ ρ F2 c (fun z F3 => OrdD ri' rs' y z fun k' => Φ (.bl k') F3)
  refine ⟨pe_weak (pe_chain ho ho' h.pe (pe_fam (ι := ι1) fun i => i.2.pe) (pe_fam (ι := ι2) fun i => i.2.pe) hm) fun σ H Q ⟨P, tk, hd, en, kq⟩ => ⟨P, tk, hd, en, fun v d P1 F1 H1 s1 hd1 rp φ =>
    ⟨⟨(d, F1), φ⟩, P1, takes_mono s1 tk, hd1, en.mono s1, fun v2 d2 P2 F2 H2 s2 hd2 rp2 φ2 => ?_⟩⟩⟩
  have mid : ∀ k : Bool, (Br k (Ev X Ψ ρ F2 c (fun z F3 => OrdD ri' rs' d2 z fun k' => Φ (.bl k') F3)) (Φ (.bl false) F2)) → ∃ k0, V.bl k = .bl k0 ∧ (if k0 = true then (∃ i : ι2, tE X Ψ ρ i.1.2 (fun z F3 => OrdD ri' rs' i.1.1 z fun k' => Φ (.bl k') F3) σ H2 fun w' H4 => rOrd ri' rs' v2 w' H4 Q) else Q (.bl false) H2) := fun k br => by
    refine ⟨k, rfl, ?_⟩
    cases k with
    | true =>
      rw [if_pos rfl]
      refine ⟨⟨(d2, F2), br.1 rfl⟩, P2, takes_mono (Same.trans s1 s2) tk, hd2, en.mono (Same.trans s1 s2), fun v3 d3 P3 F3 H3 s3 hd3 rp3 φ3 => ?_⟩
      exact ord_lift (X := X) (Ψ := Ψ) (ρ := ρ) (Φ := Φ) φ3 P3 σ H3 v2 v3 Q (takes_mono (Same.trans s1 (Same.trans s2 s3)) tk) hd3 (en.mono (Same.trans s1 (Same.trans s2 s3))) (rp2.mono s3) rp3 fun v4 d4 P4 F4 H4 s4 => kq v4 d4 P4 F4 H4 (Same.trans s1 (Same.trans s2 (Same.trans s3 s4)))
    | false =>
      rw [if_neg Bool.false_ne_true]
      exact kq _ _ P2 F2 H2 (Same.trans s1 s2) hd2 (.bl false) (br.2 rfl)
  cases rp.mono s2 with
  | int i =>
    cases rp2 with
    | int j => exact .inl ⟨i, j, rfl, rfl, mid _ φ2⟩
    | _ => exact False.elim φ2
  | str i =>
    cases rp2 with
    | str j => exact .inr ⟨i, j, rfl, rfl, mid _ φ2⟩
    | _ => exact False.elim φ2
  | _ => exact False.elim φ2
end
end TM

set_option Elab.async false
set_option linter.all false
set_option maxRecDepth 100000
set_option maxHeartbeats 4000000
/-! The data layer: ==, in, items, slices, built-in functions, methods. -/
namespace TM
open PySem PySem.Spec PyProof.Rows L2

/-! ### data of the library -/
mutual
def toP : D → PyData
  | .non => .none
  | .bl b => .bool b
  | .int i => .int i
  | .str x => .str x
  | .lst xs => .list (toPs xs)
  | .tup xs => .tuple (toPs xs)
  | .dct _ _ => .none
  | .scr ns => .none
  | .exc _ _ _ _ => .none
  | .raw _ => .none
def toPs : List D → List PyData
  | [] => []
  | x :: xs => toP x :: toPs xs
end
theorem toPs_map (xs : List D) : toPs xs = xs.map toP := by
  induction xs with
  | nil => rfl
  | cons x xs ih => rw [toPs, ih, List.map_cons]
/-- plain data, at most n lists deep, its texts of Unicode's signs -/
def okD : Nat → D → Bool
  | _, .non => true
  | _, .bl _ => true
  | _, .int _ => true
  | _, .str x => PyData.strOk x
  | n + 1, .lst xs => xs.all fun d => okD n d
  | n + 1, .tup xs => xs.all fun d => okD n d
  | _, _ => false
theorem okD_dp {K : PySem.W.Frag} {P H : Hp} (s : Same P H) : ∀ (n : Nat) (d : D) (v : V), okD n d = true → Rep K P d v → Dp K H v (toP d)
  | _, .non, _, _, r => by
    cases r
    exact .non
  | _, .bl b, _, _, r => by
    cases r
    exact .bl b
  | _, .int i, _, _, r => by
    cases r
    exact .int i
  | _, .str x, _, _, r => by
    cases r
    exact .str x
  | n + 1, .lst xs, _, h, r => by
    cases r with
    | @lst ds a vs hq rr =>
      refine .lst (SqL.of (s _ _ hq)) ?_
      have h' : ∀ d ∈ xs, okD n d = true := by simpa [okD] using h
      clear h hq
      induction rr with
      | nil => exact .nil
      | cons r1 r2 ih => exact .cons (okD_dp s n _ _ (h' _ List.mem_cons_self) r1) (ih fun d hd => h' d (List.mem_cons_of_mem _ hd))
  | n + 1, .tup xs, _, h, r => by
    cases r with
    | @tup ds a vs hq rr =>
      refine .tup (SqT.of (s _ _ hq)) ?_
      have h' : ∀ d ∈ xs, okD n d = true := by simpa [okD] using h
      clear h hq
      induction rr with
      | nil => exact .nil
      | cons r1 r2 ih => exact .cons (okD_dp s n _ _ (h' _ List.mem_cons_self) r1) (ih fun d hd => h' d (List.mem_cons_of_mem _ hd))
  | 0, .lst xs, _, h, _ => by simp [okD] at h
  | 0, .tup xs, _, h, _ => by simp [okD] at h
  | _, .dct _ _, _, h, _ => by simp [okD] at h
  | _, .scr _, _, h, _ => by simp [okD] at h
  | _, .exc _ _ _ _, _, h, _ => by simp [okD] at h
  | _, .raw _, _, h, _ => by simp [okD] at h
theorem okD_lay : ∀ (n : Nat) (d : D), okD n d = true → (toP d).canLay0 = true ∧ (toP d).depth ≤ n
  | n, .non, _ => by simp [toP, PyData.canLay0, PyData.depth]
  | n, .bl b, _ => by simp [toP, PyData.canLay0, PyData.depth]
  | n, .int i, _ => by simp [toP, PyData.canLay0, PyData.depth]
  | n, .str x, h => by
    have h' : PyData.strOk x = true := by simpa [okD] using h
    simp [toP, PyData.canLay0, PyData.depth, h']
  | n + 1, .lst xs, h => by
    have h' : ∀ d ∈ xs, okD n d = true := by simpa [okD] using h
    have all : PyData.canLayAll0 (toPs xs) = true ∧ PyData.depthAll (toPs xs) ≤ n := by
      clear h
      induction xs with
      | nil => exact ⟨rfl, Nat.zero_le _⟩
      | cons x xs ih =>
        obtain ⟨a1, a2⟩ := okD_lay n x (h' _ List.mem_cons_self)
        obtain ⟨b1, b2⟩ := ih fun d hd => h' d (List.mem_cons_of_mem _ hd)
        simp only [toPs, PyData.canLayAll0, PyData.depthAll, a1, b1, Bool.and_self, true_and]
        omega
    simp only [toP, PyData.canLay0, PyData.depth, all.1, true_and]
    omega
  | n + 1, .tup xs, h => by
    have h' : ∀ d ∈ xs, okD n d = true := by simpa [okD] using h
    have all : PyData.canLayAll0 (toPs xs) = true ∧ PyData.depthAll (toPs xs) ≤ n := by
      clear h
      induction xs with
      | nil => exact ⟨rfl, Nat.zero_le _⟩
      | cons x xs ih =>
        obtain ⟨a1, a2⟩ := okD_lay n x (h' _ List.mem_cons_self)
        obtain ⟨b1, b2⟩ := ih fun d hd => h' d (List.mem_cons_of_mem _ hd)
        simp only [toPs, PyData.canLayAll0, PyData.depthAll, a1, b1, Bool.and_self, true_and]
        omega
    simp only [toP, PyData.canLay0, PyData.depth, all.1, true_and]
    omega
  | 0, .lst xs, h => by simp [okD] at h
  | 0, .tup xs, h => by simp [okD] at h
  | _, .dct _ _, h => by simp [okD] at h
  | _, .scr _, h => by simp [okD] at h
  | _, .exc _ _ _ _, h => by simp [okD] at h
  | _, .raw _, h => by simp [okD] at h
theorem okD_shaped {n : Nat} {d : D} (h : okD n d = true) (hn : n ≤ 64) : SeqAt.shaped (toP d) = true := by
  obtain ⟨h1, h2⟩ := okD_lay n d h
  unfold SeqAt.shaped
  rw [h1, decide_eq_true (Nat.le_trans h2 hn)]
  rfl
def eqD (x y : D) : Bool := PyData.eqv (toP x) (toP y)
theorem eqD_refl {n : Nat} {d : D} (h : okD n d = true) : eqD d d = true := SeqAt.eqv_refl _ (okD_lay n d h).1

section
variable {X : Cx} {Ψ : XP} {ρ : En} {F : FS} {e a b c : Expr} {es : List Expr} {pos : Pos}

/-! ### ==, != -/
def EqD (x y : D) (Φ : Bool → Prop) : Prop := match x, y with
  | .str i, .str j => Φ (decide (i = j))
  | .int i, .int j => Φ (decide (i = j))
  | .bl i, .bl j => Φ (decide (i = j))
  | .non, .non => Φ true
  | .non, .int _ => Φ false
  | .int _, .non => Φ false
  | .non, .str _ => Φ false
  | .str _, .non => Φ false
  | .int _, .str _ => Φ false
  | .str _, .int _ => Φ false
  | u, w => okD 60 u = true ∧ okD 60 w = true ∧ Φ (eqD u w)
def rEqA (K : PySem.W.Frag) : R2 := fun x y H Q => rEq x y H Q ∨ rEqD K x y H Q
theorem op_eqA (hr : RoomG 0 X.A) : OpR X (compareOp .Eq) (rEqA X.K) := op_eq.or (op_eqD hr.room.units)
theorem eq_lift {x y : D} {Φ : D → FS → Prop} (h : EqD x y fun k => Φ (.bl k) F) : LL2 X Ψ ρ (fun _ => rEqA X.K) x y F Φ := fun P σ H u v Q tk hd en r1 r2 q => by
  have fin : ∀ k, Φ (.bl k) F → Q (.bl k) H := fun k z => q _ _ P F H (Same.refl P) hd (.bl k) z
  have gen : ∀ {x y : D}, Rep X.K P x u → Rep X.K P y v → okD 60 x = true → okD 60 y = true → Φ (.bl (eqD x y)) F → rEqA X.K u v H Q := fun {x y} r1 r2 h1 h2 h3 =>
    .inr ⟨toP x, toP y, okD_dp hd.pure 60 x u h1 r1, okD_dp hd.pure 60 y v h2 r2, okD_shaped h1 (by decide), okD_shaped h2 (by decide), fin _ h3⟩
  cases r1 with
  | str i =>
    cases r2 with
    | str j => exact .inl ⟨rfl, fin _ (by rw [show decide (V.str i = V.str j) = decide (i = j) from by simp]; exact h)⟩
    | non => exact .inl ⟨rfl, fin _ (by rw [show decide (V.str i = V.non) = false from by simp]; exact h)⟩
    | int j => exact .inl ⟨rfl, fin _ (by rw [show decide (V.str i = V.int j) = false from by simp]; exact h)⟩
    | bl j => exact gen (.str i) (.bl j) h.1 h.2.1 h.2.2
    | lst z1 z2 => exact gen (.str i) (.lst z1 z2) h.1 h.2.1 h.2.2
    | tup z1 z2 => exact gen (.str i) (.tup z1 z2) h.1 h.2.1 h.2.2
    | dct z1 z2 z3 => exact gen (.str i) (.dct z1 z2 z3) h.1 h.2.1 h.2.2
    | scr z => exact gen (.str i) (.scr z) h.1 h.2.1 h.2.2
    | exc z1 z2 => exact gen (.str i) (.exc z1 z2) h.1 h.2.1 h.2.2
    | raw => exact gen (.str i) (.raw _) h.1 h.2.1 h.2.2
  | int i =>
    cases r2 with
    | str j => exact .inl ⟨rfl, fin _ (by rw [show decide (V.int i = V.str j) = false from by simp]; exact h)⟩
    | non => exact .inl ⟨rfl, fin _ (by rw [show decide (V.int i = V.non) = false from by simp]; exact h)⟩
    | int j => exact .inl ⟨rfl, fin _ (by rw [show decide (V.int i = V.int j) = decide (i = j) from by simp]; exact h)⟩
    | bl j => exact gen (.int i) (.bl j) h.1 h.2.1 h.2.2
    | lst z1 z2 => exact gen (.int i) (.lst z1 z2) h.1 h.2.1 h.2.2
    | tup z1 z2 => exact gen (.int i) (.tup z1 z2) h.1 h.2.1 h.2.2
    | dct z1 z2 z3 => exact gen (.int i) (.dct z1 z2 z3) h.1 h.2.1 h.2.2
    | scr z => exact gen (.int i) (.scr z) h.1 h.2.1 h.2.2
    | exc z1 z2 => exact gen (.int i) (.exc z1 z2) h.1 h.2.1 h.2.2
    | raw => exact gen (.int i) (.raw _) h.1 h.2.1 h.2.2
  | non =>
    cases r2 with
    | str j => exact .inl ⟨rfl, fin _ (by rw [show decide (V.non = V.str j) = false from by simp]; exact h)⟩
    | non => exact .inl ⟨rfl, fin _ (by rw [show decide (V.non = V.non) = true from by simp]; exact h)⟩
    | int j => exact .inl ⟨rfl, fin _ (by rw [show decide (V.non = V.int j) = false from by simp]; exact h)⟩
    | bl j => exact gen .non (.bl j) h.1 h.2.1 h.2.2
    | lst z1 z2 => exact gen .non (.lst z1 z2) h.1 h.2.1 h.2.2
    | tup z1 z2 => exact gen .non (.tup z1 z2) h.1 h.2.1 h.2.2
    | dct z1 z2 z3 => exact gen .non (.dct z1 z2 z3) h.1 h.2.1 h.2.2
    | scr z => exact gen .non (.scr z) h.1 h.2.1 h.2.2
    | exc z1 z2 => exact gen .non (.exc z1 z2) h.1 h.2.1 h.2.2
    | raw => exact gen .non (.raw _) h.1 h.2.1 h.2.2
  | bl i =>
    cases r2 with
    | bl j => exact .inl ⟨rfl, fin _ (by rw [show decide (V.bl i = V.bl j) = decide (i = j) from by simp]; exact h)⟩
    | str j => exact gen (.bl i) (.str j) h.1 h.2.1 h.2.2
    | int j => exact gen (.bl i) (.int j) h.1 h.2.1 h.2.2
    | non => exact gen (.bl i) .non h.1 h.2.1 h.2.2
    | lst z1 z2 => exact gen (.bl i) (.lst z1 z2) h.1 h.2.1 h.2.2
    | tup z1 z2 => exact gen (.bl i) (.tup z1 z2) h.1 h.2.1 h.2.2
    | dct z1 z2 z3 => exact gen (.bl i) (.dct z1 z2 z3) h.1 h.2.1 h.2.2
    | scr z => exact gen (.bl i) (.scr z) h.1 h.2.1 h.2.2
    | exc z1 z2 => exact gen (.bl i) (.exc z1 z2) h.1 h.2.1 h.2.2
    | raw => exact gen (.bl i) (.raw _) h.1 h.2.1 h.2.2
  | lst w1 w2 => cases r2 <;> first | exact gen (.lst w1 w2) (by constructor <;> assumption) h.1 h.2.1 h.2.2 | exact gen (.lst w1 w2) .non h.1 h.2.1 h.2.2
  | tup w1 w2 => cases r2 <;> first | exact gen (.tup w1 w2) (by constructor <;> assumption) h.1 h.2.1 h.2.2 | exact gen (.tup w1 w2) .non h.1 h.2.1 h.2.2
  | dct w1 w2 w3 => exact absurd h.1 (by simp [okD])
  | scr w1 => exact absurd h.1 (by simp [okD])
  | exc w1 w2 => exact absurd h.1 (by simp [okD])
  | raw w1 => exact absurd h.1 (by simp [okD])
theorem ev_eq {Φ : D → FS → Prop} (hr : RoomG 0 X.A) (h : Ev X Ψ ρ F a (fun x F1 => Ev X Ψ ρ F1 b (fun y F2 => EqD x y fun k => Φ (.bl k) F2))) : Ev X Ψ ρ F (.Compare a [.Eq] [b] pos) Φ :=
  ev_cmp (op_eqA hr) (nomark _) (h.mono fun x F1 h1 => h1.mono fun y F2 h2 => eq_lift h2)
theorem et_eq {Φ : Bool → FS → Prop} (hr : RoomG 0 X.A) (h : Ev X Ψ ρ F a (fun x F1 => Ev X Ψ ρ F1 b (fun y F2 => EqD x y fun k => Φ k F2))) : Et X Ψ ρ F (.Compare a [.Eq] [b] pos) Φ :=
  et_cmpR (op_eqA hr) (nomark _) (h.mono fun x F1 h1 => h1.mono fun y F2 h2 => eq_lift (Φ := fun d F3 => BlD d fun k => Φ k F3) h2)
/-- != by == -/
def rNeA (K : PySem.W.Frag) : R2 := fun x y H Q => rNe x y H Q ∨ rNeD K x y H Q
theorem op_neA (hr : RoomG 0 X.A) : OpR X (compareOp .NotEq) (rNeA X.K) := op_ne.or (op_neD hr.room.units)
theorem rNe_of {K : PySem.W.Frag} {x y : V} {H : Hp} {Q : VK} (h : rEqA K x y H (fun v H1 => ∃ k, v = .bl k ∧ Q (.bl (!k)) H1)) : rNeA K x y H Q := by
  rcases h with ⟨h1, k, e, q⟩ | ⟨d, d', h1, h2, h3, h4, k, e, q⟩
  · cases e
    exact .inl ⟨h1, q⟩
  · cases e
    exact .inr ⟨d, d', h1, h2, h3, h4, q⟩
theorem ne_lift {x y : D} {Φ : D → FS → Prop} (h : EqD x y fun k => Φ (.bl (!k)) F) : LL2 X Ψ ρ (fun _ => rNeA X.K) x y F Φ := fun P σ H u v Q tk hd en r1 r2 q =>
  rNe_of (eq_lift (X := X) (Ψ := Ψ) (ρ := ρ) (Φ := fun d F3 => BlD d fun k => Φ (.bl (!k)) F3) h P σ H u v _ tk hd en r1 r2 fun v' d P' F' H' s1 hd1 rp φ => by
    cases rp with
    | bl k => exact ⟨k, rfl, q _ _ P' F' H' s1 hd1 (.bl _) φ⟩
    | _ => exact False.elim φ)
theorem ev_ne {Φ : D → FS → Prop} (hr : RoomG 0 X.A) (h : Ev X Ψ ρ F a (fun x F1 => Ev X Ψ ρ F1 b (fun y F2 => EqD x y fun k => Φ (.bl (!k)) F2))) : Ev X Ψ ρ F (.Compare a [.NotEq] [b] pos) Φ :=
  ev_cmp (op_neA hr) (nomark _) (h.mono fun x F1 h1 => h1.mono fun y F2 h2 => ne_lift h2)
theorem et_ne {Φ : Bool → FS → Prop} (hr : RoomG 0 X.A) (h : Ev X Ψ ρ F a (fun x F1 => Ev X Ψ ρ F1 b (fun y F2 => EqD x y fun k => Φ (!k) F2))) : Et X Ψ ρ F (.Compare a [.NotEq] [b] pos) Φ :=
  et_cmpR (op_neA hr) (nomark _) (h.mono fun x F1 h1 => h1.mono fun y F2 h2 => ne_lift (Φ := fun d F3 => BlD d fun k => Φ k F3) h2)

/-! ### is None -/
def isNon : D → Bool
  | .non => true
  | .raw v => decide (v = .non)
  | _ => false
theorem isNon_rep {K : PySem.W.Frag} {P : Hp} {d : D} {v : V} (r : Rep K P d v) : decide (v = .non) = isNon d := by
  cases r <;> simp [isNon]
theorem ev_isN {Φ : D → FS → Prop} {j : Nat} {p2 : Pos} (h : Ev X Ψ ρ F a (fun x F1 => Φ (.bl (isNon x)) F1)) : Ev X Ψ ρ F (.Compare a [.Is] [.Constant .none j p2] pos) Φ :=
  ev_one (r := fun _ x H Q => Q (.bl (decide (x = .non))) H) (fun ta ht => pe_cmp (pc_isN ht)) (h.mono fun x F1 h1 P σ H u Q tk hd en r q => by
    show Q (V.bl (decide (u = V.non))) H
    rw [isNon_rep r]
    exact q _ _ P F1 H (Same.refl P) hd (.bl _) h1)
theorem ev_notN {Φ : D → FS → Prop} {j : Nat} {p2 : Pos} (h : Ev X Ψ ρ F a (fun x F1 => Φ (.bl (!isNon x)) F1)) : Ev X Ψ ρ F (.Compare a [.IsNot] [.Constant .none j p2] pos) Φ :=
  ev_one (r := fun _ x H Q => Q (.bl (!decide (x = .non))) H) (fun ta ht => pe_cmp (pc_notN ht)) (h.mono fun x F1 h1 P σ H u Q tk hd en r q => by
    show Q (V.bl (!decide (u = V.non))) H
    rw [isNon_rep r]
    exact q _ _ P F1 H (Same.refl P) hd (.bl _) h1)
theorem et_isN {Φ : Bool → FS → Prop} {j : Nat} {p2 : Pos} (h : Ev X Ψ ρ F a (fun x F1 => Φ (isNon x) F1)) : Et X Ψ ρ F (.Compare a [.Is] [.Constant .none j p2] pos) Φ :=
  ⟨pt_weak (pt_cmp (pc_isN h.pe)) fun σ H Q ⟨P, tk, hd, en, k⟩ => ⟨P, tk, hd, en, fun v d P1 F1 H1 s1 hd1 rp φ => ⟨_, rfl, by
    rw [isNon_rep rp]
    exact k _ P1 F1 H1 s1 hd1 φ⟩⟩⟩
theorem et_notN {Φ : Bool → FS → Prop} {j : Nat} {p2 : Pos} (h : Ev X Ψ ρ F a (fun x F1 => Φ (!isNon x) F1)) : Et X Ψ ρ F (.Compare a [.IsNot] [.Constant .none j p2] pos) Φ :=
  ⟨pt_weak (pt_cmp (pc_notN h.pe)) fun σ H Q ⟨P, tk, hd, en, k⟩ => ⟨P, tk, hd, en, fun v d P1 F1 H1 s1 hd1 rp φ => ⟨_, rfl, by
    rw [isNon_rep rp]
    exact k _ P1 F1 H1 s1 hd1 φ⟩⟩⟩

/-! ### in, not in -/
def flatD : D → Bool
  | .non => true
  | .bl _ => true
  | .int _ => true
  | .str _ => true
  | _ => false
def inD (x : D) (ys : List D) : Bool := ys.any fun y => eqD y x
theorem flat_rep {K : PySem.W.Frag} {P : Hp} {d : D} {v : V} (r : Rep K P d v) (h : flatD d = true) : flatV v = true := by
  cases r <;> first | rfl | simp [flatD] at h
theorem eqV_rep {K : PySem.W.Frag} {P : Hp} {d d' : D} {v v' : V} (r : Rep K P d v) (r' : Rep K P d' v') (h : flatD d = true) (h' : flatD d' = true) : eqV v v' = eqD d d' := by
  cases r <;> first | (simp [flatD] at h; done) | (cases r' <;> first | (simp [flatD] at h'; done) | simp [eqV, eqD, toP, PyData.eqv])
theorem inV_rep {K : PySem.W.Frag} {P : Hp} {x : D} {u : V} (rx : Rep K P x u) (hx : flatD x = true) : ∀ {ys : List D} {vs : List V}, Reps K P ys vs → ys.all flatD = true → inV u vs = inD x ys ∧ vs.all flatV = true
  | _, _, .nil, _ => ⟨rfl, rfl⟩
  | _, _, .cons r t, h => by
    rw [List.all_cons, Bool.and_eq_true] at h
    obtain ⟨h1, h2⟩ := inV_rep rx hx t h.2
    refine ⟨?_, ?_⟩
    · show (eqV _ u || inV u _) = (eqD _ x || inD x _)
      rw [h1, eqV_rep r rx h.1 hx]
    · rw [List.all_cons, flat_rep r h.1, h2]
      rfl
def InD (x y : D) (Φ : Bool → Prop) : Prop := match y with
  | .lst ys => flatD x = true ∧ ys.all flatD = true ∧ Φ (inD x ys)
  | .tup ys => flatD x = true ∧ ys.all flatD = true ∧ Φ (inD x ys)
  | .str z => ∃ k, x = .str ⟨#[k]⟩ ∧ Φ (decide (k ∈ z.cps.toList))
  | _ => False
def rInA (K : PySem.W.Frag) (neg : Bool) : R2 := fun x y H Q => rIn K neg x y H Q ∨ ∃ (c : Nat) (z : Str), x = .str ⟨#[c]⟩ ∧ y = .str z ∧ Q (.bl (if neg then !decide (c ∈ z.cps.toList) else decide (c ∈ z.cps.toList))) H
theorem op_inA : OpR X (compareOp .In) (rInA X.K false) := op_in_seq.or op_in_sign
theorem op_ninA : OpR X (compareOp .NotIn) (rInA X.K true) := op_notIn_seq.or op_notIn_sign
theorem in_lift {neg : Bool} {x y : D} {Φ : D → FS → Prop} (h : InD x y fun k => Φ (.bl (if neg then !k else k)) F) : LL2 X Ψ ρ (fun _ => rInA X.K neg) x y F Φ := fun P σ H u v Q tk hd en r1 r2 q => by
  cases r2 with
  | @lst ds ad vs hq rr =>
    obtain ⟨i1, i2⟩ := inV_rep r1 h.1 rr h.2.1
    exact .inl ⟨ad, vs, rfl, .inl (SqL.of (hd.pure _ _ hq)), flat_rep r1 h.1, i2, by rw [i1]; exact q _ _ P F H (Same.refl P) hd (.bl _) h.2.2⟩
  | @tup ds ad vs hq rr =>
    obtain ⟨i1, i2⟩ := inV_rep r1 h.1 rr h.2.1
    exact .inl ⟨ad, vs, rfl, .inr (SqT.of (hd.pure _ _ hq)), flat_rep r1 h.1, i2, by rw [i1]; exact q _ _ P F H (Same.refl P) hd (.bl _) h.2.2⟩
  | str z =>
    obtain ⟨k, rfl, h⟩ := h
    cases r1
    exact .inr ⟨k, z, rfl, rfl, q _ _ P F H (Same.refl P) hd (.bl _) h⟩
  | _ => exact False.elim h
theorem ev_in {Φ : D → FS → Prop} (h : Ev X Ψ ρ F a (fun x F1 => Ev X Ψ ρ F1 b (fun y F2 => InD x y fun k => Φ (.bl k) F2))) (hm : behindInMarks .In b = false := by rfl) : Ev X Ψ ρ F (.Compare a [.In] [b] pos) Φ :=
  ev_cmp op_inA hm (h.mono fun x F1 h1 => h1.mono fun y F2 h2 => in_lift (neg := false) h2)
theorem et_in {Φ : Bool → FS → Prop} (h : Ev X Ψ ρ F a (fun x F1 => Ev X Ψ ρ F1 b (fun y F2 => InD x y fun k => Φ k F2))) (hm : behindInMarks .In b = false := by rfl) : Et X Ψ ρ F (.Compare a [.In] [b] pos) Φ :=
  et_cmpR op_inA hm (h.mono fun x F1 h1 => h1.mono fun y F2 h2 => in_lift (neg := false) (Φ := fun d F3 => BlD d fun k => Φ k F3) h2)
theorem ev_nin {Φ : D → FS → Prop} (h : Ev X Ψ ρ F a (fun x F1 => Ev X Ψ ρ F1 b (fun y F2 => InD x y fun k => Φ (.bl (!k)) F2))) (hm : behindInMarks .NotIn b = false := by rfl) : Ev X Ψ ρ F (.Compare a [.NotIn] [b] pos) Φ :=
  ev_cmp op_ninA hm (h.mono fun x F1 h1 => h1.mono fun y F2 h2 => in_lift (neg := true) h2)
theorem et_nin {Φ : Bool → FS → Prop} (h : Ev X Ψ ρ F a (fun x F1 => Ev X Ψ ρ F1 b (fun y F2 => InD x y fun k => Φ (!k) F2))) (hm : behindInMarks .NotIn b = false := by rfl) : Et X Ψ ρ F (.Compare a [.NotIn] [b] pos) Φ :=
  et_cmpR op_ninA hm (h.mono fun x F1 h1 => h1.mono fun y F2 h2 => in_lift (neg := true) (Φ := fun d F3 => BlD d fun k => Φ k F3) h2)

/-! ### items -/
theorem atI_reps {K : PySem.W.Frag} {P : Hp} {ds : List D} {vs : List V} {i : Int} {d : D} (r : Reps K P ds vs) (h : atI ds i = some d) : ∃ v, atI vs i = some v ∧ Rep K P d v := by
  unfold atI at h ⊢
  rw [← Paired.length r]
  cases e : ixN ds.length i with
  | none =>
    rw [e] at h
    cases h
  | some j =>
    rw [e] at h
    exact Reps.get r h
def IxD (F : FS) (x i : D) (Φ : D → Prop) : Prop := match x, i with
  | .lst xs, .int k => ∃ d, atI xs k = some d ∧ Φ d
  | .tup xs, .int k => ∃ d, atI xs k = some d ∧ Φ d
  | .str z, .int k => z.length ≤ sizeLine ∧ ∃ c, atI z.cps.toList k = some c ∧ Φ (.str ⟨#[c]⟩)
  | .scr ns, .int k => ∃ n, atI ns k = some n ∧ Φ (.int n)
  | .raw (.ref l), .int k => ∃ xs d, F l = some (.lst xs) ∧ atI xs k = some d ∧ Φ d
  | _, _ => False
theorem atI_map {α β : Type} {f : α → β} {xs : List α} {i : Int} {x : α} (h : atI xs i = some x) : atI (xs.map f) i = some (f x) := by
  unfold atI at h ⊢
  rw [List.length_map]
  cases e : ixN xs.length i with
  | none =>
    rw [e] at h
    cases h
  | some j =>
    rw [e] at h
    show (xs.map f)[j]? = some (f x)
    rw [List.getElem?_map]
    show (xs[j]?).map f = _
    rw [show xs[j]? = some x from h]
    rfl
theorem ev_ix {Φ : D → FS → Prop} (h : Ev X Ψ ρ F a (fun x F1 => Ev X Ψ ρ F1 b (fun y F2 => IxD F2 x y fun d => Φ d F2))) (hs : PlainIx b := by intro _ _; rfl) : Ev X Ψ ρ F (.Subscript a b pos) Φ :=
  ev_two (r := fun _ => rIx X.K) (fun ta tb h1 h2 => pe_ix ix_seq h1 h2 hs) (h.mono fun x F1 h1 => h1.mono fun y F2 h2 P σ H u v Q tk hd en r1 r2 q => by
    cases r1 with
    | @lst ds ad vs hq rr =>
      cases r2 with
      | int k =>
        obtain ⟨d, e, φ⟩ := h2
        obtain ⟨v, e', rv⟩ := atI_reps rr e
        exact .inl ⟨ad, vs, k, v, rfl, rfl, SqL.of (hd.pure _ _ hq), e', q v d P F2 H (Same.refl P) hd rv φ⟩
      | _ => exact False.elim h2
    | @tup ds ad vs hq rr =>
      cases r2 with
      | int k =>
        obtain ⟨d, e, φ⟩ := h2
        obtain ⟨v, e', rv⟩ := atI_reps rr e
        exact .inr (.inl ⟨ad, vs, k, v, rfl, rfl, SqT.of (hd.pure _ _ hq), e', q v d P F2 H (Same.refl P) hd rv φ⟩)
      | _ => exact False.elim h2
    | str z =>
      cases r2 with
      | int k =>
        obtain ⟨hz, c, e, φ⟩ := h2
        exact .inr (.inr ⟨z, k, c, rfl, rfl, hz, e, q _ _ P F2 H (Same.refl P) hd (.str _) φ⟩)
      | _ => exact False.elim h2
    | @scr ns ad hq =>
      cases r2 with
      | int k =>
        obtain ⟨n, e, φ⟩ := h2
        exact .inl ⟨ad, ns.map V.int, k, .int n, rfl, rfl, Same.seq hd.pure hq, atI_map e, q _ _ P F2 H (Same.refl P) hd (.int _) φ⟩
      | _ => exact False.elim h2
    | raw =>
      cases u with
      | ref l =>
        cases r2 with
        | int k =>
          obtain ⟨xs, d, e1, e2, φ⟩ := h2
          obtain ⟨_, vs, e3, rr⟩ := hd.mt l _ e1
          obtain ⟨v, e', rv⟩ := atI_reps rr e2
          exact .inl ⟨l, vs, k, v, rfl, rfl, SqL.of e3, e', q v d P F2 H (Same.refl P) hd rv φ⟩
        | _ => exact False.elim h2
      | _ => cases r2 <;> exact False.elim h2
    | _ => cases r2 <;> exact False.elim h2)
/-- xs[i] = value, a list that is changed -/
theorem eg_ix {o i : Expr} {d : D} {A : En → FS → Prop} (h : Ev X Ψ ρ F o (fun x F1 => Ev X Ψ ρ F1 i (fun y F2 => ∃ l xs k j, x = .raw (.ref l) ∧ y = .int k ∧ F2 l = some (.lst xs) ∧ ixN xs.length k = some j ∧ A ρ (updF F2 l (.lst (xs.set j d))))))
    (ha : ∀ v, assign (.Subscript o i pos) X.env v = (do
      let ov ← holding [v] (eval o X.env)
      let iv ← holding [v, ov] (eval i X.env)
      standAt pos
      holding [v, ov, iv] (setItem ov iv v)
      release [v, ov, iv] []) := by intro _; rfl) : Eg X Ψ ρ F (.Subscript o i pos) d A :=
  ⟨pg_weak (pg_sub h.pe (pe_fam (ι := Ix fun x F1 => Ev X Ψ ρ F1 i (fun y F2 => ∃ l xs k j, x = .raw (.ref l) ∧ y = .int k ∧ F2 l = some (.lst xs) ∧ ixN xs.length k = some j ∧ A ρ (updF F2 l (.lst (xs.set j d))))) fun i => i.2.pe) set_list ha) fun v σ H Q ⟨P, tk, hd, en, r, k⟩ => ⟨P, tk, hd, en, fun v1 d1 P1 F1 H1 s1 hd1 rp φ =>
    ⟨⟨(d1, F1), φ⟩, P1, takes_mono s1 tk, hd1, en.mono s1, fun v2 d2 P2 F2 H2 s2 hd2 rp2 φ2 => by
      obtain ⟨l, xs, z, j, rfl, rfl, e1, e2, q⟩ := φ2
      cases rp
      cases rp2
      obtain ⟨_, vs, e3, rr⟩ := hd2.mt l _ e1
      exact ⟨l, vs, z, j, rfl, rfl, e3, by rw [← Paired.length rr]; exact e2, k _ _ P2 _ _ (Same.trans s1 s2) (hd2.write e1 (m := .lst (xs.set j d)) ⟨vs.set j v, upd_same, Reps.set ((r.mono s1).mono s2) j rr⟩) ((en.mono s1).mono s2) q⟩⟩⟩⟩

/-! ### slices -/
def tOt (X : Cx) (Ψ : XP) (ρ : En) (F : FS) (Φ : Option Int → FS → Prop) : TO := fun σ H Q => ∃ P, Takes X (wUp X.K P Ψ) ∧ Hd X.K P F H ∧ EnvR X.K P ρ σ ∧ ∀ o P' F' H', Same P P' → Hd X.K P' F' H' → Φ o F' → Q o H'
structure Eo (X : Cx) (Ψ : XP) (ρ : En) (F : FS) (e : Option Expr) (Φ : Option Int → FS → Prop) : Prop where
  po : PO X e (tOt X Ψ ρ F Φ)
theorem po_weak {e : Option Expr} {t t' : TO} (h : PO X e t) (w : ∀ σ H Q, t' σ H Q → t σ H Q) : PO X e t' := ⟨fun pins s σ H Q I q => h.run pins s σ H Q I (w _ _ _ q)⟩
theorem po_fam {e : Option Expr} {ι : Type} {t : ι → TO} (h : ∀ i, PO X e (t i)) : PO X e (fun σ H Q => ∃ i, t i σ H Q) := ⟨fun pins s σ H Q I ⟨i, q⟩ => (h i).run pins s σ H Q I q⟩
theorem eo_none {Φ : Option Int → FS → Prop} (k : Φ none F) : Eo X Ψ ρ F none Φ := ⟨po_weak po_none fun σ H Q ⟨P, tk, hd, en, q⟩ => q none P F H (Same.refl P) hd k⟩
theorem eo_some {Φ : Option Int → FS → Prop} (h : Ev X Ψ ρ F a (fun x F1 => IntD x fun i => Φ (some i) F1)) : Eo X Ψ ρ F (some a) Φ :=
  ⟨po_weak (po_some h.pe) fun σ H Q ⟨P, tk, hd, en, k⟩ => ⟨P, tk, hd, en, fun v d P1 F1 H1 s1 hd1 rp φ => by
    cases rp with
    | int i => exact ⟨i, rfl, k _ P1 F1 H1 s1 hd1 φ⟩
    | _ => exact False.elim φ⟩⟩
def cutD {α : Type} (xs : List α) (lo hi : Option Int) : List α := (xs.drop (HT.sIx xs.length 0 lo)).take (HT.sIx xs.length xs.length hi - HT.sIx xs.length 0 lo)
def SlD (F : FS) (x : D) (lo hi : Option Int) (Φ : D → Prop) : Prop := match x with
  | .lst xs => Φ (.lst (cutD xs lo hi))
  | .str z => z.length ≤ sizeLine ∧ Φ (.str (cutS z lo hi))
  | .tup xs => xs.length ≠ (cutD xs lo hi).length ∧ Φ (.tup (cutD xs lo hi))
  | .raw (.ref l) => ∃ xs, F l = some (.lst xs) ∧ Φ (.lst (cutD xs lo hi))
  | _ => False
theorem cut_reps {K : PySem.W.Frag} {P : Hp} {ds : List D} {vs : List V} (r : Reps K P ds vs) (lo hi : Option Int) : Reps K P (cutD ds lo hi) (cutV vs lo hi) := by
  unfold cutD cutV
  rw [← Paired.length r]
  exact Reps.take _ (Reps.drop _ r)
end
end TM

set_option Elab.async false
set_option linter.all false
set_option maxRecDepth 100000
set_option maxHeartbeats 4000000
/-! The data layer: slices, built-in functions, methods, what is frozen, repr. -/
namespace TM
open PySem PySem.Spec PyProof.Rows L2
section
variable {X : Cx} {Ψ : XP} {ρ : En} {F : FS} {e a b c : Expr} {es : List Expr} {pos : Pos}

theorem sl_any : SlR X (fun x lo hi H Q => rSlL X.K x lo hi H Q ∨ rSlS x lo hi H Q) := sl_list.or sl_str
theorem ev_slice {lo hi : Option Expr} {p2 : Pos} {Φ : D → FS → Prop} (h : Ev X Ψ ρ F a (fun x F1 => Eo X Ψ ρ F1 lo (fun l F2 => Eo X Ψ ρ F2 hi (fun u F3 => SlD F3 x l u fun d => Φ d F3)))) : Ev X Ψ ρ F (.Subscript a (.Slice lo hi none p2) pos) Φ := by
  let ι1 := Ix fun x F1 => Eo X Ψ ρ F1 lo (fun l F2 => Eo X Ψ ρ F2 hi (fun u F3 => SlD F3 x l u fun d => Φ d F3))
  let ι2 := { p : D × Option Int × FS // Eo X Ψ ρ p.2.2 hi (fun u F3 => SlD F3 p.1 p.2.1 u fun d => Φ d F3) }
  refine ⟨pe_weak (pe_slice (sl_any.or sl_tup) h.pe (po_fam (ι := ι1) fun i => i.2.po) (po_fam (ι := ι2) fun i => i.2.po)) fun σ H Q ⟨P, tk, hd, en, k⟩ => ⟨P, tk, hd, en, fun v d P1 F1 H1 s1 hd1 rp φ =>
    ⟨⟨(d, F1), φ⟩, P1, takes_mono s1 tk, hd1, en.mono s1, fun l P2 F2 H2 s2 hd2 φ2 => ⟨⟨(d, l, F2), φ2⟩, P2, takes_mono (Same.trans s1 s2) tk, hd2, en.mono (Same.trans s1 s2), fun u P3 F3 H3 s3 hd3 φ3 => ?_⟩⟩⟩⟩
  have st : Same P P3 := Same.trans s1 (Same.trans s2 s3)
  cases rp.mono (Same.trans s2 s3) with
  | @lst ds ad vs hq rr =>
    refine .inl (.inl ⟨ad, vs, rfl, SqL.of (hd3.pure _ _ hq), fun p hp => ?_⟩)
    obtain ⟨z1, z2⟩ := hd3.new hp (.lst (cutV vs l u))
    exact k _ _ _ _ _ (Same.trans st z1) z2 (.lst upd_same (Reps.mono z1 (cut_reps rr l u))) φ3
  | str z => exact .inl (.inr ⟨z, rfl, φ3.1, k _ _ P3 F3 H3 st hd3 (.str _) φ3.2⟩)
  | @tup ds ad vs hq rr =>
    refine .inr ⟨ad, vs, rfl, SqT.of (hd3.pure _ _ hq), fun hw => φ3.1 ?_, fun p hp => ?_⟩
    · unfold cutD
      rw [← Paired.length rr] at hw
      rw [hw.1, hw.2, List.drop_zero, Nat.sub_zero, List.take_length]
    · obtain ⟨z1, z2⟩ := hd3.new hp (.tup (cutV vs l u))
      exact k _ _ _ _ _ (Same.trans st z1) z2 (.tup upd_same (Reps.mono z1 (cut_reps rr l u))) φ3.2
  | raw =>
    cases v with
    | ref m =>
      obtain ⟨xs, e1, φ3⟩ := φ3
      obtain ⟨_, vs, e3, rr⟩ := hd3.mt m _ e1
      refine .inl (.inl ⟨m, vs, rfl, SqL.of e3, fun p hp => ?_⟩)
      obtain ⟨z1, z2⟩ := hd3.new hp (.lst (cutV vs l u))
      exact k _ _ _ _ _ (Same.trans st z1) z2 (.lst upd_same (Reps.mono z1 (cut_reps rr l u))) φ3
    | _ => exact False.elim φ3
  | _ => exact False.elim φ3

/-! ### what is changed no more -/
theorem Hd.frz {K : PySem.W.Frag} {P H : Hp} {F : FS} (h : Hd K P F H) {l : Addr} {ds : List D} (e : F l = some (.lst ds)) : ∃ P', Same P P' ∧ Hd K P' (delF F l) H ∧ Rep K P' (.lst ds) (.ref l) := by
  obtain ⟨_, vs, e2, rr⟩ := h.mt l _ e
  obtain ⟨z1, z2⟩ := h.freeze e e2
  exact ⟨_, z1, z2, .lst upd_same (Reps.mono z1 rr)⟩
theorem ev_frz {Φ : D → FS → Prop} (h : Ev X Ψ ρ F e (fun d F1 => ∃ l ds, d = .raw (.ref l) ∧ F1 l = some (.lst ds) ∧ Φ (.lst ds) (delF F1 l))) : Ev X Ψ ρ F e Φ :=
  ⟨pe_weak h.pe fun σ H Q ⟨P, tk, hd, en, k⟩ => ⟨P, tk, hd, en, fun v d P1 F1 H1 s1 hd1 rp φ => by
    obtain ⟨l, ds, rfl, e1, φ⟩ := φ
    cases rp
    obtain ⟨P2, s2, hd2, r2⟩ := hd1.frz e1
    exact k _ _ P2 _ H1 (Same.trans s1 s2) hd2 r2 φ⟩⟩
theorem EnvR.frz {K : PySem.W.Frag} {P P' : Hp} {ρ : En} {σ : L2.St} {i : Nat} {l : Addr} {ds : List D} (en : EnvR K P ρ σ) (s : Same P P') (hi : ρ[i]? = some (some (.raw (.ref l)))) (r : Rep K P' (.lst ds) (.ref l)) : EnvR K P' (ρ.set i (some (.lst ds))) σ := by
  refine ⟨by rw [List.length_set]; exact en.len, fun j d e => ?_⟩
  by_cases hj : i = j
  · subst hj
    have hl := (List.getElem?_eq_some_iff.mp hi).1
    rw [List.getElem?_set_self hl] at e
    cases e
    obtain ⟨v, h1, h2⟩ := en.at_ i _ hi
    cases h2
    exact ⟨_, h1, r⟩
  · rw [List.getElem?_set_ne hj] at e
    obtain ⟨v, h1, h2⟩ := en.at_ j d e
    exact ⟨v, h1, h2.mono s⟩
/-- the list that the i-th name holds is changed no more -/
theorem ess_frz {sts : List Stmt} {Θ : Po} (i : Nat) {l : Addr} {ds : List D} (hi : ρ[i]? = some (some (.raw (.ref l)))) (e : F l = some (.lst ds)) (h : Ess X Ψ (ρ.set i (some (.lst ds))) (delF F l) sts Θ) : Ess X Ψ ρ F sts Θ :=
  ⟨pss_weak h.pss fun D σ H ⟨P, tk, hd, en, n, r, b, c⟩ => by
    obtain ⟨P2, s2, hd2, r2⟩ := hd.frz e
    exact ⟨P2, takes_mono s2 tk, hd2, en.frz s2 hi r2, n.mono s2, r.mono s2, b.mono s2, c.mono s2⟩⟩
theorem ea_frz {Φ : List D → FS → Prop} (i : Nat) {l : Addr} {ds : List D} (hi : ρ[i]? = some (some (.raw (.ref l)))) (e : F l = some (.lst ds)) (h : Ea X Ψ (ρ.set i (some (.lst ds))) (delF F l) es Φ) (hΨ : ∀ er F', Ψ er (ρ.set i (some (.lst ds))) F' → Ψ er ρ F') : Ea X Ψ ρ F es Φ :=
  ⟨pa_weak h.pa fun σ H Q ⟨P, tk, hd, en, q⟩ => by
    obtain ⟨P2, s2, hd2, r2⟩ := hd.frz e
    exact ⟨P2, takes_mono s2 tk, hd2, en.frz s2 hi r2, fun vs ds P3 F3 H3 s3 => q vs ds P3 F3 H3 (Same.trans s2 s3)⟩⟩
/-- less is known -/
theorem ess_less {sts : List Stmt} {Θ : Po} {F' : FS} (s : ∀ a m, F' a = some m → F a = some m) (h : Ess X Ψ ρ F' sts Θ) : Ess X Ψ ρ F sts Θ :=
  ⟨pss_weak h.pss fun D σ H ⟨P, tk, hd, en, n, r, b, c⟩ => ⟨P, tk, hd.less s, en, n, r, b, c⟩⟩

/-! ### built-in functions -/
theorem ev_callB {id : String} {x : Str} {p : Pos} {r : List V → Hp → VK → Prop} {Φ : D → FS → Prop} (hc : CallR X (.builtin id) r) (hg : Gl X x) (hm : X.mg x = none) (hv : bootBuiltins x = some (.builtin id)) (h : Ea X Ψ ρ F (e :: es) (fun xs F1 => LA X Ψ ρ (fun _ => r) xs F1 Φ)) (hn : x ≠ "__name__" := by decide)
    (hdb : (x == ("__debug__" : Str)) = false := by decide) (he : starEach (e :: es) X.env = (false, eval e X.env) :: starEach es X.env := by rfl) (hpl : (backTo pos (starEach es X.env)).any (·.1) = false := by rfl) : Ev X Ψ ρ F (.Call (.Name x p) (e :: es) [] pos) Φ :=
  ev_args (r := fun _ => r) (fun t ht => pe_callB hc hg hm hv ht hn hdb he hpl) h
theorem ev_callTy {T : String} {x : Str} {p : Pos} {r : List V → Hp → VK → Prop} {Φ : D → FS → Prop} (hc : CallR X (.type T) r) (hg : Gl X x) (hm : X.mg x = none) (hv : bootBuiltins x = some (.type T)) (h : Ea X Ψ ρ F (e :: es) (fun xs F1 => LA X Ψ ρ (fun _ => r) xs F1 Φ)) (hn : x ≠ "__name__" := by decide)
    (hdb : (x == ("__debug__" : Str)) = false := by decide) (he : starEach (e :: es) X.env = (false, eval e X.env) :: starEach es X.env := by rfl) (hpl : (backTo pos (starEach es X.env)).any (·.1) = false := by rfl) : Ev X Ψ ρ F (.Call (.Name x p) (e :: es) [] pos) Φ :=
  ev_args (r := fun _ => r) (fun t ht => pe_callTy hc hg hm hv ht hn hdb he hpl) h
theorem Ea.mono {Φ Φ' : List D → FS → Prop} (h : Ea X Ψ ρ F es Φ) (w : ∀ d F', Φ d F' → Φ' d F') : Ea X Ψ ρ F es Φ' :=
  ⟨pa_weak h.pa fun σ H Q ⟨P, tk, hd, en, k⟩ => ⟨P, tk, hd, en, fun v d P' F' H' s1 hd1 r φ => k v d P' F' H' s1 hd1 r (w _ _ φ)⟩⟩
theorem ea1 {Φ : List D → FS → Prop} (h : Ev X Ψ ρ F a (fun x F1 => Φ [x] F1)) (hs : starEach [a] X.env = (false, eval a X.env) :: starEach [] X.env := by rfl) : Ea X Ψ ρ F [a] Φ :=
  ea_cons (h.mono fun x F1 k => ea_nil k) hs
theorem ea2 {Φ : List D → FS → Prop} (h : Ev X Ψ ρ F a (fun x F1 => Ev X Ψ ρ F1 b (fun y F2 => Φ [x, y] F2))) (hs : starEach [a, b] X.env = (false, eval a X.env) :: starEach [b] X.env := by rfl) (hs2 : starEach [b] X.env = (false, eval b X.env) :: starEach [] X.env := by rfl) : Ea X Ψ ρ F [a, b] Φ :=
  ea_cons (h.mono fun x F1 k => ea1 k hs2) hs
theorem reps1 {K : PySem.W.Frag} {P : Hp} {x : D} {us : List V} (r : Reps K P [x] us) : ∃ u, us = [u] ∧ Rep K P x u := by
  cases r with
  | cons r1 r2 =>
    cases r2
    exact ⟨_, rfl, r1⟩
theorem reps2 {K : PySem.W.Frag} {P : Hp} {x y : D} {us : List V} (r : Reps K P [x, y] us) : ∃ u v, us = [u, v] ∧ Rep K P x u ∧ Rep K P y v := by
  cases r with
  | cons r1 r2 =>
    obtain ⟨v, rfl, r3⟩ := reps1 r2
    exact ⟨_, _, rfl, r1, r3⟩
/-- len -/
def LenD (F : FS) (x : D) (Φ : Nat → Prop) : Prop := match x with
  | .str z => z.length ≤ sizeLine ∧ Φ z.length
  | .lst xs => Φ xs.length
  | .tup xs => Φ xs.length
  | .scr ns => Φ ns.length
  | .raw (.ref l) => ∃ xs, F l = some (.lst xs) ∧ Φ xs.length
  | _ => False
theorem ev_len {p : Pos} {Φ : D → FS → Prop} (hm : X.mg "len" = none) (h : Ev X Ψ ρ F a (fun x F1 => LenD F1 x fun n => Φ (.int (n : Nat)) F1)) (hg : Gl X "len" := by rfl) (hs : starEach [a] X.env = (false, eval a X.env) :: starEach [] X.env := by rfl) : Ev X Ψ ρ F (.Call (.Name "len" p) [a] [] pos) Φ := by
  refine ev_callB call_len hg hm PySem.boot_len (ea1 (h.mono fun x F1 h1 P σ H us Q tk hd en rp q => ?_) hs) (by decide) (by decide) hs
  obtain ⟨u, rfl, r⟩ := reps1 rp
  cases r with
  | str z => exact ⟨_, _, rfl, ⟨h1.1, rfl⟩, q _ _ P F1 H (Same.refl P) hd (.int _) h1.2⟩
  | @lst ds ad vs hq rr => exact ⟨_, _, rfl, .inl ⟨vs, SqL.of (hd.pure _ _ hq), Paired.length rr⟩, q _ _ P F1 H (Same.refl P) hd (.int _) h1⟩
  | @tup ds ad vs hq rr => exact ⟨_, _, rfl, .inr ⟨vs, SqT.of (hd.pure _ _ hq), Paired.length rr⟩, q _ _ P F1 H (Same.refl P) hd (.int _) h1⟩
  | @scr ns ad hq => exact ⟨_, _, rfl, .inl ⟨_, Same.seq hd.pure hq, by rw [List.length_map]⟩, q _ _ P F1 H (Same.refl P) hd (.int _) h1⟩
  | raw =>
    cases u with
    | ref l =>
      obtain ⟨xs, e1, h1⟩ := h1
      obtain ⟨_, vs, e3, rr⟩ := hd.mt l _ e1
      exact ⟨_, _, rfl, .inl ⟨vs, SqL.of e3, Paired.length rr⟩, q _ _ P F1 H (Same.refl P) hd (.int _) h1⟩
    | _ => exact False.elim h1
  | _ => exact False.elim h1
theorem ev_abs {p : Pos} {Φ : D → FS → Prop} (hm : X.mg "abs" = none) (h : Ev X Ψ ρ F a (fun x F1 => IntD x fun i => Φ (.int (if i < 0 then -i else i)) F1)) (hg : Gl X "abs" := by rfl) (hs : starEach [a] X.env = (false, eval a X.env) :: starEach [] X.env := by rfl) : Ev X Ψ ρ F (.Call (.Name "abs" p) [a] [] pos) Φ := by
  refine ev_callB call_abs hg hm PyProof.Rows.boot_abs (ea1 (h.mono fun x F1 h1 P σ H us Q tk hd en rp q => ?_) hs) (by decide) (by decide) hs
  obtain ⟨u, rfl, r⟩ := reps1 rp
  cases r with
  | int i => exact ⟨i, rfl, q _ _ P F1 H (Same.refl P) hd (.int _) h1⟩
  | _ => exact False.elim h1
theorem ev_max2 {p : Pos} {Φ : D → FS → Prop} (hc : X.calm = true) (hm : X.mg "max" = none) (h : Ea X Ψ ρ F [a, b] (fun xs F1 => ∃ i j, xs = [.int i, .int j] ∧ Φ (.int (if j > i then j else i)) F1)) (hg : Gl X "max" := by rfl)
    (hs : starEach [a, b] X.env = (false, eval a X.env) :: starEach [b] X.env := by rfl) (hpl : (backTo pos (starEach [b] X.env)).any (·.1) = false := by rfl) : Ev X Ψ ρ F (.Call (.Name "max" p) [a, b] [] pos) Φ := by
  refine ev_callB (call_max2 hc) hg hm PyProof.Rows.boot_max (h.mono fun xs F1 h1 P σ H us Q tk hd en rp q => ?_) (by decide) (by decide) hs hpl
  obtain ⟨i, j, rfl, h1⟩ := h1
  obtain ⟨u, v, rfl, r1, r2⟩ := reps2 rp
  cases r1
  cases r2
  exact ⟨i, j, rfl, q _ _ P F1 H (Same.refl P) hd (.int _) h1⟩
theorem ev_min2 {p : Pos} {Φ : D → FS → Prop} (hc : X.calm = true) (hm : X.mg "min" = none) (h : Ea X Ψ ρ F [a, b] (fun xs F1 => ∃ i j, xs = [.int i, .int j] ∧ Φ (.int (if j < i then j else i)) F1)) (hg : Gl X "min" := by rfl)
    (hs : starEach [a, b] X.env = (false, eval a X.env) :: starEach [b] X.env := by rfl) (hpl : (backTo pos (starEach [b] X.env)).any (·.1) = false := by rfl) : Ev X Ψ ρ F (.Call (.Name "min" p) [a, b] [] pos) Φ := by
  refine ev_callB (call_min2 hc) hg hm PyProof.Rows.boot_min (h.mono fun xs F1 h1 P σ H us Q tk hd en rp q => ?_) (by decide) (by decide) hs hpl
  obtain ⟨i, j, rfl, h1⟩ := h1
  obtain ⟨u, v, rfl, r1, r2⟩ := reps2 rp
  cases r1
  cases r2
  exact ⟨i, j, rfl, q _ _ P F1 H (Same.refl P) hd (.int _) h1⟩
/-- all(xs), any(xs) of truth values -/
def BlsD (x : D) (Φ : List Bool → Prop) : Prop := ∃ bs, x = .lst (bs.map D.bl) ∧ Φ bs
theorem ev_all {p : Pos} {Φ : D → FS → Prop} (hc : X.calm = true) (hm : X.mg "all" = none) (h : Ev X Ψ ρ F a (fun x F1 => BlsD x fun bs => Φ (.bl (bs.all id)) F1)) (hg : Gl X "all" := by rfl) (hs : starEach [a] X.env = (false, eval a X.env) :: starEach [] X.env := by rfl) : Ev X Ψ ρ F (.Call (.Name "all" p) [a] [] pos) Φ := by
  refine ev_callB (cr_all hc) hg hm PyProof.Rows.boot_all (ea1 (h.mono fun x F1 h1 P σ H us Q tk hd en rp q => ?_) hs) (by decide) (by decide) hs
  obtain ⟨u, rfl, r⟩ := reps1 rp
  obtain ⟨bs, rfl, h1⟩ := h1
  cases r with
  | @lst ds ad vs hq rr =>
    rw [Reps.bls rr] at hq
    exact ⟨ad, bs, rfl, SqL.of (hd.pure _ _ hq), q _ _ P F1 H (Same.refl P) hd (.bl _) h1⟩
theorem ev_any {p : Pos} {Φ : D → FS → Prop} (hc : X.calm = true) (hm : X.mg "any" = none) (h : Ev X Ψ ρ F a (fun x F1 => BlsD x fun bs => Φ (.bl (bs.any id)) F1)) (hg : Gl X "any" := by rfl) (hs : starEach [a] X.env = (false, eval a X.env) :: starEach [] X.env := by rfl) : Ev X Ψ ρ F (.Call (.Name "any" p) [a] [] pos) Φ := by
  refine ev_callB (cr_any hc) hg hm PyProof.Rows.boot_any (ea1 (h.mono fun x F1 h1 P σ H us Q tk hd en rp q => ?_) hs) (by decide) (by decide) hs
  obtain ⟨u, rfl, r⟩ := reps1 rp
  obtain ⟨bs, rfl, h1⟩ := h1
  cases r with
  | @lst ds ad vs hq rr =>
    rw [Reps.bls rr] at hq
    exact ⟨ad, bs, rfl, SqL.of (hd.pure _ _ hq), q _ _ P F1 H (Same.refl P) hd (.bl _) h1⟩
/-- str(n), str(text) -/
def strI (i : Int) : Str := Str.ofString (toString i)
def StrOfD (x : D) (Φ : Str → Prop) : Prop := match x with
  | .int i => i.natAbs.log2 < 1920 ∧ Φ (strI i)
  | .str z => Φ z
  | _ => False
theorem call_strA : CallR X (.type "str") (fun xs H Q => (∃ i, xs = [.int i] ∧ i.natAbs.log2 < 1920 ∧ Q (.str (strI i)) H) ∨ ∃ z, xs = [.str z] ∧ Q (.str z) H) := by
  refine CallR.or call_str_int ?_
  intro pins s σ H xs us Q I r h
  obtain ⟨z, rfl, q⟩ := h
  obtain ⟨u, rfl, t, rfl⟩ := vals1 r
  exact PySem.P.str_of_str ⟨.str z, H, I, ⟨t, rfl⟩, q⟩
theorem ev_strOf {p : Pos} {Φ : D → FS → Prop} (hm : X.mg "str" = none) (h : Ev X Ψ ρ F a (fun x F1 => StrOfD x fun z => Φ (.str z) F1)) (hg : Gl X "str" := by rfl) (hs : starEach [a] X.env = (false, eval a X.env) :: starEach [] X.env := by rfl) : Ev X Ψ ρ F (.Call (.Name "str" p) [a] [] pos) Φ := by
  refine ev_callTy call_strA hg hm PyProof.Rows.boot_str (ea1 (h.mono fun x F1 h1 P σ H us Q tk hd en rp q => ?_) hs) (by decide) (by decide) hs
  obtain ⟨u, rfl, r⟩ := reps1 rp
  cases r with
  | int i => exact .inl ⟨i, rfl, h1.1, q _ _ P F1 H (Same.refl P) hd (.str _) h1.2⟩
  | str z => exact .inr ⟨z, rfl, q _ _ P F1 H (Same.refl P) hd (.str _) h1⟩
  | _ => exact False.elim h1
/-- int(text), int(truth value), int(n) -/
def IntOfD (x : D) (Φ : Int → Prop) : Prop := match x with
  | .str z => ∃ n, PySem.intText? z = some n ∧ z.length ≤ 640 ∧ Φ n
  | .int i => Φ i
  | .bl k => Φ (if k then 1 else 0)
  | _ => False
theorem ev_intOf {p : Pos} {Φ : D → FS → Prop} (hm : X.mg "int" = none) (h : Ev X Ψ ρ F a (fun x F1 => IntOfD x fun n => Φ (.int n) F1)) (hg : Gl X "int" := by rfl) (hs : starEach [a] X.env = (false, eval a X.env) :: starEach [] X.env := by rfl) : Ev X Ψ ρ F (.Call (.Name "int" p) [a] [] pos) Φ := by
  refine ev_callTy (call_int_str.or call_int1) hg hm PyProof.Rows.boot_int (ea1 (h.mono fun x F1 h1 P σ H us Q tk hd en rp q => ?_) hs) (by decide) (by decide) hs
  obtain ⟨u, rfl, r⟩ := reps1 rp
  cases r with
  | str z =>
    obtain ⟨n, h1, h2, h3⟩ := h1
    exact .inl ⟨z, n, rfl, h1, h2, q _ _ P F1 H (Same.refl P) hd (.int _) h3⟩
  | int i => exact .inr (.inl ⟨i, rfl, q _ _ P F1 H (Same.refl P) hd (.int _) h1⟩)
  | bl k => exact .inr (.inr ⟨k, rfl, q _ _ P F1 H (Same.refl P) hd (.int _) h1⟩)
  | _ => exact False.elim h1
/-- list(x): a new list -/
theorem vals_of_get : ∀ {vs : List V} {us : List Value}, vs.length = us.length → (∀ (i : Nat) v u, vs[i]? = some v → us[i]? = some u → RelV v u) → Vals vs us
  | [], [], _, _ => .nil
  | [], _ :: _, h, _ => by cases h
  | _ :: _, [], h, _ => by cases h
  | v :: vs, u :: us, h, g => .cons (g 0 v u rfl rfl) (vals_of_get (Nat.succ.inj h) fun i x y h1 h2 => g (i + 1) x y h1 h2)
theorem call_listS (hc : X.calm = true) : CallR X (.type "list") (fun xs H Q => ∃ z : Str, xs = [.str z] ∧ z.length ≤ sizeLine ∧ ∀ p, H p = none → Q (.ref p) (upd H p (.lst (z.cps.toList.map fun c => V.str ⟨#[c]⟩)))) := by
  intro pins s σ H xs us Q I r h
  obtain ⟨z, rfl, hz, q⟩ := h
  obtain ⟨u, rfl, t, rfl⟩ := vals1 r
  refine call_list_str (I.ok.hd hc) z t (fun h' tk acc c' k e it => ?_) hz
  have rv : Vals (z.cps.toList.map fun c => V.str ⟨#[c]⟩) acc.toList := by
    refine vals_of_get (by rw [List.length_map, Array.length_toList, Array.length_toList, it.1]) fun i v w hv hw => ?_
    rw [Array.getElem?_toList] at hw
    obtain ⟨c, t2, h1, h2⟩ := it.2 i w hw
    rw [List.getElem?_map, Array.getElem?_toList, h1] at hv
    obtain rfl := Option.some.inj hv
    exact ⟨t2, h2⟩
  exact ⟨.ref _, _, I.laid (t' := tk) (o := HO.lst (z.cps.toList.map fun c => V.str ⟨#[c]⟩)) k (Nat.le_refl _) ⟨by rw [List.length_map, Array.length_toList]; exact hz, acc.toList, c', rv, e⟩, rfl, q _ (I.hok.fresh (Nat.le_refl _))⟩
/-- what list(x) lists -/
def ListOfD (F : FS) (x : D) (Φ : List D → Prop) : Prop := match x with
  | .str z => z.length ≤ sizeLine ∧ Φ (signsD z)
  | .lst xs => Φ xs
  | .tup xs => Φ xs
  | .scr ns => Φ (ns.map D.int)
  | .raw (.ref l) => ∃ xs, F l = some (.lst xs) ∧ Φ xs
  | _ => False
theorem ev_listOf {p : Pos} {Φ : D → FS → Prop} (hc : X.calm = true) (hm : X.mg "list" = none) (h : Ev X Ψ ρ F a (fun x F1 => ListOfD F1 x fun ds => ∀ l, F1 l = none → Φ (.raw (.ref l)) (updF F1 l (.lst ds)))) (hg : Gl X "list" := by rfl)
    (hs : starEach [a] X.env = (false, eval a X.env) :: starEach [] X.env := by rfl) : Ev X Ψ ρ F (.Call (.Name "list" p) [a] [] pos) Φ := by
  refine ev_callTy (call_list_of.or (call_listS hc)) hg hm PyProof.Rows.boot_list (ea1 (h.mono fun x F1 h1 P σ H us Q tk hd en rp q => ?_) hs) (by decide) (by decide) hs
  obtain ⟨u, rfl, r⟩ := reps1 rp
  have go : ∀ (ds : List D) (vs : List V), Reps X.K P ds vs → (∀ l, F1 l = none → Φ (.raw (.ref l)) (updF F1 l (.lst ds))) → ∀ l, H l = none → Q (.ref l) (upd H l (.lst vs)) := fun ds vs rr k l hl =>
    q _ _ P _ _ (Same.refl P) (hd.newF hl (m := .lst ds) ⟨vs, upd_same, rr⟩) (.raw _) (k l (hd.no hl).2)
  cases r with
  | str z => exact .inr ⟨z, rfl, h1.1, go (signsD z) _ (by
      have e : (z.cps.toList.map fun c => V.str ⟨#[c]⟩) = (z.cps.toList.map fun c => (⟨#[c]⟩ : Str)).map V.str := by rw [List.map_map]; rfl
      have e2 : signsD z = (z.cps.toList.map fun c => (⟨#[c]⟩ : Str)).map D.str := by unfold signsD; rw [List.map_map]; rfl
      rw [e, e2]
      exact Reps.of_strs) h1.2⟩
  | @lst ds ad vs hq rr => exact .inl ⟨ad, vs, rfl, .inl (SqL.of (hd.pure _ _ hq)), go ds vs rr h1⟩
  | @tup ds ad vs hq rr => exact .inl ⟨ad, vs, rfl, .inr (SqT.of (hd.pure _ _ hq)), go ds vs rr h1⟩
  | @scr ns ad hq => exact .inl ⟨ad, _, rfl, .inl (Same.seq hd.pure hq), go _ _ Reps.of_ints h1⟩
  | raw =>
    cases u with
    | ref l =>
      obtain ⟨xs, e1, h1⟩ := h1
      obtain ⟨_, vs, e3, rr⟩ := hd.mt l _ e1
      exact .inl ⟨l, vs, rfl, .inl (SqL.of e3), go xs vs rr h1⟩
    | _ => exact False.elim h1
  | _ => exact False.elim h1
def TupOfD (F : FS) (x : D) (Φ : List D → Prop) : Prop := match x with
  | .lst xs => Φ xs
  | .tup xs => Φ xs
  | .raw (.ref l) => ∃ xs, F l = some (.lst xs) ∧ Φ xs
  | _ => False
theorem ev_tupOf {p : Pos} {Φ : D → FS → Prop} (hm : X.mg "tuple" = none) (h : Ev X Ψ ρ F a (fun x F1 => TupOfD F1 x fun ds => Φ (.tup ds) F1)) (hg : Gl X "tuple" := by rfl)
    (hs : starEach [a] X.env = (false, eval a X.env) :: starEach [] X.env := by rfl) : Ev X Ψ ρ F (.Call (.Name "tuple" p) [a] [] pos) Φ := by
  refine ev_callTy call_tuple_of hg hm PyProof.Rows.boot_tuple (ea1 (h.mono fun x F1 h1 P σ H us Q tk hd en rp q => ?_) hs) (by decide) (by decide) hs
  obtain ⟨u, rfl, r⟩ := reps1 rp
  have go : ∀ (ds : List D) (vs : List V), Reps X.K P ds vs → Φ (.tup ds) F1 → ∀ l, H l = none → Q (.ref l) (upd H l (.tup vs)) := fun ds vs rr k l hl => by
    obtain ⟨z1, z2⟩ := hd.new hl (.tup vs)
    exact q _ _ _ _ _ z1 z2 (.tup upd_same (Reps.mono z1 rr)) k
  cases r with
  | @lst ds ad vs hq rr => exact ⟨ad, vs, rfl, .inl ⟨SqL.of (hd.pure _ _ hq), go ds vs rr h1⟩⟩
  | @tup ds ad vs hq rr => exact ⟨ad, vs, rfl, .inr ⟨SqT.of (hd.pure _ _ hq), q _ _ P F1 H (Same.refl P) hd (.tup hq rr) h1⟩⟩
  | raw =>
    cases u with
    | ref l =>
      obtain ⟨xs, e1, h1⟩ := h1
      obtain ⟨_, vs, e3, rr⟩ := hd.mt l _ e1
      exact ⟨l, vs, rfl, .inl ⟨SqL.of e3, go xs vs rr h1⟩⟩
    | _ => exact False.elim h1
  | _ => exact False.elim h1
/-- xs[lo:hi] as a list that will be changed -/
theorem ev_sliceM {lo hi : Option Expr} {p2 : Pos} {Φ : D → FS → Prop} (h : Ev X Ψ ρ F a (fun x F1 => Eo X Ψ ρ F1 lo (fun l F2 => Eo X Ψ ρ F2 hi (fun u F3 => TupOfD F3 x fun ds => (∀ es, x ≠ .tup es) ∧ ∀ p, F3 p = none → Φ (.raw (.ref p)) (updF F3 p (.lst (cutD ds l u))))))) : Ev X Ψ ρ F (.Subscript a (.Slice lo hi none p2) pos) Φ := by
  let ι1 := Ix fun x F1 => Eo X Ψ ρ F1 lo (fun l F2 => Eo X Ψ ρ F2 hi (fun u F3 => TupOfD F3 x fun ds => (∀ es, x ≠ .tup es) ∧ ∀ p, F3 p = none → Φ (.raw (.ref p)) (updF F3 p (.lst (cutD ds l u)))))
  let ι2 := { p : D × Option Int × FS // Eo X Ψ ρ p.2.2 hi (fun u F3 => TupOfD F3 p.1 fun ds => (∀ es, p.1 ≠ .tup es) ∧ ∀ q, F3 q = none → Φ (.raw (.ref q)) (updF F3 q (.lst (cutD ds p.2.1 u)))) }
  refine ⟨pe_weak (pe_slice sl_any h.pe (po_fam (ι := ι1) fun i => i.2.po) (po_fam (ι := ι2) fun i => i.2.po)) fun σ H Q ⟨P, tk, hd, en, k⟩ => ⟨P, tk, hd, en, fun v d P1 F1 H1 s1 hd1 rp φ =>
    ⟨⟨(d, F1), φ⟩, P1, takes_mono s1 tk, hd1, en.mono s1, fun l P2 F2 H2 s2 hd2 φ2 => ⟨⟨(d, l, F2), φ2⟩, P2, takes_mono (Same.trans s1 s2) tk, hd2, en.mono (Same.trans s1 s2), fun u P3 F3 H3 s3 hd3 φ3 => ?_⟩⟩⟩⟩
  have st : Same P P3 := Same.trans s1 (Same.trans s2 s3)
  have go : ∀ (ds : List D) (vs : List V), Reps X.K P3 ds vs → (∀ q, F3 q = none → Φ (.raw (.ref q)) (updF F3 q (.lst (cutD ds l u)))) → ∀ q, H3 q = none → Q (.ref q) (upd H3 q (.lst (cutV vs l u))) := fun ds vs rr kk q hq =>
    k _ _ P3 _ _ st (hd3.newF hq (m := .lst (cutD ds l u)) ⟨_, upd_same, cut_reps rr l u⟩) (.raw _) (kk q (hd3.no hq).2)
  cases rp.mono (Same.trans s2 s3) with
  | @lst ds ad vs hq rr => exact .inl ⟨ad, vs, rfl, SqL.of (hd3.pure _ _ hq), go ds vs rr φ3.2⟩
  | @tup ds ad vs hq rr => exact absurd rfl (φ3.1 ds)
  | raw =>
    cases v with
    | ref m =>
      obtain ⟨xs, e1, φ3⟩ := φ3
      obtain ⟨_, vs, e3, rr⟩ := hd3.mt m _ e1
      exact .inl ⟨m, vs, rfl, SqL.of e3, go xs vs rr φ3.2⟩
    | _ => exact False.elim φ3
  | _ => exact False.elim φ3
end
end TM

set_option Elab.async false
set_option linter.all false
set_option maxRecDepth 100000
set_option maxHeartbeats 4000000
/-! The data layer: list comprehensions; things that are lent. -/
namespace TM
open PySem PySem.Spec PyProof.Rows L2

/-- the context of a comprehension's block -/
abbrev BX (X : Cx) (scope : Scope) (s : Shared) (H : Hp) (C : Addr) (cl : List (Str × Addr)) (fp : List Addr) : Cx := X.blk s H scope (compEnvC scope cl C X.env) fp

/-! ### targets of a comprehension: only the block's own names -/
def tGc (X : Cx) (vs : List Nat) (ρ : En) (F : FS) (d : D) (A : En → FS → Prop) : TG := fun v σ H Q => ∃ P, Hd X.K P F H ∧ EnvR X.K P ρ σ ∧ Rep X.K P d v ∧
  ∀ σ' ρ' P' F' H', Same P P' → Hd X.K P' F' H' → EnvR X.K P' ρ' σ' → wipe σ' vs = wipe σ vs → A ρ' F' → Q σ' H'
structure Gc (X : Cx) (vs : List Nat) (ρ : En) (F : FS) (tg : Expr) (d : D) (A : En → FS → Prop) : Prop where
  pg : PG X tg (tGc X vs ρ F d A)
def tGcs (X : Cx) (vs : List Nat) (ρ : En) (F : FS) (ds : List D) (A : En → FS → Prop) : TGs := fun us σ H Q => ∃ P, Hd X.K P F H ∧ EnvR X.K P ρ σ ∧ Reps X.K P ds us ∧
  ∀ σ' ρ' P' F' H', Same P P' → Hd X.K P' F' H' → EnvR X.K P' ρ' σ' → wipe σ' vs = wipe σ vs → A ρ' F' → Q σ' H'
structure Gcs (X : Cx) (vs : List Nat) (ρ : En) (F : FS) (tgs : List Expr) (ds : List D) (A : En → FS → Prop) : Prop where
  pgs : PGs X tgs (tGcs X vs ρ F ds A)
theorem wipe_in {σ : L2.St} {i : Nat} {o : Option V} : ∀ {vs : List Nat}, i ∈ vs → wipe (σ.set i o) vs = wipe σ vs
  | v :: vs, h => by
    have out : ∀ (vs : List Nat) (τ : L2.St), (wipe (τ.set i o) vs).set i none = (wipe τ vs).set i none := by
      intro vs
      induction vs with
      | nil =>
        intro τ
        show (τ.set i o).set i none = τ.set i none
        rw [List.set_set]
      | cons w ws ih =>
        intro τ
        show ((wipe (τ.set i o) ws).set w none).set i none = ((wipe τ ws).set w none).set i none
        by_cases e : w = i
        · rw [e, List.set_set, List.set_set, ih]
        · rw [List.set_comm _ _ e, ih, List.set_comm _ _ (Ne.symm e)]
    show (wipe (σ.set i o) vs).set v none = (wipe σ vs).set v none
    rcases List.mem_cons.mp h with e | h
    · subst e
      exact out vs σ
    · rw [wipe_in h]
section
variable {X : Cx} {vs : List Nat} {ρ : En} {F : FS} {pos : Pos}
theorem gc_name {i : Nat} {x : Str} {d : D} {A : En → FS → Prop} (h : PG X (.Name x pos) (gName i)) (hi : i ∈ vs) (k : A (ρ.set i (some d)) F) : Gc X vs ρ F (.Name x pos) d A :=
  ⟨pg_weak h fun v σ H Q ⟨P, hd, en, r, q⟩ => q _ _ P F H (Same.refl P) hd (en.set i r) (wipe_in hi) k⟩
theorem gcs_nil {A : En → FS → Prop} (k : A ρ F) : Gcs X vs ρ F [] [] A :=
  ⟨pgs_weak pgs_nil fun v σ H Q ⟨P, hd, en, r, q⟩ => by
    cases r
    exact ⟨rfl, q _ _ P F H (Same.refl P) hd en rfl k⟩⟩
theorem gcs_cons {tg : Expr} {tgs : List Expr} {d : D} {ds : List D} {A : En → FS → Prop} (h : Gc X vs ρ F tg d (fun ρ1 F1 => Gcs X vs ρ1 F1 tgs ds A)) (hs : (assignEach (tg :: tgs) X.env).map (·.2) = assign tg X.env :: (assignEach tgs X.env).map (·.2) := by rfl) : Gcs X vs ρ F (tg :: tgs) (d :: ds) A :=
  ⟨pgs_weak (pgs_cons h.pg (pgs_fam (ι := { p : En × FS // Gcs X vs p.1 p.2 tgs ds A }) fun i => i.2.pgs) hs) fun v σ H Q ⟨P, hd, en, r, q⟩ => by
    cases r with
    | cons r rr => exact ⟨_, _, rfl, P, hd, en, r, fun σ1 ρ1 P1 F1 H1 s1 hd1 en1 w1 φ => ⟨⟨(ρ1, F1), φ⟩, P1, hd1, en1, Reps.mono s1 rr, fun σ2 ρ2 P2 F2 H2 s2 hd2 en2 w2 => q σ2 ρ2 P2 F2 H2 (Same.trans s1 s2) hd2 en2 (w2.trans w1)⟩⟩⟩
theorem gc_tup {tgs : List Expr} {k n : Nat} {d : D} {A : En → FS → Prop} (hc : X.calm = true) (h : TupD d fun ds => ds.length = n ∧ Gcs X vs ρ F tgs ds A) (hn : (assignEach tgs X.env).length = n := by rfl) (hst : (assignEach tgs X.env).findIdx? (·.1) = none := by rfl) : Gc X vs ρ F (.Tuple tgs k pos) d A := by
  cases d with
  | tup ds =>
    refine ⟨pg_weak (pg_tup hc h.2.pgs hn hst) fun v σ H Q ⟨P, hd, en, r, q⟩ => ?_⟩
    cases r with
    | tup hq rr => exact ⟨_, _, rfl, SqT.of (hd.pure _ _ hq), by rw [← Paired.length rr]; exact h.1, P, hd, en, rr, q⟩
  | _ => exact False.elim h
end

/-! ### the tests of a comprehension -/
structure Ets (X : Cx) (ρ : En) (F : FS) (es : List Expr) (Φ : Bool → FS → Prop) : Prop where
  pts : PTs X es (tT X NoE ρ F Φ)
theorem pts_weak {X : Cx} {es : List Expr} {t t' : TT} (h : PTs X es t) (w : ∀ σ H Q, t' σ H Q → t σ H Q) : PTs X es t' := ⟨fun pins s σ H Q I q => h.run pins s σ H Q I (w _ _ _ q)⟩
theorem pts_fam {X : Cx} {es : List Expr} {ι : Type} {t : ι → TT} (h : ∀ i, PTs X es (t i)) : PTs X es (fun σ H Q => ∃ i, t i σ H Q) := ⟨fun pins s σ H Q I ⟨i, q⟩ => (h i).run pins s σ H Q I q⟩
section
variable {X : Cx} {ρ : En} {F : FS}
theorem ets_nil {Φ : Bool → FS → Prop} (k : Φ true F) : Ets X ρ F [] Φ := ⟨pts_weak pts_nil fun σ H Q ⟨P, tk, hd, en, q⟩ => q true P F H (Same.refl P) hd k⟩
theorem ets_one {c : Expr} {Φ : Bool → FS → Prop} (h : Et X NoE ρ F c Φ) : Ets X ρ F [c] Φ := ⟨pts_one h.pt⟩
end

/-! ### the comprehension -/
section
variable {X : Cx} {Ψ : XP} {ρ : En} {F : FS} {elt tg iter : Expr} {ifs : List Expr} {scope : Scope} {pos : Pos}
/-- in every context that the block may have -/
abbrev AllB (X : Cx) (scope : Scope) (p : Cx → Prop) : Prop := ∀ (s : Shared) (H : Hp) (C : Addr) (cl : List (Str × Addr)) (fp : List Addr), p (BX X scope s H C cl fp)
/-- one turn -/
def Turn (X : Cx) (scope : Scope) (vs : List Nat) (tg : Expr) (ifs : List Expr) (elt : Expr) (ρ : En) (d : D) (F2 : FS) (No : Prop) (Yes : D → FS → Prop) : Prop :=
  ∃ (ρ3 : En) (b : Bool), AllB X scope (fun B => Gc B vs (wipeD ρ vs) F2 tg d (fun ρ' F' => ρ' = ρ3 ∧ F' = F2)) ∧ AllB X scope (fun B => Ets B ρ3 F2 ifs (fun b' F' => b' = b ∧ F' = F2)) ∧
    Br b (AllB X scope (fun B => Ev B NoE ρ3 F2 elt Yes)) No
/-- what one asks of the turns: L the list that is made, acc what it has -/
def LcOk (X : Cx) (scope : Scope) (vs : List Nat) (tg : Expr) (ifs : List Expr) (elt : Expr) (ρ : En) (F1 : FS) (ys : List D) (Φ : Addr → List D → FS → Prop) : Prop := ∃ I : Addr → Nat → List D → FS → Prop, (∀ L, F1 L = none → I L 0 [] (updF F1 L (.lst []))) ∧
  (∀ L i d acc F2, ys[i]? = some d → I L i acc F2 → F2 L = some (.lst acc) → Turn X scope vs tg ifs elt ρ d F2 (I L (i + 1) acc F2) (fun y F5 => F5 L = some (.lst acc) ∧ acc.length < sizeLine ∧ I L (i + 1) (acc ++ [y]) (updF F5 L (.lst (acc ++ [y]))))) ∧
  ∀ L acc F2, I L ys.length acc F2 → F2 L = some (.lst acc) → Φ L acc F2
abbrev ιG (X : Cx) (scope : Scope) (vs : List Nat) (tg : Expr) (ρ : En) := { p : (D × FS) × En // AllB X scope (fun B => Gc B vs (wipeD ρ vs) p.1.2 tg p.1.1 (fun ρ' F' => ρ' = p.2 ∧ F' = p.1.2)) }
abbrev ιT (X : Cx) (scope : Scope) (ifs : List Expr) := { p : (En × FS) × Bool // AllB X scope (fun B => Ets B p.1.1 p.1.2 ifs (fun b' F' => b' = p.2 ∧ F' = p.1.2)) }
abbrev ιE (X : Cx) (scope : Scope) (elt : Expr) := { p : (En × FS) × (D → FS → Prop) // AllB X scope (fun B => Ev B NoE p.1.1 p.1.2 elt p.2) }
abbrev gOf (X : Cx) (scope : Scope) (vs : List Nat) (tg : Expr) (ρ : En) : TG := fun v σ H Q => ∃ i : ιG X scope vs tg ρ, tGc X vs (wipeD ρ vs) i.1.1.2 i.1.1.1 (fun ρ' F' => ρ' = i.1.2 ∧ F' = i.1.1.2) v σ H Q
abbrev tOf (X : Cx) (scope : Scope) (ifs : List Expr) : TT := fun σ H Q => ∃ i : ιT X scope ifs, ∃ P, Hd X.K P i.1.1.2 H ∧ EnvR X.K P i.1.1.1 σ ∧ ∀ b P' F' H', Same P P' → Hd X.K P' F' H' → b = i.1.2 ∧ F' = i.1.1.2 → Q b H'
abbrev eOf (X : Cx) (scope : Scope) (elt : Expr) : TE := fun σ H Q => ∃ i : ιE X scope elt, ∃ P, Hd X.K P i.1.1.2 H ∧ EnvR X.K P i.1.1.1 σ ∧ ∀ v d P' F' H', Same P P' → Hd X.K P' F' H' → Rep X.K P' d v → i.1.2 d F' → Q v H'
theorem gOf_ok {vs : List Nat} (s : Shared) (H : Hp) (C : Addr) (cl : List (Str × Addr)) (fp : List Addr) : PG (BX X scope s H C cl fp) tg (gOf X scope vs tg ρ) :=
  pg_fam fun i => (i.2 s H C cl fp).pg
theorem tOf_ok (s : Shared) (H : Hp) (C : Addr) (cl : List (Str × Addr)) (fp : List Addr) : PTs (BX X scope s H C cl fp) ifs (tOf X scope ifs) :=
  pts_fam fun i => pts_weak (i.2 s H C cl fp).pts fun σ H Q ⟨P, hd, en, k⟩ => ⟨P, takes_no, hd, en, k⟩
theorem eOf_ok (s : Shared) (H : Hp) (C : Addr) (cl : List (Str × Addr)) (fp : List Addr) : PE (BX X scope s H C cl fp) elt (eOf X scope elt) :=
  pe_fam fun i => pe_weak (i.2 s H C cl fp).pe fun σ H Q ⟨P, hd, en, k⟩ => ⟨P, takes_no, hd, en, k⟩
theorem tLc_of {vs : List Nat} {Φ : D → FS → Prop} {σ : L2.St} {H : Hp} {Q : VK}
    (h : tE X Ψ ρ F Φ σ H Q) : tLc (tIt X Ψ ρ F (fun ys F1 => LcOk X scope vs tg ifs elt ρ F1 ys (fun L _ F2 => Φ (.raw (.ref L)) F2))) (gOf X scope vs tg ρ) (tOf X scope ifs) (eOf X scope elt) vs σ H Q := by
  obtain ⟨P, tk, hd, en, k⟩ := h
  refine ⟨P, tk, hd, en, fun J ys P1 F1 H1 s1 hd1 ok φ L hL => ?_⟩
  obtain ⟨I, h0, step, last⟩ := φ
  obtain ⟨hp1, hf1⟩ := hd1.no hL
  refine ⟨fun i m H => m = ys.length - i ∧ i ≤ ys.length ∧ ∃ acc F2 P2, Same P1 P2 ∧ Hd X.K P2 F2 H ∧ F2 L = some (.lst acc) ∧ I L i acc F2,
    ⟨ys.length, rfl, Nat.zero_le _, [], _, P1, Same.refl _, hd1.newF hL (m := .lst []) ⟨[], upd_same, .nil⟩, updF_same, h0 L hf1⟩, ?_⟩
  rintro i m H2 ⟨rfl, hi, acc, F2, P2, s2, hd2, hL2, w⟩
  by_cases hlt : i < ys.length
  · refine .inr ⟨ok.go P2 F2 H2 i s2 hd2 hlt, fun H3 => ∃ acc F3 P3, Same P1 P3 ∧ Hd X.K P3 F3 H3 ∧ F3 L = some (.lst acc) ∧ I L (i + 1) acc F3, fun H3 z => ⟨ys.length - (i + 1), by omega, rfl, hlt, z⟩, fun x H3 y => ?_⟩
    have hdi : ys[i]? = some ys[i] := by simp [hlt]
    obtain ⟨P3, s3, hd3, r3⟩ := ok.yld P2 F2 H2 i x H3 s2 hd2 y _ hdi
    obtain ⟨ρ3, b, hG, hT, hE⟩ := step L i _ acc F2 hdi w hL2
    refine ⟨⟨((ys[i], F2), ρ3), hG⟩, P3, hd3, EnvR.wiped (en.mono (Same.trans s1 (Same.trans s2 s3))) vs, r3, fun σ4 ρ4 P4 F4 H4 s4 hd4 en4 w4 e4 => ?_⟩
    obtain ⟨rfl, rfl⟩ := e4
    have w5 : wipe (wipe σ vs) vs = wipe σ vs := by
      have : ∀ ws : List Nat, (∀ i ∈ ws, i ∈ vs) → wipe (wipe σ ws) vs = wipe σ vs := by
        intro ws
        induction ws with
        | nil => exact fun _ => rfl
        | cons v ws ih => exact fun hh => (wipe_in (hh v List.mem_cons_self)).trans (ih fun i hi => hh i (List.mem_cons_of_mem _ hi))
      exact this vs fun i hi => hi
    refine ⟨w4.trans w5, ⟨((ρ4, F4), b), hT⟩, P4, hd4, en4, fun b' P5 F5 H5 s5 hd5 e5 => ?_⟩
    obtain ⟨rfl, rfl⟩ := e5
    have t5 : Same P1 P5 := Same.trans s2 (Same.trans s3 (Same.trans s4 s5))
    cases b' with
    | false => exact ⟨acc, F5, P5, t5, hd5, hL2, hE.2 rfl⟩
    | true =>
      refine ⟨⟨((ρ4, F5), _), hE.1 rfl⟩, P5, hd5, en4.mono s5, fun v d P6 F6 H6 s6 hd6 r6 φ6 => ?_⟩
      obtain ⟨q1, q2, q3⟩ := φ6
      obtain ⟨_, us, e7, r7⟩ := hd6.mt L _ q1
      exact ⟨us, e7, by rw [← Paired.length r7]; exact q2, acc ++ [d], _, P6, Same.trans t5 s6, hd6.write q1 (m := .lst (acc ++ [d])) ⟨_, upd_same, Reps.append r7 (.cons r6 .nil)⟩, updF_same, q3⟩
  · have e : i = ys.length := by omega
    subst e
    exact .inl ⟨ok.stop P2 F2 H2 s2 hd2, k _ _ P2 F2 H2 (Same.trans s1 s2) hd2 (.raw _) (last L acc F2 w hL2)⟩
/-- [elt for tg in iter if ..], a new list that may be changed -/
theorem ev_lcM {own : List (Str × Nat)} {Φ : D → FS → Prop} (hc : X.calm = true) (hN : X.N.Nodup) (ok : BlkOk X.N X.env.scope scope own)
    (h : Ei X Ψ ρ F tg iter (fun ys F1 => LcOk X scope (own.map (·.2)) tg ifs elt ρ F1 ys (fun L _ F2 => Φ (.raw (.ref L)) F2))) (hs : ∀ x, foldedSetIterable iter X.env x = pure x := by intro _; rfl) :
    Ev X Ψ ρ F (.ListComp elt [⟨tg, iter, ifs, 0⟩] scope pos) Φ :=
  ⟨pe_weak (pe_lc hc hN h.pi ok gOf_ok tOf_ok eOf_ok hs) fun σ H Q q => tLc_of q⟩
theorem es_setLcM {own : List (Str × Nat)} {i : Nat} {y : Str} {py spos : Pos} {Θ : Po} (hc : X.calm = true) (hN : X.N.Nodup) (hy : X.N[i]? = some y) (hyl : X.env.scope.names.lookup y = some .local)
    (hsw : swapsWith (.ListComp elt [⟨tg, iter, ifs, 0⟩] scope pos) (some (.Name y py)) spos.line X.env = pure true) (ok : BlkOk X.N X.env.scope scope own)
    (h : Ei X Ψ ρ F tg iter (fun ys F1 => LcOk X scope (own.map (·.2)) tg ifs elt ρ F1 ys (fun L _ F2 => Θ.nx (ρ.set i (some (.raw (.ref L)))) F2))) (hs : ∀ x, foldedSetIterable iter X.env x = pure x := by intro _; rfl) :
    Es X Ψ ρ F (.Assign [.Name y py] (.ListComp elt [⟨tg, iter, ifs, 0⟩] scope pos) spos) Θ :=
  ⟨ps_weak (ps_setLc hc hN hy hyl hsw h.pi ok gOf_ok tOf_ok eOf_ok hs) fun D σ H ⟨P, tk, hd, en, n, _⟩ => tLc_of (Φ := fun d F2 => Θ.nx (ρ.set i (some d)) F2) ⟨P, tk, hd, en, fun v d P1 F1 H1 s1 hd1 rp φ => n _ _ P1 F1 H1 s1 hd1 ((en.mono s1).set i rp) φ⟩⟩
theorem Gc.mono {vs : List Nat} {ρ : En} {d : D} {A A' : En → FS → Prop} (h : Gc X vs ρ F tg d A) (w : ∀ ρ' F', A ρ' F' → A' ρ' F') : Gc X vs ρ F tg d A' :=
  ⟨pg_weak h.pg fun v σ H Q ⟨P, hd, en, r, q⟩ => ⟨P, hd, en, r, fun σ' ρ' P' F' H' s1 hd1 en1 w1 φ => q σ' ρ' P' F' H' s1 hd1 en1 w1 (w _ _ φ)⟩⟩
/-- pure turns: the item d passes exactly if p d, and gives f d -/
theorem lcOk_pure {vs : List Nat} {F1 : FS} {ys : List D} {Φ : Addr → List D → FS → Prop} (p : D → Bool) (f : D → D) (hl : ys.length ≤ sizeLine)
    (step : ∀ (d : D) (F2 : FS), d ∈ ys → Turn X scope vs tg ifs elt ρ d F2 (p d = false) (fun y F5 => p d = true ∧ y = f d ∧ F5 = F2))
    (last : ∀ L, F1 L = none → Φ L ((ys.filter p).map f) (updF F1 L (.lst ((ys.filter p).map f)))) : LcOk X scope vs tg ifs elt ρ F1 ys Φ := by
  refine ⟨fun L i acc F2 => F1 L = none ∧ acc = ((ys.take i).filter p).map f ∧ F2 = updF F1 L (.lst acc), fun L hL => ⟨hL, by simp, rfl⟩, ?_, ?_⟩
  · rintro L i d acc F2 hd ⟨hL, ea, rfl⟩ hL2
    have hi : i < ys.length := (List.getElem?_eq_some_iff.mp hd).1
    have ht : ys.take (i + 1) = ys.take i ++ [d] := by rw [List.take_add_one, hd]; rfl
    have hal : acc.length < sizeLine := by
      rw [ea, List.length_map]
      have := List.length_filter_le p (ys.take i)
      rw [List.length_take] at this
      omega
    obtain ⟨ρ3, b, hG, hT, hE⟩ := step d (updF F1 L (.lst acc)) (List.mem_of_getElem? hd)
    refine ⟨ρ3, b, hG, hT, fun hb s H C cl fp => ((hE.1 hb) s H C cl fp).mono fun y F5 ⟨h1, h2, h3⟩ => ?_, fun hb => ?_⟩
    · subst h2 h3
      exact ⟨updF_same, hal, hL, by rw [ht, List.filter_append, List.map_append, ea]; simp [h1], by rw [updF_updF]⟩
    · refine ⟨hL, ?_, rfl⟩
      rw [ht, List.filter_append, List.map_append, ea]
      simp [hE.2 hb]
  · rintro L acc F2 ⟨hL, ea, rfl⟩ hL2
    rw [List.take_length] at ea
    subst ea
    exact last L hL
/-- [..], pure, and the list is not changed later -/
theorem ev_lcP {own : List (Str × Nat)} {Φ : D → FS → Prop} (hc : X.calm = true) (hN : X.N.Nodup) (ok : BlkOk X.N X.env.scope scope own) (p : D → Bool) (f : D → D)
    (h : Ei X Ψ ρ F tg iter (fun ys F1 => ys.length ≤ sizeLine ∧ (∀ (d : D) (F2 : FS), d ∈ ys → Turn X scope (own.map (·.2)) tg ifs elt ρ d F2 (p d = false) (fun y F5 => p d = true ∧ y = f d ∧ F5 = F2)) ∧ Φ (.lst ((ys.filter p).map f)) F1)) (hs : ∀ x, foldedSetIterable iter X.env x = pure x := by intro _; rfl) :
    Ev X Ψ ρ F (.ListComp elt [⟨tg, iter, ifs, 0⟩] scope pos) Φ :=
  ev_frz (ev_lcM hc hN ok ⟨pi_weak h.pi fun σ H R ⟨P, tk, hd, en, k⟩ => ⟨P, tk, hd, en, fun J ys P' F' H' s1 hd1 it ⟨h1, h2, h3⟩ => k J ys P' F' H' s1 hd1 it
    (lcOk_pure p f h1 h2 fun L hL => ⟨L, _, rfl, updF_same, by rw [delF_updF hL]; exact h3⟩)⟩⟩ hs)
theorem Ei.mono {Φ Φ' : List D → FS → Prop} (h : Ei X Ψ ρ F tg iter Φ) (w : ∀ ys F', Φ ys F' → Φ' ys F') : Ei X Ψ ρ F tg iter Φ' :=
  ⟨pi_weak h.pi fun σ H R ⟨P, tk, hd, en, k⟩ => ⟨P, tk, hd, en, fun J ys P' F' H' s1 hd1 it φ => k J ys P' F' H' s1 hd1 it (w _ _ φ)⟩⟩
/-- [..], all pass -/
theorem ev_map {own : List (Str × Nat)} {Φ : D → FS → Prop} (hc : X.calm = true) (hN : X.N.Nodup) (ok : BlkOk X.N X.env.scope scope own) (f : D → D)
    (h : Ei X Ψ ρ F tg iter (fun ys F1 => ys.length ≤ sizeLine ∧ (∀ (d : D) (F2 : FS), d ∈ ys → ∃ ρ3, AllB X scope (fun B => Gc B (own.map (·.2)) (wipeD ρ (own.map (·.2))) F2 tg d (fun ρ' F' => ρ' = ρ3 ∧ F' = F2)) ∧ AllB X scope (fun B => Ev B NoE ρ3 F2 elt (fun y F5 => y = f d ∧ F5 = F2))) ∧ Φ (.lst (ys.map f)) F1))
    (hs : ∀ x, foldedSetIterable iter X.env x = pure x := by intro _; rfl) : Ev X Ψ ρ F (.ListComp elt [⟨tg, iter, [], 0⟩] scope pos) Φ :=
  ev_lcP hc hN ok (fun _ => true) f (h.mono fun ys F1 ⟨h1, h2, h3⟩ => ⟨h1, fun d F2 hd => by
    obtain ⟨ρ3, hG, hE⟩ := h2 d F2 hd
    exact ⟨ρ3, true, hG, fun s H C cl fp => ets_nil ⟨rfl, rfl⟩, brT fun s H C cl fp => (hE s H C cl fp).mono fun y F5 ⟨a, b⟩ => ⟨rfl, a, b⟩⟩, by
    rw [List.filter_eq_self.mpr fun _ _ => rfl]
    exact h3⟩) hs
end
end TM

set_option Elab.async false
set_option linter.all false
set_option maxRecDepth 100000
set_option maxHeartbeats 8000000
/-! The data layer: the number of different texts of a list. -/
namespace TM
open PySem PySem.Spec PyProof.Rows L2

/-- the different ones, in the order in which they are met -/
def addS (acc : List Str) (x : Str) : List Str := if acc.any (· == x) then acc else acc ++ [x]
def metS (xs : List Str) : List Str := xs.foldl addS []
theorem addS_any (acc : List Str) (x k : Str) : (addS acc x).any (· == k) = (acc.any (· == k) || decide (k = x)) := by
  unfold addS
  by_cases h : acc.any (· == x) = true
  · rw [if_pos h]
    by_cases e : k = x
    · rw [e, h]
      rfl
    · rw [decide_eq_false e, Bool.or_false]
  · rw [if_neg h, List.any_append]
    congr 1
    by_cases e : k = x
    · simp [e]
    · have : (x == k) = false := beq_eq_false_iff_ne.mpr (Ne.symm e)
      simp [this, e]
theorem addS_len (acc : List Str) (x : Str) : (addS acc x).length = if acc.any (· == x) then acc.length else acc.length + 1 := by
  unfold addS
  by_cases h : acc.any (· == x) = true
  · rw [if_pos h, if_pos h]
  · rw [if_neg h, if_neg h, List.length_append, List.length_singleton]
theorem metS_snoc (xs : List Str) (x : Str) : metS (xs ++ [x]) = addS (metS xs) x := by
  unfold metS
  rw [List.foldl_append]
  rfl
theorem metS_take {xs : List Str} {i : Nat} {x : Str} (h : xs[i]? = some x) : metS (xs.take (i + 1)) = addS (metS (xs.take i)) x := by
  rw [List.take_add_one, h]
  exact metS_snoc _ _
theorem foldS_le : ∀ (xs acc : List Str), (xs.foldl addS acc).length ≤ acc.length + xs.length
  | [], acc => Nat.le_refl _
  | x :: xs, acc => by
    have h1 := foldS_le xs (addS acc x)
    have h2 := addS_len acc x
    rw [List.foldl_cons, List.length_cons]
    split at h2 <;> omega
theorem metS_le (xs : List Str) : (metS xs).length ≤ xs.length := by
  have := foldS_le xs []
  unfold metS
  simpa using this
theorem foldS_eq : ∀ (xs acc : List Str), (xs.foldl addS acc).length = acc.length + xs.length ↔ xs.Nodup ∧ ∀ x ∈ xs, x ∉ acc
  | [], acc => by simp
  | x :: xs, acc => by
    have h1 := foldS_eq xs (addS acc x)
    have h3 := foldS_le xs (addS acc x)
    have h2 := addS_len acc x
    rw [List.foldl_cons, List.length_cons]
    by_cases h : acc.any (· == x) = true
    · rw [if_pos h] at h2
      have hx : x ∈ acc := by
        obtain ⟨y, hy, e⟩ := List.any_eq_true.mp h
        rw [← beq_iff_eq.mp e]
        exact hy
      constructor
      · intro q
        omega
      · exact fun q => absurd hx (q.2 x List.mem_cons_self)
    · rw [if_neg h] at h2
      have hx : x ∉ acc := fun hx => h (List.any_eq_true.mpr ⟨x, hx, beq_self_eq_true x⟩)
      have e : addS acc x = acc ++ [x] := if_neg h
      rw [show acc.length + (xs.length + 1) = (addS acc x).length + xs.length by omega, h1, e, List.nodup_cons]
      constructor
      · rintro ⟨q1, q2⟩
        refine ⟨⟨fun z => q2 x z (List.mem_append_right _ List.mem_cons_self), q1⟩, fun y hy => ?_⟩
        rcases List.mem_cons.mp hy with e | hy
        · rw [e]
          exact hx
        · exact fun z => q2 y hy (List.mem_append_left _ z)
      · rintro ⟨⟨q1, q2⟩, q3⟩
        refine ⟨q2, fun y hy z => ?_⟩
        rcases List.mem_append.mp z with z | z
        · exact q3 y (List.mem_cons_of_mem _ hy) z
        · rw [List.mem_singleton.mp z] at hy
          exact q1 hy
theorem metS_full (xs : List Str) : (metS xs).length = xs.length ↔ xs.Nodup := by
  have := foldS_eq xs []
  unfold metS
  simpa using this

section
variable {prog : Program} {w : World} {A : Around} {R : Result → Shared → Prop} {it : Addr} {fp wr : List Addr} {G : Array GenState → Array GenState → Prop} {n : Nat} {P : Nat → Value → Prop} {St : Nat → Shared → Prop}
/-- the loop behind set(texts) -/
theorem set_loop (W : WalksS prog w A.in1 it fp wr G n P St) (D : Addr) (hD : D ∉ fp) (xs : List Str) (hsz : xs.length = n) (hb : n + 1 < scanBound)
    (hval : ∀ i v, P i v → ∃ x t, xs[i]? = some x ∧ v = .str x t) : ∀ (k i : Nat) (s : Shared), n - i = k → i ≤ n → St i s →
      s.heap.SetOf (PySem.strKind prog w) D (fun y => (metS (xs.take i)).any (· == y)) (metS (xs.take i)).length →
      (∀ s', Moved (D :: wr) G s s' → s'.heap.SetOf (PySem.strKind prog w) D (fun y => (metS xs).any (· == y)) (metS xs).length → R (.ok (.ret .none)) s') →
      codeAny (model prog w) A (.builtin "set.update.loop" ⟨[.ref D, .ref it], []⟩) R s := by
  have hDw : D ∉ wr := fun z => hD (W.sub _ z)
  have up : ∀ b ∈ wr, b ∈ D :: wr := fun b => List.mem_cons_of_mem _
  intro k
  induction k with
  | zero =>
    intro i s hk hi hst hS hR
    obtain rfl : i = n := by omega
    rw [← hsz, List.take_length] at hS
    refine codeAny_builtin PyProof.Rows.F.entry_set_update_loop ?_
    rw [Around.under_plainId PyProof.Rows.F.plain_set_update_loop _]
    refine wpAny_bind (m := pyNext (.ref it)) (W.done s _ _ hst fun s' hm => ?_)
    refine wpAny_pure (hR s' (hm.mono up) ?_)
    obtain ⟨o, es, ep, t, ho, z⟩ := hS
    exact ⟨o, es, ep, t, hm.heap D _ hDw ho, z⟩
  | succ k ih =>
    intro i s hk hi hst hS hR
    have hlt : i < n := by omega
    refine codeAny_builtin PyProof.Rows.F.entry_set_update_loop ?_
    rw [Around.under_plainId PyProof.Rows.F.plain_set_update_loop _]
    refine wpAny_bind (m := pyNext (.ref it)) (W.item i s _ _ hlt hst fun v s' hP hst' hm => ?_)
    obtain ⟨x, t, hx, rfl⟩ := hval i v hP
    have hS' : s'.heap.SetOf (PySem.strKind prog w) D (fun y => (metS (xs.take i)).any (· == y)) (metS (xs.take i)).length := by
      obtain ⟨o, es, ep, tb, ho, z⟩ := hS
      exact ⟨o, es, ep, tb, hm.heap D _ hDw ho, z⟩
    refine wpAny_bind (m := holding [Value.str x t] (setAdd D (.str x t))) (wpAny_holding ?_)
    unfold setAdd
    refine wpAny_holding ?_
    refine wpAny_bind ((PySem.strKind prog w).pyHash (k := x) (strKind_is _ _ _ _) ?_)
    have room : (metS (xs.take i)).length + 1 < scanBound := by
      have h1 := metS_le (xs.take i)
      rw [List.length_take] at h1
      omega
    refine wpAny_setAddHashed_of (knd := PySem.strKind prog w) (s := { s' with toks := s'.toks + 1 }) (strKind_is _ _ _ _) rfl hS' room fun h' sb hS2 => ?_
    have hSi : h'.SetOf (PySem.strKind prog w) D (fun y => (metS (xs.take (i + 1))).any (· == y)) (metS (xs.take (i + 1))).length := by
      refine SetOf_congr hS2 (fun y => ?_) ?_
      · rw [metS_take hx, addS_any]
      · rw [metS_take hx, addS_len]
    refine wpAny_pure ⟨plainId_quiet PyProof.Rows.F.plain_set_update_loop _, ih (i + 1) _ (by omega) hlt (W.frame _ s' _ _ hst' (Nat.le_succ _) fun b hb o e => ?_) hSi fun s2 hm2 hS3 => ?_⟩
    · have hne : b ≠ D := fun z => hD (z ▸ hb)
      rw [sb.2 b hne]
      exact e
    · refine hR s2 (Moved.trans W.gtrans ((hm.mono up).then_heap (Nat.le_succ _) fun b o hb e => ?_) hm2) hS3
      have hne : b ≠ D := fun z => hb (z ▸ List.mem_cons_self)
      rw [sb.2 b hne]
      exact e
end

section
variable {prog : Program} {w : World} {A : Around} {E : Value → Shared → Prop} {s : Shared}
theorem strs_get : ∀ {us : List Value} {xs : List Str}, StrsAre us xs → ∀ (i : Nat) (v : Value), us[i]? = some v → ∃ x t, xs[i]? = some x ∧ v = .str x t
  | _, _, .nil, i, v, h => by cases h
  | _, _, .cons x t hr, 0, v, h => ⟨x, t, rfl, (Option.some.inj h).symm⟩
  | _, _, .cons x t hr, i + 1, v, h => strs_get hr i v h
theorem call_set_strs {l : Addr} {items : Array Value} {xs : List Str} {Q : Value → Shared → Prop} (hh : A.handled = none) (hl : s.heap.IsList l items) (hi : StrsAre items.toList xs) (hb : xs.length + 1 < scanBound)
    (h : ∀ (h' : Heap) (tk : Nat), h'.SetOf (PySem.strKind prog w) s.heap.objs.size (fun y => (metS xs).any (· == y)) (metS xs).length →
      (∀ b o, b < s.heap.objs.size → s.heap.get? b = some o → h'.get? b = some o) → Q (.ref s.heap.objs.size) { s with heap := h', toks := tk }) :
    wpAny (model prog w) A (call (.type "set") [.ref l]) Q E s := by
  obtain ⟨_, _, hmro⟩ := PySem.F.called_set.mro
  have t1 := PySem.F.called_set.made
  have t2 := PySem.F.called_set.sub
  refine wpAny_call (codeAny_of_tree (wpAny_pure ⟨Code.quiet_builtin _ (by decide +kernel), codeAny_builtin PySem.F.entry_type_call ?_⟩))
  rw [Around.under_plain (weight_type_call_type "set" [.ref l] []) rfl]
  have t3 := PySem.F.called_set.notType
  have t4 := PySem.F.called_set.canCreate
  have t5 := PySem.F.typeCall_set_1 (.ref l)
  repeat (any_goals (first | assumption | wp_step))
  refine codeAny_mono (code_set_new_1 (.ref l) (E := E) (Q₁ := fun obj s1 => ∃ led : Bool, obj = .ref s.heap.objs.size ∧
    s1 = { s with heap := s.heap.push { cls := .type "set", dict := none, data := .set #[] 0 (.fresh 0 0 led) } }) fun led => ⟨led, rfl, rfl⟩) fun r s1 hr => ?_
  cases r with
  | error e => exact hr
  | ok fl =>
    cases fl with
    | ret obj =>
      obtain ⟨led, rfl, rfl⟩ := hr
      have hS : (s.heap.push { cls := .type "set", dict := none, data := .set #[] 0 (.fresh 0 0 led) }).get? s.heap.objs.size = some { cls := .type "set", dict := none, data := .set #[] 0 (.fresh 0 0 led) } := Heap.get?_push_size _ (rfl)
      have hT : Shared.TypeIs { s with heap := s.heap.push { cls := .type "set", dict := none, data := .set #[] 0 (.fresh 0 0 led) } } (.ref s.heap.objs.size) "set" := ⟨_, hS, rfl⟩
      have t6 := PySem.F.called_set.init.lookup
      have t7 := PySem.F.called_set.init.bind (.ref s.heap.objs.size)
      repeat (any_goals (first | assumption | wp_step))
      refine codeAny_mono (codeAny_call_builtin (R := wants (fun r s2 => r = .none ∧ ∃ h' tk, s2 = { s with heap := h', toks := tk } ∧
          h'.SetOf (PySem.strKind prog w) s.heap.objs.size (fun y => (metS xs).any (· == y)) (metS xs).length ∧
          (∀ b o, b < s.heap.objs.size → s.heap.get? b = some o → h'.get? b = some o)) E) PySem.F.called_set.init.plain PySem.F.entry_set_init (check_set_init_1 hT ?_)) fun r2 s2 hr2 => ?_
      · have hl1 : (s.heap.push { cls := .type "set", dict := none, data := .set #[] 0 (.fresh 0 0 led) }).IsList l items := hl.push _
        obtain ⟨⟨ocls, odict, odata, oslots⟩, hol, hcl, nl, hdl⟩ := hl
        simp only at hcl hdl
        subst hcl
        subst hdl
        have hol2 : (s.heap.push { cls := .type "set", dict := none, data := .set #[] 0 (.fresh 0 0 led) }).get? l = some { cls := .type "list", dict := odict, data := .seq items nl, slots := oslots } := Heap.get?_push_of_some _ hol
        have u1 := PySem.F.sub_list_set
        have u2 := PySem.F.sub_list_frozenset
        have u3 : (Value.type "list" == Value.type "dict") = false := by decide
        unfold Builtin.«set.__init__» noKeywords Builtin.Frozenset.updateFrom
        generalize hPI : pyIter = PI
        wp_walk
        subst hPI
        refine wpAny_pyIter_list (by exact hl1) ?_
        refine wpAny_bind (wpAny_runValue ?_)
        have hlt : l < s.heap.objs.size := Heap.lt_size hol
        have hA : A.in1.in1.in1.handled = none := by simp [hh]
        have esz : (s.heap.push { cls := .type "set", dict := none, data := .set #[] 0 (.fresh 0 0 led) }).objs.size = s.heap.objs.size + 1 := Heap.size_push _ _
        have ne1 : l ≠ (s.heap.push { cls := .type "set", dict := none, data := .set #[] 0 (.fresh 0 0 led) }).objs.size := by
          rw [esz]
          exact Nat.ne_of_lt (Nat.lt_succ_of_lt hlt)
        have ne2 : s.heap.objs.size ∉ [(s.heap.push { cls := .type "set", dict := none, data := .set #[] 0 (.fresh 0 0 led) }).objs.size, l] := by
          rw [esz]
          simp only [List.mem_cons, List.not_mem_nil, or_false, not_or]
          exact ⟨Nat.ne_of_lt (Nat.lt_succ_self _), Nat.ne_of_gt hlt⟩
        have hsz : xs.length = items.size := by rw [← StrsAre.len_eq hi, Array.length_toList]
        refine set_loop ((Walks.list hA _ l ne1 items).toS) s.heap.objs.size ne2 xs hsz (by rw [← hsz]; exact hb)
          (fun i v hv => strs_get hi i v (by rw [Array.getElem?_toList]; exact hv)) items.size 0 _ (by omega) (Nat.zero_le _)
          ⟨⟨_, Heap.get?_push_size _ rfl, rfl, rfl⟩, (hl1.push _)⟩ ?hS0 ?hR
        case hS0 =>
          have hget : ((s.heap.push { cls := .type "set", dict := none, data := .set #[] 0 (.fresh 0 0 led) }).push { cls := .type "list_iterator", data := .fields #[.ref l, .int 0 0] }).get? s.heap.objs.size = some { cls := .type "set", dict := none, data := .set #[] 0 (.fresh 0 0 led) } := Heap.get?_push_of_some _ hS
          exact SetOf_congr ((PyProof.Rows.setObjOf_fresh (knd := PySem.strKind prog w) led).setOf hget (by unfold scanBound; omega)) (fun _ => rfl) rfl
        case hR =>
          intro s3 hm hS3
          obtain ⟨h3, g3, d3, tk3, os3⟩ := s3
          have eg : g3 = s.gens := hm.gens
          have ed : d3 = s.drawn := hm.drawn
          have eo : os3 = s.os := hm.os
          subst eg ed eo
          refine wpAny_pure (wpAny_pure ⟨rfl, h3, tk3, rfl, hS3, fun b o hb e => ?_⟩)
          refine hm.heap b o ?_ (Heap.get?_push_of_some _ (Heap.get?_push_of_some _ e))
          simp only [List.mem_cons, List.not_mem_nil, or_false, not_or]
          rw [esz]
          exact ⟨Nat.ne_of_lt hb, Nat.ne_of_lt (Nat.lt_succ_of_lt hb)⟩
      · cases r2 with
        | error e => exact hr2
        | ok fl2 =>
          cases fl2 with
          | ret r =>
            obtain ⟨rfl, h', tk, rfl, hS', hk'⟩ := hr2
            repeat (any_goals (first | assumption | wp_step))
            exact h _ _ hS' hk'
          | _ => exact hr2.elim
    | _ => exact hr.elim
end
section
variable {X : Cx} {Ψ : XP} {ρ : En} {F : FS} {a : Expr} {pos : Pos}
def tLenS (K : PySem.W.Frag) (ta : TE) : TE := fun σ H Q => ta σ H fun x H1 => ∃ (l : Addr) (xs : List Str), x = V.ref l ∧ SqL K H1 l (xs.map V.str) ∧ xs.length < 4000 ∧ Q (.int (metS xs).length) H1
theorem pe_lenS {ta : TE} {p p2 q : Pos} (hc : X.calm = true) (hg : Gl X "len") (hm : X.mg "len" = none) (hg2 : Gl X "set") (hm2 : X.mg "set" = none) (ha : PE X a ta) (na : starEach [a] X.env = (false, eval a X.env) :: starEach [] X.env) :
    PE X (.Call (.Name "len" p) [.Call (.Name "set" p2) [a] [] q] [] pos) (tLenS X.K ta) := by
  refine ⟨fun pins s σ H Q I h => Call_ (ld_blt I hg hm PySem.boot_len (PyProof.Rows.callWith_builtin1 (PyProof.Rows.args_cons (Call_ (ld_blt I hg2 hm2 PyProof.Rows.boot_set ?_)) rfl) rfl rfl))⟩
  refine PyProof.Rows.callWith_type1 (PyProof.Rows.args_cons (thn (ha.run pins s σ H _ I h) fun v s1 hv => PyProof.Rows.args_nil ?_) na) na rfl
  obtain ⟨x, H1, I1, r1, l, xs, rfl, hq, h1, q1⟩ := hv
  cases r1
  obtain ⟨its, r, pl, hz⟩ := I1.list hq
  refine call_set_strs (I1.ok.hd hc) pl.isList (xs := xs) (strs_of_vals r) (by unfold scanBound; omega) fun h' tk hS hk => PyProof.Rows.args_nil ?_
  obtain ⟨o, es, ep, t, ho, hex, hd, _, _, _, hf, hn⟩ := hS
  have I2 : Inv X pins σ H1 { s1 with heap := h', toks := tk } := I1.kept fun b o e => hk b o (Heap.lt_size e) e
  have hle := metS_le xs
  exact call_len_set ho hex hd hf (by rw [hn]; omega) ⟨.int (metS xs).length, H1, I2.tok _, ⟨_, by rw [hn]⟩, q1⟩
/-- len(set(texts)) -/
theorem ev_lenS {p p2 q : Pos} {Φ : D → FS → Prop} (hc : X.calm = true) (hm : X.mg "len" = none) (hm2 : X.mg "set" = none) (h : Ev X Ψ ρ F a (fun x F1 => ∃ xs : List Str, x = .lst (xs.map D.str) ∧ xs.length < 4000 ∧ Φ (.int (metS xs).length) F1))
    (hg : Gl X "len" := by rfl) (hg2 : Gl X "set" := by rfl) (na : starEach [a] X.env = (false, eval a X.env) :: starEach [] X.env := by rfl) : Ev X Ψ ρ F (.Call (.Name "len" p) [.Call (.Name "set" p2) [a] [] q] [] pos) Φ :=
  ⟨pe_weak (pe_lenS hc hg hm hg2 hm2 h.pe na) fun σ H Q ⟨P, tk, hd, en, k⟩ => ⟨P, tk, hd, en, fun v d P1 F1 H1 s1 hd1 rp φ => by
    obtain ⟨xs, rfl, h1, φ⟩ := φ
    cases rp with
    | @lst ds ad vs hq rr =>
      have e := Reps.strs rr
      subst e
      exact ⟨ad, xs, rfl, SqL.of (hd1.pure _ _ hq), h1, k _ _ P1 F1 H1 s1 hd1 (.int _) φ⟩⟩⟩
end
end TM

set_option Elab.async false
set_option linter.all false
set_option maxRecDepth 100000
set_option maxHeartbeats 8000000
/-! The data layer: a, *b = a list. -/
namespace TM
open PySem PySem.Spec PyProof.Rows L2

section
variable {X : Cx} {pos : Pos}
/-- a, b, .., *c = a list of at least i items, the star at the i-th place, the last -/
def gStar (K : PySem.W.Frag) (i : Nat) (t : TGs) : TG := fun v σ H Q => ∃ a xs, v = .ref a ∧ SqL K H a xs ∧ i ≤ xs.length ∧ ∀ p, H p = none → t (xs.take i ++ [.ref p]) σ (upd H p (.lst (xs.drop i))) Q
theorem pg_star {es : List Expr} {k i : Nat} {t : TGs} (hc : X.calm = true) (h : PGs X es t) (hn : (assignEach es X.env).length = i + 1) (hst : (assignEach es X.env).findIdx? (·.1) = some i) : PG X (.Tuple es k pos) (gStar X.K i t) := by
  refine ⟨fun pins s σ H v u Q I r hw => ?_⟩
  obtain ⟨a, xs, rfl, hq, hl, hw⟩ := hw
  cases r
  obtain ⟨its, rv, pl, hz⟩ := I.list hq
  have isl := pl.isList
  have hA : X.A.handled = none := I.ok.hd hc
  have hlen : xs.length = its.length := rv.length
  rw [assign_Tuple]
  refine wpAny_bind (wpAny_standAt ?_)
  unfold unpack
  rw [hn, hst]
  refine wpAny_bind (wpAny_holding ?_)
  unfold unpackItems
  refine wpAny_bind ?_
  unfold notIterableAtAll
  refine wpAny_bind (wpAny_specialOf isl.typeIs PySem.F.slot_list_iter.lookup (wpAny_pure ?_))
  simp only [Bool.false_eq_true, if_false]
  have hlt : a < s.heap.objs.size := by
    obtain ⟨o, ho, _⟩ := isl
    exact Heap.lt_size ho
  refine wpAny_bind (wpAny_holding (wpAny_pyIter_list isl ?_))
  have hne : a ≠ s.heap.objs.size := Nat.ne_of_lt hlt
  have hsz : its.toArray.size = its.length := List.size_toArray
  refine wpAny_bind (wpAny_holding (PySem.W.kun_draw hne i 0 _ _ ⟨_, Heap.get?_push_size _ rfl, rfl, rfl⟩ (isl.push _) (by omega) fun h1 hit1 hs1 => ?_))
  have hl1 : h1.IsList a its.toArray := (isl.push _).extBut hs1.extBut hne
  rw [Nat.zero_add] at hit1
  rw [List.drop_zero]
  have hfl : (its.take i).length = i := by
    rw [List.length_take]
    omega
  rw [if_neg (by show ¬ (its.take i).length < i; omega)]
  have lt1 : s.heap.objs.size < h1.objs.size := by
    obtain ⟨o, e, _⟩ := hit1
    exact Heap.lt_size e
  have lt2 : a < h1.objs.size := by
    obtain ⟨o, e, _⟩ := hl1
    exact Heap.lt_size e
  refine wpAny_bind (wpAny_holding (PySem.W.kun_collect (s := { s with heap := h1 }) (T := "list_iterator") (.inr (.inr (.inl rfl))) (Walks.list (A := X.A.in1) hA s.heap.objs.size a hne its.toArray) (fun j u st => st.1.typeIs) (k := i) (by omega) ⟨hit1, hl1⟩ lt1 lt2 (fun h2 tk hk => ?_) (by omega)))
  have hdl : (its.drop i).length = its.length - i := List.length_drop
  show wpAny _ _ (if (its.drop i).length < i + 1 - 1 - i then _ else _) _ _ _
  have e0 : i + 1 - 1 - i = 0 := by omega
  rw [e0, if_neg (by omega)]
  show wpAny _ _ (newList ((its.drop i).take ((its.drop i).length - 0)) >>= fun d => pure (its.take i ++ [d] ++ (its.drop i).drop ((its.drop i).length - 0))) _ _ _
  rw [Nat.sub_zero, List.take_length, List.drop_length]
  simp only [List.append_nil]
  refine wpAny_bind (wpAny_newObj_type (wpAny_pure ?_) (by
    show (its.drop i).toArray.size ≤ sizeLine
    rw [List.size_toArray, hdl]
    omega))
  have keep : ∀ b o, s.heap.get? b = some o → h2.get? b = some o := fun b o e => hk b o (Nat.ne_of_lt (Heap.lt_size e)) (hs1.extBut b o (Nat.ne_of_lt (Heap.lt_size e)) (Heap.get?_push_of_some _ e))
  have I1 : Inv X pins σ H { s with heap := h2, toks := tk } := I.kept keep
  have rv2 := rv.drop i
  have I2 := I1.lnew (t' := tk) (ys := xs.drop i) (its := its.drop i) rv2 (by rw [List.length_drop]; omega)
  exact h.run pins _ σ _ (xs.take i ++ [.ref h2.objs.size]) _ Q I2 ((rv.take i).append (.cons (show RelV (V.ref h2.objs.size) (.ref h2.objs.size) from rfl) .nil)) (hw _ I1.fresh)
end
section
variable {X : Cx} {Ψ : XP} {ρ : En} {F : FS} {pos : Pos}
/-- a, b, .., *c = e -/
theorem eg_star {tgs : List Expr} {k i : Nat} {d : D} {A : En → FS → Prop} (hc : X.calm = true) (h : LstD d fun ds => i ≤ ds.length ∧ ∀ p, F p = none → Egs X Ψ ρ (updF F p (.lst (ds.drop i))) tgs (ds.take i ++ [.raw (.ref p)]) A)
    (hn : (assignEach tgs X.env).length = i + 1 := by rfl) (hst : (assignEach tgs X.env).findIdx? (·.1) = some i := by rfl) : Eg X Ψ ρ F (.Tuple tgs k pos) d A := by
  cases d with
  | lst ds =>
    refine ⟨pg_weak (pg_star hc (pgs_fam (ι := { p : Addr // F p = none }) fun p => (h.2 p.1 p.2).pgs) hn hst) fun v σ H Q ⟨P, tk, hd, en, r, q⟩ => ?_⟩
    cases r with
    | @lst ds a vs hq rr =>
      refine ⟨a, vs, rfl, SqL.of (hd.pure _ _ hq), by rw [← Paired.length rr]; exact h.1, fun p hp => ?_⟩
      exact ⟨⟨p, (hd.no hp).2⟩, P, tk, hd.newF hp (m := .lst (ds.drop i)) ⟨_, upd_same, Reps.drop i rr⟩, en, Reps.append (Reps.take i rr) (.cons (.raw _) .nil), q⟩
  | _ => exact False.elim h
theorem egs_star {t : Expr} {p2 : Pos} {d : D} {A : En → FS → Prop} (h : Eg X Ψ ρ F t d A) (hs : (assignEach [.Starred t p2] X.env).map (·.2) = [assign t X.env] := by rfl) : Egs X Ψ ρ F [.Starred t p2] [d] A :=
  ⟨⟨fun pins s σ H vs us Q I r hw => by
    obtain ⟨P, tk, hd, en, rp, q⟩ := hw
    cases rp with
    | cons r1 rr =>
      cases rr
      cases r with
      | cons u1 uu =>
        cases uu
        rw [hs]
        exact assignInOrder_cons (thn (h.pg.run pins s σ H _ _ _ I u1 ⟨P, tk, hd, en, r1, q⟩) fun _ s1 ⟨σ1, H1, I1, q1⟩ => assignInOrder_nil ⟨σ1, H1, I1, q1⟩)⟩⟩
end
end TM

set_option Elab.async false
set_option linter.all false
set_option maxRecDepth 100000
set_option maxHeartbeats 4000000
/-! The data layer: repr. -/
namespace TM
open PySem PySem.Spec PyProof.Rows L2

/-- data whose repr is known: as okD, its ints of at most 1920 bits -/
def okR : Nat → D → Bool
  | _, .non => true
  | _, .bl _ => true
  | _, .int i => decide (i.natAbs.log2 < 1920)
  | _, .str x => PyData.strOk x
  | n + 1, .lst xs => xs.all fun d => okR n d
  | n + 1, .tup xs => xs.all fun d => okR n d
  | _, _ => false
theorem okR_okD : ∀ (n : Nat) (d : D), okR n d = true → okD n d = true ∧ (toP d).showable = true ∧ (toP d).hasDict = false
  | _, .non, _ => ⟨by simp [okD], by simp [toP, PyData.showable], by simp [toP, PyData.hasDict]⟩
  | _, .bl _, _ => ⟨by simp [okD], by simp [toP, PyData.showable], by simp [toP, PyData.hasDict]⟩
  | _, .int i, h => ⟨by simp [okD], by simpa [toP, PyData.showable, okR] using h, by simp [toP, PyData.hasDict]⟩
  | _, .str x, h => ⟨by simpa [okD, okR] using h, by simp [toP, PyData.showable], by simp [toP, PyData.hasDict]⟩
  | n + 1, .lst xs, h => by
    have h' : ∀ d ∈ xs, okR n d = true := by simpa [okR] using h
    have all : (xs.all fun d => okD n d) = true ∧ PyData.showableAll (toPs xs) = true ∧ PyData.hasDictAll (toPs xs) = false := by
      clear h
      induction xs with
      | nil => exact ⟨rfl, rfl, rfl⟩
      | cons x xs ih =>
        obtain ⟨a1, a2, a3⟩ := okR_okD n x (h' _ List.mem_cons_self)
        obtain ⟨b1, b2, b3⟩ := ih fun d hd => h' d (List.mem_cons_of_mem _ hd)
        refine ⟨?_, ?_, ?_⟩
        · rw [List.all_cons, a1, b1]
          rfl
        · simp only [toPs, PyData.showableAll, a2, b2, Bool.and_self]
        · simp only [toPs, PyData.hasDictAll, a3, b3, Bool.or_self]
    exact ⟨by simpa only [okD] using all.1, by simpa only [toP, PyData.showable] using all.2.1, by simpa only [toP, PyData.hasDict] using all.2.2⟩
  | n + 1, .tup xs, h => by
    have h' : ∀ d ∈ xs, okR n d = true := by simpa [okR] using h
    have all : (xs.all fun d => okD n d) = true ∧ PyData.showableAll (toPs xs) = true ∧ PyData.hasDictAll (toPs xs) = false := by
      clear h
      induction xs with
      | nil => exact ⟨rfl, rfl, rfl⟩
      | cons x xs ih =>
        obtain ⟨a1, a2, a3⟩ := okR_okD n x (h' _ List.mem_cons_self)
        obtain ⟨b1, b2, b3⟩ := ih fun d hd => h' d (List.mem_cons_of_mem _ hd)
        refine ⟨?_, ?_, ?_⟩
        · rw [List.all_cons, a1, b1]
          rfl
        · simp only [toPs, PyData.showableAll, a2, b2, Bool.and_self]
        · simp only [toPs, PyData.hasDictAll, a3, b3, Bool.or_self]
    exact ⟨by simpa only [okD] using all.1, by simpa only [toP, PyData.showable] using all.2.1, by simpa only [toP, PyData.hasDict] using all.2.2⟩
  | 0, .lst xs, h => by simp [okR] at h
  | 0, .tup xs, h => by simp [okR] at h
  | _, .dct _ _, h => by simp [okR] at h
  | _, .scr _, h => by simp [okR] at h
  | _, .exc _ _ _ _, h => by simp [okR] at h
  | _, .raw _, h => by simp [okR] at h
/-! a bound of the length -/
mutual
def szD : D → Nat
  | .str x => 10 * x.length + 2
  | .lst xs => szDs xs + 4
  | .tup xs => szDs xs + 4
  | _ => 1921
def szDs : List D → Nat
  | [] => 0
  | x :: xs => szD x + 2 + szDs xs
end
theorem textFrom_le : ∀ (ts : List Str) (k : Nat) (acc : Str), (textFrom k acc ts).length ≤ acc.length + piled ts
  | [], k, acc => by simp [textFrom, piled]
  | t :: ts, k, acc => by
    have h1 := textFrom_le ts (k + 1) (acc ++ (if k > 0 then ", " else "" : String) ++ t)
    rw [piled_cons]
    have h2 : (acc ++ ((if k > 0 then ", " else "" : String) : Str) ++ t).length ≤ acc.length + 2 + t.length := by
      rw [Str.length_append, Str.length_append]
      split
      · have : ((", " : String) : Str).length = 2 := rfl
        omega
      · have : (("" : String) : Str).length = 0 := rfl
        omega
    show (textFrom (k + 1) (acc ++ (if k > 0 then ", " else "" : String) ++ t) ts).length ≤ _
    omega
theorem listText_le (ts : List Str) : (listText ts).length ≤ piled ts + 2 := by
  have h := textFrom_le ts 0 "["
  unfold listText
  rw [Str.length_append]
  have h1 : (("[" : String) : Str).length = 1 := rfl
  have h2 : (("]" : String) : Str).length = 1 := rfl
  omega
theorem tupleText_le (ts : List Str) : (tupleText ts).length ≤ piled ts + 3 := by
  unfold tupleText
  rw [Str.length_append, Str.length_append]
  have h1 : (("(" : String) : Str).length = 1 := rfl
  have h2 : ((if ts.length == 1 then ",)" else ")" : String) : Str).length ≤ 2 := by
    split
    · exact Nat.le_refl _
    · exact Nat.le_succ 1
  have h3 : (Str.join ", " ts).length ≤ piled ts := by
    by_cases e : ts = []
    · subst e
      exact Nat.zero_le _
    · have := join_length_add ts e
      omega
  omega
theorem strOk_lt {x : Str} (h : PyData.strOk x = true) : ∀ c ∈ x.cps.toList, c < 16 ^ 8 := by
  intro c hc
  have h3 := Array.all_eq_true_iff_forall_mem.mp h c (Array.mem_toList_iff.mp hc)
  have h4 : c < 0x110000 := by simpa using h3
  have e : (16 : Nat) ^ 8 = 4294967296 := by decide
  omega
theorem shown_le : ∀ (n : Nat) (d : D), okR n d = true → (toP d).shown.length ≤ szD d
  | _, .non, _ => by
    have : (toP D.non).shown.length = 4 := by simp only [toP, PyData.shown]; rfl
    rw [this]
    simp [szD]
  | _, .bl b, _ => by
    have : (toP (D.bl b)).shown.length ≤ 5 := by
      cases b <;> (simp only [toP, PyData.shown]; decide)
    simp only [szD]
    omega
  | _, .int i, h => by
    have h' : i.natAbs.log2 < 1920 := by simpa [okR] using h
    have := int_text_len_1921 h'
    simp only [toP, PyData.shown, szD]
    exact this
  | _, .str x, h => by
    have h' : PyData.strOk x = true := by simpa [okR] using h
    have := StrLaws.reprText_len x (strOk_lt h')
    simp only [toP, PyData.shown, szD]
    exact this
  | n + 1, .lst xs, h => by
    have h' : ∀ d ∈ xs, okR n d = true := by simpa [okR] using h
    have all : piled (PyData.shownAll (toPs xs)) ≤ szDs xs := by
      clear h
      induction xs with
      | nil => exact Nat.le_refl _
      | cons x xs ih =>
        have a := shown_le n x (h' _ List.mem_cons_self)
        have b := ih fun d hd => h' d (List.mem_cons_of_mem _ hd)
        simp only [toPs, PyData.shownAll, piled_cons, szDs]
        omega
    have := listText_le (PyData.shownAll (toPs xs))
    simp only [toP, PyData.shown, szD]
    omega
  | n + 1, .tup xs, h => by
    have h' : ∀ d ∈ xs, okR n d = true := by simpa [okR] using h
    have all : piled (PyData.shownAll (toPs xs)) ≤ szDs xs := by
      clear h
      induction xs with
      | nil => exact Nat.le_refl _
      | cons x xs ih =>
        have a := shown_le n x (h' _ List.mem_cons_self)
        have b := ih fun d hd => h' d (List.mem_cons_of_mem _ hd)
        simp only [toPs, PyData.shownAll, piled_cons, szDs]
        omega
    have := tupleText_le (PyData.shownAll (toPs xs))
    simp only [toP, PyData.shown, szD]
    omega
  | 0, .lst xs, h => by simp [okR] at h
  | 0, .tup xs, h => by simp [okR] at h
  | _, .dct _ _, h => by simp [okR] at h
  | _, .scr _, h => by simp [okR] at h
  | _, .exc _ _ _ _, h => by simp [okR] at h
  | _, .raw _, h => by simp [okR] at h
def reprD (d : D) : Str := (toP d).shown
def isSeq : D → Bool
  | .lst _ => true
  | .tup _ => true
  | _ => false
section
variable {X : Cx} {Ψ : XP} {ρ : En} {F : FS} {a : Expr} {pos : Pos}
theorem call_repr (hr : RoomG 0 X.A) : CallR X (.builtin "repr") (fun xs H Q => ∃ l d, xs = [.ref l] ∧ Dp X.K H (.ref l) d ∧ d.showable = true ∧ d.hasDict = false ∧ d.depth ≤ 60 ∧ d.shown.length ≤ sizeLine ∧ Q (.str d.shown) H) := by
  intro pins s σ H xs us Q I r h
  obtain ⟨l, d, rfl, hd, h1, h2, h3, h4, q⟩ := h
  obtain ⟨u, rfl, ru⟩ := vals1 r
  cases ru
  obtain ⟨as, hrd⟩ := Dp.reads I d _ _ hd rfl
  refine PySem.repr_of_reads' hrd h1 (fun z => absurd (h2.symm.trans z) Bool.false_ne_true) hr.gd (by have := hr.room.un; omega) (fun b o e => e) (fun h' u tk hk => ?_) h4
  exact ⟨.str d.shown, H, I.kept hk, ⟨u, rfl⟩, q⟩
theorem ev_repr {p : Pos} {Φ : D → FS → Prop} (hr : RoomG 0 X.A) (hm : X.mg "repr" = none) (h : Ev X Ψ ρ F a (fun x F1 => isSeq x = true ∧ okR 60 x = true ∧ szD x ≤ sizeLine ∧ Φ (.str (reprD x)) F1)) (hg : Gl X "repr" := by rfl)
    (hs : starEach [a] X.env = (false, eval a X.env) :: starEach [] X.env := by rfl) : Ev X Ψ ρ F (.Call (.Name "repr" p) [a] [] pos) Φ := by
  refine ev_callB (call_repr hr) hg hm (by decide +kernel) (ea1 (h.mono fun x F1 h1 P σ H us Q tk hd en rp q => ?_) hs) (by decide) (by decide) hs
  obtain ⟨u, rfl, r⟩ := reps1 rp
  obtain ⟨h1, h2, h3, h4⟩ := h1
  obtain ⟨k1, k2, k3⟩ := okR_okD 60 x h2
  have hl : (toP x).shown.length ≤ sizeLine := Nat.le_trans (shown_le 60 x h2) h3
  have dp := okD_dp hd.pure 60 x u k1 r
  have k4 := (okD_lay 60 x k1).2
  have fin := q (.str (toP x).shown) (.str (reprD x)) P F1 H (Same.refl P) hd (.str _) h4
  cases r with
  | lst hq rr => exact ⟨_, _, rfl, dp, k2, k3, k4, hl, fin⟩
  | tup hq rr => exact ⟨_, _, rfl, dp, k2, k3, k4, hl, fin⟩
  | _ => exact absurd h1 (by simp [isSeq])
end
end TM

set_option Elab.async false
set_option linter.all false
set_option maxRecDepth 100000
set_option maxHeartbeats 4000000
/-! The data layer: methods, isinstance, what is lent. -/
namespace TM
open PySem PySem.Spec PyProof.Rows L2
section
variable {X : Cx} {Ψ : XP} {ρ : En} {F : FS} {o a b e : Expr} {es : List Expr} {name : Str} {apos cpos : Pos} {T id : String} {r : V → List V → Hp → VK → Prop}
/-- x is a text, or a list -/
def TyM (T : String) (F : FS) (x : D) : Prop := match x with
  | .str _ => T = "str"
  | .lst _ => T = "list"
  | .raw (.ref l) => T = "list" ∧ ∃ xs, F l = some (.lst xs)
  | _ => False
theorem tyM_of {K : PySem.W.Frag} {P H : Hp} {F : FS} {x : D} {u : V} (h : TyM T F x) (hd : Hd K P F H) (rp : Rep K P x u) : tyV K T u H := by
  cases rp with
  | str z => exact h
  | lst hq rr => exact .inl ⟨h, _, SqL.of (hd.pure _ _ hq)⟩
  | raw =>
    cases u with
    | ref l =>
      obtain ⟨h1, xs, h2⟩ := h
      obtain ⟨_, vs, e3, rr⟩ := hd.mt l _ h2
      exact .inl ⟨h1, vs, SqL.of e3⟩
    | _ => exact False.elim h
  | _ => exact False.elim h
theorem ev_bm {Φ : D → FS → Prop} (pa : PlainAttrs T) (slot : Slot T name id) (hty : typeOf (.builtin id) = pure (.type "method_descriptor")) (hm : MtR X id r)
    (h : Ev X Ψ ρ F o (fun x F1 => TyM T F1 x ∧ Ea X Ψ ρ F1 (e :: es) (fun xs F2 => LM X Ψ ρ (fun _ => r) x xs F2 Φ)))
    (hbase : attributeBase o name X.env (eval o X.env) = eval o X.env := by rfl)
    (hfew : ((backTo cpos (starEach (e :: es) X.env)).all (fun x => !x.1) && (backToKw cpos (keywordEach [] X.env)).all (fun x => x.1.isSome)
      && decide ((e :: es).length + ([] : List Keyword).length + (if ([] : List Keyword).isEmpty then 0 else 1) < 30)) = true := by rfl)
    (hline : (apos.endLine == cpos.line) = true := by rfl) (hs : starEach (e :: es) X.env = (false, eval e X.env) :: starEach es X.env := by rfl) (hplain : (backTo cpos (starEach es X.env)).any (·.1) = false := by rfl) :
    Ev X Ψ ρ F (.Call (.Attribute o name apos) (e :: es) [] cpos) Φ :=
  ev_meth (g := tyV X.K T) (r := fun _ => r) (fun ta t h1 h2 => pe_bm pa slot hty hm h1 h2 hbase hfew hline hs hplain) (h.mono fun x F1 ⟨h1, h2⟩ => ⟨fun P H u hd rp => tyM_of h1 hd rp, h2⟩)
theorem ev_bm0 {Φ : D → FS → Prop} (pa : PlainAttrs T) (slot : Slot T name id) (hty : typeOf (.builtin id) = pure (.type "method_descriptor")) (hm : MtR X id r)
    (h : Ev X Ψ ρ F o (fun x F1 => TyM T F1 x ∧ LM X Ψ ρ (fun _ => r) x [] F1 Φ))
    (hbase : attributeBase o name X.env (eval o X.env) = eval o X.env := by rfl) (hline : (apos.endLine == cpos.line) = true := by rfl) :
    Ev X Ψ ρ F (.Call (.Attribute o name apos) [] [] cpos) Φ :=
  ⟨pe_weak (pe_bm0 pa slot hty hm h.pe hbase hline) fun σ H Q ⟨P, tk, hd, en, k⟩ => ⟨P, tk, hd, en, fun v d P1 F1 H1 s1 hd1 rp φ =>
    ⟨tyM_of φ.1 hd1 rp, φ.2 P1 σ H1 v [] Q (takes_mono s1 tk) hd1 (en.mono s1) rp .nil fun v2 d2 P2 F2 H2 s2 => k v2 d2 P2 F2 H2 (Same.trans s1 s2)⟩⟩⟩
theorem reps0 {K : PySem.W.Frag} {P : Hp} {us : List V} (r : Reps K P [] us) : us = [] := by
  cases r
  rfl

/-! ### texts -/
theorem ev_startswith {Φ : D → FS → Prop} (h : Ev X Ψ ρ F o (fun x F1 => ∃ z, x = .str z ∧ Ev X Ψ ρ F1 e (fun y F2 => ∃ w, y = .str w ∧ Φ (.bl (Txt.startswith z w)) F2)))
    (hbase : attributeBase o "startswith" X.env (eval o X.env) = eval o X.env := by rfl)
    (hfew : ((backTo cpos (starEach [e] X.env)).all (fun x => !x.1) && (backToKw cpos (keywordEach [] X.env)).all (fun x => x.1.isSome)
      && decide ([e].length + ([] : List Keyword).length + (if ([] : List Keyword).isEmpty then 0 else 1) < 30)) = true := by rfl)
    (hline : (apos.endLine == cpos.line) = true := by rfl) (hs : starEach [e] X.env = (false, eval e X.env) :: starEach [] X.env := by rfl) : Ev X Ψ ρ F (.Call (.Attribute o "startswith" apos) [e] [] cpos) Φ := by
  refine ev_bm PySem.F.plainAttrs_str PySem.F.slot_str_startswith PySem.F.type_str_startswith mt_startswith (h.mono fun x F1 h1 => ?_) hbase hfew hline hs (by rfl)
  obtain ⟨z, rfl, h1⟩ := h1
  refine ⟨rfl, ea1 (h1.mono fun y F2 h2 P σ H u us Q tk hd en r1 r2 q => ?_) hs⟩
  obtain ⟨w, rfl, h2⟩ := h2
  obtain ⟨v, rfl, r3⟩ := reps1 r2
  cases r1
  cases r3
  exact ⟨z, w, rfl, rfl, q _ _ P F2 H (Same.refl P) hd (.bl _) h2⟩
/-- x.split(sep) -/
theorem ev_split {Φ : D → FS → Prop} (h : Ev X Ψ ρ F o (fun x F1 => ∃ z, x = .str z ∧ Ev X Ψ ρ F1 e (fun y F2 => ∃ w, y = .str w ∧ (w.length == 0) = false ∧ z.length + 2 ≤ sizeLine ∧ Φ (.lst ((Txt.split z w).map D.str)) F2)))
    (hbase : attributeBase o "split" X.env (eval o X.env) = eval o X.env := by rfl)
    (hfew : ((backTo cpos (starEach [e] X.env)).all (fun x => !x.1) && (backToKw cpos (keywordEach [] X.env)).all (fun x => x.1.isSome)
      && decide ([e].length + ([] : List Keyword).length + (if ([] : List Keyword).isEmpty then 0 else 1) < 30)) = true := by rfl)
    (hline : (apos.endLine == cpos.line) = true := by rfl) (hs : starEach [e] X.env = (false, eval e X.env) :: starEach [] X.env := by rfl) : Ev X Ψ ρ F (.Call (.Attribute o "split" apos) [e] [] cpos) Φ := by
  refine ev_bm PySem.F.plainAttrs_str PySem.F.slot_str_split PySem.F.type_str_split mt_split (h.mono fun x F1 h1 => ?_) hbase hfew hline hs (by rfl)
  obtain ⟨z, rfl, h1⟩ := h1
  refine ⟨rfl, ea1 (h1.mono fun y F2 h2 P σ H u us Q tk hd en r1 r2 q => ?_) hs⟩
  obtain ⟨w, rfl, h2, h3, h4⟩ := h2
  obtain ⟨v, rfl, r3⟩ := reps1 r2
  cases r1
  cases r3
  refine ⟨z, w, rfl, rfl, h2, h3, fun p hp => ?_⟩
  obtain ⟨z1, z2⟩ := hd.new hp (.lst ((Txt.split z w).map V.str))
  exact q _ _ _ _ _ z1 z2 (.lst upd_same Reps.of_strs) h4
/-- sep.join(texts) -/
theorem ev_join {Φ : D → FS → Prop} (h : Ev X Ψ ρ F o (fun x F1 => ∃ z, x = .str z ∧ Ev X Ψ ρ F1 e (fun y F2 => ∃ ys : List Str, TupOfD F2 y (fun ds => ds = ys.map D.str) ∧ (ys.map (·.length)).sum + ys.length * z.length ≤ 16777216 ∧ Φ (.str (Txt.join z ys)) F2)))
    (hbase : attributeBase o "join" X.env (eval o X.env) = eval o X.env := by rfl)
    (hfew : ((backTo cpos (starEach [e] X.env)).all (fun x => !x.1) && (backToKw cpos (keywordEach [] X.env)).all (fun x => x.1.isSome)
      && decide ([e].length + ([] : List Keyword).length + (if ([] : List Keyword).isEmpty then 0 else 1) < 30)) = true := by rfl)
    (hline : (apos.endLine == cpos.line) = true := by rfl) (hs : starEach [e] X.env = (false, eval e X.env) :: starEach [] X.env := by rfl) : Ev X Ψ ρ F (.Call (.Attribute o "join" apos) [e] [] cpos) Φ := by
  refine ev_bm PySem.F.plainAttrs_str PySem.F.slot_str_join PySem.F.type_str_join mt_join (h.mono fun x F1 h1 => ?_) hbase hfew hline hs (by rfl)
  obtain ⟨z, rfl, h1⟩ := h1
  refine ⟨rfl, ea1 (h1.mono fun y F2 h2 P σ H u us Q tk hd en r1 r2 q => ?_) hs⟩
  obtain ⟨ys, h2, h3, h4⟩ := h2
  obtain ⟨v, rfl, r3⟩ := reps1 r2
  cases r1
  have fin := q _ _ P F2 H (Same.refl P) hd (.str (Txt.join z ys)) h4
  cases r3 with
  | @lst ds ad vs hq rr =>
    have e : ds = ys.map D.str := h2
    subst e
    have e := Reps.strs rr
    subst e
    exact ⟨z, ad, ys, rfl, rfl, .inl (SqL.of (hd.pure _ _ hq)), h3, fin⟩
  | @tup ds ad vs hq rr =>
    have e : ds = ys.map D.str := h2
    subst e
    have e := Reps.strs rr
    subst e
    exact ⟨z, ad, ys, rfl, rfl, .inr (SqT.of (hd.pure _ _ hq)), h3, fin⟩
  | raw =>
    cases v with
    | ref l =>
      obtain ⟨xs, e1, h2⟩ := h2
      subst h2
      obtain ⟨_, vs, e3, rr⟩ := hd.mt l _ e1
      have e := Reps.strs rr
      subst e
      exact ⟨z, l, ys, rfl, rfl, .inl (SqL.of e3), h3, fin⟩
    | _ => exact False.elim h2
  | _ => exact False.elim h2

/-! ### lists that are changed -/
/-- x is the handle of the list xs -/
def HdlD (F : FS) (x : D) (Φ : Addr → List D → Prop) : Prop := ∃ l xs, x = .raw (.ref l) ∧ F l = some (.lst xs) ∧ Φ l xs
theorem ev_append {Φ : D → FS → Prop} (h : Ev X Ψ ρ F o (fun x F1 => (∃ l xs, x = .raw (.ref l) ∧ F1 l = some (.lst xs)) ∧ Ev X Ψ ρ F1 e (fun y F2 => HdlD F2 x fun l xs => xs.length < sizeLine ∧ Φ .non (updF F2 l (.lst (xs ++ [y]))))))
    (hbase : attributeBase o "append" X.env (eval o X.env) = eval o X.env := by rfl)
    (hfew : ((backTo cpos (starEach [e] X.env)).all (fun x => !x.1) && (backToKw cpos (keywordEach [] X.env)).all (fun x => x.1.isSome)
      && decide ([e].length + ([] : List Keyword).length + (if ([] : List Keyword).isEmpty then 0 else 1) < 30)) = true := by rfl)
    (hline : (apos.endLine == cpos.line) = true := by rfl) (hs : starEach [e] X.env = (false, eval e X.env) :: starEach [] X.env := by rfl) : Ev X Ψ ρ F (.Call (.Attribute o "append" apos) [e] [] cpos) Φ := by
  refine ev_bm PySem.F.plainAttrs_list PySem.F.slot_list_append PySem.F.type_list_append mt_append (h.mono fun x F1 h1 => ?_) hbase hfew hline hs (by rfl)
  obtain ⟨⟨l, xs, rfl, e1⟩, h1⟩ := h1
  refine ⟨⟨rfl, xs, e1⟩, ea1 (h1.mono fun y F2 h2 P σ H u us Q tk hd en r1 r2 q => ?_) hs⟩
  obtain ⟨v, rfl, r3⟩ := reps1 r2
  cases r1
  obtain ⟨l2, ys, e2, e3, h2, h3⟩ := h2
  cases e2
  obtain ⟨_, vs, e4, rr⟩ := hd.mt l _ e3
  exact ⟨l, vs, v, rfl, rfl, e4, by rw [← Paired.length rr]; exact h2, q _ _ P _ _ (Same.refl P) (hd.write e3 (m := .lst (ys ++ [y])) ⟨_, upd_same, Reps.append rr (.cons r3 .nil)⟩) .non h3⟩
theorem mt_extend2 : MtR X "list.extend" (fun x vs H Q => ∃ l b xs zs, x = .ref l ∧ vs = [.ref b] ∧ H l = some (.lst xs) ∧ H b = some (.lst zs) ∧ xs.length + zs.length ≤ sizeLine ∧ Q .non (upd H l (.lst (xs ++ zs)))) := mt_extend
theorem ev_extend {Φ : D → FS → Prop} (h : Ev X Ψ ρ F o (fun x F1 => (∃ l xs, x = .raw (.ref l) ∧ F1 l = some (.lst xs)) ∧ Ev X Ψ ρ F1 e (fun y F2 => HdlD F2 x fun l xs => LstD y fun ys => xs.length + ys.length ≤ sizeLine ∧ Φ .non (updF F2 l (.lst (xs ++ ys))))))
    (hbase : attributeBase o "extend" X.env (eval o X.env) = eval o X.env := by rfl)
    (hfew : ((backTo cpos (starEach [e] X.env)).all (fun x => !x.1) && (backToKw cpos (keywordEach [] X.env)).all (fun x => x.1.isSome)
      && decide ([e].length + ([] : List Keyword).length + (if ([] : List Keyword).isEmpty then 0 else 1) < 30)) = true := by rfl)
    (hline : (apos.endLine == cpos.line) = true := by rfl) (hs : starEach [e] X.env = (false, eval e X.env) :: starEach [] X.env := by rfl) : Ev X Ψ ρ F (.Call (.Attribute o "extend" apos) [e] [] cpos) Φ := by
  refine ev_bm PySem.F.plainAttrs_list PySem.F.slot_list_extend PySem.F.type_list_extend mt_extend2 (h.mono fun x F1 h1 => ?_) hbase hfew hline hs (by rfl)
  obtain ⟨⟨l, xs, rfl, e1⟩, h1⟩ := h1
  refine ⟨⟨rfl, xs, e1⟩, ea1 (h1.mono fun y F2 h2 P σ H u us Q tk hd en r1 r2 q => ?_) hs⟩
  obtain ⟨v, rfl, r3⟩ := reps1 r2
  cases r1
  obtain ⟨l2, ys, e2, e3, h2⟩ := h2
  cases e2
  obtain ⟨_, vs, e4, rr⟩ := hd.mt l _ e3
  cases r3 with
  | @lst ds ad ws hq r4 =>
    exact ⟨l, ad, vs, ws, rfl, rfl, e4, hd.pure _ _ hq, by rw [← Paired.length rr, ← Paired.length r4]; exact h2.1, q _ _ P _ _ (Same.refl P) (hd.write e3 (m := .lst (ys ++ ds)) ⟨_, upd_same, Reps.append rr r4⟩) .non h2.2⟩
  | _ => exact False.elim h2
/-- xs.pop(i) -/
theorem ev_popAt {Φ : D → FS → Prop} (h : Ev X Ψ ρ F o (fun x F1 => (∃ l xs, x = .raw (.ref l) ∧ F1 l = some (.lst xs)) ∧ Ev X Ψ ρ F1 e (fun y F2 => HdlD F2 x fun l xs => ∃ (k : Nat) (d : D), y = .int k ∧ k < 2 ^ 62 ∧ xs[k]? = some d ∧ Φ d (updF F2 l (.lst (xs.eraseIdx k))))))
    (hbase : attributeBase o "pop" X.env (eval o X.env) = eval o X.env := by rfl)
    (hfew : ((backTo cpos (starEach [e] X.env)).all (fun x => !x.1) && (backToKw cpos (keywordEach [] X.env)).all (fun x => x.1.isSome)
      && decide ([e].length + ([] : List Keyword).length + (if ([] : List Keyword).isEmpty then 0 else 1) < 30)) = true := by rfl)
    (hline : (apos.endLine == cpos.line) = true := by rfl) (hs : starEach [e] X.env = (false, eval e X.env) :: starEach [] X.env := by rfl) : Ev X Ψ ρ F (.Call (.Attribute o "pop" apos) [e] [] cpos) Φ := by
  refine ev_bm PySem.F.plainAttrs_list PySem.F.slot_list_pop PySem.F.type_list_pop mt_popAt (h.mono fun x F1 h1 => ?_) hbase hfew hline hs (by rfl)
  obtain ⟨⟨l, xs, rfl, e1⟩, h1⟩ := h1
  refine ⟨⟨rfl, xs, e1⟩, ea1 (h1.mono fun y F2 h2 P σ H u us Q tk hd en r1 r2 q => ?_) hs⟩
  obtain ⟨v, rfl, r3⟩ := reps1 r2
  cases r1
  obtain ⟨l2, ys, e2, e3, k, d, rfl, hk, hkd, h2⟩ := h2
  cases e2
  cases r3
  obtain ⟨_, vs, e4, rr⟩ := hd.mt l _ e3
  obtain ⟨v, hv, rv⟩ := Reps.get rr hkd
  have hlt : k < vs.length := (List.getElem?_eq_some_iff.mp hv).1
  have hsi : seqIndex? (k : Int) vs.length = some k := by
    have hk0 : ¬ ((k : Int) < 0) := by omega
    unfold seqIndex?
    simp [hlt, hk0]
  exact ⟨l, vs, (k : Int), k, v, rfl, rfl, e4, by omega, by omega, hsi, hv, q _ _ P _ _ (Same.refl P) (hd.write e3 (m := .lst (ys.eraseIdx k)) ⟨_, upd_same, Reps.erase k rr⟩) rv h2⟩
theorem ev_reverse {Φ : D → FS → Prop} (h : Ev X Ψ ρ F o (fun x F1 => HdlD F1 x fun l xs => Φ .non (updF F1 l (.lst xs.reverse))))
    (hbase : attributeBase o "reverse" X.env (eval o X.env) = eval o X.env := by rfl) (hline : (apos.endLine == cpos.line) = true := by rfl) : Ev X Ψ ρ F (.Call (.Attribute o "reverse" apos) [] [] cpos) Φ := by
  refine ev_bm0 PySem.F.plainAttrs_list PySem.F.slot_list_reverse PySem.F.type_list_reverse mt_reverse (h.mono fun x F1 h1 => ?_) hbase hline
  obtain ⟨l, xs, rfl, e1, h1⟩ := h1
  refine ⟨⟨rfl, xs, e1⟩, fun P σ H u us Q tk hd en r1 r2 q => ?_⟩
  cases reps0 r2
  cases r1
  obtain ⟨_, vs, e4, rr⟩ := hd.mt l _ e1
  exact ⟨l, vs, rfl, rfl, e4, q _ _ P _ _ (Same.refl P) (hd.write e1 (m := .lst xs.reverse) ⟨_, upd_same, Reps.reverse rr⟩) .non h1⟩
theorem ev_clear {Φ : D → FS → Prop} (h : Ev X Ψ ρ F o (fun x F1 => HdlD F1 x fun l _ => Φ .non (updF F1 l (.lst []))))
    (hbase : attributeBase o "clear" X.env (eval o X.env) = eval o X.env := by rfl) (hline : (apos.endLine == cpos.line) = true := by rfl) : Ev X Ψ ρ F (.Call (.Attribute o "clear" apos) [] [] cpos) Φ := by
  refine ev_bm0 PySem.F.plainAttrs_list PySem.F.slot_list_clear PySem.F.type_list_clear mt_clear (h.mono fun x F1 h1 => ?_) hbase hline
  obtain ⟨l, xs, rfl, e1, h1⟩ := h1
  refine ⟨⟨rfl, xs, e1⟩, fun P σ H u us Q tk hd en r1 r2 q => ?_⟩
  cases reps0 r2
  cases r1
  obtain ⟨_, vs, e4, rr⟩ := hd.mt l _ e1
  exact ⟨l, vs, rfl, rfl, e4, q _ _ P _ _ (Same.refl P) (hd.write e1 (m := .lst []) ⟨_, upd_same, .nil⟩) .non h1⟩
/-- xs.pop() -/
theorem ev_pop0 {Φ : D → FS → Prop} (h : Ev X Ψ ρ F o (fun x F1 => HdlD F1 x fun l xs => ∃ d, xs[xs.length - 1]? = some d ∧ Φ d (updF F1 l (.lst (xs.take (xs.length - 1))))))
    (hbase : attributeBase o "pop" X.env (eval o X.env) = eval o X.env := by rfl) (hline : (apos.endLine == cpos.line) = true := by rfl) : Ev X Ψ ρ F (.Call (.Attribute o "pop" apos) [] [] cpos) Φ := by
  refine ev_bm0 PySem.F.plainAttrs_list PySem.F.slot_list_pop PySem.F.type_list_pop mt_pop (h.mono fun x F1 h1 => ?_) hbase hline
  obtain ⟨l, xs, rfl, e1, d, hdd, h1⟩ := h1
  refine ⟨⟨rfl, xs, e1⟩, fun P σ H u us Q tk hd en r1 r2 q => ?_⟩
  cases reps0 r2
  cases r1
  obtain ⟨_, vs, e4, rr⟩ := hd.mt l _ e1
  obtain ⟨v, hv, rv⟩ := Reps.get rr hdd
  rw [Paired.length rr] at hv
  refine ⟨l, vs, v, rfl, rfl, e4, hv, q _ _ P _ _ (Same.refl P) (hd.write e1 (m := .lst (xs.take (xs.length - 1))) ⟨_, upd_same, ?_⟩) rv h1⟩
  rw [List.dropLast_eq_take, ← Paired.length rr]
  exact Reps.take _ rr

/-! ### isinstance -/
def tyD (F : FS) : D → Option String
  | .non => some "NoneType"
  | .bl _ => some "bool"
  | .int _ => some "int"
  | .str _ => some "str"
  | .lst _ => some "list"
  | .tup _ => some "tuple"
  | .dct _ _ => some "dict"
  | .raw (.ref l) => match F l with
    | some (.lst _) => some "list"
    | _ => none
  | _ => none
theorem tyD_of {K : PySem.W.Frag} {P H : Hp} {F : FS} {x : D} {u : V} {t : String} (h : tyD F x = some t) (hd : Hd K P F H) (rp : Rep K P x u) : TyX K H u (.type t) := by
  cases rp with
  | non => cases h; exact .base .non
  | bl z => cases h; exact .base (.bl z)
  | int z => cases h; exact .base (.int z)
  | str z => cases h; exact .base (.str z)
  | lst hq rr => cases h; exact .base (.lst (hd.pure _ _ hq))
  | tup hq rr => cases h; exact .base (.tup (hd.pure _ _ hq))
  | dct hq hl rr => cases h; exact .base (.dK (hd.pure _ _ hq))
  | scr hq => cases h
  | exc hq rr => cases h
  | raw =>
    cases u with
    | ref l =>
      unfold tyD at h
      simp only at h
      cases e : F l with
      | none =>
        rw [e] at h
        cases h
      | some m =>
        rw [e] at h
        cases m with
        | lst xs =>
          cases h
          obtain ⟨_, vs, e3, rr⟩ := hd.mt l _ e
          exact .base (.lst e3)
        | _ => cases h
    | _ => cases h
theorem ev_isi {p p2 : Pos} {y : Str} {Φ : D → FS → Prop} (hm : X.mg "isinstance" = none) (hy : X.mg y = none) (hv : bootBuiltins y = some (.type T)) (h : Ev X Ψ ρ F a (fun x F1 => ∃ t r, tyD F1 x = some t ∧ kitB t T = some r ∧ Φ (.bl r) F1)) (hg : Gl X "isinstance" := by rfl) (hgy : Gl X y := by rfl)
    (hn : y ≠ "__name__" := by decide) (hdb : (y == ("__debug__" : Str)) = false := by decide)
    (hs : starEach [a, .Name y p2] X.env = (false, eval a X.env) :: starEach [.Name y p2] X.env := by rfl) (hs2 : starEach [.Name y p2] X.env = (false, eval (.Name y p2) X.env) :: starEach [] X.env := by rfl) :
    Ev X Ψ ρ F (.Call (.Name "isinstance" p) [a, .Name y p2] [] cpos) Φ := by
  refine ev_callB call_isi hg hm (by decide +kernel) (ea2 (h.mono fun x F1 h1 => ev_const (d := .raw (.ty T)) (pe_bltn (v := .ty T) hgy hy hv rfl hn hdb) (fun _ _ => .raw _) fun P σ H us Q tk hd en rp q => ?_) hs hs2) (by decide) (by decide) hs (by rw [hs2]; rfl)
  obtain ⟨t, r, h1, h2, h3⟩ := h1
  obtain ⟨u, v, rfl, r1, r2⟩ := reps2 rp
  cases r2
  exact ⟨u, .ty T, .type t, .type T, r, rfl, .ty T, tyD_of h1 hd r1, kit_ty h2, q _ _ P F1 H (Same.refl P) hd (.bl _) h3⟩
end

section
variable {X : Cx} {Ψ : XP} {ρ : En} {F : FS} {a b e : Expr} {es : List Expr} {cpos : Pos} {sts : List Stmt}
/-- the kinds of plain data -/
inductive Ty where
  | non | bl | int | str | lst | tup | dct
def Ty.nm : Ty → String
  | .non => "NoneType"
  | .bl => "bool"
  | .int => "int"
  | .str => "str"
  | .lst => "list"
  | .tup => "tuple"
  | .dct => "dict"
def Ty.le : Ty → Ty → Bool
  | .non, .non => true
  | .bl, .bl => true
  | .bl, .int => true
  | .int, .int => true
  | .str, .str => true
  | .lst, .lst => true
  | .tup, .tup => true
  | .dct, .dct => true
  | _, _ => false
def tyQ (F : FS) : D → Option Ty
  | .non => some .non
  | .bl _ => some .bl
  | .int _ => some .int
  | .str _ => some .str
  | .lst _ => some .lst
  | .tup _ => some .tup
  | .dct _ _ => some .dct
  | .raw (.ref l) => match F l with
    | some (.lst _) => some .lst
    | _ => none
  | _ => none
theorem tyQ_D {x : D} {t : Ty} (h : tyQ F x = some t) : tyD F x = some t.nm := by
  cases x with
  | raw u =>
    cases u with
    | ref l =>
      unfold tyQ at h
      unfold tyD
      cases e : F l with
      | none =>
        simp only [e] at h
        cases h
      | some m =>
        cases m with
        | lst xs =>
          simp only [e] at h ⊢
          cases h
          rfl
        | _ =>
          simp only [e] at h
          cases h
    | _ => cases h
  | scr ns => cases h
  | exc _ _ _ _ => cases h
  | _ =>
    cases h
    rfl
theorem kitB_all : ([Ty.non, .bl, .int, .str, .lst, .tup, .dct].all fun t => [Ty.bl, .int, .str, .lst, .tup, .dct].all fun u => kitB t.nm u.nm == some (t.le u)) = true := by decide +kernel
theorem kitB_le (t u : Ty) (hu : u ≠ .non) : kitB t.nm u.nm = some (t.le u) := by
  have h := List.all_eq_true.mp kitB_all t (by cases t <;> simp)
  exact beq_iff_eq.mp (List.all_eq_true.mp h u (by cases u <;> simp at hu ⊢))
theorem ev_isiX {p p2 : Pos} {y : Str} {Φ : D → FS → Prop} (u : Ty) (hu : u ≠ .non) (hv : bootBuiltins y = some (.type u.nm)) (hn : y ≠ "__name__") (hdb : (y == ("__debug__" : Str)) = false) (hm : X.mg "isinstance" = none) (hy : X.mg y = none)
    (h : Ev X Ψ ρ F a (fun x F1 => ∃ t, tyQ F1 x = some t ∧ Φ (.bl (t.le u)) F1)) (hg : Gl X "isinstance") (hgy : Gl X y)
    (hs : starEach [a, .Name y p2] X.env = (false, eval a X.env) :: starEach [.Name y p2] X.env) (hs2 : starEach [.Name y p2] X.env = (false, eval (.Name y p2) X.env) :: starEach [] X.env) : Ev X Ψ ρ F (.Call (.Name "isinstance" p) [a, .Name y p2] [] cpos) Φ :=
  ev_isi (T := u.nm) hm hy hv (h.mono fun x F1 ⟨t, h1, h2⟩ => ⟨t.nm, _, tyQ_D h1, kitB_le t u hu, h2⟩) hg hgy hn hdb hs hs2
theorem ev_isInt {p p2 : Pos} {Φ : D → FS → Prop} (hm : X.mg "isinstance" = none) (hy : X.mg "int" = none) (h : Ev X Ψ ρ F a (fun x F1 => ∃ t, tyQ F1 x = some t ∧ Φ (.bl (t.le .int)) F1)) (hg : Gl X "isinstance" := by rfl) (hgy : Gl X "int" := by rfl)
    (hs : starEach [a, .Name "int" p2] X.env = (false, eval a X.env) :: starEach [.Name "int" p2] X.env := by rfl) (hs2 : starEach [.Name "int" p2] X.env = (false, eval (.Name "int" p2) X.env) :: starEach [] X.env := by rfl) : Ev X Ψ ρ F (.Call (.Name "isinstance" p) [a, .Name "int" p2] [] cpos) Φ :=
  ev_isiX .int (by simp) (by decide +kernel) (by decide) (by decide) hm hy h hg hgy hs hs2
theorem ev_isBool {p p2 : Pos} {Φ : D → FS → Prop} (hm : X.mg "isinstance" = none) (hy : X.mg "bool" = none) (h : Ev X Ψ ρ F a (fun x F1 => ∃ t, tyQ F1 x = some t ∧ Φ (.bl (t.le .bl)) F1)) (hg : Gl X "isinstance" := by rfl) (hgy : Gl X "bool" := by rfl)
    (hs : starEach [a, .Name "bool" p2] X.env = (false, eval a X.env) :: starEach [.Name "bool" p2] X.env := by rfl) (hs2 : starEach [.Name "bool" p2] X.env = (false, eval (.Name "bool" p2) X.env) :: starEach [] X.env := by rfl) : Ev X Ψ ρ F (.Call (.Name "isinstance" p) [a, .Name "bool" p2] [] cpos) Φ :=
  ev_isiX .bl (by simp) (by decide +kernel) (by decide) (by decide) hm hy h hg hgy hs hs2
theorem ev_isStr {p p2 : Pos} {Φ : D → FS → Prop} (hm : X.mg "isinstance" = none) (hy : X.mg "str" = none) (h : Ev X Ψ ρ F a (fun x F1 => ∃ t, tyQ F1 x = some t ∧ Φ (.bl (t.le .str)) F1)) (hg : Gl X "isinstance" := by rfl) (hgy : Gl X "str" := by rfl)
    (hs : starEach [a, .Name "str" p2] X.env = (false, eval a X.env) :: starEach [.Name "str" p2] X.env := by rfl) (hs2 : starEach [.Name "str" p2] X.env = (false, eval (.Name "str" p2) X.env) :: starEach [] X.env := by rfl) : Ev X Ψ ρ F (.Call (.Name "isinstance" p) [a, .Name "str" p2] [] cpos) Φ :=
  ev_isiX .str (by simp) (by decide +kernel) (by decide) (by decide) hm hy h hg hgy hs hs2
theorem ev_isList {p p2 : Pos} {Φ : D → FS → Prop} (hm : X.mg "isinstance" = none) (hy : X.mg "list" = none) (h : Ev X Ψ ρ F a (fun x F1 => ∃ t, tyQ F1 x = some t ∧ Φ (.bl (t.le .lst)) F1)) (hg : Gl X "isinstance" := by rfl) (hgy : Gl X "list" := by rfl)
    (hs : starEach [a, .Name "list" p2] X.env = (false, eval a X.env) :: starEach [.Name "list" p2] X.env := by rfl) (hs2 : starEach [.Name "list" p2] X.env = (false, eval (.Name "list" p2) X.env) :: starEach [] X.env := by rfl) : Ev X Ψ ρ F (.Call (.Name "isinstance" p) [a, .Name "list" p2] [] cpos) Φ :=
  ev_isiX .lst (by simp) (by decide +kernel) (by decide) (by decide) hm hy h hg hgy hs hs2
theorem ev_isTup {p p2 : Pos} {Φ : D → FS → Prop} (hm : X.mg "isinstance" = none) (hy : X.mg "tuple" = none) (h : Ev X Ψ ρ F a (fun x F1 => ∃ t, tyQ F1 x = some t ∧ Φ (.bl (t.le .tup)) F1)) (hg : Gl X "isinstance" := by rfl) (hgy : Gl X "tuple" := by rfl)
    (hs : starEach [a, .Name "tuple" p2] X.env = (false, eval a X.env) :: starEach [.Name "tuple" p2] X.env := by rfl) (hs2 : starEach [.Name "tuple" p2] X.env = (false, eval (.Name "tuple" p2) X.env) :: starEach [] X.env := by rfl) : Ev X Ψ ρ F (.Call (.Name "isinstance" p) [a, .Name "tuple" p2] [] cpos) Φ :=
  ev_isiX .tup (by simp) (by decide +kernel) (by decide) (by decide) hm hy h hg hgy hs hs2
/-- a constant of the module -/
theorem ev_gint {x : Str} {i : Int} {Φ : D → FS → Prop} (hm : ∃ t, X.mg x = some (.int i t)) (k : Φ (.int i) F) (hg : Gl X x := by rfl) (hd : (x == ("__debug__" : Str)) = false := by decide) : Ev X Ψ ρ F (.Name x cpos) Φ :=
  let ⟨t, h⟩ := hm
  ev_const (d := .int i) (pe_glob (v := .int i) hg h ⟨t, rfl⟩ hd) (fun _ _ => .int i) k
theorem ev_gstr {x : Str} {i : Str} {Φ : D → FS → Prop} (hm : ∃ t, X.mg x = some (.str i t)) (k : Φ (.str i) F) (hg : Gl X x := by rfl) (hd : (x == ("__debug__" : Str)) = false := by decide) : Ev X Ψ ρ F (.Name x cpos) Φ :=
  let ⟨t, h⟩ := hm
  ev_const (d := .str i) (pe_glob (v := .str i) hg h ⟨t, rfl⟩ hd) (fun _ _ => .str i) k
theorem ev_less {Φ : D → FS → Prop} {F' : FS} (s : ∀ a m, F' a = some m → F a = some m) (h : Ev X Ψ ρ F' e Φ) : Ev X Ψ ρ F e Φ :=
  ⟨pe_weak h.pe fun σ H Q ⟨P, tk, hd, en, k⟩ => ⟨P, tk, hd.less s, en, k⟩⟩
theorem upd_more {F : FS} {l : Addr} {m : MO} (h : F l = none) : ∀ a n, F a = some n → updF F l m a = some n := fun a n e => by
  by_cases ha : a = l
  · rw [ha, h] at e
    cases e
  · rw [updF_ne ha]
    exact e
theorem blsD_map {α : Type} {ys : List α} {p : α → Bool} {Φ : List Bool → Prop} (h : Φ (ys.map p)) : BlsD (.lst (ys.map fun d => D.bl (p d))) Φ := ⟨ys.map p, by rw [List.map_map]; rfl, h⟩
end

/-! ### what is lent: lists that may be changed, read for a while as lists that are not -/
mutual
def lend (B : Addr → Option (List D)) : D → D
  | .raw (.ref l) => match B l with
    | some ds => .lst ds
    | none => .raw (.ref l)
  | .lst xs => .lst (lends B xs)
  | .tup xs => .tup (lends B xs)
  | .dct ks xs => .dct ks (lends B xs)
  | .exc a dd f x => .exc a dd f (lend B x)
  | d => d
def lends (B : Addr → Option (List D)) : List D → List D
  | [] => []
  | x :: xs => lend B x :: lends B xs
end
theorem lend_rep {K : PySem.W.Frag} {P P' : Hp} {B : Addr → Option (List D)} (s : Same P P') (hB : ∀ l ds, B l = some ds → ∃ vs, P' l = some (.lst vs) ∧ Reps K P' ds vs) {d : D} {v : V} (h : Rep K P d v) : Rep K P' (lend B d) v := by
  induction h using Rep.rec (motive_2 := fun ds vs _ => Reps K P' (lends B ds) vs) with
  | non => exact .non
  | bl b => exact .bl b
  | int i => exact .int i
  | str x => exact .str x
  | lst h r ih =>
    unfold lend
    exact .lst (s _ _ h) ih
  | tup h r ih =>
    unfold lend
    exact .tup (s _ _ h) ih
  | @dct ks ds a vs h hl r ih =>
    unfold lend
    refine .dct (s _ _ h) ?_ ih
    rw [hl, Paired.length r, Paired.length ih]
  | scr h => exact .scr (Same.seq s h)
  | exc h r ih =>
    unfold lend
    exact .exc (s _ _ h) ih
  | raw v =>
    cases v with
    | ref l =>
      unfold lend
      cases e : B l with
      | none => exact .raw _
      | some ds =>
        obtain ⟨vs, h1, h2⟩ := hB l ds e
        exact .lst h1 h2
    | _ => exact .raw _
  | nil => exact .nil
  | cons r t ih1 ih2 => exact .cons ih1 ih2
def lendE (B : Addr → Option (List D)) (ρ : En) : En := ρ.map fun o => o.map (lend B)
theorem lend_env {K : PySem.W.Frag} {P P' : Hp} {B : Addr → Option (List D)} {ρ : En} {σ : L2.St} (s : Same P P') (hB : ∀ l ds, B l = some ds → ∃ vs, P' l = some (.lst vs) ∧ Reps K P' ds vs) (en : EnvR K P ρ σ) : EnvR K P' (lendE B ρ) σ := by
  refine ⟨by unfold lendE; rw [List.length_map]; exact en.len, fun i d e => ?_⟩
  unfold lendE at e
  rw [List.getElem?_map] at e
  cases q : ρ[i]? with
  | none =>
    rw [q] at e
    cases e
  | some o =>
    rw [q] at e
    cases o with
    | none => cases e
    | some d2 =>
      obtain rfl : lend B d2 = d := Option.some.inj (Option.some.inj e)
      obtain ⟨v, h1, h2⟩ := en.at_ i d2 q
      exact ⟨v, h1, lend_rep s hB h2⟩
/-- the state in which B is lent -/
theorem lend_hd {K : PySem.W.Frag} {P H : Hp} {F : FS} {B : Addr → Option (List D)} (hd : Hd K P F H) (hB : ∀ l ds, B l = some ds → F l = some (.lst ds)) : ∃ (P1 : Hp) (F1 : FS), (∀ l ds, B l = some ds → F1 l = none) ∧ Same P P1 ∧ Hd K P1 F1 H ∧
    (∀ l ds, B l = some ds → ∃ vs, P1 l = some (.lst vs) ∧ Reps K P1 ds vs) ∧ ∀ P2 H2, Same P1 P2 → Hd K P2 F1 H2 → Hd K P F H2 := by
  have hP : ∀ l ds, B l = some ds → P l = none := fun l ds e => (hd.mt l _ (hB l ds e)).1
  have s1 : Same P (fun a => if (B a).isSome then H a else P a) := fun a u e => by
    cases q : B a with
    | none => simpa [q] using e
    | some ds =>
      rw [hP a ds q] at e
      cases e
  refine ⟨fun a => if (B a).isSome then H a else P a, fun a => if (B a).isSome then none else (F a).bind fun _ => (H a).map MO.any, fun l ds e => by simp [e], s1, ⟨fun a u e => ?_, fun a m e => ?_⟩, fun l ds e => ?_, fun P2 H2 s2 hd2 => ⟨fun a u e => hd2.pure a u (s2 a u (s1 a u e)), fun a m e => ?_⟩⟩
  · cases q : B a with
    | none =>
      simp [q] at e
      exact hd.pure a u e
    | some ds => simpa [q] using e
  · cases q : B a with
    | some ds => simp [q] at e
    | none =>
      have e0 : ((F a).bind fun _ => (H a).map MO.any) = some m := by simpa [q] using e
      cases e1 : F a with
      | none =>
        rw [e1] at e0
        cases e0
      | some m0 =>
        cases e2 : H a with
        | none =>
          rw [e1, e2] at e0
          cases e0
        | some o =>
          rw [e1, e2] at e0
          obtain rfl : MO.any o = m := Option.some.inj e0
          refine ⟨?_, e2⟩
          simp [q]
          exact (hd.mt a m0 e1).1
  · obtain ⟨_, vs, e2, rr⟩ := hd.mt l _ (hB l ds e)
    exact ⟨vs, by simp [e, e2], Reps.mono s1 rr⟩
  · obtain ⟨h1, h2⟩ := hd.mt a m e
    refine ⟨h1, h2.mono (Same.refl P) ?_⟩
    obtain ⟨o, ho⟩ := h2.there
    rw [ho]
    cases q : B a with
    | some ds => exact hd2.pure a o (s2 a o (by simp [q, ho]))
    | none => exact (hd2.mt a (.any o) (by simp [q, e, ho])).2
section
variable {X : Cx} {Ψ : XP} {ρ : En} {F : FS} {e : Expr}
theorem flat_same {K : PySem.W.Frag} {P P' : Hp} {d : D} {v : V} (r : Rep K P d v) (h : flatD d = true) : Rep K P' d v := by
  cases r with
  | non => exact .non
  | bl b => exact .bl b
  | int i => exact .int i
  | str x => exact .str x
  | _ => simp [flatD] at h
theorem ev_lend {Φ : D → FS → Prop} (B : Addr → Option (List D)) (hB : ∀ l ds, B l = some ds → F l = some (.lst ds))
    (h : ∀ F1 : FS, (∀ l ds, B l = some ds → F1 l = none) → Ev X NoE (lendE B ρ) F1 e (fun d F2 => F2 = F1 ∧ flatD d = true ∧ Φ d F)) : Ev X Ψ ρ F e Φ :=
  ⟨pe_weak (pe_fam (ι := { F1 : FS // ∀ l ds, B l = some ds → F1 l = none }) fun i => (h i.1 i.2).pe) fun σ H Q ⟨P, tk, hd, en, k⟩ => by
    obtain ⟨P1, F1, h1, s1, hd1, hB1, back⟩ := lend_hd hd hB
    refine ⟨⟨F1, h1⟩, P1, takes_no, hd1, lend_env s1 hB1 en, fun v d P2 F2 H2 s2 hd2 r φ => ?_⟩
    obtain ⟨rfl, fl, φ⟩ := φ
    exact k v d P F H2 (Same.refl P) (back P2 H2 s2 hd2) (flat_same r fl) φ⟩
theorem et_lend {Φ : Bool → FS → Prop} (B : Addr → Option (List D)) (hB : ∀ l ds, B l = some ds → F l = some (.lst ds))
    (h : ∀ F1 : FS, (∀ l ds, B l = some ds → F1 l = none) → Et X NoE (lendE B ρ) F1 e (fun d F2 => F2 = F1 ∧ Φ d F)) : Et X Ψ ρ F e Φ :=
  ⟨pt_weak (pt_fam (ι := { F1 : FS // ∀ l ds, B l = some ds → F1 l = none }) fun i => (h i.1 i.2).pt) fun σ H Q ⟨P, tk, hd, en, k⟩ => by
    obtain ⟨P1, F1, h1, s1, hd1, hB1, back⟩ := lend_hd hd hB
    refine ⟨⟨F1, h1⟩, P1, takes_no, hd1, lend_env s1 hB1 en, fun b P2 F2 H2 s2 hd2 φ => ?_⟩
    obtain ⟨rfl, φ⟩ := φ
    exact k b P F H2 (Same.refl P) (back P2 H2 s2 hd2) φ⟩
/-- one list is lent -/
def one1 (l : Addr) (ds : List D) : Addr → Option (List D) := fun a => if a = l then some ds else none
theorem one1_ok {l : Addr} {ds : List D} (h : F l = some (.lst ds)) : ∀ a es, one1 l ds a = some es → F a = some (.lst es) := fun a es e => by
  unfold one1 at e
  split at e
  · rename_i q
    cases e
    rw [q]
    exact h
  · cases e
theorem one1_at {l : Addr} {ds : List D} : one1 l ds l = some ds := if_pos rfl
end
end TM

set_option Elab.async false
set_option linter.all false
set_option maxRecDepth 100000
set_option maxHeartbeats 4000000
/-! The data layer: what is asked of data, at data that are known. -/
namespace TM
open PySem PySem.Spec PyProof.Rows L2
theorem le_line {n : Nat} (h : n ≤ 16000000) : n ≤ sizeLine := by
  rw [sizeLine_eq]
  omega
theorem d_bl {b : Bool} {Φ : Bool → Prop} (h : Φ b) : BlD (.bl b) Φ := h
theorem d_int {b : Int} {Φ : Int → Prop} (h : Φ b) : IntD (.int b) Φ := h
theorem d_str {b : Str} {Φ : Str → Prop} (h : Φ b) : StrD (.str b) Φ := h
theorem d_lst {b : List D} {Φ : List D → Prop} (h : Φ b) : LstD (.lst b) Φ := h
theorem d_tup {b : List D} {Φ : List D → Prop} (h : Φ b) : TupD (.tup b) Φ := h
theorem d_star {b : List D} {Φ : List D → Prop} (h : Φ b) : StarD (.lst b) Φ := h
theorem d_starT {b : List D} {Φ : List D → Prop} (h : Φ b) : StarD (.tup b) Φ := h
theorem d_ordI {ri : Int → Int → Bool} {rs : Str → Str → Bool} {i j : Int} {Φ : Bool → Prop} (h : Φ (ri i j)) : OrdD ri rs (.int i) (.int j) Φ := h
theorem d_ordS {ri : Int → Int → Bool} {rs : Str → Str → Bool} {i j : Str} {Φ : Bool → Prop} (h : Φ (rs i j)) : OrdD ri rs (.str i) (.str j) Φ := h
theorem d_eqI {i j : Int} {Φ : Bool → Prop} (h : Φ (decide (i = j))) : EqD (.int i) (.int j) Φ := h
theorem d_eqS {i j : Str} {Φ : Bool → Prop} (h : Φ (decide (i = j))) : EqD (.str i) (.str j) Φ := h
theorem d_eqB {i j : Bool} {Φ : Bool → Prop} (h : Φ (decide (i = j))) : EqD (.bl i) (.bl j) Φ := h
theorem d_eqL {xs ys : List D} {Φ : Bool → Prop} (h1 : okD 60 (.lst xs) = true) (h2 : okD 60 (.lst ys) = true) (h : Φ (eqD (.lst xs) (.lst ys))) : EqD (.lst xs) (.lst ys) Φ := ⟨h1, h2, h⟩
theorem d_eqT {xs ys : List D} {Φ : Bool → Prop} (h1 : okD 60 (.tup xs) = true) (h2 : okD 60 (.tup ys) = true) (h : Φ (eqD (.tup xs) (.tup ys))) : EqD (.tup xs) (.tup ys) Φ := ⟨h1, h2, h⟩
theorem EqD.elim_lst {xs ys : List D} {Φ : Bool → Prop} (h1 : okD 60 (.lst xs) = true) (h2 : okD 60 (.lst ys) = true) (h : Φ (eqD (.lst xs) (.lst ys))) : EqD (.lst xs) (.lst ys) Φ := ⟨h1, h2, h⟩
theorem d_addI {i j : Int} {Φ : D → Prop} (h : Φ (.int (i + j))) : AddD (.int i) (.int j) Φ := h
theorem d_addS {i j : Str} {Φ : D → Prop} (h1 : i.length + j.length ≤ sizeLine) (h : Φ (.str (i ++ j))) : AddD (.str i) (.str j) Φ := ⟨h1, h⟩
theorem d_addL {i j : List D} {Φ : D → Prop} (h1 : i.length + j.length ≤ sizeLine) (h : Φ (.lst (i ++ j))) : AddD (.lst i) (.lst j) Φ := ⟨h1, h⟩
theorem d_mulI {i j : Int} {Φ : D → Prop} (h1 : CMulW i j) (h : Φ (.int (i * j))) : MulD (.int i) (.int j) Φ := ⟨h1, h⟩
theorem d_mulS {z : Str} {n : Int} {Φ : D → Prop} (h1 : 0 ≤ n) (h2 : n ≤ 10000) (h3 : z.length ≤ 1000) (h : Φ (.str (repS z n.toNat))) : MulD (.str z) (.int n) Φ := ⟨h1, h2, h3, h⟩
theorem d_ixL {F : FS} {xs : List D} {k : Int} {d : D} {Φ : D → Prop} (h1 : atI xs k = some d) (h : Φ d) : IxD F (.lst xs) (.int k) Φ := ⟨d, h1, h⟩
theorem d_ixT {F : FS} {xs : List D} {k : Int} {d : D} {Φ : D → Prop} (h1 : atI xs k = some d) (h : Φ d) : IxD F (.tup xs) (.int k) Φ := ⟨d, h1, h⟩
theorem d_ixR {F : FS} {l : Addr} {xs : List D} {k : Int} {d : D} {Φ : D → Prop} (h0 : F l = some (.lst xs)) (h1 : atI xs k = some d) (h : Φ d) : IxD F (.raw (.ref l)) (.int k) Φ := ⟨xs, d, h0, h1, h⟩
theorem d_ixS {F : FS} {z : Str} {k : Int} {c : Nat} {Φ : D → Prop} (h0 : z.length ≤ sizeLine) (h1 : atI z.cps.toList k = some c) (h : Φ (.str ⟨#[c]⟩)) : IxD F (.str z) (.int k) Φ := ⟨h0, c, h1, h⟩
theorem d_lenL {F : FS} {xs : List D} {Φ : Nat → Prop} (h : Φ xs.length) : LenD F (.lst xs) Φ := h
theorem d_lenT {F : FS} {xs : List D} {Φ : Nat → Prop} (h : Φ xs.length) : LenD F (.tup xs) Φ := h
theorem d_lenC {F : FS} {ns : List Int} {Φ : Nat → Prop} (h : Φ ns.length) : LenD F (.scr ns) Φ := h
theorem d_lenS {F : FS} {z : Str} {Φ : Nat → Prop} (h1 : z.length ≤ sizeLine) (h : Φ z.length) : LenD F (.str z) Φ := ⟨h1, h⟩
theorem d_lenR {F : FS} {l : Addr} {xs : List D} {Φ : Nat → Prop} (h1 : F l = some (.lst xs)) (h : Φ xs.length) : LenD F (.raw (.ref l)) Φ := ⟨xs, h1, h⟩
theorem d_slL {F : FS} {xs : List D} {lo hi : Option Int} {Φ : D → Prop} (h : Φ (.lst (cutD xs lo hi))) : SlD F (.lst xs) lo hi Φ := h
theorem d_slS {F : FS} {z : Str} {lo hi : Option Int} {Φ : D → Prop} (h1 : z.length ≤ sizeLine) (h : Φ (.str (cutS z lo hi))) : SlD F (.str z) lo hi Φ := ⟨h1, h⟩
theorem d_stI {i : Int} {Φ : Str → Prop} (h1 : i.natAbs.log2 < 1920) (h : Φ (strI i)) : StrOfD (.int i) Φ := ⟨h1, h⟩
theorem d_stS {z : Str} {Φ : Str → Prop} (h : Φ z) : StrOfD (.str z) Φ := h
theorem d_inS {k : Nat} {z : Str} {Φ : Bool → Prop} (h : Φ (decide (k ∈ z.cps.toList))) : InD (.str ⟨#[k]⟩) (.str z) Φ := ⟨k, rfl, h⟩
section
variable {X : Cx} {Ψ : XP} {ρ : En} {F : FS} {a b c : Expr} {pos : Pos}
/-- a op b op' c as a test -/
theorem et_chain {op op' : CmpOp} {ri ri' : Int → Int → Bool} {rs rs' : Str → Str → Bool} {Φ : Bool → FS → Prop} (ho : OpR X (compareOp op) (rOrd ri rs)) (ho' : OpR X (compareOp op') (rOrd ri' rs'))
    (h : Ev X Ψ ρ F a (fun x F1 => Ev X Ψ ρ F1 b (fun y F2 => OrdD ri rs x y fun k => Br k (Ev X Ψ ρ F2 c (fun z F3 => OrdD ri' rs' y z fun k' => Φ k' F3)) (Φ false F2))))
    (hm : lastMarks [op, op'] [b, c] = false := by with_unfolding_all rfl) : Et X Ψ ρ F (.Compare a [op, op'] [b, c] pos) Φ := by
  let ι1 := Ix fun x F1 => Ev X Ψ ρ F1 b (fun y F2 => OrdD ri rs x y fun k => Br k (Ev X Ψ ρ F2 c (fun z F3 => OrdD ri' rs' y z fun k' => Φ k' F3)) (Φ false F2))
  let ι2 := Ix fun y F2 => Ev X Ψ ρ F2 c (fun z F3 => OrdD ri' rs' y z fun k' => Φ k' F3)
  refine ⟨pt_weak (pt_chain ho ho' h.pe (pe_fam (ι := ι1) fun i => i.2.pe) (pe_fam (ι := ι2) fun i => i.2.pe) hm) fun σ H Q ⟨P, tk, hd, en, kq⟩ => ⟨P, tk, hd, en, fun v d P1 F1 H1 s1 hd1 rp φ =>
    ⟨⟨(d, F1), φ⟩, P1, takes_mono s1 tk, hd1, en.mono s1, fun v2 d2 P2 F2 H2 s2 hd2 rp2 φ2 => ?_⟩⟩⟩
  have mid : ∀ k : Bool, (Br k (Ev X Ψ ρ F2 c (fun z F3 => OrdD ri' rs' d2 z fun k' => Φ k' F3)) (Φ false F2)) → ∃ k0, V.bl k = .bl k0 ∧
      (if k0 = true then (∃ i : ι2, tE X Ψ ρ i.1.2 (fun z F3 => OrdD ri' rs' i.1.1 z fun k' => Φ k' F3) σ H2 fun w' H4 => rOrd ri' rs' v2 w' H4 fun x H' => ∃ k, x = .bl k ∧ Q k H') else ∃ k, V.bl false = .bl k ∧ Q k H2) := fun k br => by
    refine ⟨k, rfl, ?_⟩
    cases k with
    | true =>
      rw [if_pos rfl]
      refine ⟨⟨(d2, F2), br.1 rfl⟩, P2, takes_mono (Same.trans s1 s2) tk, hd2, en.mono (Same.trans s1 s2), fun v3 d3 P3 F3 H3 s3 hd3 rp3 φ3 => ?_⟩
      refine ord_lift (X := X) (Ψ := Ψ) (ρ := ρ) (Φ := fun d F4 => BlD d fun k => Φ k F4) φ3 P3 σ H3 v2 v3 _ (takes_mono (Same.trans s1 (Same.trans s2 s3)) tk) hd3 (en.mono (Same.trans s1 (Same.trans s2 s3))) (rp2.mono s3) rp3 fun v4 d4 P4 F4 H4 s4 hd4 rp4 φ4 => ?_
      cases rp4 with
      | bl k => exact ⟨k, rfl, kq k P4 F4 H4 (Same.trans s1 (Same.trans s2 (Same.trans s3 s4))) hd4 φ4⟩
      | _ => exact False.elim φ4
    | false =>
      rw [if_neg Bool.false_ne_true]
      exact ⟨false, rfl, kq _ P2 F2 H2 (Same.trans s1 s2) hd2 (br.2 rfl)⟩
  cases rp.mono s2 with
  | int i =>
    cases rp2 with
    | int j => exact .inl ⟨i, j, rfl, rfl, mid _ φ2⟩
    | _ => exact False.elim φ2
  | str i =>
    cases rp2 with
    | str j => exact .inr ⟨i, j, rfl, rfl, mid _ φ2⟩
    | _ => exact False.elim φ2
  | _ => exact False.elim φ2
end
section
variable {X : Cx} {Ψ : XP} {ρ : En} {F : FS} {a b c e : Expr} {pos : Pos}
/-- a, b, c = x, y, z -/
theorem es_par3 {i j l : Nat} {x y z : Str} {Θ : Po} {px py pz pt : Pos} {kt k2 pt2} (hc : X.calm = true) (hN : X.N.Nodup) (hi : X.N[i]? = some x) (hj : X.N[j]? = some y) (hl : X.N[l]? = some z) (hij : i ≠ j) (hil : i ≠ l) (hjl : j ≠ l)
    (hx : X.env.scope.names.lookup x = some .local) (hy : X.env.scope.names.lookup y = some .local) (hz : X.env.scope.names.lookup z = some .local)
    (hw : swappedStores [.Tuple [.Name x px, .Name y py, .Name z pz] kt pt] (.Tuple [a, b, c] k2 pt2) X.env = pure (some [x, y, z]))
    (h : Ea X Ψ ρ F [a, b, c] (fun ds F1 => ∃ d d' d'', ds = [d, d', d''] ∧ Θ.nx (((ρ.set i (some d)).set j (some d')).set l (some d'')) F1))
    (hs : swapsWithSole [.Tuple [.Name x px, .Name y py, .Name z pz] kt pt] (.Tuple [a, b, c] k2 pt2) pos.line X.env = pure false := by rfl) : Es X Ψ ρ F (.Assign [.Tuple [.Name x px, .Name y py, .Name z pz] kt pt] (.Tuple [a, b, c] k2 pt2) pos) Θ :=
  ⟨ps_weak (ps_par3 hc hN hi hj hl hij hil hjl hx hy hz h.pa hw hs) fun D σ H ⟨P, tk, hd, en, n, _⟩ => ⟨P, tk, hd, en, fun v d P1 F1 H1 s1 hd1 rp φ => by
    obtain ⟨d1, d2, d3, rfl, φ⟩ := φ
    cases rp with
    | cons r1 rr =>
      obtain ⟨u, w, rfl, r2, r3⟩ := reps2 rr
      exact ⟨_, u, w, rfl, n _ _ P1 F1 H1 s1 hd1 ((((en.mono s1).set i r1).set j r2).set l r3) φ⟩⟩⟩
theorem ev_neg {Φ : D → FS → Prop} (h : Ev X Ψ ρ F a (fun x F1 => IntD x fun i => Φ (.int (-i)) F1)) : Ev X Ψ ρ F (.UnaryOp .USub a pos) Φ :=
  ⟨pe_weak (pe_un un_neg h.pe) fun σ H Q ⟨P, tk, hd, en, k⟩ => ⟨P, tk, hd, en, fun v d P1 F1 H1 s1 hd1 rp φ => by
    cases rp with
    | int i => exact ⟨i, rfl, k _ _ P1 F1 H1 s1 hd1 (.int _) φ⟩
    | _ => exact False.elim φ⟩⟩
/-- part of the store is all that is asked behind -/
theorem ev_post {Φ : D → FS → Prop} (h : Ev X Ψ ρ F e (fun d F2 => ∃ F', (∀ a m, F' a = some m → F2 a = some m) ∧ Φ d F')) : Ev X Ψ ρ F e Φ :=
  ⟨pe_weak h.pe fun σ H Q ⟨P, tk, hd, en, k⟩ => ⟨P, tk, hd, en, fun v d P1 F1 H1 s1 hd1 rp ⟨F', s, φ⟩ => k v d P1 F' H1 s1 (hd1.less s) rp φ⟩⟩
theorem permsId : Perms (fun {α : Type} (xs : List α) => xs) := ⟨fun r => r, fun r => r⟩
end
/-! ### a store's parts -/
def SubF (F' F : FS) : Prop := ∀ a m, F' a = some m → F a = some m
theorem SubF.refl (F : FS) : SubF F F := fun _ _ e => e
theorem SubF.trans {F1 F2 F3 : FS} (h : SubF F1 F2) (h' : SubF F2 F3) : SubF F1 F3 := fun a m e => h' a m (h a m e)
theorem SubF.upd {F' F : FS} (h : SubF F' F) (p : Addr) (m : MO) : SubF (updF F' p m) (updF F p m) := fun a n e => by
  by_cases ha : a = p
  · subst ha
    rw [updF_same] at e ⊢
    exact e
  · rw [updF_ne ha] at e ⊢
    exact h a n e
theorem SubF.more {F' F : FS} {p : Addr} {m : MO} (h : SubF F' F) (hp : F' p = none) : SubF F' (updF F p m) := fun a n e => by
  rw [updF_ne (fun z => by rw [z, hp] at e; cases e)]
  exact h a n e
/-! ### words by their signs -/
def mkS (l : List Nat) : Str := ⟨l.toArray⟩
theorem mkS_add (a b : List Nat) : mkS a ++ mkS b = mkS (a ++ b) := by
  show Str.append _ _ = _
  simp [mkS, Str.append]
theorem mkS_cps (l : List Nat) : (mkS l).cps.toList = l := rfl
theorem mkS_inj {a b : List Nat} (h : mkS a = mkS b) : a = b := by
  have := congrArg (fun s : Str => s.cps.toList) h
  exact this
theorem mkS_of (x : Str) : mkS x.cps.toList = x := rfl
theorem mkS_len (l : List Nat) : (mkS l).length = l.length := by simp [mkS, Str.length]
theorem log2_lt {n k : Nat} (h : n < 2 ^ k) (hk : 0 < k) : n.log2 < k := by
  by_cases h0 : n = 0
  · rw [h0]
    exact hk
  · exact (Nat.log2_lt h0).mpr h
end TM

set_option Elab.async false
set_option linter.all false
set_option maxRecDepth 100000
set_option maxHeartbeats 4000000
/-! The data layer: try with any except clauses; what is raised; a caught exception's field. -/
namespace TM
open PySem PySem.Spec PyProof.Rows L2

/-! ### try: several clauses, each with a name or without -/
abbrev Clause := Value × Option Nat × (Addr → Value → Option Addr → TS)
/-- behind a clause its name is gone -/
def unset (i : Nat) (D : Ends) : Ends := { nx := fun τ H => D.nx (τ.set i none) H, rt := D.rt, bk := fun τ H => D.bk (τ.set i none) H, ct := fun τ H => D.ct (τ.set i none) H }
def wAll (K : PySem.W.Frag) (Wo : WX) (D : Ends) : List Clause → WX
  | [] => Wo
  | (c, o, ts) :: r => fun cls d σ H => ∃ b, PySem.W.exmOne K cls c = some b ∧ (b = false → wAll K Wo D r cls d σ H) ∧
    (b = true → ∀ a, H a = none → match o with
      | none => ts a cls d D σ H
      | some i => ts a cls d (unset i D) (σ.set i (some (.ref a))) H)
inductive HdsA (X : Cx) : List ExceptHandler → List Clause → Prop
  | nil : HdsA X [] []
  | bare {x : Str} {c : Value} {ts : Addr → Value → Option Addr → TS} {b0 : Stmt} {su : List Stmt} {np p2 : Pos} {hds : List ExceptHandler} {l : List Clause} (hc : Names X x c)
      (hsu : ∀ (a : Addr) (oe : Obj) (cls : Value) (d : Option Addr) (pn : List (Addr × Obj)), Zc cls d oe → (∃ vs, oe.data = .fields vs) → PSs (X.suite a ((a, oe) :: pn)) (b0 :: su) (ts a cls d)) (r : HdsA X hds l) :
      HdsA X (.ExceptHandler (some (.Name x np)) none (b0 :: su) p2 :: hds) ((c, none, ts) :: l)
  | named {x n : Str} {i : Nat} {c : Value} {ts : Addr → Value → Option Addr → TS} {b0 : Stmt} {su : List Stmt} {np p2 : Pos} {hds : List ExceptHandler} {l : List Clause} (hc : Names X x c) (hi : X.N[i]? = some n) (hn : X.env.kindOf n = some .local)
      (hsu : ∀ (a : Addr) (oe : Obj) (cls : Value) (d : Option Addr) (pn : List (Addr × Obj)), Zc cls d oe → (∃ vs, oe.data = .fields vs) → PSs (X.suite a ((a, oe) :: pn)) (b0 :: su) (ts a cls d)) (r : HdsA X hds l) :
      HdsA X (.ExceptHandler (some (.Name x np)) (some n) (b0 :: su) p2 :: hds) ((c, some i, ts) :: l)
section
variable {X : Cx} {body : List Stmt} {h0 : ExceptHandler} {hds : List ExceptHandler} {l : List Clause} {pos : Pos} {tb : WX → TS} {Wo : WX}
theorem ps_try_all (hst : X.stack = X.env :: X.outer) (hfr : X.env.frame = some X.env.locals) (hN : X.N.Nodup) (tk : Takes X Wo)
    (hb : ∀ (W : WX) (pn : List (Addr × Obj)) (xe : Value → Shared → Prop), Takes (X.tr pn xe) W → PassesOwn (model X.prog X.w) X.A X.env xe → PSs (X.tr pn xe) body (tb W))
    (hh : HdsA X (h0 :: hds) l) : PS X (.Try body (h0 :: hds) [] [] pos) (fun D σ H => tb (wAll X.K Wo D l) D σ H) := by
  refine ⟨fun pins s σ H D I hw => wpAny_Try_except ?_⟩
  have ok := I.ok
  have aFr : X.A.frames = some (X.env :: X.outer) := by rw [ok.frames, hst]
  refine wpAny_mono ((hb (wAll X.K Wo D l) (X.pn ++ pins) (fun x s1 => wpAny (model X.prog X.w) X.A (noteFrame x X.env) (fun _ s2 => wpAny (model X.prog X.w) X.A (setFlight x none)
    (fun _ s3 => wpAny (model X.prog X.w) X.A (handleBy x X.env (h0 :: hds)) (SP X pins D) X.xe s3) X.xe s2) X.xe s1) (fun u t0 caught => ?_) PassesOwn.looking).run [] s σ H D (I.toTry _) hw) (fun fl t0 done => ?_) (fun x t0 z => z)
  · obtain ⟨a, B, sI, pq, σ1, H1, cls, d, rfl, Jt, nb, up, sky, na, os, ag, w⟩ := caught
    have J : Inv X pins σ1 H1 sI := Jt.ofTry ok
    have skz : Sky B (X.env :: X.outer) a (Zc cls d) X.env.locals t0.heap := by rw [← hst]; exact sky
    show wpAny (model X.prog X.w) X.A (noteFrame (.ref a) X.env) _ _ _
    refine Sky.land Zc.steady aFr hfr skz fun g3 fl3 up3 => ?_
    have J3 : Inv X pins σ1 H1 { t0 with heap := g3 } := J.landed nb fl3.1 (up.trans up3) os ag
    obtain ⟨oe3, vs3, at3, z3, dt3⟩ := fl3.there
    have away : a ∉ frs (X.env :: X.outer) := fun hm => by
      obtain ⟨_, o2, e2, hnf⟩ := (fl3.2.2.1).mem hm
      rw [at3] at e2
      cases e2
      exact hnf _ dt3
    have nL : a ≠ X.env.locals := fun z => away (List.mem_filterMap.mpr ⟨X.env, List.mem_cons_self, by rw [hfr, z]⟩)
    have nF : a ∉ X.fs := fun hm => by
      obtain ⟨e, he, q⟩ := List.mem_filterMap.mp hm
      exact away (List.mem_filterMap.mpr ⟨e, List.mem_cons_of_mem _ he, q⟩)
    have S3 := J3.suite at3 dt3 na nL nF
    have LT : PySem.W.Looks (model X.prog X.w) g3 (typeOf (.ref a)) cls := fun A Q E s k q => wpAny_typeOf_ref (k _ _ at3) (by rw [z3.1]; exact q)
    have look : ∀ {x : Str} {c : Value} {np : Pos} {Q : Value → Shared → Prop} {E : Value → Shared → Prop}, Names X x c → Q c { t0 with heap := g3 } →
        wpAny (model X.prog X.w) (X.A.mark (some (.ref a))) (eval (.Name x np) X.env) Q E { t0 with heap := g3 } := fun {x c np Q E} hc q => by
      obtain ⟨hg, hdb, hm | ⟨hm, hv, hnn⟩⟩ := hc
      · exact ld_glob (X := X.suite a ((a, oe3) :: (X.pn ++ pins))) S3 hg hm q hdb
      · exact ld_blt (X := X.suite a ((a, oe3) :: (X.pn ++ pins))) S3 hg hm hv q hnn hdb
    have go : ∀ {hs2 : List ExceptHandler} {l2 : List Clause}, HdsA X hs2 l2 → wAll X.K Wo D l2 cls d σ1 H1 → wpAny (model X.prog X.w) X.A (handleBy (.ref a) X.env hs2) (SP X pins D) X.xe { t0 with heap := g3 } := by
      intro hs2 l2 hk
      induction hk with
      | nil =>
        refine fun w => wpAny_handleBy_nil ?_
        obtain ⟨_, _, _, oe, vs, T, oT, tz, he, hz, hd, h1, hr⟩ := id fl3
        have fin : wpAny (model X.prog X.w) X.A (setFlight (.ref a) X.env.frame) (fun _ s4 => wpAny (model X.prog X.w) X.A (throw (.ref a) : Sem Flow) (SP X pins D) X.xe s4) X.xe { t0 with heap := g3 } := by
          rw [hfr]
          refine HandSPX.setFlight_upZ fl3 fun g4 hh4 up4 => wpAny_throw (tk _ _ ⟨a, B, sI, pins, σ1, H1, cls, d, rfl, J, nb, (up.trans up3).trans up4, .inr (.inr ?_), na, os, ag, w⟩)
          rw [hst]
          exact hh4
        unfold PySem.passOn
        refine wpAny_bind (wpAny_field he hd h1 ?_)
        rw [if_neg (show ¬ ((Value.ref T == Value.none) = true) from by simp)]
        first
          | exact wpAny_bind (wpAny_pure (wpAny_bind fin))
          | exact wpAny_bind fin
      | @bare x c ts b0 su np p2 hs3 l3 hc hsu r ih =>
        rintro ⟨b, hb1, hno, hyes⟩
        refine wpAny_handleBy_cons (codeAny_handlers_test ?_) (by intro q; cases q)
        refine look hc ((PySem.W.exm_one (M := model X.prog X.w) J3.kIn LT hb1).here ?_)
        cases b with
        | false => exact ih (hno rfl)
        | true =>
          refine codeAny_handlers_suite (HandSPX.lands_againZ fl3 fun g4 fl4 up4 => ?_)
          have J4 : Inv X pins σ1 H1 { t0 with heap := g4 } := J.landed nb fl4.1 ((up.trans up3).trans up4) os ag
          obtain ⟨oe4, vs4, at4, z4, dt4⟩ := fl4.there
          have S4 := J4.suite at4 dt4 na nL nF
          refine wpAny_mono ((hsu a oe4 cls d (X.pn ++ pins) z4 ⟨_, dt4⟩).run [] _ _ H1 _ S4 (hyes rfl a na)) (fun fl s6 e6 => ?_) (fun _ _ z => False.elim z)
          cases fl with
          | ret u =>
            obtain ⟨v6, τ, G, S6, r6, q6⟩ := e6
            exact ⟨v6, τ, G, S6.unsuite ok, r6, q6⟩
          | _ =>
            obtain ⟨τ, G, S6, q6⟩ := e6
            exact ⟨τ, G, S6.unsuite ok, q6⟩
      | @named x n i c ts b0 su np p2 hs3 l3 hc hi hln hsu r ih =>
        rintro ⟨b, hb1, hno, hyes⟩
        refine wpAny_handleBy_cons (codeAny_handlers_test ?_) (by intro q; cases q)
        refine look hc ((PySem.W.exm_one (M := model X.prog X.w) J3.kIn LT hb1).here ?_)
        cases b with
        | false => exact ih (hno rfl)
        | true =>
          refine codeAny_handlers_suite_as (HandSPX.lands_againZ fl3 fun g4 fl4 up4 => ?_)
          have J4 : Inv X pins σ1 H1 { t0 with heap := g4 } := J.landed nb fl4.1 ((up.trans up3).trans up4) os ag
          obtain ⟨oe4, vs4, at4, z4, dt4⟩ := fl4.there
          have S4 := J4.suite at4 dt4 na nL nF
          refine store_ok (X := X.suite a ((a, oe4) :: (X.pn ++ pins))) (v := .ref a) S4 hN hi (.inl hln) rfl (fun s5 S5 => ?_) (.inr hln)
          refine wpAny_mono ((hsu a oe4 cls d (X.pn ++ pins) z4 ⟨_, dt4⟩).run [] s5 _ H1 _ S5 (hyes rfl a na)) (fun fl s6 e6 => ?_) (fun _ _ z => False.elim z)
          cases fl with
          | ret u =>
            obtain ⟨v6, τ, G, S6, r6, q6⟩ := e6
            exact gone_ok (S6.unsuite ok) hN hi hln fun s7 J7 => ⟨v6, _, G, J7, r6, q6⟩
          | _ =>
            obtain ⟨τ, G, S6, q6⟩ := e6
            exact gone_ok (S6.unsuite ok) hN hi hln fun s7 J7 => ⟨_, G, J7, q6⟩
    exact go hh w
  · cases fl with
    | next =>
      obtain ⟨τ, G, Jt, q⟩ := done
      exact wpAny_execs_nil ⟨τ, G, Jt.ofTry ok, q⟩
    | ret u =>
      obtain ⟨v, τ, G, Jt, r, q⟩ := done
      exact ⟨v, τ, G, Jt.ofTry ok, r, q⟩
    | _ =>
      obtain ⟨τ, G, Jt, q⟩ := done
      exact ⟨τ, G, Jt.ofTry ok, q⟩
end

/-! ### try, at the data's level -/
/-- what the clauses' names stand for -/
inductive Cls (X : Cx) : List ExceptHandler → List (Value × Option Nat) → Prop
  | nil : Cls X [] []
  | bare {x : Str} {c : Value} {b0 : Stmt} {su : List Stmt} {np p2 : Pos} {hds : List ExceptHandler} {l : List (Value × Option Nat)} (hc : Names X x c) (r : Cls X hds l) : Cls X (.ExceptHandler (some (.Name x np)) none (b0 :: su) p2 :: hds) ((c, none) :: l)
  | named {x n : Str} {i : Nat} {c : Value} {b0 : Stmt} {su : List Stmt} {np p2 : Pos} {hds : List ExceptHandler} {l : List (Value × Option Nat)} (hc : Names X x c) (hi : X.N[i]? = some n) (hn : X.env.kindOf n = some .local) (r : Cls X hds l) :
      Cls X (.ExceptHandler (some (.Name x np)) (some n) (b0 :: su) p2 :: hds) ((c, some i) :: l)
def suiteOf : ExceptHandler → List Stmt
  | .ExceptHandler _ _ su _ => su
def unsetP (i : Nat) (Θ : Po) : Po := { nx := fun ρ F => Θ.nx (ρ.set i none) F, rt := Θ.rt, bk := fun ρ F => Θ.bk (ρ.set i none) F, ct := fun ρ F => Θ.ct (ρ.set i none) F }
/-- the value of a clause's name -/
def excD (er : Err) (a : Addr) (d : Option Addr) : D := match er.fld, d with
  | some (f, x), some dd => .exc a dd f x
  | _, _ => .raw (.ref a)
/-- in every context that a suite may have -/
abbrev AllSu (X : Cx) (a : Addr) (cls : Value) (d : Option Addr) (p : Cx → Prop) : Prop := ∀ (oe : Obj) (pn : List (Addr × Obj)), Zc cls d oe → (∃ vs, oe.data = .fields vs) → p (X.suite a ((a, oe) :: pn))
/-- what the clauses do with the error er -/
def Handled (X : Cx) (Ψ : XP) (Θ : Po) : List ExceptHandler → List (Value × Option Nat) → Err → En → FS → Prop
  | [], _, er, ρ, F => Ψ er ρ F
  | _ :: _, [], _, _, _ => False
  | h :: hds, (c, o) :: cs, er, ρ, F => ∃ b, PySem.W.exmOne X.K (.ref er.cls) c = some b ∧ (b = false → Handled X Ψ Θ hds cs er ρ F) ∧
    (b = true → ∀ a d, (er.fld.isSome = d.isSome) → match o with
      | none => AllSu X a (.ref er.cls) d fun S => Ess S NoE ρ F (suiteOf h) Θ
      | some i => AllSu X a (.ref er.cls) d fun S => Ess S NoE (ρ.set i (some (excD er a d))) F (suiteOf h) (unsetP i Θ))
abbrev ιSu (X : Cx) (a : Addr) (cls : Value) (d : Option Addr) (su : List Stmt) := { p : (En × FS) × Po // AllSu X a cls d fun S => Ess S NoE p.1.1 p.1.2 su p.2 }
/-- a suite's reading: of any of its derivations -/
def tSu (X : Cx) (su : List Stmt) (a : Addr) (cls : Value) (d : Option Addr) : TS := fun D σ H => ∃ (i : ιSu X a cls d su) (P : Hp), Hd X.K P i.1.1.2 H ∧ EnvR X.K P i.1.1.1 σ ∧
  upS X.K P i.1.2.nx D.nx ∧ upV X.K P i.1.2.rt D.rt ∧ upS X.K P i.1.2.bk D.bk ∧ upS X.K P i.1.2.ct D.ct
theorem tSu_ok {X : Cx} {su : List Stmt} (a : Addr) (oe : Obj) (cls : Value) (d : Option Addr) (pn : List (Addr × Obj)) (hz : Zc cls d oe) (hf : ∃ vs, oe.data = .fields vs) : PSs (X.suite a ((a, oe) :: pn)) su (tSu X su a cls d) :=
  pss_weak (pss_fam (ι := ιSu X a cls d su) fun i => (i.2 oe pn hz hf).pss) fun D σ H ⟨i, P, hd, en, n, r, b, c⟩ => ⟨i, P, takes_no, hd, en, n, r, b, c⟩
/-- the clauses with their readings -/
def mkC (X : Cx) : List ExceptHandler → List (Value × Option Nat) → List Clause
  | h :: hds, (c, o) :: cs => (c, o, tSu X (suiteOf h)) :: mkC X hds cs
  | _, _ => []
theorem hdsA_of {X : Cx} : ∀ {hds : List ExceptHandler} {cs : List (Value × Option Nat)}, Cls X hds cs → HdsA X hds (mkC X hds cs)
  | _, _, .nil => .nil
  | _, _, .bare hc r => .bare hc (fun a oe cls d pn hz hf => tSu_ok a oe cls d pn hz hf) (hdsA_of r)
  | _, _, .named hc hi hn r => .named hc hi hn (fun a oe cls d pn hz hf => tSu_ok a oe cls d pn hz hf) (hdsA_of r)
theorem handled_all {X : Cx} {Ψ : XP} {Θ : Po} {P : Hp} {D : Ends} {er : Err} {ρ : En} {F : FS} {P1 H : Hp} {σ : L2.St} {c : Value} {d : Option Addr} (s1 : Same P P1) (hd : Hd X.K P1 F H) (en : EnvR X.K P1 ρ σ) (hr : ErrR X.K P1 er c d)
    (n : upS X.K P Θ.nx D.nx) (rt : upV X.K P Θ.rt D.rt) (bk : upS X.K P Θ.bk D.bk) (ct : upS X.K P Θ.ct D.ct) : ∀ {hds : List ExceptHandler} {cs : List (Value × Option Nat)}, Cls X hds cs → Handled X Ψ Θ hds cs er ρ F → wAll X.K (wUp X.K P Ψ) D (mkC X hds cs) c d σ H := by
  have hdd : er.fld.isSome = d.isSome := by
    obtain ⟨_, h2⟩ := hr
    cases e : er.fld with
    | none =>
      rw [e] at h2
      rw [h2]
      rfl
    | some p =>
      rw [e] at h2
      obtain ⟨a, v, h3, _⟩ := h2
      rw [h3]
      rfl
  have ec : c = .ref er.cls := hr.1
  intro hds cs hc
  induction hc with
  | nil => exact fun h => ⟨er, ρ, F, P1, s1, hd, en, hr, h⟩
  | bare hn r ih =>
    rintro ⟨b, h1, h2, h3⟩
    refine ⟨b, by rw [ec]; exact h1, fun hb => ih (h2 hb), fun hb a ha => ?_⟩
    have q := h3 hb a d hdd
    refine ⟨⟨((ρ, F), Θ), by rw [ec]; exact q⟩, P1, hd, en, n.mono s1, rt.mono s1, bk.mono s1, ct.mono s1⟩
  | @named x nm i c2 b0 su np p2 hds2 l hn hi hln r ih =>
    rintro ⟨b, h1, h2, h3⟩
    refine ⟨b, by rw [ec]; exact h1, fun hb => ih (h2 hb), fun hb a ha => ?_⟩
    have q := h3 hb a d hdd
    have rv : Rep X.K P1 (excD er a d) (.ref a) := by
      obtain ⟨_, h4⟩ := hr
      unfold excD
      cases e : er.fld with
      | none => exact .raw _
      | some p =>
        obtain ⟨f, x⟩ := p
        rw [e] at h4
        obtain ⟨dd, v, e5, e6, e7⟩ := h4
        subst e5
        exact .exc e6 e7
    have up : ∀ {A : En → FS → Prop} {B : L2.St → Hp → Prop}, upS X.K P A B → upS X.K P1 (fun ρ F => A (ρ.set i none) F) (fun τ H => B (τ.set i none) H) := fun {A B} u σ' ρ' P' F' H' s' hd' en' φ => u _ _ P' F' H' (Same.trans s1 s') hd' (en'.unset i none) φ
    exact ⟨⟨((ρ.set i (some (excD er a d)), F), unsetP i Θ), by rw [ec]; exact q⟩, P1, hd, en.set i rv, up n, rt.mono s1, up bk, up ct⟩
section
variable {X : Cx} {Ψ : XP} {ρ : En} {F : FS} {body : List Stmt} {h0 : ExceptHandler} {hds : List ExceptHandler} {pos : Pos} {k : Nat}
/-- try: body / except ..: ..; Ψ' what the body lets out -/
theorem es_try {Θ : Po} (Ψ' : XP) (cs : List (Value × Option Nat)) (C : Ct X k) (hst : X.stack = X.env :: X.outer) (hfr : X.env.frame = some X.env.locals) (hc : Cls X (h0 :: hds) cs)
    (hb : ∀ pn xe, Ct (X.tr pn xe) k → Ess (X.tr pn xe) Ψ' ρ F body Θ) (hh : ∀ er ρ' F', Ψ' er ρ' F' → Handled X Ψ Θ (h0 :: hds) cs er ρ' F') : Es X Ψ ρ F (.Try body (h0 :: hds) [] [] pos) Θ := by
  let ι := { p : (En × FS) × (XP × Po) // ∀ pn xe, Ct (X.tr pn xe) k → Ess (X.tr pn xe) p.2.1 p.1.1 p.1.2 body p.2.2 }
  let tb : WX → TS := fun W D σ H => ∃ (i : ι) (P : Hp), (∀ c d σ H, wUp X.K P i.1.2.1 c d σ H → W c d σ H) ∧ Hd X.K P i.1.1.2 H ∧ EnvR X.K P i.1.1.1 σ ∧
    upS X.K P i.1.2.2.nx D.nx ∧ upV X.K P i.1.2.2.rt D.rt ∧ upS X.K P i.1.2.2.bk D.bk ∧ upS X.K P i.1.2.2.ct D.ct
  refine ⟨⟨fun pins s σ H D I ⟨P, tk, hd, en, n, r, b, c⟩ => ?_⟩⟩
  have T := ps_try_all (body := body) (pos := pos) (tb := tb) hst hfr C.nd tk (fun W pn xe tkW pass => pss_weak (pss_fam (ι := ι) fun i => (i.2 pn xe ⟨C.nd, C.calm, C.room, pass⟩).pss) fun D σ H ⟨i, P, w, hd, en, n, r, b, c⟩ =>
    ⟨i, P, tkW.imp w, hd, en, n, r, b, c⟩) (hdsA_of hc)
  refine T.run pins s σ H D I ⟨⟨((ρ, F), (Ψ', Θ)), hb⟩, P, ?_, hd, en, n, r, b, c⟩
  rintro cc dd σ1 H1 ⟨er, ρ1, F1, P1, s1, hd1, en1, hr1, ψ⟩
  exact handled_all s1 hd1 en1 hr1 n r b c hc (hh er ρ1 F1 ψ)
end
section
variable {X : Cx} {ρ : En} {F : FS} {a dd C : Addr} {oe : Obj} {pn : List (Addr × Obj)} {e : Expr} {pos : Pos} {f : Str}
/-- e.f of a caught exception -/
theorem ev_xf {Φ : D → FS → Prop} (T : XfC X.K C) (hno : PySem.W.findIn X.K (.ref C) f = some none) (hz : Zc (.ref C) (some dd) oe) (hf : ∃ vs, oe.data = .fields vs)
    (h : Ev (X.suite a ((a, oe) :: pn)) NoE ρ F e (fun x F1 => ∃ y, x = .exc a dd f y ∧ Φ y F1)) (hb : attributeBase e f X.env (eval e X.env) = eval e X.env := by rfl) : Ev (X.suite a ((a, oe) :: pn)) NoE ρ F (.Attribute e f pos) Φ :=
  ⟨pe_weak (pe_xf T hno hz hf h.pe hb) fun σ H Q ⟨P, tk, hd, en, k⟩ => ⟨P, tk, hd, en, fun v d P1 F1 H1 s1 hd1 rp φ => by
    obtain ⟨y, rfl, φ⟩ := φ
    cases rp with
    | @exc _ _ _ _ v hq r =>
      refine ⟨rfl, rfl, dd, [(f, v)], v, rfl, hd1.pure _ _ hq, ?_, k _ _ P1 F1 H1 s1 hd1 r φ⟩
      simp [List.lookup]⟩⟩
end
end TM

set_option Elab.async false
set_option linter.all false
set_option maxRecDepth 100000
set_option maxHeartbeats 4000000
/-! The data layer: raise of one's own exceptions, with or without a field. -/
namespace TM
open PySem PySem.Spec PyProof.Rows L2

/-- x names the exception class at C, which has no __init__ of its own -/
structure RzC (W : Wd) (x : Str) (C : Addr) : Prop where
  mg : W.mg x = some (.ref C)
  kp : PySem.W.keepIn W.K (.ref C) = true
  ex : PySem.W.excIn W.K C [.type "ValueError", .type "Exception", .type "BaseException", .type "object"] "ValueError.__new__" = true
  sub : PySem.W.subIn W.K (.ref C) (.type "BaseException") = some true
  ty : PySem.W.typeIn W.K (.ref C) = some (.type "type")
section
variable {X : Cx} {Ψ : XP} {ρ : En} {F : FS} {e : Expr} {p p2 pos pos2 : Pos} {x m : Str} {C : Addr} {Θ : Po}
/-- raise x('m') -/
theorem es_raiseS {j : Nat} (hc : X.calm = true) (T : RzC (wd X) x C) (k : Ψ ⟨C, none⟩ ρ F) (hg : Gl X x := by rfl) (hdb : (x == ("__debug__" : Str)) = false := by decide) :
    Es X Ψ ρ F (.Raise (some (.Call (.Name x p) [.Constant (.str m) j p2] [] pos)) none pos2) Θ :=
  es_raise hc (pmk_own PySem.F.excBase_ValueError T.ex T.mg T.kp (raises_own T.sub T.ty) hg hdb) fun P σ H hd en => ⟨⟨C, none⟩, ρ, F, P, Same.refl P, hd, en, ⟨rfl, rfl⟩, k⟩
end
/-! ### exceptions that keep one value -/
def spI (K : PySem.W.Frag) (f : Str) : Sp := fun vs H Q _ => ∃ (a C : Addr) (v : V), vs = [.ref a, v] ∧ OexC K C ∧ PySem.W.findIn K (.ref C) f = some none ∧ H a = some (exo a C none) ∧
  ∀ dx, H dx = none → dx ≠ a → Q .non (upd (upd H dx (exd dx [(f, v)])) a (exo a C (some dx)))
/-- x names the exception class at C, whose __init__ keeps its argument as f -/
structure RzI (W : Wd) (x f : Str) (C : Addr) : Prop where
  mg : W.mg x = some (.ref C)
  oex : OexC W.K C
  no : PySem.W.findIn W.K (.ref C) f = some none
  xf : XfC W.K C
  init : ∃ (fI : Addr) (fd : FuncData) (ps : List Str), PySem.W.findIn W.K (.ref C) "__init__" = some (some (.ref fI)) ∧ PySem.W.typeIn W.K (.ref fI) = some (.type "function") ∧ FnOk W.P W.w W.K W.mg W.base CX0 1 fI fd ps (spI W.K f) ∧ Binds W.K fd ps []
/-- .. and whose argument may be left out -/
def RzN (W : Wd) (f : Str) (C : Addr) : Prop := ∃ (fI : Addr) (fd : FuncData) (ps : List Str), PySem.W.findIn W.K (.ref C) "__init__" = some (some (.ref fI)) ∧ PySem.W.typeIn W.K (.ref fI) = some (.type "function") ∧ FnOk W.P W.w W.K W.mg W.base CX0 1 fI fd ps (spI W.K f) ∧
  ∃ ds, Vals [V.non] ds ∧ Binds W.K fd ps ds
section
variable {X : Cx} {x : Str} {C fI : Addr} {k : Nat} {fd : FuncData} {ps : List Str} {sp : Sp} {ds : List Value} {dvs : List V} {p pos : Pos}
/-- C(), its own __init__ keeping sp -/
theorem pmk_oex0 (T : OexC X.K C) (iC : PySem.W.findIn X.K (.ref C) "__init__" = some (some (.ref fI))) (tI : PySem.W.typeIn X.K (.ref fI) = some (.type "function")) (F1 : FnOk X.prog X.w X.K X.mg X.base CX0 k fI fd ps sp) (hr : Room (k + 1) X.A) (hb : Binds X.K fd ps ds)
    (hd : Vals dvs ds) (hg : Gl X x) (hm : X.mg x = some (.ref C)) (hdb : (x == ("__debug__" : Str)) = false := by decide) :
    PMk X (.Call (.Name x p) [] [] pos) (fun _ H1 Q => ∀ a, H1 a = none → sp (.ref a :: dvs) (upd H1 a (exo a C none)) (fun v H2 => v = .non ∧
      ∃ (d : Addr) (fs : List (Str × V)), H2 a = some (exo a C (some d)) ∧ H2 d = some (exd d fs) ∧ H1 d = none ∧ Q (.ref C) (some d) (upd (del H2 a) d (.xd fs))) (fun _ _ _ => False)) := by
  intro pins s σ H1 Q I1 q1
  obtain ⟨nm, q, N, bs, bm, sn, sub, ab, col, dd, k0, k1, k2, k3, k5, hC, hbm⟩ := T.cls
  refine wpAny_Call_Name_kw (ld_glob I1 hg hm ?_ hdb)
  refine PySem.W.callWith_K0 I1.kIn T.kC ?_
  show wpAny _ _ (call (.ref C) []) _ _ _
  obtain ⟨hp, g, dr, tk, os⟩ := s
  have hsz : hp.objs.size ≤ hp.objs.size + 1 := Nat.le_succ _
  have hq := q1 (hp.objs.size + 1) (I1.hok.fresh hsz)
  generalize hG : (hp.push (PySem.W.kdv_tup [])).push (PySem.HandSPX.excO C hp.objs.size) = G2
  have kk : ∀ b o, hp.get? b = some o → G2.get? b = some o := fun b o e => by
    rw [← hG]
    exact Heap.get?_push_of_some _ (Heap.get?_push_of_some _ e)
  have hget : G2.get? (hp.objs.size + 1) = some (PySem.HandSPX.excO C hp.objs.size) := by
    rw [← hG]
    heap_get
  have I2 : Inv X pins σ (upd H1 (hp.objs.size + 1) (exo (hp.objs.size + 1) C none)) ⟨G2, g, dr, tk, os⟩ := I1.laid (t' := tk) (a := hp.objs.size + 1) (o := exo (hp.objs.size + 1) C none) (h' := G2) kk hsz (exo_ok hget)
  have r2 : Vals (V.ref (hp.objs.size + 1) :: dvs) (Value.ref (hp.objs.size + 1) :: ds) := .cons rfl hd
  have hl : (Value.ref (hp.objs.size + 1) :: ([] : List Value) ++ ds).length = ps.length := by
    have e := r2.length
    rw [F1.len _ _ _ _ hq] at e
    exact e.symm
  subst hG
  refine wpAny_call (PySem.HandSPX.call_own PySem.F.excBase_ValueError (fun Y => PySem.HandSPX.refsVE_contains Y bm hbm) (I1.kIn _ _ hC) (PySem.W.looks_findIn I1.kIn iC) (fun self => PySem.W.bind_fn I1.kIn self tI) (Nat.zero_le _)
    (codeAny_mono (F1.run _ X.stack _ _ ⟨Value.ref (hp.objs.size + 1) :: [], []⟩ (Value.ref (hp.objs.size + 1) :: ds) _ _ (fun _ _ _ => False) (hr.make C [] []) (I2.env0.make C [] []) (hb _ (Value.ref (hp.objs.size + 1) :: []) I2.kIn hl) r2 hq) fun r s' hq' => ?_))
  cases r with
  | error er => exact pass0 pins σ _ _ er s' I2 hq'
  | ok fl =>
    cases fl with
    | ret u =>
      obtain ⟨v, H2, os2, bare2, un2, hok2, rv, ev, d, fs, ea, ed, hd1, q2⟩ := hq'
      subst ev
      obtain ⟨h2, g2, d2, t2, os'⟩ := s'
      exact ⟨rv, mk_end (raises_own T.exC T.tyC) I1 hsz kk un2 hok2 os2 bare2 ea ed hd1 q2⟩
    | next => exact False.elim hq'
    | brk => exact False.elim hq'
    | cont => exact False.elim hq'
end
section
variable {X : Cx} {Ψ : XP} {ρ : En} {F : FS} {e : Expr} {p pos pos2 : Pos} {x f : Str} {C : Addr} {Θ : Po} {k : Nat}
/-- what __init__'s promise leaves, as an error -/
theorem init_err {K : PySem.W.Frag} {P H1 : Hp} {σ : L2.St} {d : D} {v : V} {Q : XK} (hd : Hd K P F H1) (en : EnvR K P ρ σ) (r : Rep K P d v) (T : OexC K C) (no : PySem.W.findIn K (.ref C) f = some none) (h : Ψ ⟨C, some (f, d)⟩ ρ F) (a : Addr) (ha : H1 a = none)
    (hQ : ∀ c dd H', wUp K P Ψ c dd σ H' → Q c dd H') :
    spI K f [.ref a, v] (upd H1 a (exo a C none)) (fun w H2 => w = .non ∧ ∃ (d : Addr) (fs : List (Str × V)), H2 a = some (exo a C (some d)) ∧ H2 d = some (exd d fs) ∧ H1 d = none ∧ Q (.ref C) (some d) (upd (del H2 a) d (.xd fs))) (fun _ _ _ => False) := by
  refine ⟨a, C, v, rfl, T, no, upd_same, fun dx hdx nax => ⟨rfl, dx, [(f, v)], upd_same, by rw [upd_ne nax, upd_same], ?_, ?_⟩⟩
  · rw [upd_ne nax] at hdx
    exact hdx
  · have h1 : H1 dx = none := by
      rw [upd_ne nax] at hdx
      exact hdx
    obtain ⟨z1, z2⟩ := hd.new h1 (.xd [(f, v)])
    have e : upd (del (upd (upd (upd H1 a (exo a C none)) dx (exd dx [(f, v)])) a (exo a C (some dx))) a) dx (.xd [(f, v)]) = upd H1 dx (.xd [(f, v)]) := by
      funext b
      by_cases hb : b = dx
      · rw [hb, upd_same, upd_same]
      · rw [upd_ne hb, upd_ne hb]
        by_cases hb2 : b = a
        · rw [hb2, del_same, ha]
        · rw [del_ne hb2, upd_ne hb2, upd_ne hb, upd_ne hb2]
    rw [e]
    exact hQ _ _ _ ⟨⟨C, some (f, d)⟩, ρ, F, _, z1, z2, en.mono z1, ⟨rfl, dx, v, rfl, upd_same, r.mono z1⟩, h⟩
/-- raise x(e) -/
theorem es_raiseI (hc : X.calm = true) (T : RzI (wd X) x f C) (hr : RoomG 2 X.A) (h : Ev X Ψ ρ F e (fun d F1 => Ψ ⟨C, some (f, d)⟩ ρ F1)) (hg : Gl X x := by rfl) (hdb : (x == ("__debug__" : Str)) = false := by decide)
    (he : starEach [e] X.env = (false, eval e X.env) :: starEach [] X.env := by rfl) (hpl : (backTo pos (starEach [] X.env)).any (·.1) = false := by rfl) : Es X Ψ ρ F (.Raise (some (.Call (.Name x p) [e] [] pos)) none pos2) Θ := by
  obtain ⟨fI, fd, ps, iC, tI, F1, hb⟩ := T.init
  have ha : Ea X Ψ ρ F [e] (fun ds F1 => ∃ d, ds = [d] ∧ Ψ ⟨C, some (f, d)⟩ ρ F1) := ea1 (h.mono fun d F1 z => ⟨d, rfl, z⟩) he
  have PK := pmk_oex (p := p) (pos := pos) T.oex iC tI F1 hr.room hb .nil pass0 hg T.mg ha.pa hdb he hpl
  refine ⟨⟨fun pins s σ H D I ⟨P, tk, hd, en, _⟩ => (ps_raise (W := wUp X.K P Ψ) hc tk PK).run pins s σ H D I ⟨P, tk, hd, en, fun vs ds P1 F2 H1 s1 hd1 rp φ => ?_⟩⟩⟩
  obtain ⟨d, rfl, φ⟩ := φ
  obtain ⟨v, rfl, r⟩ := reps1 rp
  exact ⟨by simp, fun a ha => init_err hd1 (en.mono s1) r T.oex T.no φ a ha fun c dd H' w => wUp.mono s1 w⟩
/-- raise x() -/
theorem es_raiseI0 (hc : X.calm = true) (T : RzI (wd X) x f C) (T0 : RzN (wd X) f C) (hr : RoomG 2 X.A) (h : Ψ ⟨C, some (f, .non)⟩ ρ F) (hg : Gl X x := by rfl) (hdb : (x == ("__debug__" : Str)) = false := by decide) :
    Es X Ψ ρ F (.Raise (some (.Call (.Name x p) [] [] pos)) none pos2) Θ := by
  obtain ⟨fI, fd, ps, iC, tI, F1, ds, hv, hb⟩ := T0
  have PK := pmk_oex0 (p := p) (pos := pos) T.oex iC tI F1 hr.room hb hv hg T.mg hdb
  exact es_raise hc PK fun P σ H hd en a ha => init_err hd en .non T.oex T.no h a ha fun c dd H' w => w
end
end TM

set_option Elab.async false
set_option linter.all false
set_option maxRecDepth 100000
set_option maxHeartbeats 4000000
/-! The data layer: lists joined that are changed later, enumerate, the empty dict. -/
namespace TM
open PySem PySem.Spec PyProof.Rows L2
section
variable {X : Cx} {Ψ : XP} {ρ : En} {F : FS} {e a b : Expr} {es : List Expr} {pos : Pos}
/-- a + b, lists, the new list changed later -/
theorem ev_addM {Φ : D → FS → Prop} (h : Ev X Ψ ρ F a (fun x F1 => Ev X Ψ ρ F1 b (fun y F2 => LstD x fun xs => LstD y fun ys => xs.length + ys.length ≤ sizeLine ∧ ∀ p, F2 p = none → Φ (.raw (.ref p)) (updF F2 p (.lst (xs ++ ys)))))) : Ev X Ψ ρ F (.BinOp a .Add b pos) Φ := by
  refine ev_op op_catL (h.mono fun x F1 h1 => h1.mono fun y F2 h2 P σ H u v Q tk hd en r1 r2 q => ?_)
  cases r1 with
  | @lst ds ad vs hq rr =>
    cases r2 with
    | @lst ds2 ad2 vs2 hq2 rr2 =>
      refine ⟨_, _, _, _, rfl, rfl, SqL.of (hd.pure _ _ hq), SqL.of (hd.pure _ _ hq2), by rw [← Paired.length rr, ← Paired.length rr2]; exact h2.1, fun p hp => ?_⟩
      exact q _ _ P _ _ (Same.refl P) (hd.newF hp (m := .lst (ds ++ ds2)) ⟨_, upd_same, Reps.append rr rr2⟩) (.raw _) (h2.2 p (hd.no hp).2)
    | _ => exact False.elim h2
  | _ => exact False.elim h2
/-- the pairs of enumerate -/
def enumD (xs : List D) : List D := xs.zipIdx.map fun p => .tup [.int ((p.2 : Nat) : Int), p.1]
theorem enumD_len (xs : List D) : (enumD xs).length = xs.length := by simp [enumD]
theorem enumD_get {xs : List D} {i : Nat} {d : D} (h : (enumD xs)[i]? = some d) : ∃ x, xs[i]? = some x ∧ d = .tup [.int ((i : Nat) : Int), x] := by
  unfold enumD at h
  rw [List.getElem?_map, List.getElem?_zipIdx] at h
  cases e : xs[i]? with
  | none =>
    rw [e] at h
    cases h
  | some x =>
    rw [e] at h
    refine ⟨x, rfl, ?_⟩
    have h := Option.some.inj h
    rw [← h]
    simp
theorem ei_enum {Φ : List D → FS → Prop} {p tpos : Pos} {elts : List Expr} {kk : Nat} (hm : X.mg "enumerate" = none) (h : Ev X Ψ ρ F e (fun x F1 => LstD x fun ds => Φ (enumD ds) F1)) (hg : Gl X "enumerate" := by rfl) (hs : starEach [e] X.env = [(false, eval e X.env)] := by rfl) :
    Ei X Ψ ρ F (.Tuple elts kk tpos) (.Call (.Name "enumerate" p) [e] [] pos) Φ := by
  have hs2 : starEach [e] X.env = (false, eval e X.env) :: starEach [] X.env := hs
  have ha : Ea X Ψ ρ F [e] (fun xs F1 => ∃ ds, xs = [.lst ds] ∧ Φ (enumD ds) F1) := ea1 (h.mono fun x F1 z => by
    cases x with
    | lst ds => exact ⟨ds, rfl, z⟩
    | _ => exact False.elim z) hs2
  refine ⟨pi_weak (pi_enum hg hm ha.pa hs) fun σ H R ⟨P, tk, hd, en, k⟩ => ⟨P, tk, hd, en, fun v d P1 F1 H1 s1 hd1 rp φ => ?_⟩⟩
  obtain ⟨ds, rfl, φ⟩ := φ
  obtain ⟨u, rfl, r⟩ := reps1 rp
  cases r with
  | @lst _ ad vs hq rr =>
    have hl := Paired.length rr
    refine ⟨ad, vs, rfl, SqL.of (hd1.pure _ _ hq), k _ (enumD ds) P1 F1 H1 s1 hd1 ⟨fun P' F H i s hd hi => ?_, fun P' F H i x H' s hd y d hdi => ?_, fun P' F H s hd => ?_⟩ φ⟩
    · rw [enumD_len] at hi
      exact ⟨vs, vs[i]'(by omega), SqL.of (hd.pure _ _ (s _ _ hq)), by simp⟩
    · obtain ⟨T, x2, rfl, hT, rfl, y⟩ := y
      obtain ⟨z, hz, rfl⟩ := enumD_get hdi
      obtain ⟨v, h1, h2⟩ := Reps.get rr hz
      have hx := y vs (SqL.of (hd.pure _ _ (s _ _ hq)))
      rw [h1] at hx
      cases hx
      obtain ⟨z1, z2⟩ := hd.new hT (.tup [.int (i : Nat), _])
      exact ⟨_, z1, z2, .tup upd_same (.cons (.int _) (.cons ((h2.mono s).mono z1) .nil))⟩
    · rw [enumD_len]
      exact ⟨vs, SqL.of (hd.pure _ _ (s _ _ hq)), by omega⟩
/-- {} -/
theorem ev_dct0 {Φ : D → FS → Prop} (k : Φ (.dct [] []) F) : Ev X Ψ ρ F (.Dict [] [] pos) Φ :=
  ev_leaf pe_dnewK fun P σ H Q _ hd en q p hp => by
    obtain ⟨z1, z2⟩ := hd.new hp (.dK [])
    exact q _ _ _ _ _ z1 z2 (.dct (vs := []) upd_same rfl .nil) k
end
end TM

set_option Elab.async false
set_option linter.all false
set_option maxRecDepth 100000
set_option maxHeartbeats 4000000
/-! The data layer: str.replace of written texts: a token must be out ahead of it. -/
namespace TM
open PySem PySem.Spec PyProof.Rows L2
structure EvT (X : Cx) (Ψ : XP) (ρ : En) (F : FS) (e : Expr) (Φ : D → FS → Prop) : Prop where
  pe : PET X e (tE X Ψ ρ F Φ)
def PTT (X : Cx) (e : Expr) (t : TT) : Prop := ∀ (pins : List (Addr × Obj)) (s : Shared) (σ : L2.St) (H : Hp) (Q : Bool → Hp → Prop), 1 ≤ s.toks → Inv X pins σ H s → t σ H Q → wpAny (model X.prog X.w) X.A (isTrue e X.env (eval e X.env)) (TP X pins σ Q) X.xe s
structure EtT (X : Cx) (Ψ : XP) (ρ : En) (F : FS) (e : Expr) (Φ : Bool → FS → Prop) : Prop where
  pt : PTT X e (tT X Ψ ρ F Φ)
def PWT (X : Cx) (e : Expr) (t : TT) : Prop := ∀ (whole : Sem Value) (pins : List (Addr × Obj)) (s : Shared) (σ : L2.St) (H : Hp) (Q : Bool → Hp → Prop), 1 ≤ s.toks → Inv X pins σ H s → t σ H Q → wpAny (model X.prog X.w) X.A (isTrue e X.env whole) (TP X pins σ Q) X.xe s
structure EwT (X : Cx) (Ψ : XP) (ρ : En) (F : FS) (e : Expr) (Φ : Bool → FS → Prop) : Prop where
  pw : PWT X e (tT X Ψ ρ F Φ)
structure EssT (X : Cx) (Ψ : XP) (ρ : En) (F : FS) (st : List Stmt) (Θ : Po) : Prop where
  pss : PSsT X st (tSt X Ψ ρ F Θ)
section
variable {X : Cx} {Ψ : XP} {ρ : En} {F : FS} {a b e o : Expr} {es : List Expr} {pos cpos apos : Pos}
theorem EvT.of {Φ : D → FS → Prop} (h : Ev X Ψ ρ F e Φ) : EvT X Ψ ρ F e Φ := ⟨fun pins s σ H Q _ I q => h.pe.run pins s σ H Q I q⟩
theorem evt_replace {y z : Str} {j k : Nat} {c0 c1 : Pos} {Φ : D → FS → Prop} (h : Ev X Ψ ρ F o (fun x F1 => ∃ w, x = .str w ∧ w.length + (w.length + 1) * z.length ≤ 16777216 ∧ Φ (.str (Txt.replace w y z)) F1)) (hyz : (y == z) = false := by decide)
    (hst : starEach [.Constant (.str y) j c0, .Constant (.str z) k c1] X.env = [(false, eval (.Constant (.str y) j c0) X.env), (false, eval (.Constant (.str z) k c1) X.env)] := by rfl)
    (hbase : attributeBase o "replace" X.env (eval o X.env) = eval o X.env := by rfl) (hline : (apos.endLine == pos.line) = true := by rfl) :
    EvT X Ψ ρ F (.Call (.Attribute o "replace" apos) [.Constant (.str y) j c0, .Constant (.str z) k c1] [] pos) Φ :=
  ⟨fun pins s σ H Q h0 I ⟨P, tk, hd, en, q⟩ => CwR.pet_replC h.pe hyz hst hbase hline pins s σ H Q h0 I ⟨P, tk, hd, en, fun v d P1 F1 H1 s1 hd1 rp φ => by
    obtain ⟨w, rfl, hb, φ⟩ := φ
    cases rp
    exact ⟨w, rfl, hb, q _ _ P1 F1 H1 s1 hd1 (.str _) φ⟩⟩⟩
theorem pet_bm {to : TE} {t : TA} {name : Str} {T id : String} {r : V → List V → Hp → VK → Prop} (pa : PlainAttrs T) (slot : Slot T name id) (hty : typeOf (.builtin id) = pure (.type "method_descriptor")) (hm : MtR X id r) (ho : PET X o to) (ha : PA X (e :: es) t)
    (hbase : attributeBase o name X.env (eval o X.env) = eval o X.env := by rfl)
    (hfew : ((backTo cpos (starEach (e :: es) X.env)).all (fun x => !x.1) && (backToKw cpos (keywordEach [] X.env)).all (fun x => x.1.isSome)
      && decide ((e :: es).length + ([] : List Keyword).length + (if ([] : List Keyword).isEmpty then 0 else 1) < 30)) = true := by rfl)
    (hline : (apos.endLine == cpos.line) = true := by rfl) (hs : starEach (e :: es) X.env = (false, eval e X.env) :: starEach es X.env := by rfl) (hplain : (backTo cpos (starEach es X.env)).any (·.1) = false := by rfl) :
    PET X (.Call (.Attribute o name apos) (e :: es) [] cpos) (tBM X.K T r to t) := by
  intro pins s σ H Q h0 I h
  refine wpAny_Call_method_late hbase hfew hline rfl (thn (ho pins s σ H _ h0 I h) fun v s1 ⟨x, H1, I1, r1, ty, q1⟩ => ?_)
  obtain ⟨h1, h2⟩ := tyV_is I1 r1 ty
  refine ⟨T, id, pa, slot, hty, h1, h2, ?_⟩
  have hA := ha.run cpos pins s1 σ H1 _ I1 q1
  rw [hs] at hA ⊢
  refine Calls.callWith_builtin (by show (false || (backTo cpos (starEach es X.env)).any (·.1)) = false; rw [hplain] <;> rfl) (Calls.evalArgs_plain ?_)
  exact thn hA fun us s2 ⟨vs, H2, I2, r2, q2⟩ => hm pins s2 σ H2 x vs v us Q I2 r1 r2 q2
theorem evt_split {w : Str} {j : Nat} {c0 : Pos} {Φ : D → FS → Prop} (h : EvT X Ψ ρ F o (fun x F1 => ∃ z, x = .str z ∧ (w.length == 0) = false ∧ z.length + 2 ≤ sizeLine ∧ Φ (.lst ((Txt.split z w).map D.str)) F1))
    (hbase : attributeBase o "split" X.env (eval o X.env) = eval o X.env := by rfl)
    (hfew : ((backTo cpos (starEach [.Constant (.str w) j c0] X.env)).all (fun x => !x.1) && (backToKw cpos (keywordEach [] X.env)).all (fun x => x.1.isSome)
      && decide ([(.Constant (.str w) j c0 : Expr)].length + ([] : List Keyword).length + (if ([] : List Keyword).isEmpty then 0 else 1) < 30)) = true := by rfl)
    (hline : (apos.endLine == cpos.line) = true := by rfl) (hs : starEach [.Constant (.str w) j c0] X.env = (false, eval (.Constant (.str w) j c0) X.env) :: starEach [] X.env := by rfl) :
    EvT X Ψ ρ F (.Call (.Attribute o "split" apos) [.Constant (.str w) j c0] [] cpos) Φ :=
  ⟨fun pins s σ H Q h0 I ⟨P, tk, hd, en, q⟩ => pet_bm PySem.F.plainAttrs_str PySem.F.slot_str_split PySem.F.type_str_split mt_split h.pe (pa_cons pe_str pa_nil hs) hbase hfew hline hs (by rfl) pins s σ H Q h0 I
    ⟨P, tk, hd, en, fun v d P1 F1 H1 s1 hd1 rp φ => by
      obtain ⟨z, rfl, h2, h3, φ⟩ := φ
      cases rp
      refine ⟨rfl, z, w, rfl, rfl, h2, h3, fun p hp => ?_⟩
      obtain ⟨z1, z2⟩ := hd1.new hp (.lst ((Txt.split z w).map V.str))
      exact q _ _ _ _ _ (Same.trans s1 z1) z2 (.lst upd_same Reps.of_strs) φ⟩⟩
/-- x = e first -/
theorem esst_set {i : Nat} {x : Str} {sts : List Stmt} {Θ : Po} {pos' : Pos} (hN : X.N.Nodup) (hi : X.N[i]? = some x) (hx : Loc X.env.scope x) (hf : X.fn x = true ∨ X.env.scope.names.lookup x = some .local) (h : EvT X Ψ ρ F e (fun d F1 => Ess X Ψ (ρ.set i (some d)) F1 sts Θ))
    (hs : swapsWith e (some (.Name x pos')) pos.line X.env = pure false := by rfl) : EssT X Ψ ρ F (.Assign [.Name x pos'] e pos :: sts) Θ := by
  refine ⟨fun pins s σ H D h0 I ⟨P, tk, hd, en, n, rt, bk, ct⟩ => ?_⟩
  refine wpAny_execs_cons (wpAny_Assign_Name (thn (h.pe pins s σ H (fun v H' => ∃ d P' F', Same P P' ∧ Hd X.K P' F' H' ∧ Rep X.K P' d v ∧ Ess X Ψ (ρ.set i (some d)) F' sts Θ) h0 I ⟨P, tk, hd, en, fun v d P1 F1 H1 s1 hd1 rp φ => ⟨d, P1, F1, s1, hd1, rp, φ⟩⟩) fun v s1 ⟨y, H1, I1, r1, d, P1, F1, ss, hd1, rp, φ⟩ => ?_) hs)
  exact store_ok I1 hN hi hx r1 (fun s2 I2 => φ.pss.run pins s2 _ H1 D I2 ⟨P1, takes_mono ss tk, hd1, (en.mono ss).set i rp, n.mono ss, rt.mono ss, bk.mono ss, ct.mono ss⟩) hf
theorem ett_val {Φ : Bool → FS → Prop} (h : EvT X Ψ ρ F e (fun x F1 => BlD x fun k => Φ k F1)) (he : ∀ whole, isTrue e X.env whole = (do let v ← whole; standAt e.pos; holding [v] (truthy v)) := by intro _; rfl) : EtT X Ψ ρ F e Φ := by
  refine ⟨fun pins s σ H Q h0 I ⟨P, tk, hd, en, q⟩ => ?_⟩
  refine isTrue_plain (thn (h.pe pins s σ H (fun v H' => ∃ k, v = .bl k ∧ Q k H') h0 I ⟨P, tk, hd, en, fun v d P1 F1 H1 s1 hd1 rp φ => by
    cases rp with
    | bl x => exact ⟨x, rfl, q x P1 F1 H1 s1 hd1 φ⟩
    | _ => exact False.elim φ⟩) fun v s1 ⟨x, H1, I1, r1, q1⟩ => ?_) (he _)
  obtain ⟨d, rfl, q2⟩ := q1
  cases r1
  exact wpAny_truthy_bool ⟨H1, I1, q2⟩
theorem ett_not {Φ : Bool → FS → Prop} (h : EtT X Ψ ρ F a (fun k F1 => Φ (!k) F1)) : EtT X Ψ ρ F (.UnaryOp .Not a pos) Φ :=
  ⟨fun pins s σ H Q h0 I ⟨P, tk, hd, en, q⟩ => isTrue_not (h.pt pins s σ H (fun c H1 => Q (!c) H1) h0 I ⟨P, tk, hd, en, fun z P1 F1 H1 s1 hd1 φ => q (!z) P1 F1 H1 s1 hd1 φ⟩)⟩
theorem ewt_and {Φ : Bool → FS → Prop} (h : EtT X Ψ ρ F a (fun k F1 => Br k (Ew X Ψ ρ F1 (.BoolOp .And (b :: es) pos) Φ) (Φ false F1))) : EwT X Ψ ρ F (.BoolOp .And (a :: b :: es) pos) Φ := by
  refine ⟨fun wh pins s σ H Q h0 I ⟨P, tk, hd, en, q⟩ => ?_⟩
  refine isTrue_and (thn (h.pt pins s σ H (fun k H' => ∃ P' F', Same P P' ∧ Hd X.K P' F' H' ∧ Br k (Ew X Ψ ρ F' (.BoolOp .And (b :: es) pos) Φ) (Φ false F')) h0 I ⟨P, tk, hd, en, fun k P1 F1 H1 s1 hd1 φ => ⟨P1, F1, s1, hd1, φ⟩⟩) fun c s1 ⟨H1, I1, P1, F1, ss, hd1, φ⟩ => ?_)
  cases c with
  | true => exact (φ.1 rfl).pw.run wh pins s1 σ H1 Q I1 ⟨P1, takes_mono ss tk, hd1, en.mono ss, fun z P2 F2 H2 s2 => q z P2 F2 H2 (Same.trans ss s2)⟩
  | false => exact ⟨H1, I1, q false P1 F1 H1 ss hd1 (φ.2 rfl)⟩
/-- a < 5 and .. : behind the written number a token is out -/
theorem ew_andT {op : CmpOp} {i : Int} {j : Nat} {c0 pc : Pos} {ri : Int → Int → Bool} {rs : Str → Str → Bool} {Φ : Bool → FS → Prop} (ho : OpR X (compareOp op) (rOrd ri rs))
    (h : Ev X Ψ ρ F a (fun x F1 => OrdD ri rs x (.int i) fun k => Br k (EwT X Ψ ρ F1 (.BoolOp .And (b :: es) pos) Φ) (Φ false F1))) (hm : behindInMarks op (.Constant (.int i) j c0) = false := by first | rfl | exact nomark _) : Ew X Ψ ρ F (.BoolOp .And (.Compare a [op] [.Constant (.int i) j c0] pc :: b :: es) pos) Φ := by
  refine ⟨⟨fun wh pins s σ H Q I ⟨P, tk, hd, en, q⟩ => ?_⟩⟩
  refine isTrue_and (wpAny_isTrue_Compare1 (thn (h.pe.run pins s σ H (fun v H' => ∃ d P' F', Same P P' ∧ Hd X.K P' F' H' ∧ Rep X.K P' d v ∧ OrdD ri rs d (.int i) fun k => Br k (EwT X Ψ ρ F' (.BoolOp .And (b :: es) pos) Φ) (Φ false F')) I ⟨P, tk, hd, en, fun v d P1 F1 H1 s1 hd1 rp φ => ⟨d, P1, F1, s1, hd1, rp, φ⟩⟩)
    fun v s1 ⟨x, H1, I1, r1, d, P1, F1, ss, hd1, rp, φ⟩ => wpAny_Constant_int ?_) hm)
  have I2 := I1.tok (s1.toks + 1)
  have φ2 : LL2 X Ψ ρ (fun _ => rOrd ri rs) d (.int i) F1 (fun z F2 => BlD z fun k => F2 = F1 ∧ Br k (EwT X Ψ ρ F1 (.BoolOp .And (b :: es) pos) Φ) (Φ false F1)) := ord_lift (Φ := fun z F2 => BlD z fun k => F2 = F1 ∧ Br k (EwT X Ψ ρ F1 (.BoolOp .And (b :: es) pos) Φ) (Φ false F1)) (by
    cases d with
    | int n => exact ⟨rfl, φ⟩
    | _ => exact φ.elim)
  have q2 := φ2 P1 σ H1 x (.int i) (fun z H' => ∃ k P' F', z = .bl k ∧ Same P1 P' ∧ Hd X.K P' F' H' ∧ F' = F1 ∧ Br k (EwT X Ψ ρ F1 (.BoolOp .And (b :: es) pos) Φ) (Φ false F1)) (takes_mono ss tk) hd1 (en.mono ss) rp (.int i) fun z dz P2 F2 H2 s2 hd2 rz φz => by
    cases rz with
    | bl k => exact ⟨k, P2, F2, rfl, s2, hd2, φz⟩
    | _ => exact False.elim φz
  refine wpAny_mono (wpAny_toks_of (n := 1) (by show 1 ≤ s1.toks + 1; omega) (ho pins _ σ H1 x (.int i) v _ _ I2 r1 ⟨_, rfl⟩ q2)) (fun c s3 ⟨ht, z, H3, I3, r3, k, P2, F2, ez, s2, hd2, ef, br⟩ => ?_) fun _ _ x => x.2
  subst ez ef
  cases r3
  refine wpAny_truthy_bool ?_
  cases k with
  | true => exact (br.1 rfl).pw wh pins s3 σ H3 Q ht I3 ⟨P2, takes_mono (Same.trans ss s2) tk, hd2, en.mono (Same.trans ss s2), fun z P3 F3 H3 s3 => q z P3 F3 H3 (Same.trans (Same.trans ss s2) s3)⟩
  | false => exact ⟨H3, I3, q false P2 F2 H3 (Same.trans ss s2) hd2 (br.2 rfl)⟩
end
/-! ### a def that wants a token -/
structure FnI (W : Wd) (k : Nat) (f : Addr) (fd : FuncData) (ps : List Str) (S : Spec) : Prop where
  len : ∀ ds F Φ Ψ, S ds F Φ Ψ → ds.length = ps.length
  run : ∀ (A : Around) (outer : List Env) (s : Shared) (H : Hp) (args : Args) (us : List Value) (vs : List V) (Q : VK) (E : XK), 1 ≤ s.toks → RoomG k A → Env0 W.P W.w W.K W.mg W.base A outer s H →
    BindsTo s fd args (ps.zip us) → Vals vs us → spD W.K S vs H Q E → codeAny (model W.P W.w) A (.call (.ref f) args) (CR (L2.CX W.P W.w) outer W.P W.w H s Q E) s
structure OkAtI (W : Wd) (k : Nat) (x : Str) (st : Stmt) (ps : List Str) (S : Spec) (f : Addr) (fd : FuncData) : Prop where
  at_ : W.mg x = some (.ref f)
  fn : Fun W.K x x st f fd
  bi : ∀ us : List Value, us.length = ps.length → bindArgs fd ⟨us, []⟩ = pure (ps.zip us)
  ok : FnI W k f fd ps S
def OkI (W : Wd) (k : Nat) (x : Str) (st : Stmt) (ps : List Str) (S : Spec) : Prop := ∃ f fd, OkAtI W k x st ps S f fd
theorem FnI.of {W : Wd} {name qual : Str} {params : Arguments} {body : List Stmt} {sc : Scope} {dV kV doc pm cdv ct oc : Value} {an od : Option Addr} {osl : Array (Option Value)} {N ps : List Str} {k : Nat} {f : Addr} {S : Spec}
    (lk : W.K.lookup f = some ⟨oc, od, .func (PySem.W.fnOf name qual params body sc dV kV doc pm an cdv ct), osl⟩) (hcd : PySem.W.codeIn W.K cdv qual = true) (S1 : FnScope N ps sc) (len : ∀ ds F Φ Ψ, S ds F Φ Ψ → ds.length = ps.length)
    (hb : ∀ (A : Around) (outer : List Env) (s : Shared) (H : Hp) (E : XK), Ct (bodyX W N qual sc f cdv A outer s H E) k → ∀ ds F Φ Ψ, S ds F Φ Ψ →
      EssT (bodyX W N qual sc f cdv A outer s H E) (fun e _ F' => Ψ e F') (enter N ds) F body { nx := fun _ F' => Φ .non F', rt := Φ }) :
    FnI W (k + 1) f (PySem.W.fnOf name qual params body sc dV kV doc pm an cdv ct) ps S := by
  refine ⟨len, fun A outer s H args us vs Q E ht hr e0 hbind rv hsp => ?_⟩
  obtain ⟨P, F, ds, Φ, Ψ, hd, rp, hS, hQ, hE⟩ := hsp
  have lv : vs.length = ps.length := (Paired.length rp).symm.trans (len _ _ _ _ hS)
  have KX : W.K.In s.heap := e0.mod.kin.keeps fun b o z => (e0.bs b o z).1
  have NL : s.heap.NoLimit := e0.mod.nolimit.keeps fun b o z => (e0.bs b o z).1
  refine codeAny_call_function hr.room.depth (KX _ _ lk) rfl S1.co S1.gen rfl (PySem.W.codeRec_of KX hcd) (hbind _ _ _ _ ?_)
  refine wpAny_mono (wpAny_toks_of ht (wpAny_newFunctionEnv_cells (Q := fun env s1 => env = envOfC qual sc s.heap.objs.size f cdv ∧ s1.heap.NoLimit ∧ Inv (bodyX W N qual sc f cdv A outer s H E) [] (L2.start N vs) H s1) S1.kind (fun y hy => ?_) (fun env ee s1 x => ?_))) (fun env s1 q => ?_) fun _ _ z => z.2
  · rcases S1.par y.1 (List.of_mem_zip (a := y.1) (b := y.2) hy).1 with z | z
    · exact .inl z
    · exact .inr ⟨z, PySem.W.cellsFrom_some _ _ _ (.inl z)⟩
  · subst ee
    exact ⟨rfl, NL.keeps x.toInCall.keep, inv_start S1 hr.room.hd e0 lv rv x⟩
  · obtain ⟨ht1, ee, nl, I⟩ := q
    subst ee
    refine ⟨nl, codeAny_func ?_⟩
    have rd : RoomG k (A.deeper (envOfC qual sc s.heap.objs.size f cdv)) := ⟨hr.room.deeper _, hr.gd⟩
    have C : Ct (bodyX W N qual sc f cdv A outer s H E) k := ⟨S1.nd, rfl, rd, passes_of rfl⟩
    have B := hb A outer s H E C ds F Φ Ψ hS
    have tk : Takes (bodyX W N qual sc f cdv A outer s H E) (wUp W.K P (fun e _ F' => Ψ e F')) :=
      (takes_of (X := bodyX W N qual sc f cdv A outer s H E) (E := E) rfl rfl rfl rfl).imp fun c dd σ H1 ⟨e, ρ, F1, P1, s1, hd1, _, r1, ψ⟩ => hE e c dd P1 F1 H1 s1 hd1 r1 ψ
    refine wpAny_mono (B.pss [] s1 (L2.start N vs) H { nx := fun _ H' => Q .non H', rt := Q } ht1 I ⟨P, tk, hd, enter_rel rp, fun σ' ρ' P' F' H' s2 hd2 _ φ => hQ .non .non P' F' H' s2 hd2 .non φ, hQ, fun _ _ _ _ _ _ _ _ z => z.elim, fun _ _ _ _ _ _ _ _ z => z.elim⟩)
      (fun fl s' hs => ?_) fun _ _ z => z
    cases fl with
    | ret u =>
      obtain ⟨v, σ', H', J, rv', q⟩ := hs
      exact ⟨v, H', J.os, J.bare, J.base, J.hok, rv', q⟩
    | next =>
      obtain ⟨σ', H', J, q⟩ := hs
      exact ⟨V.non, H', J.os, J.bare, J.base, J.hok, rfl, q⟩
    | brk =>
      obtain ⟨_, _, _, q⟩ := hs
      exact False.elim q
    | cont =>
      obtain ⟨_, _, _, q⟩ := hs
      exact False.elim q
theorem OkI.of {W : Wd} {x : Str} {st : Stmt} {N ps : List Str} {k : Nat} {S : Spec} (a : At W x st) (sc : FnScope N ps (defScope st)) (len : ∀ ds F Φ Ψ, S ds F Φ Ψ → ds.length = ps.length)
    (hbi : ∀ (kV doc pm : Value) (an : Option Addr) (cdv ct : Value) (us : List Value), us.length = ps.length → bindArgs (PySem.W.fnOf x x (defArgs st) (defBody st) (defScope st) .none kV doc pm an cdv ct) ⟨us, []⟩ = pure (ps.zip us))
    (hb : ∀ (f : Addr) (cdv : Value) (A : Around) (outer : List Env) (s : Shared) (H : Hp) (E : XK), Ct (bodyX W N x (defScope st) f cdv A outer s H E) k → ∀ ds F Φ Ψ, S ds F Φ Ψ →
      EssT (bodyX W N x (defScope st) f cdv A outer s H E) (fun e _ F' => Ψ e F') (enter N ds) F (defBody st) { nx := fun _ F' => Φ .non F', rt := Φ }) : OkI W (k + 1) x st ps S := by
  obtain ⟨f, fd, h1, h2⟩ := a
  obtain ⟨oc, od, kV, doc, pm, an, cdv, ct, osl, rfl, lk, hcd⟩ := id h2.ex
  exact ⟨f, _, h1, h2, fun us hl => hbi kV doc pm an cdv ct us hl, FnI.of lk hcd sc len fun A outer s H E C => hb f cdv A outer s H E C⟩
section
variable {X : Cx} {Ψ : XP} {ρ : En} {F : FS} {e : Expr} {es : List Expr} {x : Str} {p pos : Pos} {k : Nat} {st : Stmt} {ps : List Str} {S : Spec} {Φ : D → FS → Prop}
theorem run_I {pins : List (Addr × Obj)} {σ : L2.St} {H P : Hp} {s : Shared} {k : Nat} {f : Addr} {fd : FuncData} {ps : List Str} {S : Spec} {pos : List Value} {kw : List (Str × Value)} {us : List Value} {vs : List V} {ds : List D} {Φ : D → FS → Prop} {Q : VK} (ht : 1 ≤ s.toks)
    (Fn : FnI (wd X) k f fd ps S) (hr : RoomG k X.A) (hb : BindsTo s fd ⟨pos, kw⟩ (ps.zip us)) (rv : Vals vs us) (rp : Reps X.K P ds vs) (I : Inv X pins σ H s) (tk : Takes X (wUp X.K P Ψ)) (hd : Hd X.K P F H) (en : EnvR X.K P ρ σ)
    (hS : S ds F Φ (fun e F' => Ψ e ρ F')) (q : upV X.K P Φ Q) : wpAny (model X.prog X.w) X.A (call (.ref f) pos kw) (EP X pins σ Q) X.xe s := by
  refine wpAny_call (codeAny_mono (Fn.run X.A X.stack s H ⟨pos, kw⟩ us vs Q (WE (wUp X.K P Ψ) σ) ht hr I.env0 hb rv ⟨P, F, ds, Φ, _, hd, rp, hS, q, fun e c dd P' F' H' s1 hd1 r1 ψ => ⟨e, ρ, F', P', s1, hd1, en.mono s1, r1, ψ⟩⟩) fun r s' hq => ?_)
  cases r with
  | error e => exact passAt tk σ pins H s e s' I hq
  | ok fl =>
    cases fl with
    | ret u => exact I.after hq
    | next => exact False.elim hq
    | brk => exact False.elim hq
    | cont => exact False.elim hq
theorem evt_call (h : OkI (wd X) k x st ps S) (hr : RoomG k X.A) (hg : Gl X x) (ha : Ea X Ψ ρ F (e :: es) (fun ds F1 => S ds F1 Φ (fun er F' => Ψ er ρ F'))) (hdb : (x == ("__debug__" : Str)) = false := by decide)
    (he : starEach (e :: es) X.env = (false, eval e X.env) :: starEach es X.env := by rfl) (hpl : (backTo pos (starEach es X.env)).any (·.1) = false := by rfl) : EvT X Ψ ρ F (.Call (.Name x p) (e :: es) [] pos) Φ := by
  obtain ⟨f, fd, a⟩ := h
  refine ⟨fun pins s σ H Q h0 I ⟨P, tk, hd, en, q⟩ => ?_⟩
  refine wpAny_Call_Name_kw (ld_glob I hg a.at_ ?_ hdb)
  refine PySem.W.callWith_K (h₀ := X.base) I.ok.mod.kin a.fn.kp (wpAny_mono (wpAny_toks_of h0 (ha.pa.run pos pins s σ H (fun vs H1 => ∃ P1 F1 ds, Same P P1 ∧ Hd X.K P1 F1 H1 ∧ Reps X.K P1 ds vs ∧ S ds F1 Φ (fun er F' => Ψ er ρ F')) I ⟨P, tk, hd, en, fun vs ds P1 F1 H1 s1 hd1 rp φ => ⟨P1, F1, ds, s1, hd1, rp, φ⟩⟩))
    (fun us s1 ⟨ht, vs, H1, I1, r, P1, F1, ds, ss, hd1, rp, φ⟩ => ⟨I1.kIn, ?_⟩) fun _ _ x => x.2) he hpl
  exact run_I ht a.ok hr (.of_eq (a.bi us (by rw [← r.length, ← Paired.length rp]; exact a.ok.len _ _ _ _ φ))) r rp I1 (takes_mono ss tk) hd1 (en.mono ss) φ (upV.mono (P := P) q ss)
end
end TM

set_option Elab.async false
set_option linter.all false
set_option maxRecDepth 100000
set_option maxHeartbeats 4000000
/-! The data layer: a list times a number. -/
namespace TM
open PySem PySem.Spec PyProof.Rows L2
section
variable {X : Cx} {Ψ : XP} {ρ : En} {F : FS} {a b : Expr} {pos : Pos}
theorem Reps.rep {K : PySem.W.Frag} {P : Hp} {ds : List D} {vs : List V} (r : Reps K P ds vs) : ∀ k : Nat, Reps K P (List.replicate k ds).flatten (List.replicate k vs).flatten
  | 0 => .nil
  | k + 1 => by
    rw [List.replicate_succ, List.replicate_succ, List.flatten_cons, List.flatten_cons]
    exact Reps.append r (Reps.rep r k)
/-- xs * k -/
theorem ev_rep {Φ : D → FS → Prop} (h : Ev X Ψ ρ F a (fun x F1 => Ev X Ψ ρ F1 b (fun y F2 => LstD x fun xs => IntD y fun k => 0 ≤ k ∧ k < 1000000 ∧ xs.length * k.toNat ≤ sizeLine ∧ Φ (.lst (List.replicate k.toNat xs).flatten) F2))) : Ev X Ψ ρ F (.BinOp a .Mult b pos) Φ := by
  refine ev_op op_rep (h.mono fun x F1 h1 => h1.mono fun y F2 h2 P σ H u v Q tk hd en r1 r2 q => ?_)
  cases r1 with
  | @lst ds ad vs hq rr =>
    cases r2 with
    | int k =>
      obtain ⟨k0, k1, k2, φ⟩ := h2
      refine ⟨_, k, _, rfl, rfl, hd.pure _ _ hq, by omega, by omega, by rw [← Paired.length rr]; exact k2, fun p hp => ?_⟩
      obtain ⟨z1, z2⟩ := hd.new hp (.lst (List.replicate k.toNat vs).flatten)
      exact q _ _ _ _ _ z1 z2 (.lst upd_same (Reps.mono z1 (Reps.rep rr _))) φ
    | _ => exact False.elim h2
  | _ => exact False.elim h2
end
end TM

set_option Elab.async false
set_option linter.all false
set_option maxRecDepth 100000
set_option maxHeartbeats 4000000
set_option pp.maxSteps 500
namespace TM
open PySem PySem.Spec PyProof.Rows L2
def top (i : Nat) : Stmt := PySem.Challenge.pw_topmatches_k58_texts_of_many_screens.main.body.getD i (.Pass ⟨0, 0, 0, 0⟩)
/-- the address of a class of the module -/
def clsA (W : Wd) (x : Str) : Addr := match W.mg x with
  | some (.ref C) => C
  | _ => 0
/-- the module's names -/
structure Md (W : Wd) : Prop where
  bi : ∀ x ∈ (["isinstance", "int", "bool", "str", "all", "any", "len", "set", "list", "tuple", "range", "max", "min", "abs", "repr", "enumerate", "sorted", "zip", "dict", "type", "sum", "reversed"] : List Str), W.mg x = none
  MOST_WORDS : ∃ t, W.mg "MOST_WORDS" = some (.int 20 t)
  MOST_SCREENS : ∃ t, W.mg "MOST_SCREENS" = some (.int 20 t)
  EMPTY : ∃ t, W.mg "EMPTY" = some (.str "-" t)
  DIGITS : ∃ t, W.mg "DIGITS" = some (.str "0123456789" t)
  MOST_LIMIT_DIGITS : ∃ t, W.mg "MOST_LIMIT_DIGITS" = some (.int 2 t)
  MOST_LINES : ∃ t, W.mg "MOST_LINES" = some (.int 20 t)
  atInvalidText : W.mg "InvalidText" = some (.ref (clsA W "InvalidText"))
  atTopMatchesError : W.mg "TopMatchesError" = some (.ref (clsA W "TopMatchesError"))
  InvalidText : RzI W "InvalidText" "line" (clsA W "InvalidText")
  InvalidTextN : RzN W "line" (clsA W "InvalidText")
  xInvalidText_InvalidText : PySem.W.exmOne W.K (.ref (clsA W "InvalidText")) (.ref (clsA W "InvalidText")) = some true
  xInvalidText_TopMatchesError : PySem.W.exmOne W.K (.ref (clsA W "InvalidText")) (.ref (clsA W "TopMatchesError")) = some true
  InvalidScreens : RzC W "InvalidScreens" (clsA W "InvalidScreens")
  xInvalidScreens_InvalidText : PySem.W.exmOne W.K (.ref (clsA W "InvalidScreens")) (.ref (clsA W "InvalidText")) = some false
  xInvalidScreens_TopMatchesError : PySem.W.exmOne W.K (.ref (clsA W "InvalidScreens")) (.ref (clsA W "TopMatchesError")) = some true
local macro_rules
  | `(tactic| walk_at "iv") => `(tactic| first | exact pv 0 | exact pv 1 | exact pv 2 | exact pv 3 | exact pv 4 | exact pv 5 | exact pv 6 | exact pv 7 | exact pv 8 | exact pv 9 | exact pv 10 | exact pv 11 | exact pv 12 | exact pv 13 | exact pv 14 | exact pv 15 | exact pv 16 | exact pv 17 | exact pv 18 | exact pv 19 | exact pv 20 | exact pv 21 | exact pv 22 | exact pv 23)
  | `(tactic| walk_at "mg") => `(tactic| exact Md.bi (by assumption) _ (by decide))
  | `(tactic| walk_at "ev") => `(tactic| first
    | ((with_reducible show Ev _ _ _ _ (.Name _ _) _); refine ev_var (by walk_at "iv") (by with_unfolding_all rfl) ?_)
    | ((with_reducible show Ev _ _ _ _ (.Constant _ _ _) _); first | refine ev_int ?_ | refine ev_str ?_ | refine ev_bl ?_ | refine ev_non ?_)
    | ((with_reducible show Ev _ _ _ _ (.BinOp (.List _ _) .Mult _ _) _); refine ev_rep ?_)
    | ((with_reducible show Ev _ _ _ _ (.BinOp _ _ _ _) _); first | refine ev_add ?_ | refine ev_sub ?_ | refine ev_mod ?_ | refine ev_fdivW ?_ | refine ev_pow ?_ | refine ev_mul ?_)
    | ((with_reducible show Ev _ _ _ _ (.Compare _ [_] _ _) _); first | refine ev_isN ?_ | refine ev_notN ?_ | refine ev_lt ?_ | refine ev_le ?_ | refine ev_gt ?_ | refine ev_ge ?_ | refine ev_eq (RoomG.mono (by assumption) (Nat.zero_le _)) ?_ | refine ev_ne (RoomG.mono (by assumption) (Nat.zero_le _)) ?_ | refine ev_in ?_ | refine ev_nin ?_)
    | ((with_reducible show Ev _ _ _ _ (.Compare _ _ _ _) _); refine ev_chain ord_le ord_le ?_)
    | ((with_reducible show Ev _ _ _ _ (.BoolOp _ _ _) _); first | refine ev_b1 ?_ | refine ev_and ?_ | refine ev_or ?_)
    | ((with_reducible show Ev _ _ _ _ (.UnaryOp _ _ _) _); first | refine ev_not ?_ | refine ev_neg ?_)
    | ((with_reducible show Ev _ _ _ _ (.IfExp _ _ _ _) _); refine ev_if ?_)
    | ((with_reducible show Ev _ _ _ _ (.Tuple _ _ _) _); refine ev_tup ?_)
    | ((with_reducible show Ev _ _ _ _ (.List _ _) _); refine ev_lst ?_)
    | ((with_reducible show Ev _ _ _ _ (.Dict _ _ _) _); refine ev_dct0 ?_)
    | ((with_reducible show Ev _ _ _ _ (.Subscript _ (.Slice _ _ _ _) _) _); refine ev_slice ?_)
    | ((with_reducible show Ev _ _ _ _ (.Subscript _ _ _) _); refine ev_ix ?_)
    | ((with_reducible show Ev _ _ _ _ (.Call (.Name "isinstance" _) [_, .Name "int" _] _ _) _); refine ev_isInt (by walk_at "mg") (by walk_at "mg") ?_)
    | ((with_reducible show Ev _ _ _ _ (.Call (.Name "isinstance" _) [_, .Name "bool" _] _ _) _); refine ev_isBool (by walk_at "mg") (by walk_at "mg") ?_)
    | ((with_reducible show Ev _ _ _ _ (.Call (.Name "isinstance" _) [_, .Name "str" _] _ _) _); refine ev_isStr (by walk_at "mg") (by walk_at "mg") ?_)
    | ((with_reducible show Ev _ _ _ _ (.Call (.Name "isinstance" _) [_, .Name "list" _] _ _) _); refine ev_isList (by walk_at "mg") (by walk_at "mg") ?_)
    | ((with_reducible show Ev _ _ _ _ (.Call (.Name "isinstance" _) [_, .Name "tuple" _] _ _) _); refine ev_isTup (by walk_at "mg") (by walk_at "mg") ?_)
    | ((with_reducible show Ev _ _ _ _ (.Call (.Name "len" _) [.Call (.Name "set" _) _ _ _] _ _) _); refine ev_lenS rfl (by walk_at "mg") (by walk_at "mg") ?_)
    | ((with_reducible show Ev _ _ _ _ (.Call (.Name "len" _) _ _ _) _); refine ev_len (by walk_at "mg") ?_)
    | ((with_reducible show Ev _ _ _ _ (.Call (.Name "abs" _) _ _ _) _); refine ev_abs (by walk_at "mg") ?_)
    | ((with_reducible show Ev _ _ _ _ (.Call (.Name "all" _) _ _ _) _); refine ev_all rfl (by walk_at "mg") ?_)
    | ((with_reducible show Ev _ _ _ _ (.Call (.Name "any" _) _ _ _) _); refine ev_any rfl (by walk_at "mg") ?_)
    | ((with_reducible show Ev _ _ _ _ (.Call (.Name "max" _) _ _ _) _); refine ev_max2 rfl (by walk_at "mg") ?_)
    | ((with_reducible show Ev _ _ _ _ (.Call (.Name "min" _) _ _ _) _); refine ev_min2 rfl (by walk_at "mg") ?_)
    | ((with_reducible show Ev _ _ _ _ (.Call (.Name "str" _) _ _ _) _); refine ev_strOf (by walk_at "mg") ?_)
    | ((with_reducible show Ev _ _ _ _ (.Call (.Name "int" _) _ _ _) _); refine ev_intOf (by walk_at "mg") ?_)
    | ((with_reducible show Ev _ _ _ _ (.Call (.Name "list" _) _ _ _) _); refine ev_listOf rfl (by walk_at "mg") ?_)
    | ((with_reducible show Ev _ _ _ _ (.Call (.Name "tuple" _) _ _ _) _); refine ev_tupOf (by walk_at "mg") ?_)
    | ((with_reducible show Ev _ _ _ _ (.Call (.Name "repr" _) _ _ _) _); refine ev_repr (RoomG.mono (by assumption) (Nat.zero_le _)) (by walk_at "mg") ?_)
    | ((with_reducible show Ev _ _ _ _ (.Call (.Attribute _ "startswith" _) _ _ _) _); refine ev_startswith ?_)
    | ((with_reducible show Ev _ _ _ _ (.Call (.Attribute _ "split" _) _ _ _) _); refine ev_split ?_)
    | ((with_reducible show Ev _ _ _ _ (.Call (.Attribute _ "join" _) _ _ _) _); refine ev_join ?_)
    | ((with_reducible show Ev _ _ _ _ (.Call (.Attribute _ "append" _) _ _ _) _); refine ev_append ?_)
    | ((with_reducible show Ev _ _ _ _ (.Call (.Attribute _ "extend" _) _ _ _) _); refine ev_extend ?_)
    | ((with_reducible show Ev _ _ _ _ (.Call (.Attribute _ "pop" _) _ _ _) _); first | refine ev_popAt ?_ | refine ev_pop0 ?_)
    | ((with_reducible show Ev _ _ _ _ (.Call (.Attribute _ "reverse" _) _ _ _) _); refine ev_reverse ?_)
    | ((with_reducible show Ev _ _ _ _ (.Call (.Attribute _ "clear" _) _ _ _) _); refine ev_clear ?_))
  | `(tactic| walk_at "et") => `(tactic| first
    | ((with_reducible show Et _ _ _ _ (.Compare _ [_] _ _) _); first | refine et_isN ?_ | refine et_notN ?_ | refine et_lt ?_ | refine et_le ?_ | refine et_gt ?_ | refine et_ge ?_ | refine et_eq (RoomG.mono (by assumption) (Nat.zero_le _)) ?_ | refine et_ne (RoomG.mono (by assumption) (Nat.zero_le _)) ?_ | refine et_in ?_ | refine et_nin ?_)
    | ((with_reducible show Et _ _ _ _ (.Compare _ [_, _] _ _) _); refine et_chain ord_le ord_le ?_)
    | ((with_reducible show Et _ _ _ _ (.UnaryOp _ _ _) _); refine et_not ?_)
    | ((with_reducible show Et _ _ _ _ (.BoolOp _ _ _) _); first | refine et_w (ew_or ?_) | refine et_w (ew_and ?_))
    | refine et_val ?_)
  | `(tactic| walk_at "es") => `(tactic| first | refine es_pass ?_ | refine es_break ?_ | refine es_continue ?_ | refine es_ret ?_ | refine es_retN ?_ | refine es_if ?_ | refine es_expr ?_)
  | `(tactic| walk_at "da") => `(tactic| first
    | ((with_reducible show BlD _ _); refine d_bl ?_) | ((with_reducible show IntD _ _); refine d_int ?_) | ((with_reducible show StrD _ _); refine d_str ?_) | ((with_reducible show LstD _ _); refine d_lst ?_) | ((with_reducible show TupD _ _); refine d_tup ?_)
    | ((with_reducible show StarD _ _); first | refine d_star ?_ | refine d_starT ?_)
    | ((with_reducible show OrdD _ _ _ _ _); first | refine d_ordI ?_ | refine d_ordS ?_)
    | ((with_reducible show EqD _ _ _); first | refine d_eqI ?_ | refine d_eqS ?_ | refine d_eqB ?_)
    | ((with_reducible show AddD _ _ _); refine d_addI ?_)
    | ((with_reducible show InD _ _ _); refine d_inS ?_)
    | ((with_reducible show SlD _ _ _ _ _); refine d_slL ?_)
    | ((with_reducible show IxD _ _ _ _); first | refine d_ixL (by rfl) ?_ | refine d_ixT (by rfl) ?_)
    | ((with_reducible show LenD _ _ _); first | refine d_lenL ?_ | refine d_lenT ?_ | refine d_lenC ?_)
    | ((with_reducible show StrOfD _ _); refine d_stS ?_)
    | ((with_reducible show Br _ _ _); first | refine brT ?_ | refine brF ?_)
    | ((with_reducible show CPowW 10 _ ∧ _); refine ⟨⟨by decide, by decide, by decide⟩, ?_⟩)
    | ((with_reducible show List.length _ ≤ sizeLine ∧ _); refine ⟨le_line (Nat.le_of_ble_eq_true rfl), ?_⟩))
  | `(tactic| walk_at "st") => `(tactic| first
    | ((with_reducible show Ev _ _ _ _ _ _); walk_at "ev")
    | ((with_reducible show Ess _ _ _ _ _ _); first | refine ess_one ?_ | refine ess_cons ?_ | refine ess_nil ?_)
    | ((with_reducible show Es _ _ _ _ _ _); walk_at "es")
    | ((with_reducible show Et _ _ _ _ _ _); walk_at "et")
    | ((with_reducible show Ew _ _ _ _ _ _); first | refine ew_or1 ?_ | refine ew_and1 ?_ | refine ew_or ?_ | refine ew_and ?_)
    | ((with_reducible show Ea _ _ _ _ _ _); first | refine ea_nil ?_ | refine ea_cons ?_ | refine ea_star ?_)
    | ((with_reducible show Ek _ _ _ _ _ _); first | refine ek_nil ?_ | refine ek_cons ?_)
    | ((with_reducible show Eo _ _ _ _ _ _); first | refine eo_none ?_ | refine eo_some ?_)
    | walk_at "da")
  | `(tactic| walk_at "go") => `(tactic| repeat walk_at "st")
  | `(tactic| walk_at "goE") => `(tactic| repeat (first
    | ((with_reducible show Ev _ _ _ _ _ _); walk_at "ev")
    | ((with_reducible show Ea _ _ _ _ _ _); first | refine ea_nil ?_ | refine ea_cons ?_ | refine ea_star ?_)
    | ((with_reducible show Ek _ _ _ _ _ _); first | refine ek_nil ?_ | refine ek_cons ?_)
    | ((with_reducible show Eo _ _ _ _ _ _); first | refine eo_none ?_ | refine eo_some ?_)
    | walk_at "da"))
  | `(tactic| walk_at "evM") => `(tactic| first
    | ((with_reducible show Ev _ _ _ _ (.List _ _) _); refine ev_lstM ?_)
    | ((with_reducible show Ev _ _ _ _ (.Subscript _ (.Slice _ _ _ _) _) _); refine ev_sliceM ?_))
  | `(tactic| walk_at "goM") => `(tactic| repeat (first | walk_at "evM" | walk_at "st"))
  | `(tactic| walk_at "set") => `(tactic| first
    | refine es_set (i := 0) (Ct.nd (by assumption)) rfl (.inl rfl) (.inr rfl) ?_ | refine es_set (i := 0) (Ct.nd (by assumption)) rfl (.inr rfl) (.inl rfl) ?_
    | refine es_set (i := 1) (Ct.nd (by assumption)) rfl (.inl rfl) (.inr rfl) ?_ | refine es_set (i := 1) (Ct.nd (by assumption)) rfl (.inr rfl) (.inl rfl) ?_
    | refine es_set (i := 2) (Ct.nd (by assumption)) rfl (.inl rfl) (.inr rfl) ?_ | refine es_set (i := 2) (Ct.nd (by assumption)) rfl (.inr rfl) (.inl rfl) ?_
    | refine es_set (i := 3) (Ct.nd (by assumption)) rfl (.inl rfl) (.inr rfl) ?_ | refine es_set (i := 3) (Ct.nd (by assumption)) rfl (.inr rfl) (.inl rfl) ?_
    | refine es_set (i := 4) (Ct.nd (by assumption)) rfl (.inl rfl) (.inr rfl) ?_ | refine es_set (i := 4) (Ct.nd (by assumption)) rfl (.inr rfl) (.inl rfl) ?_
    | refine es_set (i := 5) (Ct.nd (by assumption)) rfl (.inl rfl) (.inr rfl) ?_ | refine es_set (i := 5) (Ct.nd (by assumption)) rfl (.inr rfl) (.inl rfl) ?_
    | refine es_set (i := 6) (Ct.nd (by assumption)) rfl (.inl rfl) (.inr rfl) ?_ | refine es_set (i := 6) (Ct.nd (by assumption)) rfl (.inr rfl) (.inl rfl) ?_
    | refine es_set (i := 7) (Ct.nd (by assumption)) rfl (.inl rfl) (.inr rfl) ?_ | refine es_set (i := 7) (Ct.nd (by assumption)) rfl (.inr rfl) (.inl rfl) ?_
    | refine es_set (i := 8) (Ct.nd (by assumption)) rfl (.inl rfl) (.inr rfl) ?_ | refine es_set (i := 8) (Ct.nd (by assumption)) rfl (.inr rfl) (.inl rfl) ?_
    | refine es_set (i := 9) (Ct.nd (by assumption)) rfl (.inl rfl) (.inr rfl) ?_ | refine es_set (i := 9) (Ct.nd (by assumption)) rfl (.inr rfl) (.inl rfl) ?_
    | refine es_set (i := 10) (Ct.nd (by assumption)) rfl (.inl rfl) (.inr rfl) ?_ | refine es_set (i := 10) (Ct.nd (by assumption)) rfl (.inr rfl) (.inl rfl) ?_
    | refine es_set (i := 11) (Ct.nd (by assumption)) rfl (.inl rfl) (.inr rfl) ?_ | refine es_set (i := 11) (Ct.nd (by assumption)) rfl (.inr rfl) (.inl rfl) ?_
    | refine es_set (i := 12) (Ct.nd (by assumption)) rfl (.inl rfl) (.inr rfl) ?_ | refine es_set (i := 12) (Ct.nd (by assumption)) rfl (.inr rfl) (.inl rfl) ?_
    | refine es_set (i := 13) (Ct.nd (by assumption)) rfl (.inl rfl) (.inr rfl) ?_ | refine es_set (i := 13) (Ct.nd (by assumption)) rfl (.inr rfl) (.inl rfl) ?_
    | refine es_set (i := 14) (Ct.nd (by assumption)) rfl (.inl rfl) (.inr rfl) ?_ | refine es_set (i := 14) (Ct.nd (by assumption)) rfl (.inr rfl) (.inl rfl) ?_
    | refine es_set (i := 15) (Ct.nd (by assumption)) rfl (.inl rfl) (.inr rfl) ?_ | refine es_set (i := 15) (Ct.nd (by assumption)) rfl (.inr rfl) (.inl rfl) ?_
    | refine es_set (i := 16) (Ct.nd (by assumption)) rfl (.inl rfl) (.inr rfl) ?_ | refine es_set (i := 16) (Ct.nd (by assumption)) rfl (.inr rfl) (.inl rfl) ?_
    | refine es_set (i := 17) (Ct.nd (by assumption)) rfl (.inl rfl) (.inr rfl) ?_ | refine es_set (i := 17) (Ct.nd (by assumption)) rfl (.inr rfl) (.inl rfl) ?_
    | refine es_set (i := 18) (Ct.nd (by assumption)) rfl (.inl rfl) (.inr rfl) ?_ | refine es_set (i := 18) (Ct.nd (by assumption)) rfl (.inr rfl) (.inl rfl) ?_
    | refine es_set (i := 19) (Ct.nd (by assumption)) rfl (.inl rfl) (.inr rfl) ?_ | refine es_set (i := 19) (Ct.nd (by assumption)) rfl (.inr rfl) (.inl rfl) ?_
    | refine es_set (i := 20) (Ct.nd (by assumption)) rfl (.inl rfl) (.inr rfl) ?_ | refine es_set (i := 20) (Ct.nd (by assumption)) rfl (.inr rfl) (.inl rfl) ?_
    | refine es_set (i := 21) (Ct.nd (by assumption)) rfl (.inl rfl) (.inr rfl) ?_ | refine es_set (i := 21) (Ct.nd (by assumption)) rfl (.inr rfl) (.inl rfl) ?_
    | refine es_set (i := 22) (Ct.nd (by assumption)) rfl (.inl rfl) (.inr rfl) ?_ | refine es_set (i := 22) (Ct.nd (by assumption)) rfl (.inr rfl) (.inl rfl) ?_
    | refine es_set (i := 23) (Ct.nd (by assumption)) rfl (.inl rfl) (.inr rfl) ?_ | refine es_set (i := 23) (Ct.nd (by assumption)) rfl (.inr rfl) (.inl rfl) ?_)

/-! ### the data's forms -/
/-- data that the program may be asked about -/
def Good (n : Nat) (d : D) : Prop := okR n d = true ∧ szD d ≤ 4000000
theorem good_ty {n : Nat} {F : FS} {d : D} (h : Good n d) : ∃ t, tyQ F d = some t := by
  cases d with
  | scr _ => cases n <;> exact absurd h.1 (by simp [okR])
  | exc _ _ _ _ => cases n <;> exact absurd h.1 (by simp [okR])
  | raw _ => cases n <;> exact absurd h.1 (by simp [okR])
  | _ => exact ⟨_, rfl⟩
theorem szDs_mem {d : D} : ∀ {xs : List D}, d ∈ xs → szD d ≤ szDs xs
  | x :: xs, h => by
    rcases List.mem_cons.mp h with e | h
    · subst e
      simp only [szDs]
      omega
    · have := szDs_mem h
      simp only [szDs]
      omega
theorem szDs_len : ∀ (xs : List D), xs.length ≤ szDs xs
  | [] => Nat.zero_le _
  | x :: xs => by
    have := szDs_len xs
    simp only [szDs, List.length_cons]
    omega
theorem good_lst {n : Nat} {xs : List D} (h : Good n (.lst xs)) : ∀ d ∈ xs, Good (n - 1) d := fun d hd => by
  obtain ⟨h1, h2⟩ := h
  cases n with
  | zero => simp [okR] at h1
  | succ n =>
    have h3 : ∀ d ∈ xs, okR n d = true := by simpa [okR] using h1
    have := szDs_mem hd
    simp only [szD] at h2
    exact ⟨h3 d hd, by omega⟩
theorem good_tup {n : Nat} {xs : List D} (h : Good n (.tup xs)) : ∀ d ∈ xs, Good (n - 1) d := fun d hd => by
  obtain ⟨h1, h2⟩ := h
  cases n with
  | zero => simp [okR] at h1
  | succ n =>
    have h3 : ∀ d ∈ xs, okR n d = true := by simpa [okR] using h1
    have := szDs_mem hd
    simp only [szD] at h2
    exact ⟨h3 d hd, by omega⟩
/-- is v a whole number from lo to hi -/
def isIntD (v : D) (lo : Int) (hi : D) : Bool := match v with
  | .int n => decide (lo ≤ n) && (match hi with
    | .int h => decide (n ≤ h)
    | _ => true)
  | _ => false
def lettersS (x : Str) : Bool := x.cps.toList.all fun c => decide (97 ≤ c) && decide (c ≤ 122)
def lettersD (v : D) : Bool := match v with
  | .str x => lettersS x
  | _ => false
theorem ltS_one (a b : Nat) : ltS ⟨#[a]⟩ ⟨#[b]⟩ = decide (a < b) := by
  unfold ltS
  have : ([a] : List Nat) < [b] ↔ a < b := by
    rw [List.cons_lt_cons_iff]
    simp
  by_cases h : a < b
  · rw [decide_eq_true h, decide_eq_true (this.mpr h)]
  · rw [decide_eq_false h, decide_eq_false (fun z => h (this.mp z))]
theorem lettersS_one (c : Nat) : lettersS ⟨#[c]⟩ = (decide (97 ≤ c) && decide (c ≤ 122)) := by simp [lettersS]


/-! ### forms -/
def sIsInteger : Spec := fun ds F Φ _ => ∃ v lo hi n, ds = [v, .int lo, hi] ∧ (hi = .non ∨ ∃ h, hi = .int h) ∧ Good n v ∧ Φ (.bl (isIntD v lo hi)) F
abbrev nIsInteger : List Str := ["value", "low", "high"]
theorem scIsInteger : FnScope nIsInteger ["value", "low", "high"] (defScope (top 7)) := ⟨rfl, rfl, rfl, by decide +kernel, rfl, by decide +kernel, by decide +kernel⟩
theorem okIsInteger {W : Wd} (M : Md W) (a : At W "is_integer" (top 7))  : Ok W 1 "is_integer" (top 7) ["value", "low", "high"] sIsInteger := by
  refine Ok.of a scIsInteger (fun ds F Φ Ψ h => ?_) (fun _ _ _ _ _ _ us hl => match us, hl with | [_, _, _], _ => rfl) (fun f cdv A outer s0 H0 E C ds F Φ Ψ h => ?_)
  · obtain ⟨v, lo, hi, n, rfl, hhi, hv, k⟩ := h
    rfl
  obtain ⟨v, lo, hi, n, rfl, hhi, hv, k⟩ := h
  have hR := C.room
  walk_at "go"
  cases v with
  | int i =>
    refine ⟨_, rfl, ?_⟩
    walk_at "go"
    refine ⟨_, rfl, ?_⟩
    walk_at "go"
    refine ⟨fun hb => ?_, fun hb => ?_⟩
    · walk_at "go"
      have h1 : lo ≤ i := by simpa using hb
      rcases hhi with rfl | ⟨h, rfl⟩
      · refine brT ?_
        simpa [isIntD, h1] using k
      · refine brF ?_
        walk_at "go"
        simpa [isIntD, h1] using k
    · have h1 : ¬ lo ≤ i := by simpa using hb
      simpa [isIntD, h1] using k
  | bl i =>
    refine ⟨_, rfl, ?_⟩
    walk_at "go"
    refine ⟨_, rfl, ?_⟩
    walk_at "go"
    exact k
  | scr _ => cases n <;> exact absurd hv.1 (by simp [okR])
  | exc _ _ _ _ => cases n <;> exact absurd hv.1 (by simp [okR])
  | raw _ => cases n <;> exact absurd hv.1 (by simp [okR])
  | _ =>
    refine ⟨_, rfl, ?_⟩
    walk_at "go"
    exact k
theorem len_signs (x : Str) : (signsD x).length = x.length := by simp [signsD, Str.length]
theorem good_len {n : Nat} {x : Str} (h : Good n (.str x)) : x.length ≤ 400000 := by
  have h2 := h.2
  simp only [szD] at h2
  omega
theorem str_a : ("a" : Str) = ⟨#[97]⟩ := by decide
theorem str_z : ("z" : Str) = ⟨#[122]⟩ := by decide
theorem mem_signs {x : Str} {d : D} (h : d ∈ signsD x) : ∃ c, c ∈ x.cps.toList ∧ d = .str ⟨#[c]⟩ := by
  obtain ⟨c, h1, h2⟩ := List.mem_map.mp h
  exact ⟨c, h1, h2.symm⟩
theorem all_signs (x : Str) (p : D → Bool) (q : Nat → Bool) (h : ∀ c, p (.str ⟨#[c]⟩) = q c) : ((signsD x).map p).all id = x.cps.toList.all q := by
  unfold signsD
  rw [List.map_map, List.all_map]
  exact congrArg (fun f => x.cps.toList.all f) (funext h)
def sAreLetters : Spec := fun ds F Φ _ => ∃ v n, ds = [v] ∧ Good n v ∧ Φ (.bl (lettersD v)) F
abbrev nAreLetters : List Str := ["value", "letter"]
theorem scAreLetters : FnScope nAreLetters ["value"] (defScope (top 8)) := ⟨rfl, rfl, rfl, by decide +kernel, rfl, by decide +kernel, by decide +kernel⟩
theorem okAreLetters {W : Wd} (M : Md W) (a : At W "are_letters" (top 8))  : Ok W 1 "are_letters" (top 8) ["value"] sAreLetters := by
  refine Ok.of a scAreLetters (fun ds F Φ Ψ h => ?_) (fun _ _ _ _ _ _ us hl => match us, hl with | [_], _ => rfl) (fun f cdv A outer s0 H0 E C ds F Φ Ψ h => ?_)
  · obtain ⟨v, n, rfl, hv, k⟩ := h
    rfl
  obtain ⟨v, n, rfl, hv, k⟩ := h
  have hR := C.room
  walk_at "go"
  cases v with
  | str x =>
    refine ⟨_, rfl, ?_⟩
    walk_at "go"
    refine ev_map rfl C.nd (own := [("letter", 1)]) (blkOk_by (N := nAreLetters) (sc := defScope (top 8)) (by decide +kernel)) (fun d => .bl (lettersD d)) (ei_str ?_)
    walk_at "go"
    have hl := good_len hv
    refine ⟨by rw [len_signs]; exact le_line (by omega), fun d F2 hd => ⟨_, fun s H B cl fp => gc_name (pg_name (i := 1) C.nd rfl (.inl rfl)) (by simp) ⟨rfl, rfl⟩, fun s H B cl fp => ?_⟩, ?_⟩
    · obtain ⟨c, _, rfl⟩ := mem_signs hd
      walk_at "go"
      rw [str_a, str_z]
      refine ⟨fun hb => ?_, fun hb => ?_⟩
      · walk_at "go"
        rw [ltS_one] at hb
        rw [ltS_one]
        have h1 : 97 ≤ c := by simpa using hb
        refine ⟨?_, rfl⟩
        show D.bl _ = D.bl (lettersS _)
        rw [lettersS_one]
        by_cases h2 : c ≤ 122
        · have h3 : ¬ 122 < c := by omega
          simp [h1, h2, h3]
        · have h3 : 122 < c := by omega
          simp [h1, h2, h3]
      · rw [ltS_one] at hb
        have h1 : ¬ 97 ≤ c := by simpa using hb
        refine ⟨?_, rfl⟩
        show D.bl _ = D.bl (lettersS _)
        rw [lettersS_one]
        simp [h1]
    · refine blsD_map ?_
      rw [all_signs x lettersD (fun c => decide (97 ≤ c) && decide (c ≤ 122)) lettersS_one]
      exact k
  | scr _ => cases n <;> exact absurd hv.1 (by simp [okR])
  | exc _ _ _ _ => cases n <;> exact absurd hv.1 (by simp [okR])
  | raw _ => cases n <;> exact absurd hv.1 (by simp [okR])
  | _ =>
    refine ⟨_, rfl, ?_⟩
    walk_at "go"
    exact k
def wordS (x : Str) : Bool := lettersS x && decide (x ≠ "")
def wordD (v : D) : Bool := match v with
  | .str x => wordS x
  | _ => false
def sHasWord : Spec := fun ds F Φ _ => ∃ v n, ds = [v] ∧ Good n v ∧ Φ (.bl (wordD v)) F
theorem lettersD_str {v : D} (h : lettersD v = true) : ∃ x, v = .str x ∧ lettersS x = true := by
  cases v with
  | str x => exact ⟨x, rfl, h⟩
  | _ => exact absurd h (by simp [lettersD])
abbrev nHasWord : List Str := ["value"]
theorem scHasWord : FnScope nHasWord ["value"] (defScope (top 9)) := ⟨rfl, rfl, rfl, by decide +kernel, rfl, by decide +kernel, by decide +kernel⟩
theorem okHasWord {W : Wd} (M : Md W) (a : At W "has_word_form" (top 9)) (hAreLetters : Ok W 1 "are_letters" (top 8) ["value"] sAreLetters) : Ok W 2 "has_word_form" (top 9) ["value"] sHasWord := by
  refine Ok.of a scHasWord (fun ds F Φ Ψ h => ?_) (fun _ _ _ _ _ _ us hl => match us, hl with | [_], _ => rfl) (fun f cdv A outer s0 H0 E C ds F Φ Ψ h => ?_)
  · obtain ⟨v, n, rfl, hv, k⟩ := h
    rfl
  obtain ⟨v, n, rfl, hv, k⟩ := h
  have hR := C.room
  walk_at "go"
  refine ev_call hAreLetters (C.room.mono (by decide)) rfl ?_
  walk_at "go"
  refine ⟨v, n, rfl, hv, ?_⟩
  walk_at "go"
  refine ⟨fun hb => ?_, fun hb => ?_⟩
  · obtain ⟨x, rfl, h1⟩ := lettersD_str hb
    walk_at "go"
    show Φ _ F
    have e : (!decide (x = "")) = wordS x := by
      unfold wordS
      rw [h1]
      by_cases e : x = "" <;> simp [e]
    rw [e]
    exact k
  · have e : wordD v = false := by
      cases v with
      | str x => 
        have h1 : lettersS x = false := hb
        simp [wordD, wordS, h1]
      | _ => rfl
    rw [e] at k
    exact k
/-- the texts of a list -/
def strsD : List D → List Str
  | [] => []
  | .str x :: xs => x :: strsD xs
  | _ :: xs => strsD xs
def wordsD (v : D) : Bool := match v with
  | .lst xs => xs.all wordD && decide (strsD xs).Nodup
  | _ => false
def lenD : D → Nat
  | .lst xs => xs.length
  | _ => 0
theorem strsD_all : ∀ {xs : List D}, xs.all wordD = true → xs = (strsD xs).map D.str ∧ (strsD xs).all wordS = true
  | [], _ => ⟨rfl, rfl⟩
  | d :: xs, h => by
    rw [List.all_cons, Bool.and_eq_true] at h
    obtain ⟨h1, h2⟩ := strsD_all h.2
    cases d with
    | str x =>
      refine ⟨?_, ?_⟩
      · show D.str x :: xs = D.str x :: (strsD xs).map D.str
        rw [← h1]
      · show (wordS x && (strsD xs).all wordS) = true
        rw [h2, show wordS x = true from h.1]
        rfl
    | _ => exact absurd h.1 (by simp [wordD])
def sDiffWords : Spec := fun ds F Φ _ => ∃ v n, ds = [v] ∧ Good n v ∧ lenD v < 4000 ∧ Φ (.bl (wordsD v)) F
theorem all_map_id {α : Type} (xs : List α) (p : α → Bool) : (xs.map p).all id = xs.all p := by rw [List.all_map]; rfl
abbrev nDiffWords : List Str := ["value", "word"]
theorem scDiffWords : FnScope nDiffWords ["value"] (defScope (top 10)) := ⟨rfl, rfl, rfl, by decide +kernel, rfl, by decide +kernel, by decide +kernel⟩
theorem okDiffWords {W : Wd} (M : Md W) (a : At W "are_different_words" (top 10)) (hHasWord : Ok W 2 "has_word_form" (top 9) ["value"] sHasWord) : Ok W 3 "are_different_words" (top 10) ["value"] sDiffWords := by
  refine Ok.of a scDiffWords (fun ds F Φ Ψ h => ?_) (fun _ _ _ _ _ _ us hl => match us, hl with | [_], _ => rfl) (fun f cdv A outer s0 H0 E C ds F Φ Ψ h => ?_)
  · obtain ⟨v, n, rfl, hv, hl, k⟩ := h
    rfl
  obtain ⟨v, n, rfl, hv, hl, k⟩ := h
  have hR := C.room
  walk_at "go"
  cases v with
  | lst xs =>
    refine ⟨_, rfl, ?_⟩
    walk_at "go"
    refine ev_map rfl C.nd (own := [("word", 1)]) (blkOk_by (N := nDiffWords) (sc := defScope (top 10)) (by decide +kernel)) (fun d => .bl (wordD d)) (ei_list ?_)
    walk_at "go"
    have hl2 : xs.length < 4000 := hl
    refine ⟨le_line (by omega), fun d F2 hd => ⟨_, fun s H B cl fp => gc_name (pg_name (i := 1) C.nd rfl (.inl rfl)) (by simp) ⟨rfl, rfl⟩, fun s H B cl fp => ?_⟩, ?_⟩
    · refine ev_call hHasWord (C.room.mono (by decide)) rfl ?_
      walk_at "go"
      exact ⟨d, _, rfl, good_lst hv d hd, rfl, rfl⟩
    · refine blsD_map ?_
      rw [all_map_id]
      walk_at "go"
      refine ⟨fun hb => ?_, fun hb => ?_⟩
      · obtain ⟨e1, e2⟩ := strsD_all hb
        have e3 : xs.length = (strsD xs).length := by
          have := congrArg List.length e1
          rwa [List.length_map] at this
        walk_at "go"
        refine ⟨strsD xs, by rw [← e1], by omega, ?_⟩
        walk_at "go"
        have e4 : wordsD (.lst xs) = decide (((metS (strsD xs)).length : Int) = (xs.length : Int)) := by
          show (xs.all wordD && decide (strsD xs).Nodup) = _
          rw [hb, Bool.true_and]
          refine decide_eq_decide.mpr ?_
          rw [← metS_full, e3]
          omega
        rw [e4] at k
        exact k
      · have e4 : wordsD (.lst xs) = false := by
          show (xs.all wordD && decide (strsD xs).Nodup) = false
          rw [hb]
          rfl
        rw [e4] at k
        exact k
  | scr _ => cases n <;> exact absurd hv.1 (by simp [okR])
  | exc _ _ _ _ => cases n <;> exact absurd hv.1 (by simp [okR])
  | raw _ => cases n <;> exact absurd hv.1 (by simp [okR])
  | _ =>
    refine ⟨_, rfl, ?_⟩
    walk_at "go"
    exact k
def shownD (b : Str) (l : Int) (v : D) : Bool := match v with
  | .lst xs => wordsD (.lst xs) && decide ((xs.length : Int) ≤ l) && (strsD xs).all fun x => Txt.startswith x b
  | _ => false
theorem wordsD_lst {v : D} (h : wordsD v = true) : ∃ ws : List Str, v = .lst (ws.map D.str) ∧ ws.all wordS = true ∧ ws.Nodup ∧ strsD (ws.map D.str) = ws := by
  cases v with
  | lst xs =>
    have h' : (xs.all wordD && decide (strsD xs).Nodup) = true := h
    rw [Bool.and_eq_true, decide_eq_true_eq] at h'
    obtain ⟨e1, e2⟩ := strsD_all h'.1
    exact ⟨strsD xs, by rw [← e1], e2, h'.2, by rw [← e1]⟩
  | _ => exact absurd h (by simp [wordsD])
def sIsShown : Spec := fun ds F Φ _ => ∃ b l v n, ds = [.str b, .int l, v] ∧ Good n v ∧ lenD v < 4000 ∧ Φ (.bl (shownD b l v)) F
abbrev nIsShown : List Str := ["beginning", "limit", "value", "word"]
theorem scIsShown : FnScope nIsShown ["beginning", "limit", "value"] (defScope (top 11)) := ⟨rfl, rfl, rfl, by decide +kernel, rfl, by decide +kernel, by decide +kernel⟩
theorem okIsShown {W : Wd} (M : Md W) (a : At W "is_shown_list" (top 11)) (hDiffWords : Ok W 3 "are_different_words" (top 10) ["value"] sDiffWords) : Ok W 4 "is_shown_list" (top 11) ["beginning", "limit", "value"] sIsShown := by
  refine Ok.of a scIsShown (fun ds F Φ Ψ h => ?_) (fun _ _ _ _ _ _ us hl => match us, hl with | [_, _, _], _ => rfl) (fun f cdv A outer s0 H0 E C ds F Φ Ψ h => ?_)
  · obtain ⟨b, l, v, n, rfl, hv, hl, k⟩ := h
    rfl
  obtain ⟨b, l, v, n, rfl, hv, hl, k⟩ := h
  have hR := C.room
  walk_at "go"
  refine ev_call hDiffWords (C.room.mono (by decide)) rfl ?_
  walk_at "go"
  refine ⟨v, n, rfl, hv, hl, ?_⟩
  walk_at "go"
  refine ⟨fun hb => ?_, fun hb => ?_⟩
  · have hb : wordsD v = false := by simpa using hb
    walk_at "go"
    have e : shownD b l v = false := by
      cases v with
      | lst xs => simp [shownD, hb]
      | _ => rfl
    rw [e] at k
    exact k
  · have hb : wordsD v = true := by simpa using hb
    obtain ⟨ws, rfl, h1, h2, h3⟩ := wordsD_lst hb
    walk_at "go"
    have hlen : (ws.map D.str).length = ws.length := List.length_map ..
    have hl2 : ws.length < 4000 := by rw [← hlen]; exact hl
    refine ⟨fun hc => ?_, fun hc => ?_⟩
    · have hc : ¬ ((ws.map D.str).length : Int) ≤ l := by simpa using hc
      walk_at "go"
      have e : shownD b l (.lst (ws.map D.str)) = false := by simp [shownD, hc, -List.length_map]
      rw [e] at k
      exact k
    · have hc : ((ws.map D.str).length : Int) ≤ l := by simpa using hc
      walk_at "go"
      refine ev_map rfl C.nd (own := [("word", 3)]) (blkOk_by (N := nIsShown) (sc := defScope (top 11)) (by decide +kernel)) (fun d => .bl (match d with | .str x => Txt.startswith x b | _ => false)) (ei_list ?_)
      walk_at "go"
      refine ⟨le_line (by rw [hlen]; omega), fun d F2 hd => ⟨_, fun s H B cl fp => gc_name (pg_name (i := 3) C.nd rfl (.inl rfl)) (by simp) ⟨rfl, rfl⟩, fun s H B cl fp => ?_⟩, ?_⟩
      · obtain ⟨x, _, rfl⟩ := List.mem_map.mp hd
        walk_at "go"
        refine ⟨x, rfl, ?_⟩
        walk_at "go"
        exact ⟨b, rfl, rfl, rfl⟩
      · refine blsD_map ?_
        rw [all_map_id, List.all_map]
        have e : shownD b l (.lst (ws.map D.str)) = ws.all fun x => Txt.startswith x b := by
          show (wordsD (.lst (ws.map D.str)) && decide (((ws.map D.str).length : Int) ≤ l) && (strsD (ws.map D.str)).all fun x => Txt.startswith x b) = _
          rw [hb, h3, decide_eq_true hc]
          rfl
        rw [e] at k
        exact k
def sIsLimit : Spec := fun ds F Φ _ => ∃ v n, ds = [v] ∧ Good n v ∧ Φ (.bl (isIntD v 1 (.int 20))) F
abbrev nIsLimit : List Str := ["value"]
theorem scIsLimit : FnScope nIsLimit ["value"] (defScope (top 12)) := ⟨rfl, rfl, rfl, by decide +kernel, rfl, by decide +kernel, by decide +kernel⟩
theorem okIsLimit {W : Wd} (M : Md W) (a : At W "is_limit" (top 12)) (hIsInteger : Ok W 1 "is_integer" (top 7) ["value", "low", "high"] sIsInteger) : Ok W 2 "is_limit" (top 12) ["value"] sIsLimit := by
  refine Ok.of a scIsLimit (fun ds F Φ Ψ h => ?_) (fun _ _ _ _ _ _ us hl => match us, hl with | [_], _ => rfl) (fun f cdv A outer s0 H0 E C ds F Φ Ψ h => ?_)
  · obtain ⟨v, n, rfl, hv, k⟩ := h
    rfl
  obtain ⟨v, n, rfl, hv, k⟩ := h
  have hR := C.room
  walk_at "go"
  refine ev_call hIsInteger (C.room.mono (by decide)) rfl ?_
  walk_at "go"
  refine ev_gint M.MOST_WORDS ?_
  walk_at "go"
  exact ⟨v, 1, .int 20, n, rfl, .inr ⟨_, rfl⟩, hv, k⟩
def screenD (v : D) : Bool := match v with
  | .tup [.str b, .int l, w] => lettersS b && isIntD (.int l) 1 (.int 20) && shownD b l w
  | _ => false
/-- a screen's list is not too long to be asked about -/
def lensOk : D → Prop
  | .tup [_, _, w] => lenD w < 4000
  | _ => True
theorem screenD_no {v : D} {vs : List D} (e : v = .tup vs) (h : vs.length ≠ 3) : screenD v = false := by
  subst e
  unfold screenD
  split
  · rename_i b l w e
    cases e
    exact absurd rfl h
  · rfl
def sScreenForm : Spec := fun ds F Φ _ => ∃ v n, ds = [v] ∧ Good n v ∧ lensOk v ∧ Φ (.bl (screenD v)) F
abbrev nScreenForm : List Str := ["value", "beginning", "limit", "shown"]
theorem scScreenForm : FnScope nScreenForm ["value"] (defScope (top 13)) := ⟨rfl, rfl, rfl, by decide +kernel, rfl, by decide +kernel, by decide +kernel⟩
theorem okScreenForm {W : Wd} (M : Md W) (a : At W "has_screen_form" (top 13)) (hAreLetters : Ok W 1 "are_letters" (top 8) ["value"] sAreLetters) (hIsLimit : Ok W 2 "is_limit" (top 12) ["value"] sIsLimit) (hIsShown : Ok W 4 "is_shown_list" (top 11) ["beginning", "limit", "value"] sIsShown) : Ok W 5 "has_screen_form" (top 13) ["value"] sScreenForm := by
  refine Ok.of a scScreenForm (fun ds F Φ Ψ h => ?_) (fun _ _ _ _ _ _ us hl => match us, hl with | [_], _ => rfl) (fun f cdv A outer s0 H0 E C ds F Φ Ψ h => ?_)
  · obtain ⟨v, n, rfl, hv, hlo, k⟩ := h
    rfl
  obtain ⟨v, n, rfl, hv, hlo, k⟩ := h
  have hR := C.room
  walk_at "go"
  cases v with
  | tup xs =>
    refine ⟨_, rfl, ?_⟩
    walk_at "go"
    refine ⟨fun hb => ?_, fun hb => ?_⟩
    · walk_at "go"
      rw [screenD_no rfl (by
        intro e
        rw [e] at hb
        simp at hb)] at k
      exact k
    · walk_at "go"
      have hb : xs.length = 3 := by
        have : (xs.length : Int) = 3 := by simpa using hb
        omega
      obtain ⟨b, l, w, rfl⟩ : ∃ b l w, xs = [b, l, w] := by
        match xs, hb with
        | [b, l, w], _ => exact ⟨b, l, w, rfl⟩
      have gb := good_tup hv b (by simp)
      have gl := good_tup hv l (by simp)
      have gw := good_tup hv w (by simp)
      refine es_asg ?_
      walk_at "go"
      refine eg_tup rfl ?_
      walk_at "go"
      refine ⟨rfl, egs_cons (eg_name (pg_name (i := 1) C.nd rfl (.inl rfl)) (egs_cons (eg_name (pg_name (i := 2) C.nd rfl (.inl rfl)) (egs_cons (eg_name (pg_name (i := 3) C.nd rfl (.inl rfl)) (egs_nil ?_))))))⟩
      walk_at "go"
      refine ev_call hAreLetters (C.room.mono (by decide)) rfl ?_
      walk_at "go"
      refine ⟨b, _, rfl, gb, ?_⟩
      walk_at "go"
      refine ⟨fun hc => ?_, fun hc => ?_⟩
      · walk_at "go"
        have hc : lettersD b = false := by simpa using hc
        have e : screenD (.tup [b, l, w]) = false := by
          unfold screenD
          split
          · rename_i b l w e
            cases e
            have : lettersS b = false := hc
            simp [this]
          · rfl
        rw [e] at k
        exact k
      · have hc : lettersD b = true := by simpa using hc
        obtain ⟨b, rfl, hb1⟩ := lettersD_str hc
        walk_at "go"
        refine ev_call hIsLimit (C.room.mono (by decide)) rfl ?_
        walk_at "go"
        refine ⟨l, _, rfl, gl, ?_⟩
        walk_at "go"
        refine ⟨fun hd => ?_, fun hd => ?_⟩
        · walk_at "go"
          have hd : isIntD l 1 (.int 20) = false := by simpa using hd
          have e : screenD (.tup [.str b, l, w]) = false := by
            unfold screenD
            split
            · rename_i b l w e
              cases e
              simp [hd]
            · rfl
          rw [e] at k
          exact k
        · have hd : isIntD l 1 (.int 20) = true := by simpa using hd
          obtain ⟨i, rfl⟩ : ∃ i, l = .int i := by
            cases l with
            | int i => exact ⟨i, rfl⟩
            | _ => exact absurd hd (by simp [isIntD])
          walk_at "go"
          refine ev_call hIsShown (C.room.mono (by decide)) rfl ?_
          walk_at "go"
          refine ⟨b, i, w, _, rfl, gw, hlo, ?_⟩
          have e : screenD (.tup [.str b, .int i, w]) = shownD b i w := by
            show (lettersS b && isIntD (.int i) 1 (.int 20) && shownD b i w) = _
            rw [hb1, hd]
            rfl
          rw [e] at k
          exact k
  | scr _ => cases n <;> exact absurd hv.1 (by simp [okR])
  | exc _ _ _ _ => cases n <;> exact absurd hv.1 (by simp [okR])
  | raw _ => cases n <;> exact absurd hv.1 (by simp [okR])
  | _ =>
    refine ⟨_, rfl, ?_⟩
    walk_at "go"
    exact k
abbrev sIsScreen : Spec := sScreenForm
abbrev nIsScreen : List Str := ["value"]
theorem scIsScreen : FnScope nIsScreen ["value"] (defScope (top 16)) := ⟨rfl, rfl, rfl, by decide +kernel, rfl, by decide +kernel, by decide +kernel⟩
theorem okIsScreen {W : Wd} (M : Md W) (a : At W "is_screen" (top 16)) (hScreenForm : Ok W 5 "has_screen_form" (top 13) ["value"] sScreenForm) : Ok W 6 "is_screen" (top 16) ["value"] sIsScreen := by
  refine Ok.of a scIsScreen (fun ds F Φ Ψ h => ?_) (fun _ _ _ _ _ _ us hl => match us, hl with | [_], _ => rfl) (fun f cdv A outer s0 H0 E C ds F Φ Ψ h => ?_)
  · obtain ⟨v, n, rfl, hv, hlo, k⟩ := h
    rfl
  obtain ⟨v, n, rfl, hv, hlo, k⟩ := h
  have hR := C.room
  walk_at "go"
  refine ev_call hScreenForm (C.room.mono (by decide)) rfl ?_
  walk_at "go"
  exact ⟨v, n, rfl, hv, hlo, k⟩

/-! ### screens -/
def screensD (v : D) : Bool := match v with
  | .lst xs => decide (xs.length ≤ 20) && xs.all screenD
  | _ => false
def sScreensForm : Spec := fun ds F Φ _ => ∃ v n, ds = [v] ∧ Good n v ∧ (∀ xs, v = .lst xs → ∀ d ∈ xs, lensOk d) ∧ Φ (.bl (screensD v)) F
abbrev nScreensForm : List Str := ["value", "screen"]
theorem scScreensForm : FnScope nScreensForm ["value"] (defScope (top 14)) := ⟨rfl, rfl, rfl, by decide +kernel, rfl, by decide +kernel, by decide +kernel⟩
theorem okScreensForm {W : Wd} (M : Md W) (a : At W "has_screens_form" (top 14)) (hScreenForm : Ok W 5 "has_screen_form" (top 13) ["value"] sScreenForm) : Ok W 6 "has_screens_form" (top 14) ["value"] sScreensForm := by
  refine Ok.of a scScreensForm (fun ds F Φ Ψ h => ?_) (fun _ _ _ _ _ _ us hl => match us, hl with | [_], _ => rfl) (fun f cdv A outer s0 H0 E C ds F Φ Ψ h => ?_)
  · obtain ⟨v, n, rfl, hv, hl, k⟩ := h
    rfl
  obtain ⟨v, n, rfl, hv, hl, k⟩ := h
  have hR := C.room
  walk_at "go"
  cases v with
  | lst xs =>
    refine ⟨_, rfl, ?_⟩
    walk_at "go"
    refine ev_gint M.MOST_SCREENS ?_
    walk_at "go"
    refine ⟨fun hb => ?_, fun hb => ?_⟩
    · walk_at "go"
      have hb : ¬ xs.length ≤ 20 := by
        have := of_decide_eq_true hb
        omega
      simpa [screensD, hb] using k
    · have hb : xs.length ≤ 20 := by
        have := of_decide_eq_false hb
        omega
      walk_at "go"
      refine ev_map rfl C.nd (own := [("screen", 1)]) (blkOk_by (N := nScreensForm) (sc := defScope (top 14)) (by decide +kernel)) (fun d => .bl (screenD d)) (ei_list ?_)
      walk_at "go"
      refine ⟨le_line (by omega), fun d F2 hd => ⟨_, fun s H B cl fp => gc_name (pg_name (i := 1) C.nd rfl (.inl rfl)) (by simp) ⟨rfl, rfl⟩, fun s H B cl fp => ?_⟩, ?_⟩
      · refine ev_call hScreenForm (C.room.mono (by decide)) rfl ?_
        walk_at "go"
        exact ⟨d, _, rfl, good_lst hv d hd, hl xs rfl d hd, rfl, rfl⟩
      · refine blsD_map ?_
        rw [all_map_id]
        have e : screensD (.lst xs) = xs.all screenD := by simp [screensD, hb]
        rw [e] at k
        exact k
  | scr _ => cases n <;> exact absurd hv.1 (by simp [okR])
  | exc _ _ _ _ => cases n <;> exact absurd hv.1 (by simp [okR])
  | raw _ => cases n <;> exact absurd hv.1 (by simp [okR])
  | _ =>
    refine ⟨_, rfl, ?_⟩
    walk_at "go"
    exact k
abbrev sAreScreens : Spec := sScreensForm
abbrev nAreScreens : List Str := ["value"]
theorem scAreScreens : FnScope nAreScreens ["value"] (defScope (top 17)) := ⟨rfl, rfl, rfl, by decide +kernel, rfl, by decide +kernel, by decide +kernel⟩
theorem okAreScreens {W : Wd} (M : Md W) (a : At W "are_screens" (top 17)) (hScreensForm : Ok W 6 "has_screens_form" (top 14) ["value"] sScreensForm) : Ok W 7 "are_screens" (top 17) ["value"] sAreScreens := by
  refine Ok.of a scAreScreens (fun ds F Φ Ψ h => ?_) (fun _ _ _ _ _ _ us hl => match us, hl with | [_], _ => rfl) (fun f cdv A outer s0 H0 E C ds F Φ Ψ h => ?_)
  · obtain ⟨v, n, rfl, hv, hl, k⟩ := h
    rfl
  obtain ⟨v, n, rfl, hv, hl, k⟩ := h
  have hR := C.room
  walk_at "go"
  refine ev_call hScreensForm (C.room.mono (by decide)) rfl ?_
  walk_at "go"
  exact ⟨v, n, rfl, hv, hl, k⟩

end TM

set_option Elab.async false
set_option linter.all false
set_option maxRecDepth 100000
set_option maxHeartbeats 4000000
set_option pp.maxSteps 500
namespace TM
open PySem PySem.Spec PyProof.Rows L2
local macro_rules
  | `(tactic| walk_at "iv") => `(tactic| first | exact pv 0 | exact pv 1 | exact pv 2 | exact pv 3 | exact pv 4 | exact pv 5 | exact pv 6 | exact pv 7 | exact pv 8 | exact pv 9 | exact pv 10 | exact pv 11 | exact pv 12 | exact pv 13 | exact pv 14 | exact pv 15 | exact pv 16 | exact pv 17 | exact pv 18 | exact pv 19 | exact pv 20 | exact pv 21 | exact pv 22 | exact pv 23)
  | `(tactic| walk_at "mg") => `(tactic| exact Md.bi (by assumption) _ (by decide))
  | `(tactic| walk_at "ev") => `(tactic| first
    | ((with_reducible show Ev _ _ _ _ (.Name _ _) _); refine ev_var (by walk_at "iv") (by with_unfolding_all rfl) ?_)
    | ((with_reducible show Ev _ _ _ _ (.Constant _ _ _) _); first | refine ev_int ?_ | refine ev_str ?_ | refine ev_bl ?_ | refine ev_non ?_)
    | ((with_reducible show Ev _ _ _ _ (.BinOp (.List _ _) .Mult _ _) _); refine ev_rep ?_)
    | ((with_reducible show Ev _ _ _ _ (.BinOp _ _ _ _) _); first | refine ev_add ?_ | refine ev_sub ?_ | refine ev_mod ?_ | refine ev_fdivW ?_ | refine ev_pow ?_ | refine ev_mul ?_)
    | ((with_reducible show Ev _ _ _ _ (.Compare _ [_] _ _) _); first | refine ev_isN ?_ | refine ev_notN ?_ | refine ev_lt ?_ | refine ev_le ?_ | refine ev_gt ?_ | refine ev_ge ?_ | refine ev_eq (RoomG.mono (by assumption) (Nat.zero_le _)) ?_ | refine ev_ne (RoomG.mono (by assumption) (Nat.zero_le _)) ?_ | refine ev_in ?_ | refine ev_nin ?_)
    | ((with_reducible show Ev _ _ _ _ (.Compare _ _ _ _) _); refine ev_chain ord_le ord_le ?_)
    | ((with_reducible show Ev _ _ _ _ (.BoolOp _ _ _) _); first | refine ev_b1 ?_ | refine ev_and ?_ | refine ev_or ?_)
    | ((with_reducible show Ev _ _ _ _ (.UnaryOp _ _ _) _); first | refine ev_not ?_ | refine ev_neg ?_)
    | ((with_reducible show Ev _ _ _ _ (.IfExp _ _ _ _) _); refine ev_if ?_)
    | ((with_reducible show Ev _ _ _ _ (.Tuple _ _ _) _); refine ev_tup ?_)
    | ((with_reducible show Ev _ _ _ _ (.List _ _) _); refine ev_lst ?_)
    | ((with_reducible show Ev _ _ _ _ (.Dict _ _ _) _); refine ev_dct0 ?_)
    | ((with_reducible show Ev _ _ _ _ (.Subscript _ (.Slice _ _ _ _) _) _); refine ev_slice ?_)
    | ((with_reducible show Ev _ _ _ _ (.Subscript _ _ _) _); refine ev_ix ?_)
    | ((with_reducible show Ev _ _ _ _ (.Call (.Name "isinstance" _) [_, .Name "int" _] _ _) _); refine ev_isInt (by walk_at "mg") (by walk_at "mg") ?_)
    | ((with_reducible show Ev _ _ _ _ (.Call (.Name "isinstance" _) [_, .Name "bool" _] _ _) _); refine ev_isBool (by walk_at "mg") (by walk_at "mg") ?_)
    | ((with_reducible show Ev _ _ _ _ (.Call (.Name "isinstance" _) [_, .Name "str" _] _ _) _); refine ev_isStr (by walk_at "mg") (by walk_at "mg") ?_)
    | ((with_reducible show Ev _ _ _ _ (.Call (.Name "isinstance" _) [_, .Name "list" _] _ _) _); refine ev_isList (by walk_at "mg") (by walk_at "mg") ?_)
    | ((with_reducible show Ev _ _ _ _ (.Call (.Name "isinstance" _) [_, .Name "tuple" _] _ _) _); refine ev_isTup (by walk_at "mg") (by walk_at "mg") ?_)
    | ((with_reducible show Ev _ _ _ _ (.Call (.Name "len" _) [.Call (.Name "set" _) _ _ _] _ _) _); refine ev_lenS rfl (by walk_at "mg") (by walk_at "mg") ?_)
    | ((with_reducible show Ev _ _ _ _ (.Call (.Name "len" _) _ _ _) _); refine ev_len (by walk_at "mg") ?_)
    | ((with_reducible show Ev _ _ _ _ (.Call (.Name "abs" _) _ _ _) _); refine ev_abs (by walk_at "mg") ?_)
    | ((with_reducible show Ev _ _ _ _ (.Call (.Name "all" _) _ _ _) _); refine ev_all rfl (by walk_at "mg") ?_)
    | ((with_reducible show Ev _ _ _ _ (.Call (.Name "any" _) _ _ _) _); refine ev_any rfl (by walk_at "mg") ?_)
    | ((with_reducible show Ev _ _ _ _ (.Call (.Name "max" _) _ _ _) _); refine ev_max2 rfl (by walk_at "mg") ?_)
    | ((with_reducible show Ev _ _ _ _ (.Call (.Name "min" _) _ _ _) _); refine ev_min2 rfl (by walk_at "mg") ?_)
    | ((with_reducible show Ev _ _ _ _ (.Call (.Name "str" _) _ _ _) _); refine ev_strOf (by walk_at "mg") ?_)
    | ((with_reducible show Ev _ _ _ _ (.Call (.Name "int" _) _ _ _) _); refine ev_intOf (by walk_at "mg") ?_)
    | ((with_reducible show Ev _ _ _ _ (.Call (.Name "list" _) _ _ _) _); refine ev_listOf rfl (by walk_at "mg") ?_)
    | ((with_reducible show Ev _ _ _ _ (.Call (.Name "tuple" _) _ _ _) _); refine ev_tupOf (by walk_at "mg") ?_)
    | ((with_reducible show Ev _ _ _ _ (.Call (.Name "repr" _) _ _ _) _); refine ev_repr (RoomG.mono (by assumption) (Nat.zero_le _)) (by walk_at "mg") ?_)
    | ((with_reducible show Ev _ _ _ _ (.Call (.Attribute _ "startswith" _) _ _ _) _); refine ev_startswith ?_)
    | ((with_reducible show Ev _ _ _ _ (.Call (.Attribute _ "split" _) _ _ _) _); refine ev_split ?_)
    | ((with_reducible show Ev _ _ _ _ (.Call (.Attribute _ "join" _) _ _ _) _); refine ev_join ?_)
    | ((with_reducible show Ev _ _ _ _ (.Call (.Attribute _ "append" _) _ _ _) _); refine ev_append ?_)
    | ((with_reducible show Ev _ _ _ _ (.Call (.Attribute _ "extend" _) _ _ _) _); refine ev_extend ?_)
    | ((with_reducible show Ev _ _ _ _ (.Call (.Attribute _ "pop" _) _ _ _) _); first | refine ev_popAt ?_ | refine ev_pop0 ?_)
    | ((with_reducible show Ev _ _ _ _ (.Call (.Attribute _ "reverse" _) _ _ _) _); refine ev_reverse ?_)
    | ((with_reducible show Ev _ _ _ _ (.Call (.Attribute _ "clear" _) _ _ _) _); refine ev_clear ?_))
  | `(tactic| walk_at "et") => `(tactic| first
    | ((with_reducible show Et _ _ _ _ (.Compare _ [_] _ _) _); first | refine et_isN ?_ | refine et_notN ?_ | refine et_lt ?_ | refine et_le ?_ | refine et_gt ?_ | refine et_ge ?_ | refine et_eq (RoomG.mono (by assumption) (Nat.zero_le _)) ?_ | refine et_ne (RoomG.mono (by assumption) (Nat.zero_le _)) ?_ | refine et_in ?_ | refine et_nin ?_)
    | ((with_reducible show Et _ _ _ _ (.Compare _ [_, _] _ _) _); refine et_chain ord_le ord_le ?_)
    | ((with_reducible show Et _ _ _ _ (.UnaryOp _ _ _) _); refine et_not ?_)
    | ((with_reducible show Et _ _ _ _ (.BoolOp _ _ _) _); first | refine et_w (ew_or ?_) | refine et_w (ew_and ?_))
    | refine et_val ?_)
  | `(tactic| walk_at "es") => `(tactic| first | refine es_pass ?_ | refine es_break ?_ | refine es_continue ?_ | refine es_ret ?_ | refine es_retN ?_ | refine es_if ?_ | refine es_expr ?_)
  | `(tactic| walk_at "da") => `(tactic| first
    | ((with_reducible show BlD _ _); refine d_bl ?_) | ((with_reducible show IntD _ _); refine d_int ?_) | ((with_reducible show StrD _ _); refine d_str ?_) | ((with_reducible show LstD _ _); refine d_lst ?_) | ((with_reducible show TupD _ _); refine d_tup ?_)
    | ((with_reducible show StarD _ _); first | refine d_star ?_ | refine d_starT ?_)
    | ((with_reducible show OrdD _ _ _ _ _); first | refine d_ordI ?_ | refine d_ordS ?_)
    | ((with_reducible show EqD _ _ _); first | refine d_eqI ?_ | refine d_eqS ?_ | refine d_eqB ?_)
    | ((with_reducible show AddD _ _ _); refine d_addI ?_)
    | ((with_reducible show InD _ _ _); refine d_inS ?_)
    | ((with_reducible show SlD _ _ _ _ _); refine d_slL ?_)
    | ((with_reducible show IxD _ _ _ _); first | refine d_ixL (by rfl) ?_ | refine d_ixT (by rfl) ?_)
    | ((with_reducible show LenD _ _ _); first | refine d_lenL ?_ | refine d_lenT ?_ | refine d_lenC ?_)
    | ((with_reducible show StrOfD _ _); refine d_stS ?_)
    | ((with_reducible show Br _ _ _); first | refine brT ?_ | refine brF ?_)
    | ((with_reducible show CPowW 10 _ ∧ _); refine ⟨⟨by decide, by decide, by decide⟩, ?_⟩)
    | ((with_reducible show List.length _ ≤ sizeLine ∧ _); refine ⟨le_line (Nat.le_of_ble_eq_true rfl), ?_⟩))
  | `(tactic| walk_at "st") => `(tactic| first
    | ((with_reducible show Ev _ _ _ _ _ _); walk_at "ev")
    | ((with_reducible show Ess _ _ _ _ _ _); first | refine ess_one ?_ | refine ess_cons ?_ | refine ess_nil ?_)
    | ((with_reducible show Es _ _ _ _ _ _); walk_at "es")
    | ((with_reducible show Et _ _ _ _ _ _); walk_at "et")
    | ((with_reducible show Ew _ _ _ _ _ _); first | refine ew_or1 ?_ | refine ew_and1 ?_ | refine ew_or ?_ | refine ew_and ?_)
    | ((with_reducible show Ea _ _ _ _ _ _); first | refine ea_nil ?_ | refine ea_cons ?_ | refine ea_star ?_)
    | ((with_reducible show Ek _ _ _ _ _ _); first | refine ek_nil ?_ | refine ek_cons ?_)
    | ((with_reducible show Eo _ _ _ _ _ _); first | refine eo_none ?_ | refine eo_some ?_)
    | walk_at "da")
  | `(tactic| walk_at "go") => `(tactic| repeat walk_at "st")
  | `(tactic| walk_at "goE") => `(tactic| repeat (first
    | ((with_reducible show Ev _ _ _ _ _ _); walk_at "ev")
    | ((with_reducible show Ea _ _ _ _ _ _); first | refine ea_nil ?_ | refine ea_cons ?_ | refine ea_star ?_)
    | ((with_reducible show Ek _ _ _ _ _ _); first | refine ek_nil ?_ | refine ek_cons ?_)
    | ((with_reducible show Eo _ _ _ _ _ _); first | refine eo_none ?_ | refine eo_some ?_)
    | walk_at "da"))
  | `(tactic| walk_at "evM") => `(tactic| first
    | ((with_reducible show Ev _ _ _ _ (.List _ _) _); refine ev_lstM ?_)
    | ((with_reducible show Ev _ _ _ _ (.Subscript _ (.Slice _ _ _ _) _) _); refine ev_sliceM ?_))
  | `(tactic| walk_at "goM") => `(tactic| repeat (first | walk_at "evM" | walk_at "st"))
  | `(tactic| walk_at "set") => `(tactic| first
    | refine es_set (i := 0) (Ct.nd (by assumption)) rfl (.inl rfl) (.inr rfl) ?_ | refine es_set (i := 0) (Ct.nd (by assumption)) rfl (.inr rfl) (.inl rfl) ?_
    | refine es_set (i := 1) (Ct.nd (by assumption)) rfl (.inl rfl) (.inr rfl) ?_ | refine es_set (i := 1) (Ct.nd (by assumption)) rfl (.inr rfl) (.inl rfl) ?_
    | refine es_set (i := 2) (Ct.nd (by assumption)) rfl (.inl rfl) (.inr rfl) ?_ | refine es_set (i := 2) (Ct.nd (by assumption)) rfl (.inr rfl) (.inl rfl) ?_
    | refine es_set (i := 3) (Ct.nd (by assumption)) rfl (.inl rfl) (.inr rfl) ?_ | refine es_set (i := 3) (Ct.nd (by assumption)) rfl (.inr rfl) (.inl rfl) ?_
    | refine es_set (i := 4) (Ct.nd (by assumption)) rfl (.inl rfl) (.inr rfl) ?_ | refine es_set (i := 4) (Ct.nd (by assumption)) rfl (.inr rfl) (.inl rfl) ?_
    | refine es_set (i := 5) (Ct.nd (by assumption)) rfl (.inl rfl) (.inr rfl) ?_ | refine es_set (i := 5) (Ct.nd (by assumption)) rfl (.inr rfl) (.inl rfl) ?_
    | refine es_set (i := 6) (Ct.nd (by assumption)) rfl (.inl rfl) (.inr rfl) ?_ | refine es_set (i := 6) (Ct.nd (by assumption)) rfl (.inr rfl) (.inl rfl) ?_
    | refine es_set (i := 7) (Ct.nd (by assumption)) rfl (.inl rfl) (.inr rfl) ?_ | refine es_set (i := 7) (Ct.nd (by assumption)) rfl (.inr rfl) (.inl rfl) ?_
    | refine es_set (i := 8) (Ct.nd (by assumption)) rfl (.inl rfl) (.inr rfl) ?_ | refine es_set (i := 8) (Ct.nd (by assumption)) rfl (.inr rfl) (.inl rfl) ?_
    | refine es_set (i := 9) (Ct.nd (by assumption)) rfl (.inl rfl) (.inr rfl) ?_ | refine es_set (i := 9) (Ct.nd (by assumption)) rfl (.inr rfl) (.inl rfl) ?_
    | refine es_set (i := 10) (Ct.nd (by assumption)) rfl (.inl rfl) (.inr rfl) ?_ | refine es_set (i := 10) (Ct.nd (by assumption)) rfl (.inr rfl) (.inl rfl) ?_
    | refine es_set (i := 11) (Ct.nd (by assumption)) rfl (.inl rfl) (.inr rfl) ?_ | refine es_set (i := 11) (Ct.nd (by assumption)) rfl (.inr rfl) (.inl rfl) ?_
    | refine es_set (i := 12) (Ct.nd (by assumption)) rfl (.inl rfl) (.inr rfl) ?_ | refine es_set (i := 12) (Ct.nd (by assumption)) rfl (.inr rfl) (.inl rfl) ?_
    | refine es_set (i := 13) (Ct.nd (by assumption)) rfl (.inl rfl) (.inr rfl) ?_ | refine es_set (i := 13) (Ct.nd (by assumption)) rfl (.inr rfl) (.inl rfl) ?_
    | refine es_set (i := 14) (Ct.nd (by assumption)) rfl (.inl rfl) (.inr rfl) ?_ | refine es_set (i := 14) (Ct.nd (by assumption)) rfl (.inr rfl) (.inl rfl) ?_
    | refine es_set (i := 15) (Ct.nd (by assumption)) rfl (.inl rfl) (.inr rfl) ?_ | refine es_set (i := 15) (Ct.nd (by assumption)) rfl (.inr rfl) (.inl rfl) ?_
    | refine es_set (i := 16) (Ct.nd (by assumption)) rfl (.inl rfl) (.inr rfl) ?_ | refine es_set (i := 16) (Ct.nd (by assumption)) rfl (.inr rfl) (.inl rfl) ?_
    | refine es_set (i := 17) (Ct.nd (by assumption)) rfl (.inl rfl) (.inr rfl) ?_ | refine es_set (i := 17) (Ct.nd (by assumption)) rfl (.inr rfl) (.inl rfl) ?_
    | refine es_set (i := 18) (Ct.nd (by assumption)) rfl (.inl rfl) (.inr rfl) ?_ | refine es_set (i := 18) (Ct.nd (by assumption)) rfl (.inr rfl) (.inl rfl) ?_
    | refine es_set (i := 19) (Ct.nd (by assumption)) rfl (.inl rfl) (.inr rfl) ?_ | refine es_set (i := 19) (Ct.nd (by assumption)) rfl (.inr rfl) (.inl rfl) ?_
    | refine es_set (i := 20) (Ct.nd (by assumption)) rfl (.inl rfl) (.inr rfl) ?_ | refine es_set (i := 20) (Ct.nd (by assumption)) rfl (.inr rfl) (.inl rfl) ?_
    | refine es_set (i := 21) (Ct.nd (by assumption)) rfl (.inl rfl) (.inr rfl) ?_ | refine es_set (i := 21) (Ct.nd (by assumption)) rfl (.inr rfl) (.inl rfl) ?_
    | refine es_set (i := 22) (Ct.nd (by assumption)) rfl (.inl rfl) (.inr rfl) ?_ | refine es_set (i := 22) (Ct.nd (by assumption)) rfl (.inr rfl) (.inl rfl) ?_
    | refine es_set (i := 23) (Ct.nd (by assumption)) rfl (.inl rfl) (.inr rfl) ?_ | refine es_set (i := 23) (Ct.nd (by assumption)) rfl (.inr rfl) (.inl rfl) ?_)

theorem scInitInvalidText : FnScope ["self", "line"] ["self", "line"] (defScope (inClass (top 3) 0)) := ⟨rfl, rfl, rfl, by decide +kernel, rfl, by decide +kernel, by decide +kernel⟩
theorem okInitInvalidText {W : Wd} {fI : Addr} {fd : FuncData} (F : FunD W.K "__init__" "InvalidText.__init__" (defArgs (inClass (top 3) 0)) (defBody (inClass (top 3) 0)) (defScope (inClass (top 3) 0)) [V.non] [] fI fd) : FnOk W.P W.w W.K W.mg W.base CX0 1 fI fd ["self", "line"] (spI W.K "line") := by
  refine F.ok scInitInvalidText (fun vs H Q E h => ?_) (fun cdv A outer s H vs Q E hr h => ?_)
  · obtain ⟨a, C, v, rfl, _⟩ := h
    rfl
  · obtain ⟨a, C, v, rfl, T, no, hH, k⟩ := h
    refine ⟨_, pss_one (ps_ost (f := "line") (pv 0) (pv 1)), ?_⟩
    exact ⟨_, rfl, _, rfl, a, C, rfl, T, no, .inl ⟨hH, k⟩⟩
theorem bindsInvalidText {W : Wd} {fI : Addr} {fd : FuncData} (F : FunD W.K "__init__" "InvalidText.__init__" (defArgs (inClass (top 3) 0)) (defBody (inClass (top 3) 0)) (defScope (inClass (top 3) 0)) [V.non] [] fI fd) : Binds W.K fd ["self", "line"] [] ∧ ∃ ds, Vals [V.non] ds ∧ Binds W.K fd ["self", "line"] ds := by
  obtain ⟨ds, h1, h2⟩ := F.binds1 (ps := ["self", "line"]) 2 1 (by simp) rfl (fun T kV doc pm an cdv ct us its l1 l2 => match us, l1, its, l2 with | [_, _], _, [_], _ => ⟨_, rfl, rfl⟩)
  cases h1
  exact ⟨h2, F.binds1 (ps := ["self", "line"]) 1 0 (by simp) rfl (fun T kV doc pm an cdv ct us its l1 l2 => match us, l1, its, l2 with | [_], _, [_], _ => ⟨_, rfl, rfl⟩)⟩

/-! ### texts -/
def digitsS (x : Str) : Bool := x.cps.toList.all fun c => decide (48 ≤ c) && decide (c ≤ 57)
def valS (x : Str) : Int := ((PySem.NumText.digitsVal x.cps.toList : Nat) : Int)
def formS (x : Str) (m : Int) : Bool := decide (1 ≤ x.length) && decide ((x.length : Int) ≤ m) && digitsS x
def numD (x : Str) (m : Int) : D := if formS x m = true then (if x.cps.toList[0]? = some 48 ∧ x ≠ "0" then .non else .int (valS x)) else .non
theorem digit_mem (c : Nat) : decide (c ∈ ("0123456789" : Str).cps.toList) = (decide (48 ≤ c) && decide (c ≤ 57)) := by
  have e : ("0123456789" : Str).cps.toList = [48, 49, 50, 51, 52, 53, 54, 55, 56, 57] := by decide
  rw [e, Bool.eq_iff_iff, Bool.and_eq_true, decide_eq_true_eq, decide_eq_true_eq, decide_eq_true_eq]
  simp only [List.mem_cons, List.not_mem_nil, or_false]
  omega
theorem len_toList (x : Str) : x.length = x.cps.toList.length := by simp [Str.length]
theorem int_digits {x : Str} (h : digitsS x = true) (h1 : 1 ≤ x.length) (h2 : x.length ≤ 640) : PySem.intText? x = some (valS x) := by
  refine PySem.intText_digits (fun c hc => ?_) (fun e => ?_) (by omega)
  · have := List.all_eq_true.mp h c hc
    simpa using this
  · have := len_toList x
    rw [e] at this
    simp at this
    omega
theorem digitsS_one (c : Nat) : digitsS ⟨#[c]⟩ = (decide (48 ≤ c) && decide (c ≤ 57)) := by simp [digitsS]
theorem one_ext {a : Nat} {x : Str} (h : (⟨#[a]⟩ : Str) = x) : x.cps.toList = [a] := by rw [← h]
def sNumberIn : Spec := fun ds F Φ _ => ∃ x m, ds = [.str x, .int m] ∧ x.length ≤ 1000000 ∧ m ≤ 600 ∧ Φ (numD x m) F
abbrev nNumberIn : List Str := ["word", "most_digits", "sign"]
theorem scNumberIn : FnScope nNumberIn ["word", "most_digits"] (defScope (top 23)) := ⟨rfl, rfl, rfl, by decide +kernel, rfl, by decide +kernel, by decide +kernel⟩
theorem okNumberIn {W : Wd} (M : Md W) (a : At W "number_in" (top 23))  : Ok W 1 "number_in" (top 23) ["word", "most_digits"] sNumberIn := by
  refine Ok.of a scNumberIn (fun ds F Φ Ψ h => ?_) (fun _ _ _ _ _ _ us hl => match us, hl with | [_, _], _ => rfl) (fun f cdv A outer s0 H0 E C ds F Φ Ψ h => ?_)
  · obtain ⟨x, m, rfl, hx, hm, k⟩ := h
    rfl
  obtain ⟨x, m, rfl, hx, hm, k⟩ := h
  have hR := C.room
  have hxl : x.length ≤ sizeLine := le_line (by omega)
  have no : formS x m = false → Φ .non F := fun e => by
    unfold numD at k
    rw [e] at k
    exact k
  walk_at "go"
  refine d_lenS hxl ?_
  walk_at "go"
  refine ⟨fun h1 => ?_, fun h1 => ?_⟩
  · have h1 : 1 ≤ x.length := by
      have : (1 : Int) ≤ (x.length : Int) := by simpa using h1
      omega
    walk_at "go"
    refine ⟨fun h2 => ?_, fun h2 => ?_⟩
    · have h2 : ¬ (x.length : Int) ≤ m := by simpa using h2
      walk_at "go"
      exact no (by simp [formS, h2])
    · have h2 : (x.length : Int) ≤ m := by simpa using h2
      walk_at "go"
      refine ev_map rfl C.nd (own := [("sign", 2)]) (blkOk_by (N := nNumberIn) (sc := defScope (top 23)) (by decide +kernel)) (fun d => .bl (match d with | .str y => digitsS y | _ => false)) (ei_str ?_)
      walk_at "go"
      refine ⟨by rw [len_signs]; exact hxl, fun d F2 hd => ⟨_, fun s H B cl fp => gc_name (pg_name (i := 2) C.nd rfl (.inl rfl)) (by simp) ⟨rfl, rfl⟩, fun s H B cl fp => ?_⟩, ?_⟩
      · obtain ⟨c, _, rfl⟩ := mem_signs hd
        walk_at "go"
        refine ev_gstr M.DIGITS ?_
        walk_at "go"
        refine ⟨?_, rfl⟩
        rw [digit_mem]
        exact congrArg D.bl (digitsS_one c).symm
      · refine blsD_map ?_
        rw [all_signs x _ (fun c => decide (48 ≤ c) && decide (c ≤ 57)) digitsS_one]
        walk_at "go"
        refine ⟨fun h3 => ?_, fun h3 => ?_⟩
        · walk_at "go"
          have h3 : digitsS x = false := by
            unfold digitsS
            simpa using h3
          exact no (by simp [formS, h3])
        · have h3 : digitsS x = true := by
            unfold digitsS
            simpa using h3
          have hf : formS x m = true := by simp [formS, h1, h2, h3]
          walk_at "go"
          have hne : x.cps.toList ≠ [] := fun e => by
            have := len_toList x
            rw [e] at this
            simp at this
            omega
          obtain ⟨c, cs, hc⟩ : ∃ c cs, x.cps.toList = c :: cs := List.exists_cons_of_ne_nil hne
          refine d_ixS (c := c) hxl (show atI x.cps.toList ((0 : Nat) : Int) = some c from atI_nat (by rw [hc]; rfl)) ?_
          walk_at "go"
          have hz : ("0" : Str) = ⟨#[48]⟩ := by decide
          have c0 : decide ((⟨#[c]⟩ : Str) = "0") = decide (x.cps.toList[0]? = some 48) := by
            refine decide_eq_decide.mpr ?_
            rw [hc, hz]
            simp
          rw [c0]
          unfold numD at k
          rw [if_pos hf] at k
          refine ⟨fun h4 => ?_, fun h4 => ?_⟩
          · have h4 : x.cps.toList[0]? = some 48 := by simpa using h4
            walk_at "go"
            refine ⟨fun h5 => ?_, fun h5 => ?_⟩
            · walk_at "go"
              have h5 : x ≠ "0" := by simpa using h5
              rw [if_pos ⟨h4, h5⟩] at k
              exact k
            · walk_at "go"
              have h5 : x = "0" := by simpa using h5
              rw [if_neg (fun z => z.2 h5)] at k
              exact ⟨valS x, int_digits h3 h1 (by omega), by omega, k⟩
          · walk_at "go"
            have h4 : ¬ x.cps.toList[0]? = some 48 := by simpa using h4
            rw [if_neg (fun z => h4 z.1)] at k
            exact ⟨valS x, int_digits h3 h1 (by omega), by omega, k⟩
  · walk_at "go"
    have h1 : ¬ 1 ≤ x.length := by
      have : ¬ (1 : Int) ≤ (x.length : Int) := by simpa using h1
      omega
    exact no (by simp [formS, h1])
def begS (b : Str) : Str := if b = "" then "-" else b
def sBeginningText : Spec := fun ds F Φ _ => ∃ b, ds = [.str b] ∧ Φ (.str (begS b)) F
abbrev nBeginningText : List Str := ["beginning"]
theorem scBeginningText : FnScope nBeginningText ["beginning"] (defScope (top 24)) := ⟨rfl, rfl, rfl, by decide +kernel, rfl, by decide +kernel, by decide +kernel⟩
theorem okBeginningText {W : Wd} (M : Md W) (a : At W "beginning_text" (top 24))  : Ok W 1 "beginning_text" (top 24) ["beginning"] sBeginningText := by
  refine Ok.of a scBeginningText (fun ds F Φ Ψ h => ?_) (fun _ _ _ _ _ _ us hl => match us, hl with | [_], _ => rfl) (fun f cdv A outer s0 H0 E C ds F Φ Ψ h => ?_)
  · obtain ⟨b, rfl, k⟩ := h
    rfl
  obtain ⟨b, rfl, k⟩ := h
  have hR := C.room
  walk_at "go"
  unfold begS at k
  refine ⟨fun h => ?_, fun h => ?_⟩
  · refine ev_gstr M.EMPTY ?_
    rw [if_pos (by simpa using h)] at k
    exact k
  · walk_at "go"
    rw [if_neg (by simpa using h)] at k
    exact k
/-- the text of a screen -/
def textS (b : Str) (l : Int) (ws : List Str) : Str := Txt.join " " (begS b :: strI l :: ws)
def sizeW (b : Str) (ws : List Str) : Nat := b.length + (ws.map (·.length)).sum + ws.length
def sScreenText : Spec := fun ds F Φ _ => ∃ b l ws, ds = [.tup [.str b, .int l, .lst (ws.map D.str)]] ∧ l.natAbs.log2 < 1920 ∧ sizeW b ws ≤ 4000000 ∧ Φ (.str (textS b l ws)) F
theorem begS_len (b : Str) : (begS b).length ≤ b.length + 1 := by
  unfold begS
  split
  · have : ("-" : Str).length = 1 := rfl
    omega
  · omega
abbrev nScreenText : List Str := ["screen", "beginning", "limit", "shown"]
theorem scScreenText : FnScope nScreenText ["screen"] (defScope (top 25)) := ⟨rfl, rfl, rfl, by decide +kernel, rfl, by decide +kernel, by decide +kernel⟩
theorem okScreenText {W : Wd} (M : Md W) (a : At W "screen_text" (top 25)) (hBeginningText : Ok W 1 "beginning_text" (top 24) ["beginning"] sBeginningText) : Ok W 2 "screen_text" (top 25) ["screen"] sScreenText := by
  refine Ok.of a scScreenText (fun ds F Φ Ψ h => ?_) (fun _ _ _ _ _ _ us hl => match us, hl with | [_], _ => rfl) (fun f cdv A outer s0 H0 E C ds F Φ Ψ h => ?_)
  · obtain ⟨b, l, ws, rfl, hl, hz, k⟩ := h
    rfl
  obtain ⟨b, l, ws, rfl, hl, hz, k⟩ := h
  have hR := C.room
  walk_at "go"
  refine es_asg ?_
  walk_at "go"
  refine eg_tup rfl ?_
  walk_at "go"
  refine ⟨rfl, egs_cons (eg_name (pg_name (i := 1) C.nd rfl (.inl rfl)) (egs_cons (eg_name (pg_name (i := 2) C.nd rfl (.inl rfl)) (egs_cons (eg_name (pg_name (i := 3) C.nd rfl (.inl rfl)) (egs_nil ?_))))))⟩
  walk_at "go"
  refine ⟨_, rfl, ?_⟩
  walk_at "go"
  refine ev_call hBeginningText (C.room.mono (by decide)) rfl ?_
  walk_at "go"
  refine ⟨b, rfl, ?_⟩
  walk_at "go"
  refine d_stI hl ?_
  walk_at "go"
  unfold sizeW at hz
  have h1 := begS_len b
  have h2 := PyProof.Rows.int_text_len_1921 hl
  have h3 : (strI l).length ≤ 1921 := h2
  have h4 : (" " : Str).length = 1 := rfl
  refine ⟨le_line (by simp; omega), begS b :: strI l :: ws, by show _ = _; simp, ?_, k⟩
  simp only [List.map_cons, List.sum_cons, List.length_cons, h4]
  omega

/-- a text that the program may be asked about -/
structure TextOk (x : Str) : Prop where
  len : x.length ≤ 1000000
  good : Good 5 (.lst ((Txt.split x " ").map D.str))
  few : (Txt.split x " ").length < 4000
  small : szD (.lst ((Txt.split x " ").map D.str)) ≤ 3900000
def readS (x : Str) : Option (Str × Int × List Str) := match Txt.split x " " with
  | f :: r :: ws => if f = "" then none else match numD r 2 with
    | .int n => if screenD (.tup [.str (if f = "-" then "" else f), .int n, .lst (ws.map D.str)]) = true then some (if f = "-" then "" else f, n, ws) else none
    | _ => none
  | _ => none
theorem digs_lt : ∀ (cs : List Nat) (acc : Nat), (∀ c ∈ cs, c ≤ 57) → cs.foldl (fun a c => a * 10 + (c - 48)) acc < (acc + 1) * 10 ^ cs.length
  | [], acc, _ => by simp
  | c :: cs, acc, h => by
    have h1 := digs_lt cs (acc * 10 + (c - 48)) fun d hd => h d (List.mem_cons_of_mem _ hd)
    have h2 := h c List.mem_cons_self
    rw [List.foldl_cons, List.length_cons, Nat.pow_succ]
    refine Nat.lt_of_lt_of_le h1 ?_
    have h3 : acc * 10 + (c - 48) + 1 ≤ (acc + 1) * 10 := by omega
    calc (acc * 10 + (c - 48) + 1) * 10 ^ cs.length ≤ (acc + 1) * 10 * 10 ^ cs.length := Nat.mul_le_mul_right _ h3
      _ = (acc + 1) * (10 ^ cs.length * 10) := by rw [Nat.mul_assoc, Nat.mul_comm 10]
theorem valS_lt {x : Str} (h : digitsS x = true) : 0 ≤ valS x ∧ valS x < 10 ^ x.length := by
  have h1 : PySem.NumText.digitsVal x.cps.toList < (0 + 1) * 10 ^ x.cps.toList.length := digs_lt _ 0 fun c hc => by
    have := List.all_eq_true.mp h c hc
    simp at this
    omega
  rw [← len_toList, Nat.zero_add, Nat.one_mul] at h1
  unfold valS
  refine ⟨Int.natCast_nonneg _, ?_⟩
  exact_mod_cast h1
theorem numD_cases (x : Str) (m : Int) : numD x m = .non ∨ ∃ n, numD x m = .int n ∧ 0 ≤ n ∧ n < 10 ^ x.length ∧ (x.length : Int) ≤ m := by
  unfold numD
  split
  · rename_i h
    unfold formS at h
    simp only [Bool.and_eq_true, decide_eq_true_eq] at h
    split
    · exact .inl rfl
    · exact .inr ⟨_, rfl, (valS_lt h.2).1, (valS_lt h.2).2, h.1.2⟩
  · exact .inl rfl
theorem num2_lt {x : Str} {n : Int} (h : numD x 2 = .int n) : 0 ≤ n ∧ n < 100 := by
  rcases numD_cases x 2 with e | ⟨n', e, h1, h2, h3⟩
  · rw [e] at h
    cases h
  · rw [e] at h
    cases h
    refine ⟨h1, Int.lt_of_lt_of_le h2 ?_⟩
    have h4 : x.length ≤ 2 := by omega
    have h5 : 10 ^ x.length ≤ 10 ^ 2 := Nat.pow_le_pow_right (by decide) h4
    exact_mod_cast h5
theorem okR_num (x : Str) (k : Nat) : okR k (numD x 2) = true := by
  rcases numD_cases x 2 with e | ⟨n, e, _⟩
  · rw [e]
    cases k <;> rfl
  · have := num2_lt e
    rw [e]
    have h1 : n.natAbs < 2 ^ 1920 := by
      have : n.natAbs < 100 := by omega
      have h3 : (100 : Nat) ≤ 2 ^ 1920 := Nat.le_trans (by decide : (100 : Nat) ≤ 2 ^ 7) (Nat.pow_le_pow_right (by decide) (by decide))
      omega
    have h2 : n.natAbs.log2 < 1920 := by
      by_cases h0 : n.natAbs = 0
      · rw [h0]
        decide
      · exact (Nat.log2_lt h0).mpr h1
    cases k <;> simpa [okR] using h2
theorem szD_num (x : Str) (m : Int) : szD (numD x m) ≤ 1921 := by
  rcases numD_cases x m with e | ⟨n, e, _⟩ <;> rw [e] <;> simp [szD]
def sScreenIn : Spec := fun ds F Φ _ => ∃ x, ds = [.str x] ∧ TextOk x ∧ match readS x with
  | none => Φ .non F
  | some (b, n, ws) => ∀ l, F l = none → Φ (.tup [.str b, .int n, .raw (.ref l)]) (updF F l (.lst (ws.map D.str)))
theorem good_cons {n : Nat} {d : D} {ds : List D} (h : Good n (.lst (d :: ds))) : Good n (.lst ds) := by
  obtain ⟨h1, h2⟩ := h
  cases n with
  | zero => simp [okR] at h1
  | succ n =>
    refine ⟨?_, ?_⟩
    · simp only [okR, List.all_cons, Bool.and_eq_true] at h1
      simpa [okR] using h1.2
    · simp only [szD, szDs] at h2 ⊢
      omega
theorem eqD_nil {xs : List D} : eqD (.lst xs) (.lst []) = decide (xs = []) := by
  cases xs with
  | nil => rfl
  | cons x xs =>
    unfold eqD
    simp [toP, toPs, PyData.eqv, PyData.eqvAll]
theorem good_okD {n : Nat} {d : D} (h : Good n d) : okD n d = true := (okR_okD n d h.1).1
theorem okD_mono : ∀ {n : Nat} {d : D} (m : Nat), n ≤ m → okD n d = true → okD m d = true
  | _, .non, m, _, _ => by cases m <;> rfl
  | _, .bl b, m, _, _ => by cases m <;> rfl
  | _, .int i, m, _, _ => by cases m <;> rfl
  | n, .str x, m, _, h => by
    have : PyData.strOk x = true := by cases n <;> simpa [okD] using h
    cases m <;> simpa [okD] using this
  | n + 1, .lst xs, m + 1, hm, h => by
    simp only [okD, List.all_eq_true] at h ⊢
    exact fun d hd => okD_mono m (by omega) (h d hd)
  | n + 1, .tup xs, m + 1, hm, h => by
    simp only [okD, List.all_eq_true] at h ⊢
    exact fun d hd => okD_mono m (by omega) (h d hd)
  | 0, .lst xs, _, _, h => by simp [okD] at h
  | 0, .tup xs, _, _, h => by simp [okD] at h
  | n + 1, .lst xs, 0, hm, _ => by omega
  | n + 1, .tup xs, 0, hm, _ => by omega
  | n, .dct _ _, _, _, h => by cases n <;> simp [okD] at h
  | n, .scr _, _, _, h => by cases n <;> simp [okD] at h
  | n, .exc _ _ _ _, _, _, h => by cases n <;> simp [okD] at h
  | n, .raw _, _, _, h => by cases n <;> simp [okD] at h
theorem split_some (x : Str) : ∃ f rs, Txt.split x " " = f :: rs := by
  cases e : Txt.split x " " with
  | nil =>
    have h := TL.split_spl x " " (by decide) (TL.kind_ok (by decide +kernel))
    rw [e] at h
    have : ∀ (a : List Nat) (k : Nat) (acc : List Nat), TL.spl (TL.tl " ") k acc a ≠ [] := by
      intro a
      induction a with
      | nil => intro k acc; cases k <;> simp [TL.spl]
      | cons c r ih =>
        intro k acc
        cases k with
        | zero =>
          unfold TL.spl
          split
          · simp
          · exact ih 0 _
        | succ k => exact ih k acc
    exact absurd h.symm (this _ _ _)
  | cons f rs => exact ⟨f, rs, rfl⟩
theorem lend_num (B : Addr → Option (List D)) (x : Str) (m : Int) : lend B (numD x m) = numD x m := by
  rcases numD_cases x m with e | ⟨n, e, _⟩ <;> rw [e] <;> simp [lend]
theorem cutD_tail {α : Type} (d : α) (ds : List α) : cutD (d :: ds) (some 1) none = ds := by
  unfold cutD
  have h1 : HT.sIx (d :: ds).length 0 (some 1) = 1 := by
    unfold HT.sIx
    simp
  have h2 : HT.sIx (d :: ds).length (d :: ds).length none = (d :: ds).length := rfl
  rw [h1, h2]
  simp
abbrev nScreenIn : List Str := ["text", "first", "rest", "beginning", "screen"]
theorem scScreenIn : FnScope nScreenIn ["text"] (defScope (top 26)) := ⟨rfl, rfl, rfl, by decide +kernel, rfl, by decide +kernel, by decide +kernel⟩
theorem okScreenIn {W : Wd} (M : Md W) (a : At W "screen_in" (top 26)) (hNumberIn : Ok W 1 "number_in" (top 23) ["word", "most_digits"] sNumberIn) (hIsScreen : Ok W 6 "is_screen" (top 16) ["value"] sIsScreen) : Ok W 7 "screen_in" (top 26) ["text"] sScreenIn := by
  refine Ok.of a scScreenIn (fun ds F Φ Ψ h => ?_) (fun _ _ _ _ _ _ us hl => match us, hl with | [_], _ => rfl) (fun f cdv A outer s0 H0 E C ds F Φ Ψ h => ?_)
  · obtain ⟨x, rfl, hx, k⟩ := h
    rfl
  obtain ⟨x, rfl, hx, k⟩ := h
  have hR := C.room
  walk_at "go"
  refine es_asg ?_
  walk_at "go"
  refine ⟨x, rfl, ?_⟩
  walk_at "go"
  have hxl := hx.len
  refine ⟨" ", rfl, by decide, le_line (by omega), ?_⟩
  obtain ⟨f, rs, hsp⟩ := split_some x
  have hg := hx.good
  have hf := hx.few
  unfold readS at k
  rw [hsp] at hg hf k ⊢
  rw [List.map_cons] at hg ⊢
  refine eg_star (i := 1) rfl (d_lst ⟨by simp, fun p hp => egs_cons (eg_name (pg_name (i := 1) C.nd rfl (.inl rfl)) (egs_star (eg_name (pg_name (i := 2) C.nd rfl (.inl rfl)) ?_)))⟩)
  refine ess_frz 2 rfl updF_same ?_
  rw [delF_updF hp]
  walk_at "go"
  have gr : Good 5 (.lst (rs.map D.str)) := good_cons hg
  refine ⟨fun h1 => ?_, fun h1 => ?_⟩
  · have h1 : f = "" := by simpa using h1
    walk_at "go"
    subst h1
    cases rs with
    | nil => exact k
    | cons r ws => exact k
  have h1 : f ≠ "" := by simpa using h1
  walk_at "go"
  refine d_eqL (xs := rs.map D.str) (ys := []) (okD_mono 60 (by decide) (good_okD gr)) (by decide) ?_
  show Br (eqD (.lst (rs.map D.str)) (.lst [])) _ _
  rw [eqD_nil]
  refine ⟨fun h2 => ?_, fun h2 => ?_⟩
  · walk_at "go"
    have h2 : rs = [] := by simpa using h2
    subst h2
    exact k
  obtain ⟨r, ws, rfl⟩ : ∃ r ws, rs = r :: ws := by
    cases rs with
    | nil => simp at h2
    | cons r ws => exact ⟨r, ws, rfl⟩
  have k : match (if f = "" then none else match numD r 2 with
    | .int n => if screenD (.tup [.str (if f = "-" then ("" : Str) else f), .int n, .lst (ws.map D.str)]) = true then some (if f = "-" then ("" : Str) else f, n, ws) else none
    | _ => none) with
    | none => Φ .non F
    | some (b, n, ws) => ∀ l, F l = none → Φ (.tup [.str (b : Str), .int n, .raw (.ref l)]) (updF F l (.lst (ws.map D.str))) := k
  rw [if_neg h1] at k
  walk_at "go"
  walk_at "set"
  generalize hb : (if f = "-" then ("" : Str) else f) = b at k
  refine Ev.mono (Φ := fun d F1 => d = .str b ∧ F1 = F) ?_ (fun d F1 hd => ?_)
  · walk_at "go"
    refine ev_gstr M.EMPTY ?_
    walk_at "go"
    refine ⟨fun h3 => ?_, fun h3 => ?_⟩
    · walk_at "go"
      rw [if_pos (by simpa using h3)] at hb
      exact ⟨congrArg D.str hb, rfl⟩
    · walk_at "go"
      rw [if_neg (by simpa using h3)] at hb
      exact ⟨congrArg D.str hb, rfl⟩
  obtain ⟨rfl, rfl⟩ := hd
  walk_at "go"
  walk_at "set"
  walk_at "go"
  refine ev_call hNumberIn (C.room.mono (by decide)) rfl ?_
  walk_at "go"
  refine d_ixL (d := .str r) (atI_nat (j := 0) rfl) ?_
  walk_at "go"
  refine ev_gint M.MOST_LIMIT_DIGITS ?_
  walk_at "go"
  have gw : Good 5 (.lst (ws.map D.str)) := good_cons gr
  have lr := good_len (good_lst gr (.str r) (by simp))
  refine ⟨r, 2, rfl, by omega, by decide, ?_⟩
  walk_at "goM"
  refine ⟨fun _ => by simp, fun l hl => ?_⟩
  have ec : cutD (List.drop 1 (D.str f :: List.map D.str (r :: ws))) (some 1) none = ws.map D.str := cutD_tail _ _
  rw [ec]
  have hfl : Good 2 (.str f) := ⟨by simpa [okR] using (good_lst hg (.str f) (by simp)).1, (good_lst hg (.str f) (by simp)).2⟩
  have hbo : okR 60 (.str b) = true ∧ szD (.str b) ≤ szD (.str f) := by
    rw [← hb]
    split
    · have e0 : Str.length "" = 0 := rfl
      refine ⟨by decide +kernel, ?_⟩
      simp only [szD, e0]
      omega
    · exact ⟨by simpa [okR] using hfl.1, Nat.le_refl _⟩
  have gt : Good 61 (.tup [.str b, numD r 2, .lst (ws.map D.str)]) := by
    refine ⟨?_, ?_⟩
    · simp only [okR, List.all_cons, List.all_nil, Bool.and_true]
      have e1 := hbo.1
      simp only [okR] at e1
      have e3 : ((ws.map D.str).all fun d => okR 59 d) = true := by
        have := gw.1
        simp only [okR, List.all_map, List.all_eq_true] at this ⊢
        intro w hw
        simpa [okR] using this w hw
      rw [e1, okR_num]
      exact e3
    · have e1 := hbo.2
      have e2 := szD_num r 2
      have e4 := hg.2
      simp only [List.map_cons, szD, szDs] at e1 e4 ⊢
      have e5 := hx.small
      rw [hsp] at e5
      simp only [List.map_cons, szD, szDs] at e5
      omega
  walk_at "go"
  refine ev_lend (one1 l (ws.map D.str)) (one1_ok updF_same) (fun F2 h2 => ?_)
  refine ev_call hIsScreen (C.room.mono (by decide)) rfl ?_
  walk_at "go"
  refine ⟨.tup [.str b, numD r 2, .lst (ws.map D.str)], 61, by simp [lend, lends, one1, lend_num], gt, by simp [lensOk, lenD] at hf ⊢; omega, rfl, rfl, ?_⟩
  walk_at "go"
  refine ⟨fun h3 => ?_, fun h3 => ?_⟩
  · walk_at "go"
    rcases numD_cases r 2 with e | ⟨n, e, _⟩
    · rw [e] at h3
      simp [screenD] at h3
    · rw [e] at k h3 ⊢
      simp only [h3, if_true] at k
      exact k l hl
  · refine ev_less (upd_more hl) ?_
    walk_at "go"
    rcases numD_cases r 2 with e | ⟨n, e, _⟩
    · rw [e] at k
      exact k
    · rw [e] at k h3
      simp only [h3] at k
      exact k

theorem screenD_form {v : D} (h : screenD v = true) : ∃ (b : Str) (l : Int) (ws : List Str), v = .tup [.str b, .int l, .lst (ws.map D.str)] ∧ lettersS b = true ∧ 1 ≤ l ∧ l ≤ 20 ∧ ws.all wordS = true ∧ ws.Nodup ∧ (ws.length : Int) ≤ l ∧ (ws.all fun x => Txt.startswith x b) = true := by
  unfold screenD at h
  split at h
  · rename_i b l w
    simp only [Bool.and_eq_true] at h
    obtain ⟨⟨h1, h2⟩, h3⟩ := h
    have h4 : wordsD w = true := by
      cases w with
      | lst xs =>
        simp only [shownD, Bool.and_eq_true] at h3
        exact h3.1.1
      | _ => exact absurd h3 (by simp [shownD])
    obtain ⟨ws, rfl, w1, w2, w3⟩ := wordsD_lst h4
    simp only [shownD, Bool.and_eq_true, decide_eq_true_eq, w3, List.length_map] at h3
    simp only [isIntD, Bool.and_eq_true, decide_eq_true_eq] at h2
    exact ⟨b, l, ws, rfl, h1, h2.1, h2.2, w1, w2, h3.1.2, h3.2⟩
  · exact absurd h (by simp)
/-- format_screen of a screen -/
def sFormatScreen : Spec := fun ds F Φ _ => ∃ b l ws, ds = [.tup [.str b, .int l, .lst (ws.map D.str)]] ∧ screenD (.tup [.str b, .int l, .lst (ws.map D.str)]) = true ∧ Good 60 (.tup [.str b, .int l, .lst (ws.map D.str)]) ∧ Φ (.str (textS b l ws)) F
theorem szDs_strs : ∀ ws : List Str, (ws.map (·.length)).sum + ws.length ≤ szDs (ws.map D.str)
  | [] => Nat.zero_le _
  | w :: ws => by
    have := szDs_strs ws
    simp only [List.map_cons, List.sum_cons, List.length_cons, szDs, szD]
    omega
/-- is it a text -/
def isStrD : D → Bool
  | .str _ => true
  | _ => false
def sRequireString (W : Wd) : Spec := fun ds F Φ Ψ => ∃ v t, ds = [v] ∧ tyQ F v = some t ∧ ((isStrD v = true ∧ Φ .non F) ∨ (isStrD v = false ∧ Ψ ⟨clsA W "InvalidText", some ("line", .non)⟩ F))
theorem isStr_le {F : FS} {v : D} {t : Ty} (h : tyQ F v = some t) : t.le .str = isStrD v := by
  cases v with
  | raw u =>
    cases u with
    | ref l =>
      unfold tyQ at h
      simp only at h
      split at h
      · cases h
        rfl
      · cases h
    | _ => cases h
  | scr _ => cases h
  | exc _ _ _ _ => cases h
  | _ =>
    cases h
    rfl
abbrev nRequireString : List Str := ["text"]
theorem scRequireString : FnScope nRequireString ["text"] (defScope (top 27)) := ⟨rfl, rfl, rfl, by decide +kernel, rfl, by decide +kernel, by decide +kernel⟩
theorem okRequireString {W : Wd} (M : Md W) (a : At W "require_string" (top 27))  : Ok W 3 "require_string" (top 27) ["text"] (sRequireString W) := by
  refine Ok.of a scRequireString (fun ds F Φ Ψ h => ?_) (fun _ _ _ _ _ _ us hl => match us, hl with | [_], _ => rfl) (fun f cdv A outer s0 H0 E C ds F Φ Ψ h => ?_)
  · obtain ⟨v, t, rfl, ht, k⟩ := h
    rfl
  obtain ⟨v, t, rfl, ht, k⟩ := h
  have hR := C.room
  walk_at "go"
  refine ⟨t, ht, ?_⟩
  rw [isStr_le ht]
  rcases k with ⟨hs, k⟩ | ⟨hs, k⟩
  · rw [hs]
    walk_at "go"
    exact k
  · rw [hs]
    walk_at "go"
    exact es_raiseI0 rfl M.InvalidText M.InvalidTextN (C.room.mono (by decide)) k
def sParseScreen (W : Wd) : Spec := fun ds F Φ Ψ => ∃ v t, ds = [v] ∧ tyQ F v = some t ∧ ((∃ x, v = .str x ∧ TextOk x ∧ match readS x with
  | none => Ψ ⟨clsA W "InvalidText", some ("line", .int 0)⟩ F
  | some (b, n, ws) => ∀ l, F l = none → Φ (.tup [.str b, .int n, .raw (.ref l)]) (updF F l (.lst (ws.map D.str)))) ∨ (isStrD v = false ∧ Ψ ⟨clsA W "InvalidText", some ("line", .non)⟩ F))
end TM

set_option Elab.async false
set_option linter.all false
set_option maxRecDepth 100000
set_option maxHeartbeats 4000000
set_option pp.maxSteps 500
namespace TM
open PySem PySem.Spec PyProof.Rows L2
local macro_rules
  | `(tactic| walk_at "iv") => `(tactic| first | exact pv 0 | exact pv 1 | exact pv 2 | exact pv 3 | exact pv 4 | exact pv 5 | exact pv 6 | exact pv 7 | exact pv 8 | exact pv 9 | exact pv 10 | exact pv 11 | exact pv 12 | exact pv 13 | exact pv 14 | exact pv 15 | exact pv 16 | exact pv 17 | exact pv 18 | exact pv 19 | exact pv 20 | exact pv 21 | exact pv 22 | exact pv 23)
  | `(tactic| walk_at "mg") => `(tactic| exact Md.bi (by assumption) _ (by decide))
  | `(tactic| walk_at "ev") => `(tactic| first
    | ((with_reducible show Ev _ _ _ _ (.Name _ _) _); refine ev_var (by walk_at "iv") (by with_unfolding_all rfl) ?_)
    | ((with_reducible show Ev _ _ _ _ (.Constant _ _ _) _); first | refine ev_int ?_ | refine ev_str ?_ | refine ev_bl ?_ | refine ev_non ?_)
    | ((with_reducible show Ev _ _ _ _ (.BinOp (.List _ _) .Mult _ _) _); refine ev_rep ?_)
    | ((with_reducible show Ev _ _ _ _ (.BinOp _ _ _ _) _); first | refine ev_add ?_ | refine ev_sub ?_ | refine ev_mod ?_ | refine ev_fdivW ?_ | refine ev_pow ?_ | refine ev_mul ?_)
    | ((with_reducible show Ev _ _ _ _ (.Compare _ [_] _ _) _); first | refine ev_isN ?_ | refine ev_notN ?_ | refine ev_lt ?_ | refine ev_le ?_ | refine ev_gt ?_ | refine ev_ge ?_ | refine ev_eq (RoomG.mono (by assumption) (Nat.zero_le _)) ?_ | refine ev_ne (RoomG.mono (by assumption) (Nat.zero_le _)) ?_ | refine ev_in ?_ | refine ev_nin ?_)
    | ((with_reducible show Ev _ _ _ _ (.Compare _ _ _ _) _); refine ev_chain ord_le ord_le ?_)
    | ((with_reducible show Ev _ _ _ _ (.BoolOp _ _ _) _); first | refine ev_b1 ?_ | refine ev_and ?_ | refine ev_or ?_)
    | ((with_reducible show Ev _ _ _ _ (.UnaryOp _ _ _) _); first | refine ev_not ?_ | refine ev_neg ?_)
    | ((with_reducible show Ev _ _ _ _ (.IfExp _ _ _ _) _); refine ev_if ?_)
    | ((with_reducible show Ev _ _ _ _ (.Tuple _ _ _) _); refine ev_tup ?_)
    | ((with_reducible show Ev _ _ _ _ (.List _ _) _); refine ev_lst ?_)
    | ((with_reducible show Ev _ _ _ _ (.Dict _ _ _) _); refine ev_dct0 ?_)
    | ((with_reducible show Ev _ _ _ _ (.Subscript _ (.Slice _ _ _ _) _) _); refine ev_slice ?_)
    | ((with_reducible show Ev _ _ _ _ (.Subscript _ _ _) _); refine ev_ix ?_)
    | ((with_reducible show Ev _ _ _ _ (.Call (.Name "isinstance" _) [_, .Name "int" _] _ _) _); refine ev_isInt (by walk_at "mg") (by walk_at "mg") ?_)
    | ((with_reducible show Ev _ _ _ _ (.Call (.Name "isinstance" _) [_, .Name "bool" _] _ _) _); refine ev_isBool (by walk_at "mg") (by walk_at "mg") ?_)
    | ((with_reducible show Ev _ _ _ _ (.Call (.Name "isinstance" _) [_, .Name "str" _] _ _) _); refine ev_isStr (by walk_at "mg") (by walk_at "mg") ?_)
    | ((with_reducible show Ev _ _ _ _ (.Call (.Name "isinstance" _) [_, .Name "list" _] _ _) _); refine ev_isList (by walk_at "mg") (by walk_at "mg") ?_)
    | ((with_reducible show Ev _ _ _ _ (.Call (.Name "isinstance" _) [_, .Name "tuple" _] _ _) _); refine ev_isTup (by walk_at "mg") (by walk_at "mg") ?_)
    | ((with_reducible show Ev _ _ _ _ (.Call (.Name "len" _) [.Call (.Name "set" _) _ _ _] _ _) _); refine ev_lenS rfl (by walk_at "mg") (by walk_at "mg") ?_)
    | ((with_reducible show Ev _ _ _ _ (.Call (.Name "len" _) _ _ _) _); refine ev_len (by walk_at "mg") ?_)
    | ((with_reducible show Ev _ _ _ _ (.Call (.Name "abs" _) _ _ _) _); refine ev_abs (by walk_at "mg") ?_)
    | ((with_reducible show Ev _ _ _ _ (.Call (.Name "all" _) _ _ _) _); refine ev_all rfl (by walk_at "mg") ?_)
    | ((with_reducible show Ev _ _ _ _ (.Call (.Name "any" _) _ _ _) _); refine ev_any rfl (by walk_at "mg") ?_)
    | ((with_reducible show Ev _ _ _ _ (.Call (.Name "max" _) _ _ _) _); refine ev_max2 rfl (by walk_at "mg") ?_)
    | ((with_reducible show Ev _ _ _ _ (.Call (.Name "min" _) _ _ _) _); refine ev_min2 rfl (by walk_at "mg") ?_)
    | ((with_reducible show Ev _ _ _ _ (.Call (.Name "str" _) _ _ _) _); refine ev_strOf (by walk_at "mg") ?_)
    | ((with_reducible show Ev _ _ _ _ (.Call (.Name "int" _) _ _ _) _); refine ev_intOf (by walk_at "mg") ?_)
    | ((with_reducible show Ev _ _ _ _ (.Call (.Name "list" _) _ _ _) _); refine ev_listOf rfl (by walk_at "mg") ?_)
    | ((with_reducible show Ev _ _ _ _ (.Call (.Name "tuple" _) _ _ _) _); refine ev_tupOf (by walk_at "mg") ?_)
    | ((with_reducible show Ev _ _ _ _ (.Call (.Name "repr" _) _ _ _) _); refine ev_repr (RoomG.mono (by assumption) (Nat.zero_le _)) (by walk_at "mg") ?_)
    | ((with_reducible show Ev _ _ _ _ (.Call (.Attribute _ "startswith" _) _ _ _) _); refine ev_startswith ?_)
    | ((with_reducible show Ev _ _ _ _ (.Call (.Attribute _ "split" _) _ _ _) _); refine ev_split ?_)
    | ((with_reducible show Ev _ _ _ _ (.Call (.Attribute _ "join" _) _ _ _) _); refine ev_join ?_)
    | ((with_reducible show Ev _ _ _ _ (.Call (.Attribute _ "append" _) _ _ _) _); refine ev_append ?_)
    | ((with_reducible show Ev _ _ _ _ (.Call (.Attribute _ "extend" _) _ _ _) _); refine ev_extend ?_)
    | ((with_reducible show Ev _ _ _ _ (.Call (.Attribute _ "pop" _) _ _ _) _); first | refine ev_popAt ?_ | refine ev_pop0 ?_)
    | ((with_reducible show Ev _ _ _ _ (.Call (.Attribute _ "reverse" _) _ _ _) _); refine ev_reverse ?_)
    | ((with_reducible show Ev _ _ _ _ (.Call (.Attribute _ "clear" _) _ _ _) _); refine ev_clear ?_))
  | `(tactic| walk_at "et") => `(tactic| first
    | ((with_reducible show Et _ _ _ _ (.Compare _ [_] _ _) _); first | refine et_isN ?_ | refine et_notN ?_ | refine et_lt ?_ | refine et_le ?_ | refine et_gt ?_ | refine et_ge ?_ | refine et_eq (RoomG.mono (by assumption) (Nat.zero_le _)) ?_ | refine et_ne (RoomG.mono (by assumption) (Nat.zero_le _)) ?_ | refine et_in ?_ | refine et_nin ?_)
    | ((with_reducible show Et _ _ _ _ (.Compare _ [_, _] _ _) _); refine et_chain ord_le ord_le ?_)
    | ((with_reducible show Et _ _ _ _ (.UnaryOp _ _ _) _); refine et_not ?_)
    | ((with_reducible show Et _ _ _ _ (.BoolOp _ _ _) _); first | refine et_w (ew_or ?_) | refine et_w (ew_and ?_))
    | refine et_val ?_)
  | `(tactic| walk_at "es") => `(tactic| first | refine es_pass ?_ | refine es_break ?_ | refine es_continue ?_ | refine es_ret ?_ | refine es_retN ?_ | refine es_if ?_ | refine es_expr ?_)
  | `(tactic| walk_at "da") => `(tactic| first
    | ((with_reducible show BlD _ _); refine d_bl ?_) | ((with_reducible show IntD _ _); refine d_int ?_) | ((with_reducible show StrD _ _); refine d_str ?_) | ((with_reducible show LstD _ _); refine d_lst ?_) | ((with_reducible show TupD _ _); refine d_tup ?_)
    | ((with_reducible show StarD _ _); first | refine d_star ?_ | refine d_starT ?_)
    | ((with_reducible show OrdD _ _ _ _ _); first | refine d_ordI ?_ | refine d_ordS ?_)
    | ((with_reducible show EqD _ _ _); first | refine d_eqI ?_ | refine d_eqS ?_ | refine d_eqB ?_)
    | ((with_reducible show AddD _ _ _); refine d_addI ?_)
    | ((with_reducible show InD _ _ _); refine d_inS ?_)
    | ((with_reducible show SlD _ _ _ _ _); refine d_slL ?_)
    | ((with_reducible show IxD _ _ _ _); first | refine d_ixL (by rfl) ?_ | refine d_ixT (by rfl) ?_)
    | ((with_reducible show LenD _ _ _); first | refine d_lenL ?_ | refine d_lenT ?_ | refine d_lenC ?_)
    | ((with_reducible show StrOfD _ _); refine d_stS ?_)
    | ((with_reducible show Br _ _ _); first | refine brT ?_ | refine brF ?_)
    | ((with_reducible show CPowW 10 _ ∧ _); refine ⟨⟨by decide, by decide, by decide⟩, ?_⟩)
    | ((with_reducible show List.length _ ≤ sizeLine ∧ _); refine ⟨le_line (Nat.le_of_ble_eq_true rfl), ?_⟩))
  | `(tactic| walk_at "st") => `(tactic| first
    | ((with_reducible show Ev _ _ _ _ _ _); walk_at "ev")
    | ((with_reducible show Ess _ _ _ _ _ _); first | refine ess_one ?_ | refine ess_cons ?_ | refine ess_nil ?_)
    | ((with_reducible show Es _ _ _ _ _ _); walk_at "es")
    | ((with_reducible show Et _ _ _ _ _ _); walk_at "et")
    | ((with_reducible show Ew _ _ _ _ _ _); first | refine ew_or1 ?_ | refine ew_and1 ?_ | refine ew_or ?_ | refine ew_and ?_)
    | ((with_reducible show Ea _ _ _ _ _ _); first | refine ea_nil ?_ | refine ea_cons ?_ | refine ea_star ?_)
    | ((with_reducible show Ek _ _ _ _ _ _); first | refine ek_nil ?_ | refine ek_cons ?_)
    | ((with_reducible show Eo _ _ _ _ _ _); first | refine eo_none ?_ | refine eo_some ?_)
    | walk_at "da")
  | `(tactic| walk_at "go") => `(tactic| repeat walk_at "st")
  | `(tactic| walk_at "goE") => `(tactic| repeat (first
    | ((with_reducible show Ev _ _ _ _ _ _); walk_at "ev")
    | ((with_reducible show Ea _ _ _ _ _ _); first | refine ea_nil ?_ | refine ea_cons ?_ | refine ea_star ?_)
    | ((with_reducible show Ek _ _ _ _ _ _); first | refine ek_nil ?_ | refine ek_cons ?_)
    | ((with_reducible show Eo _ _ _ _ _ _); first | refine eo_none ?_ | refine eo_some ?_)
    | walk_at "da"))
  | `(tactic| walk_at "evM") => `(tactic| first
    | ((with_reducible show Ev _ _ _ _ (.List _ _) _); refine ev_lstM ?_)
    | ((with_reducible show Ev _ _ _ _ (.Subscript _ (.Slice _ _ _ _) _) _); refine ev_sliceM ?_))
  | `(tactic| walk_at "goM") => `(tactic| repeat (first | walk_at "evM" | walk_at "st"))
  | `(tactic| walk_at "set") => `(tactic| first
    | refine es_set (i := 0) (Ct.nd (by assumption)) rfl (.inl rfl) (.inr rfl) ?_ | refine es_set (i := 0) (Ct.nd (by assumption)) rfl (.inr rfl) (.inl rfl) ?_
    | refine es_set (i := 1) (Ct.nd (by assumption)) rfl (.inl rfl) (.inr rfl) ?_ | refine es_set (i := 1) (Ct.nd (by assumption)) rfl (.inr rfl) (.inl rfl) ?_
    | refine es_set (i := 2) (Ct.nd (by assumption)) rfl (.inl rfl) (.inr rfl) ?_ | refine es_set (i := 2) (Ct.nd (by assumption)) rfl (.inr rfl) (.inl rfl) ?_
    | refine es_set (i := 3) (Ct.nd (by assumption)) rfl (.inl rfl) (.inr rfl) ?_ | refine es_set (i := 3) (Ct.nd (by assumption)) rfl (.inr rfl) (.inl rfl) ?_
    | refine es_set (i := 4) (Ct.nd (by assumption)) rfl (.inl rfl) (.inr rfl) ?_ | refine es_set (i := 4) (Ct.nd (by assumption)) rfl (.inr rfl) (.inl rfl) ?_
    | refine es_set (i := 5) (Ct.nd (by assumption)) rfl (.inl rfl) (.inr rfl) ?_ | refine es_set (i := 5) (Ct.nd (by assumption)) rfl (.inr rfl) (.inl rfl) ?_
    | refine es_set (i := 6) (Ct.nd (by assumption)) rfl (.inl rfl) (.inr rfl) ?_ | refine es_set (i := 6) (Ct.nd (by assumption)) rfl (.inr rfl) (.inl rfl) ?_
    | refine es_set (i := 7) (Ct.nd (by assumption)) rfl (.inl rfl) (.inr rfl) ?_ | refine es_set (i := 7) (Ct.nd (by assumption)) rfl (.inr rfl) (.inl rfl) ?_
    | refine es_set (i := 8) (Ct.nd (by assumption)) rfl (.inl rfl) (.inr rfl) ?_ | refine es_set (i := 8) (Ct.nd (by assumption)) rfl (.inr rfl) (.inl rfl) ?_
    | refine es_set (i := 9) (Ct.nd (by assumption)) rfl (.inl rfl) (.inr rfl) ?_ | refine es_set (i := 9) (Ct.nd (by assumption)) rfl (.inr rfl) (.inl rfl) ?_
    | refine es_set (i := 10) (Ct.nd (by assumption)) rfl (.inl rfl) (.inr rfl) ?_ | refine es_set (i := 10) (Ct.nd (by assumption)) rfl (.inr rfl) (.inl rfl) ?_
    | refine es_set (i := 11) (Ct.nd (by assumption)) rfl (.inl rfl) (.inr rfl) ?_ | refine es_set (i := 11) (Ct.nd (by assumption)) rfl (.inr rfl) (.inl rfl) ?_
    | refine es_set (i := 12) (Ct.nd (by assumption)) rfl (.inl rfl) (.inr rfl) ?_ | refine es_set (i := 12) (Ct.nd (by assumption)) rfl (.inr rfl) (.inl rfl) ?_
    | refine es_set (i := 13) (Ct.nd (by assumption)) rfl (.inl rfl) (.inr rfl) ?_ | refine es_set (i := 13) (Ct.nd (by assumption)) rfl (.inr rfl) (.inl rfl) ?_
    | refine es_set (i := 14) (Ct.nd (by assumption)) rfl (.inl rfl) (.inr rfl) ?_ | refine es_set (i := 14) (Ct.nd (by assumption)) rfl (.inr rfl) (.inl rfl) ?_
    | refine es_set (i := 15) (Ct.nd (by assumption)) rfl (.inl rfl) (.inr rfl) ?_ | refine es_set (i := 15) (Ct.nd (by assumption)) rfl (.inr rfl) (.inl rfl) ?_
    | refine es_set (i := 16) (Ct.nd (by assumption)) rfl (.inl rfl) (.inr rfl) ?_ | refine es_set (i := 16) (Ct.nd (by assumption)) rfl (.inr rfl) (.inl rfl) ?_
    | refine es_set (i := 17) (Ct.nd (by assumption)) rfl (.inl rfl) (.inr rfl) ?_ | refine es_set (i := 17) (Ct.nd (by assumption)) rfl (.inr rfl) (.inl rfl) ?_
    | refine es_set (i := 18) (Ct.nd (by assumption)) rfl (.inl rfl) (.inr rfl) ?_ | refine es_set (i := 18) (Ct.nd (by assumption)) rfl (.inr rfl) (.inl rfl) ?_
    | refine es_set (i := 19) (Ct.nd (by assumption)) rfl (.inl rfl) (.inr rfl) ?_ | refine es_set (i := 19) (Ct.nd (by assumption)) rfl (.inr rfl) (.inl rfl) ?_
    | refine es_set (i := 20) (Ct.nd (by assumption)) rfl (.inl rfl) (.inr rfl) ?_ | refine es_set (i := 20) (Ct.nd (by assumption)) rfl (.inr rfl) (.inl rfl) ?_
    | refine es_set (i := 21) (Ct.nd (by assumption)) rfl (.inl rfl) (.inr rfl) ?_ | refine es_set (i := 21) (Ct.nd (by assumption)) rfl (.inr rfl) (.inl rfl) ?_
    | refine es_set (i := 22) (Ct.nd (by assumption)) rfl (.inl rfl) (.inr rfl) ?_ | refine es_set (i := 22) (Ct.nd (by assumption)) rfl (.inr rfl) (.inl rfl) ?_
    | refine es_set (i := 23) (Ct.nd (by assumption)) rfl (.inl rfl) (.inr rfl) ?_ | refine es_set (i := 23) (Ct.nd (by assumption)) rfl (.inr rfl) (.inl rfl) ?_)

/-! ### texts of many screens -/
abbrev Bd := Str × Int × List Str
def bdD (b : Bd) : D := .tup [.str b.1, .int b.2.1, .lst (b.2.2.map D.str)]
def bdT (b : Bd) : Str := textS b.1 b.2.1 b.2.2
def pageS (bs : List Bd) : Str := Txt.join "\n" (bs.map bdT)
def textOfD (d : D) : D := match d with
  | .tup [.str b, .int l, .lst xs] => .str (textS b l (strsD xs))
  | _ => .non
theorem strsD_map' : ∀ ws : List Str, strsD (ws.map D.str) = ws
  | [] => rfl
  | w :: ws => by
    show w :: strsD (ws.map D.str) = w :: ws
    rw [strsD_map' ws]
theorem textOf_bd (b : Bd) : textOfD (bdD b) = .str (bdT b) := by
  show D.str (textS b.1 b.2.1 (strsD (b.2.2.map D.str))) = _
  rw [strsD_map']
  rfl
/-- a screen that can be written -/
structure BdOk (b : Bd) : Prop where
  sc : screenD (bdD b) = true
  good : Good 58 (bdD b)
  sz : sizeW b.1 b.2.2 ≤ 6000
def sFormatScreens (W : Wd) : Spec := fun ds F Φ Ψ => ∃ v, ds = [v] ∧ Good 60 v ∧ (∀ xs, v = .lst xs → ∀ d ∈ xs, lensOk d) ∧ ((∃ bs : List Bd, v = .lst (bs.map bdD) ∧ bs.length ≤ 20 ∧ (∀ b ∈ bs, BdOk b) ∧ Φ (.str (pageS bs)) F) ∨ (screensD v = false ∧ Ψ ⟨clsA W "InvalidScreens", none⟩ F))
theorem bdT_len {b : Bd} (h : BdOk b) : (bdT b).length ≤ 9000 := by
  obtain ⟨b', l', ws', e, h1, h2, h3, h4, h5, h6, h7⟩ := screenD_form h.sc
  unfold bdD at e
  simp only [D.tup.injEq, List.cons.injEq, D.str.injEq, D.int.injEq, D.lst.injEq, and_true] at e
  obtain ⟨e1, e2, e3⟩ := e
  have h8 : (strI b.2.1).length ≤ 1921 := PyProof.Rows.int_text_len_1921 (by
    have h8 : b.2.1.natAbs ≤ 20 := by omega
    have h9 : b.2.1.natAbs.log2 ≤ b.2.1.natAbs := Nat.log2_le_self _
    omega)
  have h9 := h.sz
  have h10 := begS_len b.1
  have h11 := StrLaws.join_length_le " " (begS b.1 :: strI b.2.1 :: b.2.2)
  have h12 : (" " : Str).length = 1 := rfl
  have e4 : bdT b = Str.join " " (begS b.1 :: strI b.2.1 :: b.2.2) := TL.join_eq _ _
  unfold sizeW at h9
  rw [e4]
  simp only [List.map_cons, List.sum_cons, List.length_cons, h12] at h11
  omega
theorem bdT_sum {bs : List Bd} (h : ∀ b ∈ bs, BdOk b) : ((bs.map bdT).map (·.length)).sum ≤ 9000 * bs.length := by
  induction bs with
  | nil => exact Nat.le_refl _
  | cons b bs ih =>
    have h1 := bdT_len (h b List.mem_cons_self)
    have h2 := ih fun x hx => h x (List.mem_cons_of_mem _ hx)
    simp only [List.map_cons, List.sum_cons, List.length_cons]
    omega
abbrev nFormatScreens : List Str := ["screens", "screen"]
theorem scFormatScreens : FnScope nFormatScreens ["screens"] (defScope (top 28)) := ⟨rfl, rfl, rfl, by decide +kernel, rfl, by decide +kernel, by decide +kernel⟩
theorem okFormatScreens {W : Wd} (M : Md W) (a : At W "format_screens" (top 28)) (hAreScreens : Ok W 7 "are_screens" (top 17) ["value"] sAreScreens) (hScreenText : Ok W 2 "screen_text" (top 25) ["screen"] sScreenText) : Ok W 8 "format_screens" (top 28) ["screens"] (sFormatScreens W) := by
  refine Ok.of a scFormatScreens (fun ds F Φ Ψ h => ?_) (fun _ _ _ _ _ _ us hl => match us, hl with | [_], _ => rfl) (fun f cdv A outer s0 H0 E C ds F Φ Ψ h => ?_)
  · obtain ⟨v, rfl, hg, hl, kk⟩ := h
    rfl
  obtain ⟨v, rfl, hg, hl, kk⟩ := h
  have hR := C.room
  walk_at "go"
  refine ev_call hAreScreens (C.room.mono (by decide)) rfl ?_
  walk_at "go"
  refine ⟨v, 60, rfl, hg, hl, ?_⟩
  rcases kk with ⟨bs, rfl, hb, hok, k⟩ | ⟨hs, k⟩
  · have e : screensD (.lst (bs.map bdD)) = true := by
      show (decide ((bs.map bdD).length ≤ 20) && (bs.map bdD).all screenD) = true
      rw [List.length_map, decide_eq_true hb, List.all_map, Bool.true_and, List.all_eq_true]
      exact fun b h => (hok b h).sc
    rw [e]
    walk_at "go"
    refine ⟨"\n", rfl, ?_⟩
    refine ev_map rfl C.nd (own := [("screen", 1)]) (blkOk_by (N := nFormatScreens) (sc := defScope (top 28)) (by decide +kernel)) textOfD (ei_list ?_)
    walk_at "go"
    refine ⟨le_line (by rw [List.length_map]; omega), fun d F2 hd => ⟨_, fun s H B cl fp => gc_name (pg_name (i := 1) C.nd rfl (.inl rfl)) (by simp) ⟨rfl, rfl⟩, fun s H B cl fp => ?_⟩, ?_⟩
    · obtain ⟨b, hbm, rfl⟩ := List.mem_map.mp hd
      have ok := hok b hbm
      obtain ⟨b', l', ws', e, h1, h2, h3, h4, h5, h6, h7⟩ := screenD_form ok.sc
      unfold bdD at e
      simp only [D.tup.injEq, List.cons.injEq, D.str.injEq, D.int.injEq, D.lst.injEq, and_true] at e
      obtain ⟨e1, e2, e3⟩ := e
      refine ev_call hScreenText (C.room.mono (by decide)) rfl ?_
      walk_at "go"
      refine ⟨b.1, b.2.1, b.2.2, rfl, ?_, ?_, (textOf_bd b).symm, rfl⟩
      · have h8 : b.2.1.natAbs ≤ 20 := by omega
        have h9 : b.2.1.natAbs.log2 ≤ b.2.1.natAbs := Nat.log2_le_self _
        omega
      · have := ok.sz
        omega
    · have e2 : (bs.map bdD).map textOfD = (bs.map bdT).map D.str := by
        rw [List.map_map, List.map_map]
        exact List.map_congr_left fun b _ => textOf_bd b
      rw [e2]
      have s1 := bdT_sum hok
      have s2 : ("\n" : Str).length = 1 := rfl
      refine ⟨bs.map bdT, rfl, ?_, k⟩
      rw [s2, List.length_map]
      omega
  · rw [hs]
    walk_at "go"
    exact es_raiseS rfl M.InvalidScreens k
/-! ### the screens that a text denotes -/
theorem le_line_lt' {n : Nat} (h : n < 16000000) : n < sizeLine := by
  rw [sizeLine_eq]
  omega
def linesS (x : Str) : List Str := if x = "" then [] else Txt.split x "\n"
def parseL : List Bd → List Str → Sum Nat (List Bd)
  | acc, [] => .inr acc
  | acc, r :: rs => match readS r with
    | none => .inl acc.length
    | some b => if acc.length = 20 then .inl 20 else parseL (acc ++ [b]) rs
structure LinesOk (x : Str) : Prop where
  len : x.length ≤ 1000000
  few : (linesS x).length ≤ 1000000
  ok : ∀ r ∈ linesS x, TextOk r
def sParseScreens (W : Wd) : Spec := fun ds F Φ Ψ => ∃ v t, ds = [v] ∧ tyQ F v = some t ∧ ((∃ x, v = .str x ∧ LinesOk x ∧ match parseL [] (linesS x) with
  | .inl i => Ψ ⟨clsA W "InvalidText", some ("line", .int (i : Nat))⟩ F
  | .inr bs => ∀ l, F l = none → Φ (.raw (.ref l)) (updF F l (.lst (bs.map bdD)))) ∨ (isStrD v = false ∧ Ψ ⟨clsA W "InvalidText", some ("line", .non)⟩ F))
theorem ev_frzD {X : Cx} {Ψ : XP} {ρ : En} {F : FS} {e : Expr} {Φ : D → FS → Prop} (h : Ev X Ψ ρ F e (fun d F1 => ∃ l ds, F1 l = some (.lst ds) ∧ Φ (lend (one1 l ds) d) (delF F1 l))) : Ev X Ψ ρ F e Φ :=
  ⟨pe_weak h.pe fun σ H Q ⟨P, tk, hd, en, k⟩ => ⟨P, tk, hd, en, fun v d P1 F1 H1 s1 hd1 rp φ => by
    obtain ⟨l, ds, e1, φ⟩ := φ
    obtain ⟨P2, s2, hd2, r2⟩ := hd1.frz e1
    refine k _ _ P2 _ H1 (Same.trans s1 s2) hd2 (lend_rep s2 (fun l' ds' e' => ?_) rp) φ
    unfold one1 at e'
    split at e'
    · next h' =>
      subst h'
      cases e'
      cases r2 with
      | lst hq rr => exact ⟨_, hq, rr⟩
    · cases e'⟩⟩
theorem lend_bd (l : Addr) (b : Str) (n : Int) (ws : List Str) : lend (one1 l (ws.map D.str)) (.tup [.str b, .int n, .raw (.ref l)]) = bdD (b, n, ws) := by simp [lend, lends, one1, bdD]
theorem parseL_step {acc : List Bd} {rows : List Str} {i : Nat} {r : Str} (h : rows[i]? = some r) (e : acc.length = i) : parseL acc (rows.drop i) = match readS r with
    | none => .inl i
    | some b => if i = 20 then .inl 20 else parseL (acc ++ [b]) (rows.drop (i + 1)) := by
  obtain ⟨hi, hr⟩ := List.getElem?_eq_some_iff.mp h
  rw [List.drop_eq_getElem_cons hi, hr]
  show (match readS r with
    | none => Sum.inl acc.length
    | some b => if acc.length = 20 then Sum.inl 20 else parseL (acc ++ [b]) (rows.drop (i + 1))) = _
  rw [e]
abbrev nParseScreens : List Str := ["text", "found", "number", "row", "screen"]
theorem scParseScreens : FnScope nParseScreens ["text"] (defScope (top 29)) := ⟨rfl, rfl, rfl, by decide +kernel, rfl, by decide +kernel, by decide +kernel⟩
theorem okParseScreens {W : Wd} (M : Md W) (a : At W "parse_screens" (top 29)) (hRequireString : Ok W 3 "require_string" (top 27) ["text"] (sRequireString W)) (hScreenIn : Ok W 7 "screen_in" (top 26) ["text"] sScreenIn) : Ok W 8 "parse_screens" (top 29) ["text"] (sParseScreens W) := by
  refine Ok.of a scParseScreens (fun ds F Φ Ψ h => ?_) (fun _ _ _ _ _ _ us hl => match us, hl with | [_], _ => rfl) (fun f cdv A outer s0 H0 E C ds F Φ Ψ h => ?_)
  · obtain ⟨v, t, rfl, ht, k⟩ := h
    rfl
  obtain ⟨v, t, rfl, ht, k⟩ := h
  have hR := C.room
  walk_at "go"
  refine ev_call hRequireString (C.room.mono (by decide)) rfl ?_
  walk_at "go"
  refine ⟨v, t, rfl, ht, ?_⟩
  rcases k with ⟨x, rfl, hx, k⟩ | ⟨hs, k⟩
  · refine .inl ⟨rfl, ?_⟩
    refine ess_cons ?_
    walk_at "set"
    walk_at "goM"
    intro l hl
    refine ess_cons (es_for C.pass rfl (ei_enum (by walk_at "mg") ?_))
    refine Ev.mono (Φ := fun d F1 => d = .lst ((linesS x).map D.str) ∧ F1 = updF F l (.lst [])) ?_ (fun d F1 hd => ?_)
    · walk_at "go"
      refine ⟨fun h => ?_, fun h => ?_⟩
      · have h : x ≠ "" := by simpa using h
        walk_at "go"
        refine ⟨x, rfl, ?_⟩
        have := hx.len
        walk_at "go"
        refine ⟨"\n", rfl, by decide, le_line (by omega), ?_⟩
        unfold linesS
        rw [if_neg h]
        exact ⟨rfl, rfl⟩
      · have h : x = "" := by simpa using h
        walk_at "go"
        unfold linesS
        rw [if_pos h]
        exact ⟨rfl, rfl⟩
    obtain ⟨rfl, rfl⟩ := hd
    show LstD (D.lst ((linesS x).map D.str)) _
    walk_at "go"
    refine ⟨fun i ρ2 F2 => ∃ (acc : List Bd) (a b c : Option D), acc.length = i ∧ ρ2 = [some (.str x), some (.raw (.ref l)), a, b, c] ∧ F2 = updF F l (.lst (acc.map bdD)) ∧ parseL [] (linesS x) = parseL acc ((linesS x).drop i) ∧ i ≤ 20, ⟨[], none, none, none, rfl, rfl, rfl, rfl, by decide⟩, ?_, ?_⟩
    · rintro i d ρ2 F2 hd ⟨acc, a, b, c, ha, rfl, rfl, hp, hi⟩
      obtain ⟨d2, hd2, rfl⟩ := enumD_get hd
      rw [List.getElem?_map] at hd2
      obtain ⟨r, hr, rfl⟩ : ∃ r, (linesS x)[i]? = some r ∧ d2 = .str r := by
        cases e : (linesS x)[i]? with
        | none =>
          rw [e] at hd2
          cases hd2
        | some r =>
          rw [e] at hd2
          exact ⟨r, rfl, (Option.some.inj hd2).symm⟩
      rw [parseL_step hr ha] at hp
      have tx := hx.ok r (List.mem_of_getElem? hr)
      refine eg_tup rfl ?_
      refine ⟨rfl, egs_cons (eg_name (pg_name (i := 2) C.nd rfl (by first | exact .inl rfl | exact .inr rfl)) (egs_cons (eg_name (pg_name (i := 3) C.nd rfl (by first | exact .inl rfl | exact .inr rfl)) (egs_nil ?_))))⟩
      refine ess_cons ?_
      walk_at "set"
      cases hrd : readS r with
      | none =>
        rw [hrd] at hp
        rw [hp] at k
        refine ev_call hScreenIn (C.room.mono (by decide)) rfl ?_
        walk_at "go"
        refine ⟨r, rfl, tx, ?_⟩
        rw [hrd]
        refine ess_less (upd_more hl) ?_
        walk_at "go"
        exact es_raiseI rfl M.InvalidText (C.room.mono (by decide)) (by walk_at "go"; exact k)
      | some bb =>
        obtain ⟨b1, n1, ws1⟩ := bb
        rw [hrd] at hp
        refine ev_frzD ?_
        refine ev_call hScreenIn (C.room.mono (by decide)) rfl ?_
        walk_at "go"
        refine ⟨r, rfl, tx, ?_⟩
        rw [hrd]
        intro l2 hl2
        refine ⟨l2, _, updF_same, ?_⟩
        rw [delF_updF hl2, lend_bd]
        unfold bdD
        walk_at "go"
        refine ev_gint M.MOST_LINES ?_
        walk_at "go"
        refine ⟨fun h => ?_, fun h => ?_⟩
        · have h : i = 20 := by
            have := of_decide_eq_true h
            omega
          subst h
          rw [hp] at k
          refine ess_less (upd_more hl) ?_
          walk_at "go"
          exact es_raiseI rfl M.InvalidText (C.room.mono (by decide)) (by walk_at "go"; exact k)
        · have h : i ≠ 20 := by
            have := of_decide_eq_false h
            omega
          walk_at "go"
          refine ⟨⟨l, _, rfl, updF_same⟩, ?_⟩
          walk_at "go"
          refine ⟨l, _, rfl, updF_same, le_line_lt' (by rw [List.length_map]; omega), ?_⟩
          walk_at "go"
          refine ⟨acc ++ [(b1, n1, ws1)], _, _, _, by rw [List.length_append, ha]; rfl, rfl, ?_, ?_, by omega⟩
          · rw [updF_updF, List.map_append]
            rfl
          · rw [hp]
            exact if_neg h
    · rintro ρ2 F2 ⟨acc, a, b, c, ha, rfl, rfl, hp, hi⟩
      rw [enumD_len, List.length_map, List.drop_length] at hp
      rw [hp] at k
      walk_at "go"
      exact k l hl
  · exact .inr ⟨hs, k⟩

end TM

set_option Elab.async false
set_option linter.all false
set_option maxRecDepth 100000
set_option maxHeartbeats 4000000
set_option pp.maxSteps 500
namespace TM
open PySem PySem.Spec PyProof.Rows L2
local macro_rules
  | `(tactic| walk_at "iv") => `(tactic| first | exact pv 0 | exact pv 1 | exact pv 2 | exact pv 3 | exact pv 4 | exact pv 5 | exact pv 6 | exact pv 7 | exact pv 8 | exact pv 9 | exact pv 10 | exact pv 11 | exact pv 12 | exact pv 13 | exact pv 14 | exact pv 15 | exact pv 16 | exact pv 17 | exact pv 18 | exact pv 19 | exact pv 20 | exact pv 21 | exact pv 22 | exact pv 23)
  | `(tactic| walk_at "mg") => `(tactic| exact Md.bi (by assumption) _ (by decide))
  | `(tactic| walk_at "ev") => `(tactic| first
    | ((with_reducible show Ev _ _ _ _ (.Name _ _) _); refine ev_var (by walk_at "iv") (by with_unfolding_all rfl) ?_)
    | ((with_reducible show Ev _ _ _ _ (.Constant _ _ _) _); first | refine ev_int ?_ | refine ev_str ?_ | refine ev_bl ?_ | refine ev_non ?_)
    | ((with_reducible show Ev _ _ _ _ (.BinOp (.List _ _) .Mult _ _) _); refine ev_rep ?_)
    | ((with_reducible show Ev _ _ _ _ (.BinOp _ _ _ _) _); first | refine ev_add ?_ | refine ev_sub ?_ | refine ev_mod ?_ | refine ev_fdivW ?_ | refine ev_pow ?_ | refine ev_mul ?_)
    | ((with_reducible show Ev _ _ _ _ (.Compare _ [_] _ _) _); first | refine ev_isN ?_ | refine ev_notN ?_ | refine ev_lt ?_ | refine ev_le ?_ | refine ev_gt ?_ | refine ev_ge ?_ | refine ev_eq (RoomG.mono (by assumption) (Nat.zero_le _)) ?_ | refine ev_ne (RoomG.mono (by assumption) (Nat.zero_le _)) ?_ | refine ev_in ?_ | refine ev_nin ?_)
    | ((with_reducible show Ev _ _ _ _ (.Compare _ _ _ _) _); refine ev_chain ord_le ord_le ?_)
    | ((with_reducible show Ev _ _ _ _ (.BoolOp _ _ _) _); first | refine ev_b1 ?_ | refine ev_and ?_ | refine ev_or ?_)
    | ((with_reducible show Ev _ _ _ _ (.UnaryOp _ _ _) _); first | refine ev_not ?_ | refine ev_neg ?_)
    | ((with_reducible show Ev _ _ _ _ (.IfExp _ _ _ _) _); refine ev_if ?_)
    | ((with_reducible show Ev _ _ _ _ (.Tuple _ _ _) _); refine ev_tup ?_)
    | ((with_reducible show Ev _ _ _ _ (.List _ _) _); refine ev_lst ?_)
    | ((with_reducible show Ev _ _ _ _ (.Dict _ _ _) _); refine ev_dct0 ?_)
    | ((with_reducible show Ev _ _ _ _ (.Subscript _ (.Slice _ _ _ _) _) _); refine ev_slice ?_)
    | ((with_reducible show Ev _ _ _ _ (.Subscript _ _ _) _); refine ev_ix ?_)
    | ((with_reducible show Ev _ _ _ _ (.Call (.Name "isinstance" _) [_, .Name "int" _] _ _) _); refine ev_isInt (by walk_at "mg") (by walk_at "mg") ?_)
    | ((with_reducible show Ev _ _ _ _ (.Call (.Name "isinstance" _) [_, .Name "bool" _] _ _) _); refine ev_isBool (by walk_at "mg") (by walk_at "mg") ?_)
    | ((with_reducible show Ev _ _ _ _ (.Call (.Name "isinstance" _) [_, .Name "str" _] _ _) _); refine ev_isStr (by walk_at "mg") (by walk_at "mg") ?_)
    | ((with_reducible show Ev _ _ _ _ (.Call (.Name "isinstance" _) [_, .Name "list" _] _ _) _); refine ev_isList (by walk_at "mg") (by walk_at "mg") ?_)
    | ((with_reducible show Ev _ _ _ _ (.Call (.Name "isinstance" _) [_, .Name "tuple" _] _ _) _); refine ev_isTup (by walk_at "mg") (by walk_at "mg") ?_)
    | ((with_reducible show Ev _ _ _ _ (.Call (.Name "len" _) [.Call (.Name "set" _) _ _ _] _ _) _); refine ev_lenS rfl (by walk_at "mg") (by walk_at "mg") ?_)
    | ((with_reducible show Ev _ _ _ _ (.Call (.Name "len" _) _ _ _) _); refine ev_len (by walk_at "mg") ?_)
    | ((with_reducible show Ev _ _ _ _ (.Call (.Name "abs" _) _ _ _) _); refine ev_abs (by walk_at "mg") ?_)
    | ((with_reducible show Ev _ _ _ _ (.Call (.Name "all" _) _ _ _) _); refine ev_all rfl (by walk_at "mg") ?_)
    | ((with_reducible show Ev _ _ _ _ (.Call (.Name "any" _) _ _ _) _); refine ev_any rfl (by walk_at "mg") ?_)
    | ((with_reducible show Ev _ _ _ _ (.Call (.Name "max" _) _ _ _) _); refine ev_max2 rfl (by walk_at "mg") ?_)
    | ((with_reducible show Ev _ _ _ _ (.Call (.Name "min" _) _ _ _) _); refine ev_min2 rfl (by walk_at "mg") ?_)
    | ((with_reducible show Ev _ _ _ _ (.Call (.Name "str" _) _ _ _) _); refine ev_strOf (by walk_at "mg") ?_)
    | ((with_reducible show Ev _ _ _ _ (.Call (.Name "int" _) _ _ _) _); refine ev_intOf (by walk_at "mg") ?_)
    | ((with_reducible show Ev _ _ _ _ (.Call (.Name "list" _) _ _ _) _); refine ev_listOf rfl (by walk_at "mg") ?_)
    | ((with_reducible show Ev _ _ _ _ (.Call (.Name "tuple" _) _ _ _) _); refine ev_tupOf (by walk_at "mg") ?_)
    | ((with_reducible show Ev _ _ _ _ (.Call (.Name "repr" _) _ _ _) _); refine ev_repr (RoomG.mono (by assumption) (Nat.zero_le _)) (by walk_at "mg") ?_)
    | ((with_reducible show Ev _ _ _ _ (.Call (.Attribute _ "startswith" _) _ _ _) _); refine ev_startswith ?_)
    | ((with_reducible show Ev _ _ _ _ (.Call (.Attribute _ "split" _) _ _ _) _); refine ev_split ?_)
    | ((with_reducible show Ev _ _ _ _ (.Call (.Attribute _ "join" _) _ _ _) _); refine ev_join ?_)
    | ((with_reducible show Ev _ _ _ _ (.Call (.Attribute _ "append" _) _ _ _) _); refine ev_append ?_)
    | ((with_reducible show Ev _ _ _ _ (.Call (.Attribute _ "extend" _) _ _ _) _); refine ev_extend ?_)
    | ((with_reducible show Ev _ _ _ _ (.Call (.Attribute _ "pop" _) _ _ _) _); first | refine ev_popAt ?_ | refine ev_pop0 ?_)
    | ((with_reducible show Ev _ _ _ _ (.Call (.Attribute _ "reverse" _) _ _ _) _); refine ev_reverse ?_)
    | ((with_reducible show Ev _ _ _ _ (.Call (.Attribute _ "clear" _) _ _ _) _); refine ev_clear ?_))
  | `(tactic| walk_at "et") => `(tactic| first
    | ((with_reducible show Et _ _ _ _ (.Compare _ [_] _ _) _); first | refine et_isN ?_ | refine et_notN ?_ | refine et_lt ?_ | refine et_le ?_ | refine et_gt ?_ | refine et_ge ?_ | refine et_eq (RoomG.mono (by assumption) (Nat.zero_le _)) ?_ | refine et_ne (RoomG.mono (by assumption) (Nat.zero_le _)) ?_ | refine et_in ?_ | refine et_nin ?_)
    | ((with_reducible show Et _ _ _ _ (.Compare _ [_, _] _ _) _); refine et_chain ord_le ord_le ?_)
    | ((with_reducible show Et _ _ _ _ (.UnaryOp _ _ _) _); refine et_not ?_)
    | ((with_reducible show Et _ _ _ _ (.BoolOp _ _ _) _); first | refine et_w (ew_or ?_) | refine et_w (ew_and ?_))
    | refine et_val ?_)
  | `(tactic| walk_at "es") => `(tactic| first | refine es_pass ?_ | refine es_break ?_ | refine es_continue ?_ | refine es_ret ?_ | refine es_retN ?_ | refine es_if ?_ | refine es_expr ?_)
  | `(tactic| walk_at "da") => `(tactic| first
    | ((with_reducible show BlD _ _); refine d_bl ?_) | ((with_reducible show IntD _ _); refine d_int ?_) | ((with_reducible show StrD _ _); refine d_str ?_) | ((with_reducible show LstD _ _); refine d_lst ?_) | ((with_reducible show TupD _ _); refine d_tup ?_)
    | ((with_reducible show StarD _ _); first | refine d_star ?_ | refine d_starT ?_)
    | ((with_reducible show OrdD _ _ _ _ _); first | refine d_ordI ?_ | refine d_ordS ?_)
    | ((with_reducible show EqD _ _ _); first | refine d_eqI ?_ | refine d_eqS ?_ | refine d_eqB ?_)
    | ((with_reducible show AddD _ _ _); refine d_addI ?_)
    | ((with_reducible show InD _ _ _); refine d_inS ?_)
    | ((with_reducible show SlD _ _ _ _ _); refine d_slL ?_)
    | ((with_reducible show IxD _ _ _ _); first | refine d_ixL (by rfl) ?_ | refine d_ixT (by rfl) ?_)
    | ((with_reducible show LenD _ _ _); first | refine d_lenL ?_ | refine d_lenT ?_ | refine d_lenC ?_)
    | ((with_reducible show StrOfD _ _); refine d_stS ?_)
    | ((with_reducible show Br _ _ _); first | refine brT ?_ | refine brF ?_)
    | ((with_reducible show CPowW 10 _ ∧ _); refine ⟨⟨by decide, by decide, by decide⟩, ?_⟩)
    | ((with_reducible show List.length _ ≤ sizeLine ∧ _); refine ⟨le_line (Nat.le_of_ble_eq_true rfl), ?_⟩))
  | `(tactic| walk_at "st") => `(tactic| first
    | ((with_reducible show Ev _ _ _ _ _ _); walk_at "ev")
    | ((with_reducible show Ess _ _ _ _ _ _); first | refine ess_one ?_ | refine ess_cons ?_ | refine ess_nil ?_)
    | ((with_reducible show Es _ _ _ _ _ _); walk_at "es")
    | ((with_reducible show Et _ _ _ _ _ _); walk_at "et")
    | ((with_reducible show Ew _ _ _ _ _ _); first | refine ew_or1 ?_ | refine ew_and1 ?_ | refine ew_or ?_ | refine ew_and ?_)
    | ((with_reducible show Ea _ _ _ _ _ _); first | refine ea_nil ?_ | refine ea_cons ?_ | refine ea_star ?_)
    | ((with_reducible show Ek _ _ _ _ _ _); first | refine ek_nil ?_ | refine ek_cons ?_)
    | ((with_reducible show Eo _ _ _ _ _ _); first | refine eo_none ?_ | refine eo_some ?_)
    | walk_at "da")
  | `(tactic| walk_at "go") => `(tactic| repeat walk_at "st")
  | `(tactic| walk_at "goE") => `(tactic| repeat (first
    | ((with_reducible show Ev _ _ _ _ _ _); walk_at "ev")
    | ((with_reducible show Ea _ _ _ _ _ _); first | refine ea_nil ?_ | refine ea_cons ?_ | refine ea_star ?_)
    | ((with_reducible show Ek _ _ _ _ _ _); first | refine ek_nil ?_ | refine ek_cons ?_)
    | ((with_reducible show Eo _ _ _ _ _ _); first | refine eo_none ?_ | refine eo_some ?_)
    | walk_at "da"))
  | `(tactic| walk_at "evM") => `(tactic| first
    | ((with_reducible show Ev _ _ _ _ (.List _ _) _); refine ev_lstM ?_)
    | ((with_reducible show Ev _ _ _ _ (.Subscript _ (.Slice _ _ _ _) _) _); refine ev_sliceM ?_))
  | `(tactic| walk_at "goM") => `(tactic| repeat (first | walk_at "evM" | walk_at "st"))
  | `(tactic| walk_at "set") => `(tactic| first
    | refine es_set (i := 0) (Ct.nd (by assumption)) rfl (.inl rfl) (.inr rfl) ?_ | refine es_set (i := 0) (Ct.nd (by assumption)) rfl (.inr rfl) (.inl rfl) ?_
    | refine es_set (i := 1) (Ct.nd (by assumption)) rfl (.inl rfl) (.inr rfl) ?_ | refine es_set (i := 1) (Ct.nd (by assumption)) rfl (.inr rfl) (.inl rfl) ?_
    | refine es_set (i := 2) (Ct.nd (by assumption)) rfl (.inl rfl) (.inr rfl) ?_ | refine es_set (i := 2) (Ct.nd (by assumption)) rfl (.inr rfl) (.inl rfl) ?_
    | refine es_set (i := 3) (Ct.nd (by assumption)) rfl (.inl rfl) (.inr rfl) ?_ | refine es_set (i := 3) (Ct.nd (by assumption)) rfl (.inr rfl) (.inl rfl) ?_
    | refine es_set (i := 4) (Ct.nd (by assumption)) rfl (.inl rfl) (.inr rfl) ?_ | refine es_set (i := 4) (Ct.nd (by assumption)) rfl (.inr rfl) (.inl rfl) ?_
    | refine es_set (i := 5) (Ct.nd (by assumption)) rfl (.inl rfl) (.inr rfl) ?_ | refine es_set (i := 5) (Ct.nd (by assumption)) rfl (.inr rfl) (.inl rfl) ?_
    | refine es_set (i := 6) (Ct.nd (by assumption)) rfl (.inl rfl) (.inr rfl) ?_ | refine es_set (i := 6) (Ct.nd (by assumption)) rfl (.inr rfl) (.inl rfl) ?_
    | refine es_set (i := 7) (Ct.nd (by assumption)) rfl (.inl rfl) (.inr rfl) ?_ | refine es_set (i := 7) (Ct.nd (by assumption)) rfl (.inr rfl) (.inl rfl) ?_
    | refine es_set (i := 8) (Ct.nd (by assumption)) rfl (.inl rfl) (.inr rfl) ?_ | refine es_set (i := 8) (Ct.nd (by assumption)) rfl (.inr rfl) (.inl rfl) ?_
    | refine es_set (i := 9) (Ct.nd (by assumption)) rfl (.inl rfl) (.inr rfl) ?_ | refine es_set (i := 9) (Ct.nd (by assumption)) rfl (.inr rfl) (.inl rfl) ?_
    | refine es_set (i := 10) (Ct.nd (by assumption)) rfl (.inl rfl) (.inr rfl) ?_ | refine es_set (i := 10) (Ct.nd (by assumption)) rfl (.inr rfl) (.inl rfl) ?_
    | refine es_set (i := 11) (Ct.nd (by assumption)) rfl (.inl rfl) (.inr rfl) ?_ | refine es_set (i := 11) (Ct.nd (by assumption)) rfl (.inr rfl) (.inl rfl) ?_
    | refine es_set (i := 12) (Ct.nd (by assumption)) rfl (.inl rfl) (.inr rfl) ?_ | refine es_set (i := 12) (Ct.nd (by assumption)) rfl (.inr rfl) (.inl rfl) ?_
    | refine es_set (i := 13) (Ct.nd (by assumption)) rfl (.inl rfl) (.inr rfl) ?_ | refine es_set (i := 13) (Ct.nd (by assumption)) rfl (.inr rfl) (.inl rfl) ?_
    | refine es_set (i := 14) (Ct.nd (by assumption)) rfl (.inl rfl) (.inr rfl) ?_ | refine es_set (i := 14) (Ct.nd (by assumption)) rfl (.inr rfl) (.inl rfl) ?_
    | refine es_set (i := 15) (Ct.nd (by assumption)) rfl (.inl rfl) (.inr rfl) ?_ | refine es_set (i := 15) (Ct.nd (by assumption)) rfl (.inr rfl) (.inl rfl) ?_
    | refine es_set (i := 16) (Ct.nd (by assumption)) rfl (.inl rfl) (.inr rfl) ?_ | refine es_set (i := 16) (Ct.nd (by assumption)) rfl (.inr rfl) (.inl rfl) ?_
    | refine es_set (i := 17) (Ct.nd (by assumption)) rfl (.inl rfl) (.inr rfl) ?_ | refine es_set (i := 17) (Ct.nd (by assumption)) rfl (.inr rfl) (.inl rfl) ?_
    | refine es_set (i := 18) (Ct.nd (by assumption)) rfl (.inl rfl) (.inr rfl) ?_ | refine es_set (i := 18) (Ct.nd (by assumption)) rfl (.inr rfl) (.inl rfl) ?_
    | refine es_set (i := 19) (Ct.nd (by assumption)) rfl (.inl rfl) (.inr rfl) ?_ | refine es_set (i := 19) (Ct.nd (by assumption)) rfl (.inr rfl) (.inl rfl) ?_
    | refine es_set (i := 20) (Ct.nd (by assumption)) rfl (.inl rfl) (.inr rfl) ?_ | refine es_set (i := 20) (Ct.nd (by assumption)) rfl (.inr rfl) (.inl rfl) ?_
    | refine es_set (i := 21) (Ct.nd (by assumption)) rfl (.inl rfl) (.inr rfl) ?_ | refine es_set (i := 21) (Ct.nd (by assumption)) rfl (.inr rfl) (.inl rfl) ?_
    | refine es_set (i := 22) (Ct.nd (by assumption)) rfl (.inl rfl) (.inr rfl) ?_ | refine es_set (i := 22) (Ct.nd (by assumption)) rfl (.inr rfl) (.inl rfl) ?_
    | refine es_set (i := 23) (Ct.nd (by assumption)) rfl (.inl rfl) (.inr rfl) ?_ | refine es_set (i := 23) (Ct.nd (by assumption)) rfl (.inr rfl) (.inl rfl) ?_)

/-! ### the law's draws -/
def pou (a b c : Int) : MO := .lst [.int a, .int b, .int c]
/-- p holds the numbers of a pouch, at most n of them drawn -/
def PW (p : Addr) (b n : Int) (F : FS) : Prop := 0 ≤ b ∧ b < 1000000000000000000000000000000000000 ∧ n ≤ 1000000000 ∧ ∃ a c, F p = some (pou a b c) ∧ 0 ≤ a ∧ 0 ≤ c ∧ c ≤ n
theorem PW.up {p : Addr} {b n m : Int} {F : FS} (h : PW p b n F) (hm : n ≤ m) (hm2 : m ≤ 1000000000) : PW p b m F := by
  obtain ⟨h1, h2, h3, a, c, h4, h5, h6, h7⟩ := h
  exact ⟨h1, h2, hm2, a, c, h4, h5, h6, by omega⟩
theorem PW.at_ {p : Addr} {b n : Int} {F F' : FS} (h : PW p b n F) (e : F' p = F p) : PW p b n F' := by
  obtain ⟨h1, h2, h3, a, c, h4, h5⟩ := h
  exact ⟨h1, h2, h3, a, c, e.trans h4, h5⟩
theorem PW.ne {p q : Addr} {b n : Int} {F : FS} {m : MO} (h : PW p b n F) (hq : p ≠ q) : PW p b n (updF F q m) := h.at_ (updF_ne hq)
theorem PW.put {p : Addr} {b n : Int} {F F' : FS} {m : MO} (h : PW p b n (updF F p m)) : PW p b n (updF F' p m) := h.at_ (by rw [updF_same, updF_same])
theorem PW.has {p : Addr} {b n : Int} {F : FS} (h : PW p b n F) : ∃ m, F p = some m := by
  obtain ⟨h1, h2, h3, a, c, h4, _⟩ := h
  exact ⟨_, h4⟩
def sPouch : Spec := fun ds F Φ _ => ∃ ns k, ds = [.scr ns, .int k] ∧ 0 ≤ k ∧ k < 100 ∧ ∀ p mo b, F p = none → PW p b 0 (updF F p mo) → Φ (.raw (.ref p)) (updF F p mo)
theorem pw18 : (10 : Int) ^ (18 : Int).toNat = 1000000000000000000 := by decide +kernel
theorem pw33 : (10 : Int) ^ (33 : Int).toNat = 1000000000000000000000000000000000 := by decide +kernel
theorem pw41 : (10 : Int) ^ (41 : Int).toNat = 100000000000000000000000000000000000000000 := by decide +kernel
theorem pw42 : (10 : Int) ^ (42 : Int).toNat = 1000000000000000000000000000000000000000000 := by decide +kernel
theorem log_small {i : Int} (h1 : -1000000000000000000000000000000000000 < i) (h2 : i < 1000000000000000000000000000000000000000000000) : i.natAbs.log2 < 150 := by
  refine log2_lt ?_ (by decide)
  have e : (2 : Nat) ^ 150 = 1427247692705959881058285969449495136382746624 := by decide +kernel
  rw [e]
  omega
theorem cmul_small {i j : Int} (h1 : -1000000000000000000000000000000000000 < i) (h2 : i < 1000000000000000000000000000000000000000000000) (h3 : -1000000000000000000000000000000000000 < j) (h4 : j < 1000000000000000000000000000000000000000000000) : CMulW i j := by
  have a := log_small h1 h2
  have b := log_small h3 h4
  unfold CMulW
  omega
theorem cpow_small {i : Int} (h1 : -1000000000000000000000000000000000000 < i) (h2 : i < 1000000000000000000000000000000000000000000000) : CPowW i 3 := by
  have a := log_small h1 h2
  exact ⟨by decide, by decide, by omega⟩
abbrev nPouch : List Str := ["script", "k", "cell"]
theorem scPouch : FnScope nPouch ["script", "k"] (defScope (top 31)) := ⟨rfl, rfl, rfl, by decide +kernel, rfl, by decide +kernel, by decide +kernel⟩
theorem okPouch {W : Wd} (M : Md W) (a : At W "_law_pouch" (top 31))  : Ok W 1 "_law_pouch" (top 31) ["script", "k"] sPouch := by
  refine Ok.of a scPouch (fun ds F Φ Ψ h => ?_) (fun _ _ _ _ _ _ us hl => match us, hl with | [_, _], _ => rfl) (fun f cdv A outer s0 H0 E C ds F Φ Ψ h => ?_)
  · obtain ⟨ns, k, rfl, h0, h1, kk⟩ := h
    rfl
  obtain ⟨ns, k, rfl, h0, h1, kk⟩ := h
  have hR := C.room
  walk_at "go"
  walk_at "set"
  refine Ev.mono (Φ := fun d F1 => (∃ v, d = .int v) ∧ F1 = F) ?_ (fun d F1 hd => ?_)
  · walk_at "go"
    refine ⟨fun hb => ?_, fun hb => ?_⟩
    · walk_at "go"
      have hb : k < (ns.length : Int) := by simpa using hb
      obtain ⟨j, rfl⟩ := Int.eq_ofNat_of_zero_le h0
      have hj : j < ns.length := by omega
      exact ⟨ns[j], atI_nat (by simp [hj]), ⟨_, rfl⟩, rfl⟩
    · walk_at "go"
      exact ⟨⟨_, rfl⟩, rfl⟩
  obtain ⟨⟨v, rfl⟩, rfl⟩ := hd
  refine ess_one (es_ret ?_)
  walk_at "goM"
  refine ⟨_, _, rfl, ?_⟩
  walk_at "goM"
  rw [pw33, pw18]
  refine ⟨by decide, ?_⟩
  walk_at "goM"
  refine d_mulI (cmul_small (by omega) (by omega) (by omega) (by omega)) ?_
  walk_at "goM"
  refine d_mulI (cmul_small (by omega) (by omega) (by omega) (by omega)) ?_
  walk_at "goM"
  intro p hp
  refine kk p _ (v % (1000000000000000000000000000000000 + 61) * 11 + 4001 * k + 3) hp ⟨by omega, by omega, by omega, _, _, updF_same, ?_, by omega, by omega⟩
  split <;> omega
def sPick : Spec := fun ds F Φ _ => ∃ p m b n, ds = [.raw (.ref p), .int m] ∧ PW p b n F ∧ n < 1000000000 ∧ 0 < m ∧ m < 1000000000000 ∧ ∀ r mo, 0 ≤ r → r < m → PW p b (n + 1) (updF F p mo) → Φ (.int r) (updF F p mo)
theorem cdiv_small {i j : Int} (h1 : 0 < j) (h2 : j < 1000000000000000000000000000000000000000000000) : CDivW i j := by
  have a := log_small (i := j) (by omega) h2
  exact ⟨h1, by omega⟩
theorem ix0 {a b c : D} : atI [a, b, c] 0 = some a := rfl
theorem ix1 {a b c : D} : atI [a, b, c] 1 = some b := rfl
theorem ix2 {a b c : D} : atI [a, b, c] 2 = some c := rfl
abbrev nPick : List Str := ["pouch", "many", "part", "mixed"]
theorem scPick : FnScope nPick ["pouch", "many"] (defScope (top 32)) := ⟨rfl, rfl, rfl, by decide +kernel, rfl, by decide +kernel, by decide +kernel⟩
theorem okPick {W : Wd} (M : Md W) (a : At W "_law_pick" (top 32))  : Ok W 1 "_law_pick" (top 32) ["pouch", "many"] sPick := by
  refine Ok.of a scPick (fun ds F Φ Ψ h => ?_) (fun _ _ _ _ _ _ us hl => match us, hl with | [_, _], _ => rfl) (fun f cdv A outer s0 H0 E C ds F Φ Ψ h => ?_)
  · obtain ⟨p, m, b, n, rfl, hp, hn, hm, hm2, kk⟩ := h
    rfl
  obtain ⟨p, m, b, n, rfl, hp, hn, hm, hm2, kk⟩ := h
  have hR := C.room
  obtain ⟨b1, b2, b3, a, c, e, a0, c0, cn⟩ := hp
  walk_at "go"
  refine d_ixR e ix0 ?_
  walk_at "go"
  refine ⟨fun h1 => ?_, fun h1 => ?_⟩
  · have h1 : 0 < a := by simpa using h1
    walk_at "go"
    walk_at "set"
    walk_at "go"
    refine d_ixR e ix0 ?_
    walk_at "go"
    refine ⟨hm, ?_⟩
    walk_at "go"
    refine es_asg ?_
    walk_at "go"
    refine d_ixR e ix0 ?_
    walk_at "go"
    refine ⟨cdiv_small hm (by omega), ?_⟩
    refine eg_ix ?_
    walk_at "go"
    refine ⟨p, _, 0, 0, rfl, rfl, e, rfl, ?_⟩
    walk_at "go"
    refine kk _ _ (Int.emod_nonneg _ (by omega)) (Int.emod_lt_of_pos _ hm) ⟨b1, b2, by omega, a / m, c, updF_same, Int.ediv_nonneg (by omega) (by omega), c0, by omega⟩
  · walk_at "go"
    refine es_asg ?_
    walk_at "go"
    refine d_ixR e ix2 ?_
    walk_at "go"
    refine eg_ix ?_
    walk_at "go"
    refine ⟨p, _, 2, 2, rfl, rfl, e, rfl, ?_⟩
    walk_at "go"
    walk_at "set"
    walk_at "go"
    refine d_ixR updF_same ix1 ?_
    walk_at "go"
    refine d_ixR updF_same ix2 ?_
    refine d_mulI (cmul_small (by omega) (by omega) (by omega) (by omega)) ?_
    walk_at "go"
    refine ⟨cpow_small (by omega) (by omega), ?_⟩
    walk_at "go"
    rw [pw42]
    refine ⟨by decide, ?_⟩
    generalize (b + 86028121 * (c + 1)) ^ (3 : Int).toNat = y1
    have y2 : 0 ≤ y1 % (1000000000000000000000000000000000000000000 + 63) ∧ y1 % (1000000000000000000000000000000000000000000 + 63) < 1000000000000000000000000000000000000000063 := by omega
    generalize y1 % (1000000000000000000000000000000000000000000 + 63) = y3 at y2
    walk_at "go"
    walk_at "set"
    walk_at "go"
    refine d_ixR updF_same ix2 ?_
    refine d_mulI (cmul_small (by omega) (by omega) (by omega) (by omega)) ?_
    walk_at "go"
    refine ⟨cpow_small (by omega) (by omega), ?_⟩
    walk_at "go"
    rw [pw41]
    refine ⟨by decide, ?_⟩
    walk_at "go"
    refine ⟨cdiv_small (by decide) (by decide), ?_⟩
    walk_at "go"
    refine ⟨hm, ?_⟩
    exact kk _ _ (Int.emod_nonneg _ (by omega)) (Int.emod_lt_of_pos _ hm) ⟨b1, b2, by omega, a, c + 1, updF_same, a0, by omega, by omega⟩
/-! ### draws in a row -/
/-- what a row of draws from the list at pl keeps: rest is left, acc was taken -/
structure Row (p pl L : Addr) (b n : Int) (F : FS) (ls acc rest : List D) (F2 : FS) : Prop where
  npl : p ≠ pl
  nL : L ≠ p ∧ L ≠ pl
  left : F2 pl = some (.lst rest)
  perm : (acc ++ rest).Perm ls
  pw : PW p b n F2
  sub : ∀ x m, x ≠ p → x ≠ pl → x ≠ L → F x = some m → F2 x = some m
theorem perm_pop {α : Type} {acc rest ls : List α} {k : Nat} {d : α} (h : (acc ++ rest).Perm ls) (e : rest[k]? = some d) : ((acc ++ [d]) ++ rest.eraseIdx k).Perm ls := by
  have hk := (List.getElem?_eq_some_iff.mp e).1
  have ed : rest[k] = d := (List.getElem?_eq_some_iff.mp e).2
  have h1 : rest.Perm (d :: rest.eraseIdx k) := by
    have h2 := List.perm_middle (a := d) (l₁ := rest.take k) (l₂ := rest.drop (k + 1))
    rw [← List.eraseIdx_eq_take_drop_succ] at h2
    refine List.Perm.trans (List.Perm.of_eq ?_) h2
    rw [← ed, List.getElem_cons_drop, List.take_append_drop]
  refine List.Perm.trans ?_ h
  rw [List.append_assoc]
  exact List.Perm.append_left acc h1.symm
theorem lcOk_pops {X : Cx} {scope : Scope} {vs : List Nat} {tg : Expr} {elt : Expr} {ρ : En} {F F1 : FS} {Φ : Addr → List D → FS → Prop} {p pl : Addr} {b n : Int} {ls : List D} {k : Nat} (hk : k ≤ ls.length) (hls : ls.length ≤ 1000000) (npl : p ≠ pl) (h1 : F1 pl = some (.lst ls)) (hp : PW p b n F1) (hn : n + k ≤ 1000000000)
    (sub : ∀ x m, x ≠ p → x ≠ pl → F x = some m → F1 x = some m)
    (step : ∀ L (i : Nat) acc rest F2, i < k → Row p pl L b (n + i) F ls acc rest F2 → F2 L = some (.lst acc) → rest ≠ [] → rest.length ≤ 1000000 → Turn X scope vs tg [] elt ρ (.int (i : Nat)) F2 False (fun y F5 => ∃ (j : Nat) (mo : MO), rest[j]? = some y ∧ PW p b (n + i + 1) (updF F2 p mo) ∧ F5 = updF (updF F2 p mo) pl (.lst (rest.eraseIdx j))))
    (last : ∀ L acc rest F2, acc.length = k → Row p pl L b (n + k) F ls acc rest F2 → F2 L = some (.lst acc) → F1 L = none → Φ L acc F2) : LcOk X scope vs tg [] elt ρ F1 (rangeD 0 k) Φ := by
  obtain ⟨mp, hmp⟩ := hp.has
  refine ⟨fun L i acc F2 => F1 L = none ∧ acc.length = i ∧ ∃ rest, Row p pl L b (n + i) F ls acc rest F2, fun L hL => ?_, ?_, ?_⟩
  · have n1 : L ≠ p := fun e => by
      rw [e, hmp] at hL
      cases hL
    have n2 : L ≠ pl := fun e => by
      rw [e, h1] at hL
      cases hL
    refine ⟨hL, rfl, ls, npl, ⟨n1, n2⟩, by rw [updF_ne (Ne.symm n2)]; exact h1, List.Perm.refl _, ?_, fun x m x1 x2 x3 e => ?_⟩
    · have := hp.ne (q := L) (m := .lst []) (Ne.symm n1)
      simpa using this
    · rw [updF_ne x3]
      exact sub x m x1 x2 e
  · rintro L i d acc F2 hd ⟨hL0, hal, rest, R⟩ hL
    obtain ⟨hi, rfl⟩ := rangeD_get hd
    have hlen : acc.length + rest.length = ls.length := by
      have := R.perm.length_eq
      rwa [List.length_append] at this
    have hr : rest ≠ [] := fun e => by
      rw [e] at hlen
      simp at hlen
      omega
    have T := step L i acc rest F2 hi R hL hr (by omega)
    rw [Int.zero_add]
    obtain ⟨ρ3, bb, hG, hT, hE⟩ := T
    refine ⟨ρ3, bb, hG, hT, fun hb s H C cl fp => (hE.1 hb s H C cl fp).mono fun y F5 hy => ?_, fun hb => (hE.2 hb).elim⟩
    obtain ⟨j, mo, hj, hpw, rfl⟩ := hy
    have e1 : updF (updF F2 p mo) pl (.lst (rest.eraseIdx j)) L = some (.lst acc) := by
      rw [updF_ne R.nL.2, updF_ne R.nL.1]
      exact hL
    refine ⟨e1, ?_, hL0, by rw [List.length_append, hal]; rfl, rest.eraseIdx j, R.npl, R.nL, ?_, perm_pop R.perm hj, ?_, fun x m x1 x2 x3 e => ?_⟩
    · rw [sizeLine_eq]
      omega
    · rw [updF_ne (Ne.symm R.nL.2), updF_same]
    · have := (hpw.ne (q := pl) (m := .lst (rest.eraseIdx j)) R.npl).ne (q := L) (m := .lst (acc ++ [y])) (Ne.symm R.nL.1)
      have e2 : n + ((i + 1 : Nat) : Int) = n + i + 1 := by omega
      rw [e2]
      exact this
    · rw [updF_ne x3, updF_ne x2, updF_ne x1]
      exact R.sub x m x1 x2 x3 e
  · rintro L acc F2 ⟨hL0, hal, rest, R⟩ hL
    rw [rangeD_len] at hal R
    exact last L acc rest F2 hal R hL hL0

/-! ### the law's words -/
def chD (c : Nat) : D := .str (mkS [c])
def alphC : List Nat := List.range' 97 26
theorem alph_eq : signsD "abcdefghijklmnopqrstuvwxyz" = alphC.map chD := by
  unfold signsD chD
  have e : ("abcdefghijklmnopqrstuvwxyz" : Str).cps.toList = alphC := by decide +kernel
  rw [e]
  rfl
theorem alphC_nodup : alphC.Nodup := List.nodup_range'
theorem alphC_mem {c : Nat} (h : c ∈ alphC) : 97 ≤ c ∧ c ≤ 122 := by
  unfold alphC at h
  rw [List.mem_range'_1] at h
  omega
def wD (w : List Nat) : D := .str (mkS w)
def chOf : D → Nat
  | .str x => x.cps.toList.headD 0
  | _ => 0
theorem chOf_ch (c : Nat) : chOf (chD c) = c := rfl
theorem perm_chs {acc rest : List D} {cs : List Nat} (h : (acc ++ rest).Perm (cs.map chD)) : ∃ us rs : List Nat, acc = us.map chD ∧ rest = rs.map chD ∧ (us ++ rs).Perm cs := by
  have all : ∀ d ∈ acc ++ rest, chD (chOf d) = d := fun d hd => by
    obtain ⟨c, _, rfl⟩ := List.mem_map.mp (h.mem_iff.mp hd)
    rfl
  have back : ∀ l : List D, (∀ d ∈ l, chD (chOf d) = d) → l = (l.map chOf).map chD := fun l hl => by
    rw [List.map_map]
    exact (List.map_id' _).symm.trans (List.map_congr_left fun d hd => (hl d hd).symm)
  refine ⟨acc.map chOf, rest.map chOf, back acc fun d hd => all d (List.mem_append_left _ hd), back rest fun d hd => all d (List.mem_append_right _ hd), ?_⟩
  have h2 := h.map chOf
  rw [List.map_append, List.map_map] at h2
  refine h2.trans (List.Perm.of_eq ?_)
  exact (List.map_congr_left fun c _ => chOf_ch c).trans (List.map_id _)
/-- the words of k signs -/
def wordsK (cs : List Nat) : Nat → List (List Nat)
  | 0 => [[]]
  | k + 1 => (wordsK cs k).flatMap fun w => cs.map fun c => w ++ [c]
def foundK (cs : List Nat) : Nat → List (List Nat)
  | 0 => []
  | k + 1 => foundK cs k ++ wordsK cs (k + 1)
theorem wordsK_mem {cs : List Nat} : ∀ {k : Nat} {w : List Nat}, w ∈ wordsK cs k → w.length = k ∧ ∀ c ∈ w, c ∈ cs
  | 0, w, h => by
    rw [List.mem_singleton.mp h]
    exact ⟨rfl, fun c hc => absurd hc (by simp)⟩
  | k + 1, w, h => by
    obtain ⟨u, hu, hw⟩ := List.mem_flatMap.mp h
    obtain ⟨c, hc, rfl⟩ := List.mem_map.mp hw
    obtain ⟨h1, h2⟩ := wordsK_mem hu
    refine ⟨by rw [List.length_append, h1]; rfl, fun d hd => ?_⟩
    rcases List.mem_append.mp hd with z | z
    · exact h2 d z
    · rw [List.mem_singleton.mp z]
      exact hc
theorem wordsK_nodup {cs : List Nat} (h : cs.Nodup) : ∀ k, (wordsK cs k).Nodup
  | 0 => by simp [wordsK]
  | k + 1 => by
    refine List.pairwise_flatMap.mpr ⟨fun w _ => ?_, ?_⟩
    · refine List.pairwise_map.mpr (h.imp fun {a b} hab e => hab ?_)
      simpa using e
    · refine (wordsK_nodup h k).imp_of_mem fun {a b} ha hb hab => ?_
      intro x hx y hy e
      obtain ⟨c, _, rfl⟩ := List.mem_map.mp hx
      obtain ⟨d, _, e2⟩ := List.mem_map.mp hy
      rw [← e2] at e
      exact hab (List.append_inj_left' e rfl)
theorem foundK_mem {cs : List Nat} : ∀ {k : Nat} {w : List Nat}, w ∈ foundK cs k → 1 ≤ w.length ∧ w.length ≤ k ∧ ∀ c ∈ w, c ∈ cs
  | 0, w, h => absurd h (by simp [foundK])
  | k + 1, w, h => by
    rcases List.mem_append.mp h with z | z
    · obtain ⟨h1, h2, h3⟩ := foundK_mem z
      exact ⟨h1, by omega, h3⟩
    · obtain ⟨h1, h2⟩ := wordsK_mem z
      exact ⟨by omega, by omega, h2⟩
theorem foundK_nodup {cs : List Nat} (h : cs.Nodup) : ∀ k, (foundK cs k).Nodup
  | 0 => List.nodup_nil
  | k + 1 => by
    refine List.nodup_append.mpr ⟨foundK_nodup h k, wordsK_nodup h (k + 1), fun a ha b hb e => ?_⟩
    have h1 := (foundK_mem ha).2.1
    have h2 := (wordsK_mem hb).1
    rw [e] at h1
    omega
theorem wordsK_len (cs : List Nat) : ∀ k, (wordsK cs k).length = cs.length ^ k
  | 0 => rfl
  | k + 1 => by
    have : ∀ l : List (List Nat), (l.flatMap fun w => cs.map fun c => w ++ [c]).length = l.length * cs.length := by
      intro l
      induction l with
      | nil => simp
      | cons a l ih =>
        rw [List.flatMap_cons, List.length_append, ih, List.length_map, List.length_cons, Nat.add_mul, Nat.one_mul, Nat.add_comm]
    show ((wordsK cs k).flatMap fun w => cs.map fun c => w ++ [c]).length = _
    rw [this, wordsK_len cs k, Nat.pow_succ]
/-- a word that the program takes -/
def WordOk (w : Str) : Prop := wordS w = true ∧ w.length ≤ 30
structure PoolOk (ws : List Str) : Prop where
  nd : ws.Nodup
  ok : ∀ w ∈ ws, WordOk w
  few : ws.length ≤ 39
theorem wordOk_mk {l : List Nat} (h : ∀ c ∈ l, 97 ≤ c ∧ c ≤ 122) (h1 : 1 ≤ l.length) (h2 : l.length ≤ 30) : WordOk (mkS l) := by
  refine ⟨?_, by rw [mkS_len]; exact h2⟩
  unfold wordS lettersS
  rw [mkS_cps, Bool.and_eq_true]
  refine ⟨List.all_eq_true.mpr fun c hc => by simp [h c hc], ?_⟩
  have : mkS l ≠ "" := fun e => by
    have e2 := congrArg Str.length e
    rw [mkS_len] at e2
    have : Str.length "" = 0 := rfl
    omega
  simp [this]
theorem pool_of {cs h : List Nat} (hcs : cs.Nodup) (hl : cs.length ≤ 3) (hc : ∀ c ∈ cs, 97 ≤ c ∧ c ≤ 122) (hh : ∀ c ∈ h, 97 ≤ c ∧ c ≤ 122) (hn : h.length ≤ 27) : PoolOk ((foundK cs 3).map fun w => mkS (h ++ w)) := by
  refine ⟨List.pairwise_map.mpr ((foundK_nodup hcs 3).imp fun {a b} hab e => hab (List.append_cancel_left (mkS_inj e))), fun w hw => ?_, ?_⟩
  · obtain ⟨u, hu, rfl⟩ := List.mem_map.mp hw
    obtain ⟨h1, h2, h3⟩ := foundK_mem hu
    refine wordOk_mk (fun c hx => ?_) (by rw [List.length_append]; omega) (by rw [List.length_append]; omega)
    rcases List.mem_append.mp hx with z | z
    · exact hh c z
    · exact hc c (h3 c z)
  · rw [List.length_map]
    show (((foundK cs 0 ++ wordsK cs 1) ++ wordsK cs 2) ++ wordsK cs 3).length ≤ 39
    rw [List.length_append, List.length_append, List.length_append, wordsK_len, wordsK_len, wordsK_len]
    show 0 + cs.length ^ 1 + cs.length ^ 2 + cs.length ^ 3 ≤ 39
    have h1 : cs.length ^ 1 ≤ 3 ^ 1 := Nat.pow_le_pow_left hl 1
    have h2 : cs.length ^ 2 ≤ 3 ^ 2 := Nat.pow_le_pow_left hl 2
    have h3 : cs.length ^ 3 ≤ 3 ^ 3 := Nat.pow_le_pow_left hl 3
    omega
/-- the store behind: the pouch's numbers drawn, a new list at l -/
def sPool : Spec := fun ds F Φ _ => ∃ p b n, ds = [.raw (.ref p)] ∧ PW p b n F ∧ n < 900000000 ∧ ∀ ws mo l, PoolOk ws → F l = none → PW p b (n + 10) (updF F p mo) → Φ (.raw (.ref l)) (updF (updF F p mo) l (.lst (ws.map D.str)))
theorem pick223 {r : Int} (h0 : 0 ≤ r) (h1 : r < 3) : ∃ j : Nat, j ≤ 3 ∧ 2 ≤ j ∧ atI [D.int 2, .int 2, .int 3] r = some (.int (j : Nat)) := by
  have : r = 0 ∨ r = 1 ∨ r = 2 := by omega
  rcases this with rfl | rfl | rfl
  · exact ⟨2, by omega, by omega, rfl⟩
  · exact ⟨2, by omega, by omega, rfl⟩
  · exact ⟨3, by omega, by omega, rfl⟩
theorem repS_mk (c k : Nat) : repS (mkS [c]) k = mkS (List.replicate k c) := by
  unfold repS mkS
  congr 2
  induction k with
  | zero => rfl
  | succ k ih =>
    rw [List.replicate_succ, List.flatten_cons, ih, List.replicate_succ]
    rfl
theorem pick_head {r1 : Nat} {r : Int} (h : 97 ≤ r1 ∧ r1 ≤ 122) (h0 : 0 ≤ r) (h1 : r < 4) : ∃ hs : List Nat, (∀ c ∈ hs, 97 ≤ c ∧ c ≤ 122) ∧ hs.length ≤ 27 ∧ atI [D.str "", .str "", .str "", .str (repS (mkS [r1]) (Int.toNat 27))] r = some (.str (mkS hs)) := by
  have : r = 0 ∨ r = 1 ∨ r = 2 ∨ r = 3 := by omega
  rcases this with rfl | rfl | rfl | rfl
  · exact ⟨[], by simp, by decide, rfl⟩
  · exact ⟨[], by simp, by decide, rfl⟩
  · exact ⟨[], by simp, by decide, rfl⟩
  · refine ⟨List.replicate 27 r1, fun c hc => ?_, by rw [List.length_replicate]; omega, ?_⟩
    · rw [List.eq_of_mem_replicate hc]
      exact h
    · rw [← repS_mk]
      rfl
abbrev nPool : List Str := ["pouch", "left", "found", "last", "signs", "size", "longer", "word", "head", "turn", "sign"]
theorem scPool : FnScope nPool ["pouch"] (defScope (top 33)) := ⟨rfl, rfl, rfl, by decide +kernel, rfl, by decide +kernel, by decide +kernel⟩
theorem okPool {W : Wd} (M : Md W) (a : At W "_law_pool" (top 33)) (hPick : Ok W 1 "_law_pick" (top 32) ["pouch", "many"] sPick) : Ok W 2 "_law_pool" (top 33) ["pouch"] sPool := by
  refine Ok.of a scPool (fun ds F Φ Ψ h => ?_) (fun _ _ _ _ _ _ us hl => match us, hl with | [_], _ => rfl) (fun f cdv A outer s0 H0 E C ds F Φ Ψ h => ?_)
  · obtain ⟨p, b, n, rfl, hp, hn, kk⟩ := h
    rfl
  obtain ⟨p, b, n, rfl, hp, hn, kk⟩ := h
  have hR := C.room
  obtain ⟨mp, hmp⟩ := id hp.has
  refine ess_cons (es_asg ?_)
  walk_at "go"
  refine ⟨by decide, fun pl hl => ?_⟩
  rw [alph_eq]
  walk_at "go"
  refine eg_tup rfl ?_
  walk_at "go"
  refine ⟨rfl, egs_cons (eg_name (pg_name (i := 1) C.nd rfl (by first | exact .inl rfl | exact .inr rfl)) (egs_cons (eg_name (pg_name (i := 2) C.nd rfl (by first | exact .inl rfl | exact .inr rfl)) (egs_cons (eg_name (pg_name (i := 3) C.nd rfl (by first | exact .inl rfl | exact .inr rfl)) (egs_nil ?_))))))⟩
  have npl : p ≠ pl := fun e => by
    rw [← e, hmp] at hl
    cases hl
  refine ess_cons (es_setLcM (i := 4) (own := [("turn", 9)]) rfl C.nd rfl rfl (sw_true rfl rfl rfl rfl) (blkOk_by (N := nPool) (sc := defScope (top 33)) (by decide +kernel)) ?_)
  refine ei_range1 rfl (by walk_at "mg") ?_
  walk_at "go"
  refine ev_call hPick (C.room.mono (by decide)) rfl ?_
  walk_at "go"
  refine ⟨p, 3, b, n, rfl, hp.ne npl, by omega, by decide, by decide, fun r mo r0 r1 hpw => ?_⟩
  obtain ⟨j, j3, j2, hj⟩ := pick223 r0 r1
  refine d_ixL hj ?_
  walk_at "go"
  refine ⟨j, rfl, by omega, by omega, ?_⟩
  rw [Int.toNat_natCast]
  refine lcOk_pops (F := F) (p := p) (pl := pl) (b := b) (n := n + 1) (ls := alphC.map chD) (by show j ≤ (alphC.map chD).length; rw [List.length_map]; show j ≤ 26; omega) (by rw [List.length_map]; decide) npl (by rw [updF_ne (Ne.symm npl), updF_same]) hpw (by omega)
    (fun x m x1 x2 e => by rw [updF_ne x1, updF_ne x2]; exact e) (fun L i acc rest F2 hi R hL hr hrl => ?_) (fun L acc rest F2 hal R hL hL0 => ?_)
  · refine ⟨_, true, fun s H B cl fp => gc_name (pg_name (i := 9) C.nd rfl (.inl rfl)) (by simp) ⟨rfl, rfl⟩, fun s H B cl fp => ets_nil ⟨rfl, rfl⟩, brT fun s H B cl fp => ?_⟩
    walk_at "go"
    refine ⟨⟨_, _, rfl, R.left⟩, ?_⟩
    refine ev_call hPick (C.room.mono (by decide)) rfl ?_
    walk_at "go"
    refine d_lenR R.left ?_
    walk_at "go"
    have hr1 : 1 ≤ rest.length := by
      cases rest with
      | nil => exact absurd rfl hr
      | cons x xs => simp
    refine ⟨p, rest.length, b, n + 1 + i, rfl, R.pw, by omega, by omega, by omega, fun r mo r0 r1 hpw => ?_⟩
    obtain ⟨q, rfl⟩ := Int.eq_ofNat_of_zero_le r0
    have hq : q < rest.length := by omega
    exact ⟨pl, rest, rfl, by rw [updF_ne (Ne.symm npl)]; exact R.left, q, rest[q], rfl, by omega, by simp [hq], q, mo, by simp [hq], hpw, rfl⟩
  refine ess_frz 4 rfl hL ?_
  obtain ⟨us, rs, rfl, rfl, hperm⟩ := perm_chs R.perm
  have asn : us.Nodup := (List.nodup_append.mp (hperm.nodup_iff.mpr alphC_nodup)).1
  have asl : us.length ≤ 3 := by
    rw [List.length_map] at hal
    omega
  have asc : ∀ c ∈ us ++ rs, 97 ≤ c ∧ c ≤ 122 := fun c hc => alphC_mem (hperm.mem_iff.mp hc)
  have rsl : rs ≠ [] := fun e => by
    have := hperm.length_eq
    rw [e, List.append_nil] at this
    have e2 : alphC.length = 26 := rfl
    omega
  obtain ⟨r1, rt, rfl⟩ := List.exists_cons_of_ne_nil rsl
  have FL : F L = none := by
    rw [updF_ne R.nL.1, updF_ne R.nL.2] at hL0
    exact hL0
  have k1 : delF F2 L pl = some (.lst ((r1 :: rt).map chD)) := by
    unfold delF
    rw [if_neg (Ne.symm R.nL.2)]
    exact R.left
  have k2 : PW p b (n + 4) (delF F2 L) := (R.pw.up (by omega) (by omega)).at_ (by unfold delF; rw [if_neg (Ne.symm R.nL.1)])
  have k3 : ∀ x m, x ≠ p → F x = some m → delF F2 L x = some m := fun x m x1 e => by
    have x2 : x ≠ L := fun z => by
      rw [z, FL] at e
      cases e
    have x3 : x ≠ pl := fun z => by
      rw [z, hl] at e
      cases e
    unfold delF
    rw [if_neg x2]
    exact R.sub x m x1 x3 x2 e
  generalize delF F2 L = F3 at k1 k2 k3
  -- the three rounds
  refine ess_cons (es_for C.pass rfl ?_)
  refine ei_range1 rfl (by walk_at "mg") ?_
  walk_at "go"
  refine ⟨3, rfl, by decide, by decide, ?_⟩
  refine ⟨fun i ρ2 F4 => (∃ v5 v6 v7, ρ2 = [some (.raw (.ref p)), some (.raw (.ref pl)), some (.lst ((foundK us i).map wD)), some (.lst ((wordsK us i).map wD)), some (.lst (us.map chD)), v5, v6, v7, none, none, none]) ∧
    F4 pl = some (.lst ((r1 :: rt).map chD)) ∧ PW p b (n + 4) F4 ∧ ∀ x m, x ≠ p → F x = some m → F4 x = some m, ⟨⟨none, none, none, rfl⟩, k1, k2, k3⟩, ?_, ?_⟩
  · rintro i d ρ2 F4 hd ⟨⟨v5, v6, v7, rfl⟩, q1, q2, q3⟩
    obtain ⟨hi, rfl⟩ := rangeD_get hd
    refine eg_name (pg_name (i := 5) C.nd rfl (by first | exact .inl rfl | exact .inr rfl)) ?_
    refine ess_cons ?_
    walk_at "set"
    walk_at "evM"
    walk_at "go"
    intro l6 hl6
    refine ess_cons (es_for C.pass rfl (ei_list ?_))
    walk_at "go"
    have n6 : l6 ≠ p ∧ l6 ≠ pl := by
      refine ⟨fun e => ?_, fun e => ?_⟩
      · obtain ⟨m, hm⟩ := q2.has
        rw [e, hm] at hl6
        cases hl6
      · rw [e, q1] at hl6
        cases hl6
    refine ⟨fun j ρ3 F5 => (∃ v7, ρ3 = [some (.raw (.ref p)), some (.raw (.ref pl)), some (.lst ((foundK us i).map wD)), some (.lst ((wordsK us i).map wD)), some (.lst (us.map chD)), some (.int (0 + (i : Nat))), some (.raw (.ref l6)), v7, none, none, none]) ∧
      F5 l6 = some (.lst ((((wordsK us i).take j).flatMap fun w => us.map fun c => w ++ [c]).map wD)) ∧ F5 pl = some (.lst ((r1 :: rt).map chD)) ∧ PW p b (n + 4) F5 ∧ ∀ x m, x ≠ p → F x = some m → F5 x = some m,
      ⟨⟨v7, rfl⟩, updF_same, by rw [updF_ne (Ne.symm n6.2)]; exact q1, q2.ne (Ne.symm n6.1), fun x m x1 e => ?_⟩, ?_, ?_⟩
    · rw [updF_ne (fun z => by rw [z] at e; have := q3 _ _ n6.1 e; rw [hl6] at this; cases this)]
      exact q3 x m x1 e
    · rintro j d ρ3 F5 hd ⟨⟨v7, rfl⟩, t0, t1, t2, t3⟩
      rw [List.getElem?_map] at hd
      obtain ⟨w, hw, rfl⟩ := Option.map_eq_some_iff.mp hd
      have hwl : w.length ≤ 3 := by
        have := (wordsK_mem (List.mem_of_getElem? hw)).1
        omega
      refine eg_name (pg_name (i := 7) C.nd rfl (by first | exact .inl rfl | exact .inr rfl)) ?_
      walk_at "go"
      refine ⟨⟨l6, _, rfl, t0⟩, ?_⟩
      refine ev_map rfl C.nd (own := [("sign", 10)]) (blkOk_by (N := nPool) (sc := defScope (top 33)) (by decide +kernel)) (fun d => match d with | .str s => .str (mkS w ++ s) | _ => .non) (ei_list ?_)
      walk_at "go"
      refine ⟨le_line (by rw [List.length_map]; omega), fun d F6 hd => ⟨_, fun s H B cl fp => gc_name (pg_name (i := 10) C.nd rfl (.inl rfl)) (by simp) ⟨rfl, rfl⟩, fun s H B cl fp => ?_⟩, ?_⟩
      · obtain ⟨c, hc, rfl⟩ := List.mem_map.mp hd
        walk_at "go"
        refine d_addS (le_line (by rw [mkS_len, mkS_len]; simp; omega)) ?_
        exact ⟨rfl, rfl⟩
      · refine ⟨l6, _, rfl, t0, d_lst ⟨?_, ?_⟩⟩
        · refine le_line ?_
          rw [List.length_map, List.length_map, List.length_map]
          have e1 : (((wordsK us i).take j).flatMap fun w => us.map fun c => w ++ [c]).length ≤ (wordsK us (i + 1)).length := by
            show _ ≤ ((wordsK us i).flatMap fun w => us.map fun c => w ++ [c]).length
            have e0 : (wordsK us i).flatMap (fun w => us.map fun c => w ++ [c]) = ((wordsK us i).take j).flatMap (fun w => us.map fun c => w ++ [c]) ++ ((wordsK us i).drop j).flatMap (fun w => us.map fun c => w ++ [c]) := by
              rw [← List.flatMap_append, List.take_append_drop]
            rw [e0, List.length_append]
            omega
          rw [wordsK_len] at e1
          have e2 : us.length ^ (i + 1) ≤ 3 ^ (i + 1) := Nat.pow_le_pow_left asl _
          have e3 : 3 ^ (i + 1) ≤ 3 ^ 3 := Nat.pow_le_pow_right (by decide) (by omega)
          omega
        · refine ⟨⟨_, rfl⟩, ?_, by rw [updF_ne (Ne.symm n6.2)]; exact t1, t2.ne (Ne.symm n6.1), fun x m x1 e => ?_⟩
          · rw [updF_same, List.take_add_one, hw, List.flatMap_append, List.map_append]
            congr 3
            simp only [Option.toList_some, List.flatMap_cons, List.flatMap_nil, List.append_nil, List.map_map]
            refine List.map_congr_left fun c _ => ?_
            show D.str (mkS w ++ mkS [c]) = D.str (mkS (w ++ [c]))
            rw [mkS_add]
          · rw [updF_ne (fun z => by rw [z] at e; have := q3 _ _ n6.1 e; rw [hl6] at this; cases this)]
            exact t3 x m x1 e
    · rintro ρ3 F5 ⟨⟨v7, rfl⟩, t0, t1, t2, t3⟩
      rw [List.length_map, List.take_length] at t0
      refine ess_frz 6 rfl t0 ?_
      refine ess_one (es_par (i := 2) (j := 3) rfl C.nd rfl rfl (by decide) rfl rfl rfl ?_)
      walk_at "go"
      refine d_addL ?_ ?_
      · refine le_line ?_
        rw [List.length_map, List.length_map]
        have e1 := wordsK_len us (i + 1)
        have e2 : us.length ^ (i + 1) ≤ 3 ^ (i + 1) := Nat.pow_le_pow_left asl _
        have e3 : 3 ^ (i + 1) ≤ 3 ^ 3 := Nat.pow_le_pow_right (by decide) (by omega)
        have e4 : ∀ k, k ≤ 3 → (foundK us k).length ≤ 40 * k := by
          intro k hk
          induction k with
          | zero => exact Nat.le_refl _
          | succ k ih =>
            have h1 := wordsK_len us (k + 1)
            have h2 : us.length ^ (k + 1) ≤ 3 ^ (k + 1) := Nat.pow_le_pow_left asl _
            have h3 : 3 ^ (k + 1) ≤ 3 ^ 3 := Nat.pow_le_pow_right (by decide) (by omega)
            have h4 := ih (by omega)
            show (foundK us k ++ wordsK us (k + 1)).length ≤ _
            rw [List.length_append]
            omega
        have e5 := e4 i (by omega)
        show _ + (wordsK us (i + 1)).length ≤ _
        omega
      walk_at "go"
      have nd : ∀ x, x ≠ l6 → delF F5 l6 x = F5 x := fun x hx => if_neg hx
      refine ⟨_, _, rfl, ⟨some (.int (0 + (i : Nat))), some (.lst ((wordsK us (i + 1)).map wD)), v7, ?_⟩, ?_, ?_, fun x m x1 e => ?_⟩
      · rw [← List.map_append]; rfl
      · rw [nd _ (Ne.symm n6.2)]
        exact t1
      · exact t2.at_ (nd _ (Ne.symm n6.1))
      · rw [nd _ (fun z => by rw [z] at e; have := q3 _ _ n6.1 e; rw [hl6] at this; cases this)]
        exact t3 x m x1 e
  · rintro ρ2 F4 ⟨⟨v5, v6, v7, rfl⟩, q1, q2, q3⟩
    have e3 : (rangeD 0 (Int.toNat 3)).length = 3 := by
      rw [rangeD_len]
      rfl
    rw [e3]
    refine ess_cons ?_
    walk_at "set"
    walk_at "go"
    refine d_ixR (d := .str (mkS [r1])) q1 (atI_nat (j := 0) rfl) ?_
    walk_at "go"
    refine d_mulS (by decide) (by decide) (by rw [mkS_len]; simp) ?_
    walk_at "go"
    refine ev_call hPick (C.room.mono (by decide)) rfl ?_
    walk_at "go"
    refine ⟨p, 4, b, n + 4, rfl, q2, by omega, by decide, by decide, fun r mo r0 r4 hpw => ?_⟩
    obtain ⟨hs, hs1, hs2, hs3⟩ := pick_head (r1 := r1) (asc r1 (by simp)) r0 r4
    refine d_ixL hs3 ?_
    refine ess_one (es_ret (ev_post (ev_lcM rfl C.nd (own := [("word", 7)]) (blkOk_by (N := nPool) (sc := defScope (top 33)) (by decide +kernel)) (ei_list ?_))))
    walk_at "go"
    refine lcOk_pure (fun _ => true) (fun d => match d with | .str s => .str (mkS hs ++ s) | _ => .non) ?_ (fun d F6 hd => ⟨_, true, fun s H B cl fp => gc_name (pg_name (i := 7) C.nd rfl (.inl rfl)) (by simp) ⟨rfl, rfl⟩, fun s H B cl fp => ets_nil ⟨rfl, rfl⟩, brT fun s H B cl fp => ?_⟩) (fun L hL => ?_)
    · have := (pool_of asn asl (fun c hc => asc c (List.mem_append_left _ hc)) hs1 hs2).few
      rw [List.length_map] at this ⊢
      exact le_line (by omega)
    · obtain ⟨w, hw, rfl⟩ := List.mem_map.mp hd
      have hwl := (foundK_mem hw).2.1
      walk_at "go"
      refine d_addS (le_line (by rw [mkS_len, mkS_len]; omega)) ?_
      exact ⟨rfl, rfl, rfl⟩
    · have LP : L ≠ p := fun z => by
        rw [z, updF_same] at hL
        cases hL
      have FL2 : F L = none := by
        rw [updF_ne LP] at hL
        cases e : F L with
        | none => rfl
        | some m =>
          rw [q3 L m LP e] at hL
          cases hL
      have el : ((((foundK us 3).map wD).filter fun _ => true).map fun d => match d with | .str s => D.str (mkS hs ++ s) | _ => .non) = ((foundK us 3).map fun w => mkS (hs ++ w)).map D.str := by
        rw [List.filter_eq_self.mpr fun _ _ => rfl, List.map_map, List.map_map]
        refine List.map_congr_left fun w _ => ?_
        show D.str (mkS hs ++ mkS w) = D.str (mkS (hs ++ w))
        rw [mkS_add]
      rw [el]
      refine ⟨_, fun a m e => ?_, kk _ mo L (pool_of asn asl (fun c hc => asc c (List.mem_append_left _ hc)) hs1 hs2) FL2 ((hpw.put (F' := F)).up (by omega) (by omega))⟩
      by_cases h1 : a = L
      · rw [h1, updF_same] at e ⊢
        exact e
      · rw [updF_ne h1] at e ⊢
        by_cases h2 : a = p
        · rw [h2, updF_same] at e ⊢
          exact e
        · rw [updF_ne h2] at e ⊢
          exact q3 a m h2 e

end TM

set_option Elab.async false
set_option linter.all false
set_option maxRecDepth 100000
set_option maxHeartbeats 4000000
set_option pp.maxSteps 500
namespace TM
open PySem PySem.Spec PyProof.Rows L2
local macro_rules
  | `(tactic| walk_at "iv") => `(tactic| first | exact pv 0 | exact pv 1 | exact pv 2 | exact pv 3 | exact pv 4 | exact pv 5 | exact pv 6 | exact pv 7 | exact pv 8 | exact pv 9 | exact pv 10 | exact pv 11 | exact pv 12 | exact pv 13 | exact pv 14 | exact pv 15 | exact pv 16 | exact pv 17 | exact pv 18 | exact pv 19 | exact pv 20 | exact pv 21 | exact pv 22 | exact pv 23)
  | `(tactic| walk_at "mg") => `(tactic| exact Md.bi (by assumption) _ (by decide))
  | `(tactic| walk_at "ev") => `(tactic| first
    | ((with_reducible show Ev _ _ _ _ (.Name _ _) _); refine ev_var (by walk_at "iv") (by with_unfolding_all rfl) ?_)
    | ((with_reducible show Ev _ _ _ _ (.Constant _ _ _) _); first | refine ev_int ?_ | refine ev_str ?_ | refine ev_bl ?_ | refine ev_non ?_)
    | ((with_reducible show Ev _ _ _ _ (.BinOp (.List _ _) .Mult _ _) _); refine ev_rep ?_)
    | ((with_reducible show Ev _ _ _ _ (.BinOp _ _ _ _) _); first | refine ev_add ?_ | refine ev_sub ?_ | refine ev_mod ?_ | refine ev_fdivW ?_ | refine ev_pow ?_ | refine ev_mul ?_)
    | ((with_reducible show Ev _ _ _ _ (.Compare _ [_] _ _) _); first | refine ev_isN ?_ | refine ev_notN ?_ | refine ev_lt ?_ | refine ev_le ?_ | refine ev_gt ?_ | refine ev_ge ?_ | refine ev_eq (RoomG.mono (by assumption) (Nat.zero_le _)) ?_ | refine ev_ne (RoomG.mono (by assumption) (Nat.zero_le _)) ?_ | refine ev_in ?_ | refine ev_nin ?_)
    | ((with_reducible show Ev _ _ _ _ (.Compare _ _ _ _) _); refine ev_chain ord_le ord_le ?_)
    | ((with_reducible show Ev _ _ _ _ (.BoolOp _ _ _) _); first | refine ev_b1 ?_ | refine ev_and ?_ | refine ev_or ?_)
    | ((with_reducible show Ev _ _ _ _ (.UnaryOp _ _ _) _); first | refine ev_not ?_ | refine ev_neg ?_)
    | ((with_reducible show Ev _ _ _ _ (.IfExp _ _ _ _) _); refine ev_if ?_)
    | ((with_reducible show Ev _ _ _ _ (.Tuple _ _ _) _); refine ev_tup ?_)
    | ((with_reducible show Ev _ _ _ _ (.List _ _) _); refine ev_lst ?_)
    | ((with_reducible show Ev _ _ _ _ (.Dict _ _ _) _); refine ev_dct0 ?_)
    | ((with_reducible show Ev _ _ _ _ (.Subscript _ (.Slice _ _ _ _) _) _); refine ev_slice ?_)
    | ((with_reducible show Ev _ _ _ _ (.Subscript _ _ _) _); refine ev_ix ?_)
    | ((with_reducible show Ev _ _ _ _ (.Call (.Name "isinstance" _) [_, .Name "int" _] _ _) _); refine ev_isInt (by walk_at "mg") (by walk_at "mg") ?_)
    | ((with_reducible show Ev _ _ _ _ (.Call (.Name "isinstance" _) [_, .Name "bool" _] _ _) _); refine ev_isBool (by walk_at "mg") (by walk_at "mg") ?_)
    | ((with_reducible show Ev _ _ _ _ (.Call (.Name "isinstance" _) [_, .Name "str" _] _ _) _); refine ev_isStr (by walk_at "mg") (by walk_at "mg") ?_)
    | ((with_reducible show Ev _ _ _ _ (.Call (.Name "isinstance" _) [_, .Name "list" _] _ _) _); refine ev_isList (by walk_at "mg") (by walk_at "mg") ?_)
    | ((with_reducible show Ev _ _ _ _ (.Call (.Name "isinstance" _) [_, .Name "tuple" _] _ _) _); refine ev_isTup (by walk_at "mg") (by walk_at "mg") ?_)
    | ((with_reducible show Ev _ _ _ _ (.Call (.Name "len" _) [.Call (.Name "set" _) _ _ _] _ _) _); refine ev_lenS rfl (by walk_at "mg") (by walk_at "mg") ?_)
    | ((with_reducible show Ev _ _ _ _ (.Call (.Name "len" _) _ _ _) _); refine ev_len (by walk_at "mg") ?_)
    | ((with_reducible show Ev _ _ _ _ (.Call (.Name "abs" _) _ _ _) _); refine ev_abs (by walk_at "mg") ?_)
    | ((with_reducible show Ev _ _ _ _ (.Call (.Name "all" _) _ _ _) _); refine ev_all rfl (by walk_at "mg") ?_)
    | ((with_reducible show Ev _ _ _ _ (.Call (.Name "any" _) _ _ _) _); refine ev_any rfl (by walk_at "mg") ?_)
    | ((with_reducible show Ev _ _ _ _ (.Call (.Name "max" _) _ _ _) _); refine ev_max2 rfl (by walk_at "mg") ?_)
    | ((with_reducible show Ev _ _ _ _ (.Call (.Name "min" _) _ _ _) _); refine ev_min2 rfl (by walk_at "mg") ?_)
    | ((with_reducible show Ev _ _ _ _ (.Call (.Name "str" _) _ _ _) _); refine ev_strOf (by walk_at "mg") ?_)
    | ((with_reducible show Ev _ _ _ _ (.Call (.Name "int" _) _ _ _) _); refine ev_intOf (by walk_at "mg") ?_)
    | ((with_reducible show Ev _ _ _ _ (.Call (.Name "list" _) _ _ _) _); refine ev_listOf rfl (by walk_at "mg") ?_)
    | ((with_reducible show Ev _ _ _ _ (.Call (.Name "tuple" _) _ _ _) _); refine ev_tupOf (by walk_at "mg") ?_)
    | ((with_reducible show Ev _ _ _ _ (.Call (.Name "repr" _) _ _ _) _); refine ev_repr (RoomG.mono (by assumption) (Nat.zero_le _)) (by walk_at "mg") ?_)
    | ((with_reducible show Ev _ _ _ _ (.Call (.Attribute _ "startswith" _) _ _ _) _); refine ev_startswith ?_)
    | ((with_reducible show Ev _ _ _ _ (.Call (.Attribute _ "split" _) _ _ _) _); refine ev_split ?_)
    | ((with_reducible show Ev _ _ _ _ (.Call (.Attribute _ "join" _) _ _ _) _); refine ev_join ?_)
    | ((with_reducible show Ev _ _ _ _ (.Call (.Attribute _ "append" _) _ _ _) _); refine ev_append ?_)
    | ((with_reducible show Ev _ _ _ _ (.Call (.Attribute _ "extend" _) _ _ _) _); refine ev_extend ?_)
    | ((with_reducible show Ev _ _ _ _ (.Call (.Attribute _ "pop" _) _ _ _) _); first | refine ev_popAt ?_ | refine ev_pop0 ?_)
    | ((with_reducible show Ev _ _ _ _ (.Call (.Attribute _ "reverse" _) _ _ _) _); refine ev_reverse ?_)
    | ((with_reducible show Ev _ _ _ _ (.Call (.Attribute _ "clear" _) _ _ _) _); refine ev_clear ?_))
  | `(tactic| walk_at "et") => `(tactic| first
    | ((with_reducible show Et _ _ _ _ (.Compare _ [_] _ _) _); first | refine et_isN ?_ | refine et_notN ?_ | refine et_lt ?_ | refine et_le ?_ | refine et_gt ?_ | refine et_ge ?_ | refine et_eq (RoomG.mono (by assumption) (Nat.zero_le _)) ?_ | refine et_ne (RoomG.mono (by assumption) (Nat.zero_le _)) ?_ | refine et_in ?_ | refine et_nin ?_)
    | ((with_reducible show Et _ _ _ _ (.Compare _ [_, _] _ _) _); refine et_chain ord_le ord_le ?_)
    | ((with_reducible show Et _ _ _ _ (.UnaryOp _ _ _) _); refine et_not ?_)
    | ((with_reducible show Et _ _ _ _ (.BoolOp _ _ _) _); first | refine et_w (ew_or ?_) | refine et_w (ew_and ?_))
    | refine et_val ?_)
  | `(tactic| walk_at "es") => `(tactic| first | refine es_pass ?_ | refine es_break ?_ | refine es_continue ?_ | refine es_ret ?_ | refine es_retN ?_ | refine es_if ?_ | refine es_expr ?_)
  | `(tactic| walk_at "da") => `(tactic| first
    | ((with_reducible show BlD _ _); refine d_bl ?_) | ((with_reducible show IntD _ _); refine d_int ?_) | ((with_reducible show StrD _ _); refine d_str ?_) | ((with_reducible show LstD _ _); refine d_lst ?_) | ((with_reducible show TupD _ _); refine d_tup ?_)
    | ((with_reducible show StarD _ _); first | refine d_star ?_ | refine d_starT ?_)
    | ((with_reducible show OrdD _ _ _ _ _); first | refine d_ordI ?_ | refine d_ordS ?_)
    | ((with_reducible show EqD _ _ _); first | refine d_eqI ?_ | refine d_eqS ?_ | refine d_eqB ?_)
    | ((with_reducible show AddD _ _ _); refine d_addI ?_)
    | ((with_reducible show InD _ _ _); refine d_inS ?_)
    | ((with_reducible show SlD _ _ _ _ _); refine d_slL ?_)
    | ((with_reducible show IxD _ _ _ _); first | refine d_ixL (by rfl) ?_ | refine d_ixT (by rfl) ?_)
    | ((with_reducible show LenD _ _ _); first | refine d_lenL ?_ | refine d_lenT ?_ | refine d_lenC ?_)
    | ((with_reducible show StrOfD _ _); refine d_stS ?_)
    | ((with_reducible show Br _ _ _); first | refine brT ?_ | refine brF ?_)
    | ((with_reducible show CPowW 10 _ ∧ _); refine ⟨⟨by decide, by decide, by decide⟩, ?_⟩)
    | ((with_reducible show List.length _ ≤ sizeLine ∧ _); refine ⟨le_line (Nat.le_of_ble_eq_true rfl), ?_⟩))
  | `(tactic| walk_at "st") => `(tactic| first
    | ((with_reducible show Ev _ _ _ _ _ _); walk_at "ev")
    | ((with_reducible show Ess _ _ _ _ _ _); first | refine ess_one ?_ | refine ess_cons ?_ | refine ess_nil ?_)
    | ((with_reducible show Es _ _ _ _ _ _); walk_at "es")
    | ((with_reducible show Et _ _ _ _ _ _); walk_at "et")
    | ((with_reducible show Ew _ _ _ _ _ _); first | refine ew_or1 ?_ | refine ew_and1 ?_ | refine ew_or ?_ | refine ew_and ?_)
    | ((with_reducible show Ea _ _ _ _ _ _); first | refine ea_nil ?_ | refine ea_cons ?_ | refine ea_star ?_)
    | ((with_reducible show Ek _ _ _ _ _ _); first | refine ek_nil ?_ | refine ek_cons ?_)
    | ((with_reducible show Eo _ _ _ _ _ _); first | refine eo_none ?_ | refine eo_some ?_)
    | walk_at "da")
  | `(tactic| walk_at "go") => `(tactic| repeat walk_at "st")
  | `(tactic| walk_at "goE") => `(tactic| repeat (first
    | ((with_reducible show Ev _ _ _ _ _ _); walk_at "ev")
    | ((with_reducible show Ea _ _ _ _ _ _); first | refine ea_nil ?_ | refine ea_cons ?_ | refine ea_star ?_)
    | ((with_reducible show Ek _ _ _ _ _ _); first | refine ek_nil ?_ | refine ek_cons ?_)
    | ((with_reducible show Eo _ _ _ _ _ _); first | refine eo_none ?_ | refine eo_some ?_)
    | walk_at "da"))
  | `(tactic| walk_at "evM") => `(tactic| first
    | ((with_reducible show Ev _ _ _ _ (.List _ _) _); refine ev_lstM ?_)
    | ((with_reducible show Ev _ _ _ _ (.Subscript _ (.Slice _ _ _ _) _) _); refine ev_sliceM ?_))
  | `(tactic| walk_at "goM") => `(tactic| repeat (first | walk_at "evM" | walk_at "st"))
  | `(tactic| walk_at "set") => `(tactic| first
    | refine es_set (i := 0) (Ct.nd (by assumption)) rfl (.inl rfl) (.inr rfl) ?_ | refine es_set (i := 0) (Ct.nd (by assumption)) rfl (.inr rfl) (.inl rfl) ?_
    | refine es_set (i := 1) (Ct.nd (by assumption)) rfl (.inl rfl) (.inr rfl) ?_ | refine es_set (i := 1) (Ct.nd (by assumption)) rfl (.inr rfl) (.inl rfl) ?_
    | refine es_set (i := 2) (Ct.nd (by assumption)) rfl (.inl rfl) (.inr rfl) ?_ | refine es_set (i := 2) (Ct.nd (by assumption)) rfl (.inr rfl) (.inl rfl) ?_
    | refine es_set (i := 3) (Ct.nd (by assumption)) rfl (.inl rfl) (.inr rfl) ?_ | refine es_set (i := 3) (Ct.nd (by assumption)) rfl (.inr rfl) (.inl rfl) ?_
    | refine es_set (i := 4) (Ct.nd (by assumption)) rfl (.inl rfl) (.inr rfl) ?_ | refine es_set (i := 4) (Ct.nd (by assumption)) rfl (.inr rfl) (.inl rfl) ?_
    | refine es_set (i := 5) (Ct.nd (by assumption)) rfl (.inl rfl) (.inr rfl) ?_ | refine es_set (i := 5) (Ct.nd (by assumption)) rfl (.inr rfl) (.inl rfl) ?_
    | refine es_set (i := 6) (Ct.nd (by assumption)) rfl (.inl rfl) (.inr rfl) ?_ | refine es_set (i := 6) (Ct.nd (by assumption)) rfl (.inr rfl) (.inl rfl) ?_
    | refine es_set (i := 7) (Ct.nd (by assumption)) rfl (.inl rfl) (.inr rfl) ?_ | refine es_set (i := 7) (Ct.nd (by assumption)) rfl (.inr rfl) (.inl rfl) ?_
    | refine es_set (i := 8) (Ct.nd (by assumption)) rfl (.inl rfl) (.inr rfl) ?_ | refine es_set (i := 8) (Ct.nd (by assumption)) rfl (.inr rfl) (.inl rfl) ?_
    | refine es_set (i := 9) (Ct.nd (by assumption)) rfl (.inl rfl) (.inr rfl) ?_ | refine es_set (i := 9) (Ct.nd (by assumption)) rfl (.inr rfl) (.inl rfl) ?_
    | refine es_set (i := 10) (Ct.nd (by assumption)) rfl (.inl rfl) (.inr rfl) ?_ | refine es_set (i := 10) (Ct.nd (by assumption)) rfl (.inr rfl) (.inl rfl) ?_
    | refine es_set (i := 11) (Ct.nd (by assumption)) rfl (.inl rfl) (.inr rfl) ?_ | refine es_set (i := 11) (Ct.nd (by assumption)) rfl (.inr rfl) (.inl rfl) ?_
    | refine es_set (i := 12) (Ct.nd (by assumption)) rfl (.inl rfl) (.inr rfl) ?_ | refine es_set (i := 12) (Ct.nd (by assumption)) rfl (.inr rfl) (.inl rfl) ?_
    | refine es_set (i := 13) (Ct.nd (by assumption)) rfl (.inl rfl) (.inr rfl) ?_ | refine es_set (i := 13) (Ct.nd (by assumption)) rfl (.inr rfl) (.inl rfl) ?_
    | refine es_set (i := 14) (Ct.nd (by assumption)) rfl (.inl rfl) (.inr rfl) ?_ | refine es_set (i := 14) (Ct.nd (by assumption)) rfl (.inr rfl) (.inl rfl) ?_
    | refine es_set (i := 15) (Ct.nd (by assumption)) rfl (.inl rfl) (.inr rfl) ?_ | refine es_set (i := 15) (Ct.nd (by assumption)) rfl (.inr rfl) (.inl rfl) ?_
    | refine es_set (i := 16) (Ct.nd (by assumption)) rfl (.inl rfl) (.inr rfl) ?_ | refine es_set (i := 16) (Ct.nd (by assumption)) rfl (.inr rfl) (.inl rfl) ?_
    | refine es_set (i := 17) (Ct.nd (by assumption)) rfl (.inl rfl) (.inr rfl) ?_ | refine es_set (i := 17) (Ct.nd (by assumption)) rfl (.inr rfl) (.inl rfl) ?_
    | refine es_set (i := 18) (Ct.nd (by assumption)) rfl (.inl rfl) (.inr rfl) ?_ | refine es_set (i := 18) (Ct.nd (by assumption)) rfl (.inr rfl) (.inl rfl) ?_
    | refine es_set (i := 19) (Ct.nd (by assumption)) rfl (.inl rfl) (.inr rfl) ?_ | refine es_set (i := 19) (Ct.nd (by assumption)) rfl (.inr rfl) (.inl rfl) ?_
    | refine es_set (i := 20) (Ct.nd (by assumption)) rfl (.inl rfl) (.inr rfl) ?_ | refine es_set (i := 20) (Ct.nd (by assumption)) rfl (.inr rfl) (.inl rfl) ?_
    | refine es_set (i := 21) (Ct.nd (by assumption)) rfl (.inl rfl) (.inr rfl) ?_ | refine es_set (i := 21) (Ct.nd (by assumption)) rfl (.inr rfl) (.inl rfl) ?_
    | refine es_set (i := 22) (Ct.nd (by assumption)) rfl (.inl rfl) (.inr rfl) ?_ | refine es_set (i := 22) (Ct.nd (by assumption)) rfl (.inr rfl) (.inl rfl) ?_
    | refine es_set (i := 23) (Ct.nd (by assumption)) rfl (.inl rfl) (.inr rfl) ?_ | refine es_set (i := 23) (Ct.nd (by assumption)) rfl (.inr rfl) (.inl rfl) ?_)

/-! ### the law's screens -/
theorem perm_strs {acc rest : List D} {ws : List Str} (h : (acc ++ rest).Perm (ws.map D.str)) : ∃ us rs : List Str, acc = us.map D.str ∧ rest = rs.map D.str ∧ (us ++ rs).Perm ws := by
  let g : D → Str := fun d => match d with
    | .str x => x
    | _ => Str.empty
  have all : ∀ d ∈ acc ++ rest, D.str (g d) = d := fun d hd => by
    obtain ⟨c, _, rfl⟩ := List.mem_map.mp (h.mem_iff.mp hd)
    rfl
  have back : ∀ l : List D, (∀ d ∈ l, D.str (g d) = d) → l = (l.map g).map D.str := fun l hl => by
    rw [List.map_map]
    exact (List.map_id' _).symm.trans (List.map_congr_left fun d hd => (hl d hd).symm)
  refine ⟨acc.map g, rest.map g, back acc fun d hd => all d (List.mem_append_left _ hd), back rest fun d hd => all d (List.mem_append_right _ hd), ?_⟩
  have h2 := h.map g
  rw [List.map_append, List.map_map] at h2
  refine h2.trans (List.Perm.of_eq ?_)
  exact (List.map_congr_left fun c _ => rfl).trans (List.map_id _)
theorem lcOk_popsS {X : Cx} {scope : Scope} {vs : List Nat} {tg : Expr} {elt : Expr} {ρ : En} {F F1 : FS} {Φ : Addr → List D → FS → Prop} {p pl : Addr} {b n : Int} {ls : List Str} {k : Nat} (hk : k ≤ ls.length) (hls : ls.length ≤ 1000000) (npl : p ≠ pl) (h1 : F1 pl = some (.lst (ls.map D.str))) (hp : PW p b n F1) (hn : n + k ≤ 1000000000) (hF : F pl = none)
    (sub : ∀ x m, x ≠ p → F x = some m → F1 x = some m)
    (step : ∀ (i : Nat) (rest : List Str) F2, i < k → PW p b (n + i) F2 → F2 pl = some (.lst (rest.map D.str)) → 1 ≤ rest.length → rest.length ≤ 1000000 → Turn X scope vs tg [] elt ρ (.int (i : Nat)) F2 False (fun y F5 => ∃ (j : Nat) (mo : MO), (rest.map D.str)[j]? = some y ∧ PW p b (n + i + 1) (updF F2 p mo) ∧ F5 = updF (updF F2 p mo) pl (.lst ((rest.map D.str).eraseIdx j))))
    (last : ∀ L (us rs : List Str) F2, us.length = k → (us ++ rs).Perm ls → PW p b (n + k) F2 → F2 L = some (.lst (us.map D.str)) → F1 L = none → L ≠ p → F L = none → (∀ x m, x ≠ p → F x = some m → F2 x = some m) → Φ L (us.map D.str) F2) : LcOk X scope vs tg [] elt ρ F1 (rangeD 0 k) Φ := by
  refine lcOk_pops (F := F) (p := p) (pl := pl) (b := b) (n := n) (ls := ls.map D.str) (by rw [List.length_map]; exact hk) (by rw [List.length_map]; exact hls) npl h1 hp hn (fun x m x1 x2 e => sub x m x1 e) (fun L i acc rest F2 hi R hL hr hrl => ?_) (fun L acc rest F2 hal R hL hL0 => ?_)
  · obtain ⟨us, rs, rfl, rfl, hp2⟩ := perm_strs R.perm
    refine step i rs F2 hi R.pw R.left ?_ (by rw [List.length_map] at hrl; exact hrl)
    cases rs with
    | nil => exact absurd rfl hr
    | cons x xs => simp
  · obtain ⟨us, rs, rfl, rfl, hp2⟩ := perm_strs R.perm
    have FL : F L = none := by
      cases e : F L with
      | none => rfl
      | some m =>
        rw [sub L m R.nL.1 e] at hL0
        cases hL0
    refine last L us rs F2 (by rw [List.length_map] at hal; exact hal) hp2 R.pw hL hL0 R.nL.1 FL fun x m x1 e => ?_
    refine R.sub x m x1 (fun z => ?_) (fun z => ?_) e
    · rw [z, hF] at e
      cases e
    · rw [z, FL] at e
      cases e
theorem sub_put {F F2 : FS} {p : Addr} {mo : MO} (e : F2 p = some mo) (h : ∀ x m, x ≠ p → F x = some m → F2 x = some m) : ∀ x m, updF F p mo x = some m → F2 x = some m := fun x m q => by
  by_cases hx : x = p
  · rw [hx, updF_same] at q
    rw [hx, e]
    exact q
  · rw [updF_ne hx] at q
    exact h x m hx q
theorem PW.is {p : Addr} {b n : Int} {F F' : FS} (h : PW p b n F) : ∃ mo, F p = some mo ∧ PW p b n (updF F' p mo) := by
  obtain ⟨mo, e⟩ := h.has
  exact ⟨mo, e, h.at_ (by rw [updF_same, e])⟩
theorem PoolOk.part {ws us rs : List Str} (h : PoolOk ws) (q : (us ++ rs).Perm ws) : PoolOk us := by
  have l := q.length_eq
  rw [List.length_append] at l
  exact ⟨(List.nodup_append.mp (q.nodup_iff.mpr h.nd)).1, fun w hw => h.ok w (q.mem_iff.mp (List.mem_append_left _ hw)), by have := h.few; omega⟩
def sHidden : Spec := fun ds F Φ _ => ∃ (p : Addr) (m b n : Int), ds = [.raw (.ref p), .int m] ∧ 0 ≤ m ∧ m < 1000 ∧ PW p b n F ∧ n < 900000000 ∧ ∀ (ws : List Str) (mo : MO), PoolOk ws → PW p b (n + 60) (updF F p mo) → Φ (.lst (ws.map D.str)) (updF F p mo)
abbrev nHidden : List Str := ["pouch", "many", "left", "turn"]
theorem scHidden : FnScope nHidden ["pouch", "many"] (defScope (top 34)) := ⟨rfl, rfl, rfl, by decide +kernel, rfl, by decide +kernel, by decide +kernel⟩
theorem okHidden {W : Wd} (M : Md W) (a : At W "_law_hidden" (top 34)) (hPick : Ok W 1 "_law_pick" (top 32) ["pouch", "many"] sPick) (hPool : Ok W 2 "_law_pool" (top 33) ["pouch"] sPool) : Ok W 3 "_law_hidden" (top 34) ["pouch", "many"] sHidden := by
  refine Ok.of a scHidden (fun ds F Φ Ψ h => ?_) (fun _ _ _ _ _ _ us hl => match us, hl with | [_, _], _ => rfl) (fun f cdv A outer s0 H0 E C ds F Φ Ψ h => ?_)
  · obtain ⟨p, m, b, n, rfl, m0, m1, hp, hn, kk⟩ := h
    rfl
  obtain ⟨p, m, b, n, rfl, m0, m1, hp, hn, kk⟩ := h
  have hR := C.room
  obtain ⟨mp, hmp⟩ := id hp.has
  walk_at "go"
  walk_at "set"
  refine ev_call hPool (C.room.mono (by decide)) rfl ?_
  walk_at "go"
  refine ⟨p, b, n, rfl, hp, by omega, fun ws mo l hw hl hpw => ?_⟩
  have npl : p ≠ l := fun e => by
    rw [← e, hmp] at hl
    cases hl
  refine ess_one (es_ret (ev_post (ev_frz (ev_lcM rfl C.nd (own := [("turn", 3)]) (blkOk_by (N := nHidden) (sc := defScope (top 34)) (by decide +kernel)) (ei_range1 rfl (by walk_at "mg") ?_)))))
  walk_at "go"
  refine ev_call hPick (C.room.mono (by decide)) rfl ?_
  walk_at "go"
  refine d_lenR updF_same ?_
  walk_at "go"
  refine ⟨_, _, rfl, ?_⟩
  walk_at "go"
  have hlw := hw.few
  have hlm : (ws.map D.str).length = ws.length := List.length_map ..
  refine ⟨p, _, b, n + 10, rfl, hpw.ne npl, by omega, by split <;> omega, by split <;> omega, fun r mo2 r0 r1 hpw2 => ?_⟩
  obtain ⟨q, rfl⟩ := Int.eq_ofNat_of_zero_le r0
  have hq : q ≤ ws.length := by
    rw [hlm] at r1
    split at r1 <;> omega
  walk_at "go"
  refine ⟨q, rfl, by omega, by omega, ?_⟩
  rw [Int.toNat_natCast]
  refine lcOk_popsS (F := F) (p := p) (pl := l) (b := b) (n := n + 10 + 1) (ls := ws) hq (by omega) npl (by rw [updF_ne (Ne.symm npl), updF_same]) hpw2 (by omega) hl
    (fun x m x1 e => by rw [updF_ne x1, updF_ne (fun z => by rw [z, hl] at e; cases e), updF_ne x1]; exact e) (fun i rest F2 hi hpw3 hl3 hr1 hr2 => ?_) (fun L us rs F2 hal hperm hpw3 hL hL0 LP FL sub => ?_)
  · refine ⟨_, true, fun s H B cl fp => gc_name (pg_name (i := 3) C.nd rfl (.inl rfl)) (by simp) ⟨rfl, rfl⟩, fun s H B cl fp => ets_nil ⟨rfl, rfl⟩, brT fun s H B cl fp => ?_⟩
    walk_at "go"
    refine ⟨⟨_, _, rfl, hl3⟩, ?_⟩
    refine ev_call hPick (C.room.mono (by decide)) rfl ?_
    walk_at "go"
    refine d_lenR hl3 ?_
    walk_at "go"
    refine ⟨p, _, b, n + 10 + 1 + i, rfl, hpw3, by omega, by rw [List.length_map]; omega, by rw [List.length_map]; omega, fun r mo r0 r1 hpw4 => ?_⟩
    obtain ⟨q, rfl⟩ := Int.eq_ofNat_of_zero_le r0
    have hq : q < (rest.map D.str).length := by omega
    exact ⟨l, _, rfl, by rw [updF_ne (Ne.symm npl)]; exact hl3, q, (rest.map D.str)[q], rfl, by rw [List.length_map] at hq; omega, by simp, q, mo, by simp, hpw4, rfl⟩
  · obtain ⟨mo3, e3, hpw5⟩ := hpw3.is (F' := F)
    refine ⟨L, _, rfl, hL, updF F p mo3, fun a m e => ?_, kk us mo3 (hw.part hperm) (hpw5.up (by omega) (by omega))⟩
    have e4 := sub_put e3 sub a m e
    unfold delF
    rw [if_neg (fun z => ?_)]
    · exact e4
    · rw [z, updF_ne LP, FL] at e
      cases e
/-- a short text of letters -/
structure FrontOk (f : Str) : Prop where
  let_ : lettersS f = true
  len : f.length ≤ 30
theorem frontOk_cut {z : Str} (h : lettersS z = true) (lo hi : Option Int) (hl : (cutS z lo hi).length ≤ 30) : FrontOk (cutS z lo hi) := by
  refine ⟨?_, hl⟩
  unfold lettersS cutS at *
  rw [List.all_eq_true] at h ⊢
  exact fun c hc => h c (List.mem_of_mem_drop (List.mem_of_mem_take hc))
theorem cut_len (z : Str) (lo hi : Option Int) : (cutS z lo hi).length ≤ z.length := by
  unfold cutS Str.length
  simp only [List.size_toArray, List.length_take, List.length_drop, Array.length_toList]
  omega
theorem cut30 (z : Str) : (cutS z none (some 30)).length ≤ 30 := by
  unfold cutS Str.length
  simp only [List.size_toArray, List.length_take]
  have : HT.sIx z.cps.size z.cps.size (some 30) ≤ 30 := by
    unfold HT.sIx
    simp
    omega
  omega
theorem wordOk_front {w : Str} (h : WordOk w) : FrontOk w := by
  have h1 := h.1
  unfold wordS at h1
  rw [Bool.and_eq_true] at h1
  exact ⟨h1.1, h.2⟩
def sFront : Spec := fun ds F Φ _ => ∃ (p : Addr) (b n : Int) (ws : List Str), ds = [.raw (.ref p), .lst (ws.map D.str)] ∧ (∀ w ∈ ws, WordOk w) ∧ ws.length ≤ 1000 ∧ PW p b n F ∧ n < 900000000 ∧ ∀ f mo, FrontOk f → PW p b (n + 3) (updF F p mo) → Φ (.str f) (updF F p mo)
theorem pick8 {a b c d e : D} {r : Int} (h0 : 0 ≤ r) (h1 : r < 8) : ∃ k : Int, atI [D.int 0, .int 0, .int 0, .int 0, .int 1, .int 2, .int 3, .int 4] r = some (.int k) ∧ ∃ x, x ∈ [a, b, c, d, e] ∧ atI [a, b, c, d, e] k = some x := by
  have : r = 0 ∨ r = 1 ∨ r = 2 ∨ r = 3 ∨ r = 4 ∨ r = 5 ∨ r = 6 ∨ r = 7 := by omega
  rcases this with rfl | rfl | rfl | rfl | rfl | rfl | rfl | rfl
  · exact ⟨0, rfl, a, by simp, rfl⟩
  · exact ⟨0, rfl, a, by simp, rfl⟩
  · exact ⟨0, rfl, a, by simp, rfl⟩
  · exact ⟨0, rfl, a, by simp, rfl⟩
  · exact ⟨1, rfl, b, by simp, rfl⟩
  · exact ⟨2, rfl, c, by simp, rfl⟩
  · exact ⟨3, rfl, d, by simp, rfl⟩
  · exact ⟨4, rfl, e, by simp, rfl⟩
theorem map_eq_nil {ws : List Str} : decide (ws.map D.str = []) = decide (ws = []) := by
  cases ws <;> simp
theorem okD_strs {ws : List Str} (h : ∀ w ∈ ws, WordOk w) (n : Nat) : okD (n + 1) (.lst (ws.map D.str)) = true := by
  simp only [okD, List.all_map, List.all_eq_true]
  intro w hw
  have h1 := (h w hw).1
  unfold wordS lettersS at h1
  rw [Bool.and_eq_true, List.all_eq_true] at h1
  have h2 : PyData.strOk w = true := by
    unfold PyData.strOk
    refine Array.all_eq_true_iff_forall_mem.mpr fun c hc => ?_
    have := h1.1 c (Array.mem_toList_iff.mpr hc)
    simp at this
    simp
    omega
  cases n <;> simpa [okD] using h2
abbrev nFront : List Str := ["pouch", "words", "word", "some"]
theorem scFront : FnScope nFront ["pouch", "words"] (defScope (top 35)) := ⟨rfl, rfl, rfl, by decide +kernel, rfl, by decide +kernel, by decide +kernel⟩
theorem okFront {W : Wd} (M : Md W) (a : At W "_law_front" (top 35)) (hPick : Ok W 1 "_law_pick" (top 32) ["pouch", "many"] sPick) : Ok W 2 "_law_front" (top 35) ["pouch", "words"] sFront := by
  refine Ok.of a scFront (fun ds F Φ Ψ h => ?_) (fun _ _ _ _ _ _ us hl => match us, hl with | [_, _], _ => rfl) (fun f cdv A outer s0 H0 E C ds F Φ Ψ h => ?_)
  · obtain ⟨p, b, n, ws, rfl, hw, hwl, hp, hn, kk⟩ := h
    rfl
  obtain ⟨p, b, n, ws, rfl, hw, hwl, hp, hn, kk⟩ := h
  have hR := C.room
  obtain ⟨mp, hmp⟩ := id hp.has
  walk_at "go"
  walk_at "set"
  refine Ev.mono (Φ := fun d F1 => ∃ w mo, d = .str w ∧ FrontOk w ∧ F1 = updF F p mo ∧ PW p b (n + 1) F1) ?_ (fun d F1 hd => ?_)
  · walk_at "go"
    refine EqD.elim_lst (okD_strs hw 59) (by decide) ?_
    rw [eqD_nil, map_eq_nil]
    refine ⟨fun h => ?_, fun h => ?_⟩
    · have h : ws ≠ [] := by simpa using h
      walk_at "go"
      refine ev_call hPick (C.room.mono (by decide)) rfl ?_
      walk_at "go"
      have h1 : 1 ≤ ws.length := by
        cases ws with
        | nil => exact absurd rfl h
        | cons x xs => simp
      refine ⟨p, _, b, n, rfl, hp, by omega, by rw [List.length_map]; omega, by rw [List.length_map]; omega, fun r mo r0 r1 hpw => ?_⟩
      obtain ⟨q, rfl⟩ := Int.eq_ofNat_of_zero_le r0
      rw [List.length_map] at r1
      have hq : q < ws.length := by omega
      refine d_ixL (d := .str ws[q]) (atI_nat (by simp [hq])) ?_
      exact ⟨_, mo, rfl, wordOk_front (hw _ (List.getElem_mem hq)), rfl, hpw⟩
    · walk_at "go"
      exact ⟨_, mp, rfl, ⟨by decide +kernel, by decide⟩, (updF_self hmp).symm, hp.up (by omega) (by omega)⟩
  obtain ⟨w, mo, rfl, hf, rfl, hpw⟩ := hd
  walk_at "go"
  walk_at "set"
  have hwl2 := hf.len
  walk_at "go"
  refine ev_call hPick (C.room.mono (by decide)) rfl ?_
  walk_at "go"
  refine d_lenS (le_line (by omega)) ?_
  walk_at "go"
  refine ⟨p, _, b, n + 1, rfl, hpw, by omega, by omega, by omega, fun r mo2 r0 r1 hpw2 => ?_⟩
  walk_at "go"
  refine d_slS (le_line (by omega)) ?_
  walk_at "go"
  refine d_slS (le_line (by omega)) ?_
  walk_at "go"
  have la : (w ++ ("a" : Str)).length = w.length + 1 := by
    rw [Str.length_append]
    rfl
  refine d_addS (le_line (by have : ("a" : Str).length = 1 := rfl; omega)) ?_
  walk_at "go"
  refine d_slS (le_line (by omega)) ?_
  walk_at "go"
  refine ev_call hPick (C.room.mono (by decide)) rfl ?_
  walk_at "go"
  refine ⟨p, _, b, n + 2, rfl, hpw2.up (by omega) (by omega), by omega, by decide, by decide, fun r2 mo3 r20 r21 hpw3 => ?_⟩
  obtain ⟨k, hk, x, hx, hx2⟩ := pick8 (a := .str (cutS w none (some r))) (b := .str "") (c := .str (cutS w (some (-2)) none)) (d := .str (cutS (w ++ "a") none (some 30))) (e := .str "q") r20 r21
  refine d_ixL hk ?_
  refine d_ixL hx2 ?_
  have hx3 : ∃ f, x = .str f ∧ FrontOk f := by
    have cl : ∀ lo hi, (cutS w lo hi).length ≤ 30 := fun lo hi => Nat.le_trans (cut_len w lo hi) hwl2
    simp only [List.mem_cons, List.not_mem_nil, or_false] at hx
    rcases hx with rfl | rfl | rfl | rfl | rfl
    · exact ⟨_, rfl, frontOk_cut hf.let_ _ _ (cl _ _)⟩
    · exact ⟨_, rfl, by decide +kernel, by decide⟩
    · exact ⟨_, rfl, frontOk_cut hf.let_ _ _ (cl _ _)⟩
    · refine ⟨_, rfl, frontOk_cut ?_ _ _ (cut30 _)⟩
      have h1 := hf.let_
      have e : (w ++ ("a" : Str)).cps.toList = w.cps.toList ++ [97] := by
        show (Str.append w "a").cps.toList = _
        simp [Str.append]
        rfl
      unfold lettersS at h1 ⊢
      rw [e, List.all_append, h1]
      rfl
    · exact ⟨_, rfl, by decide +kernel, by decide⟩
  obtain ⟨f, rfl, hff⟩ := hx3
  have e : updF (updF (updF F p mo) p mo2) p mo3 = updF F p mo3 := by rw [updF_updF, updF_updF]
  rw [e]
  exact kk f mo3 hff ((hpw3.put (F' := F)).up (by omega) (by omega))

def startsL (ws : List Str) (f : Str) : List Str := ws.filter fun w => Txt.startswith w f
def sAnswer : Spec := fun ds F Φ _ => ∃ (ws : List Str) (f : Str) (m : Nat), ds = [.lst (ws.map D.str), .str f, .int (m : Nat)] ∧ ws.length ≤ 1000 ∧ Φ (.lst (((startsL ws f).take m).map D.str)) F
def isStart (f : Str) (d : D) : Bool := match d with
  | .str w => Txt.startswith w f
  | _ => false
theorem filter_start (ws : List Str) (f : Str) : ((ws.map D.str).filter (isStart f)).map (fun d => d) = (startsL ws f).map D.str := by
  unfold startsL
  rw [List.map_id', List.filter_map]
  rfl
theorem cut_to {α : Type} (xs : List α) (m : Nat) : cutD xs none (some (m : Nat)) = xs.take m := by
  unfold cutD
  rw [HT.sIx_nat]
  show (xs.drop 0).take (min m xs.length - 0) = _
  rw [List.drop_zero, Nat.sub_zero, ← List.take_eq_take_min]
abbrev nAnswer : List Str := ["hidden", "front", "most", "word"]
theorem scAnswer : FnScope nAnswer ["hidden", "front", "most"] (defScope (top 36)) := ⟨rfl, rfl, rfl, by decide +kernel, rfl, by decide +kernel, by decide +kernel⟩
theorem okAnswer {W : Wd} (M : Md W) (a : At W "_law_answer" (top 36))  : Ok W 1 "_law_answer" (top 36) ["hidden", "front", "most"] sAnswer := by
  refine Ok.of a scAnswer (fun ds F Φ Ψ h => ?_) (fun _ _ _ _ _ _ us hl => match us, hl with | [_, _, _], _ => rfl) (fun f cdv A outer s0 H0 E C ds F Φ Ψ h => ?_)
  · obtain ⟨ws, f, m, rfl, hl, kk⟩ := h
    rfl
  obtain ⟨ws, f, m, rfl, hl, kk⟩ := h
  have hR := C.room
  walk_at "go"
  refine ev_lcP rfl C.nd (own := [("word", 3)]) (blkOk_by (N := nAnswer) (sc := defScope (top 36)) (by decide +kernel)) (isStart f) (fun d => d) (ei_list ?_)
  walk_at "go"
  refine ⟨le_line (by rw [List.length_map]; omega), fun d F2 hd => ⟨_, isStart f d, fun s H B cl fp => gc_name (pg_name (i := 3) C.nd rfl (by first | exact .inl rfl | exact .inr rfl)) (by simp) ⟨rfl, rfl⟩, fun s H B cl fp => ets_one (et_val ?_), fun hb s H B cl fp => ?_, fun hb => hb⟩, ?_⟩
  · obtain ⟨w, _, rfl⟩ := List.mem_map.mp hd
    walk_at "go"
    refine ⟨w, rfl, ?_⟩
    walk_at "go"
    refine ⟨f, rfl, ?_⟩
    walk_at "go"
    exact ⟨rfl, rfl⟩
  · walk_at "go"
    exact ⟨hb, rfl, rfl⟩
  · rw [filter_start]
    walk_at "go"
    rw [cut_to, ← List.map_take]
    exact kk
/-- a screen -/
structure BoardOk (b : Str) (l : Int) (ws : List Str) : Prop where
  f : FrontOk b
  l1 : 1 ≤ l
  l2 : l ≤ 20
  nd : ws.Nodup
  ok : ∀ w ∈ ws, WordOk w
  few : (ws.length : Int) ≤ l
  st : ∀ w ∈ ws, Txt.startswith w b = true
theorem board_of {ws us : List Str} {f : Str} {m : Nat} (hw : PoolOk ws) (hf : FrontOk f) (h1 : 1 ≤ m) (h2 : m ≤ 20) (hs : us.Sublist (startsL ws f)) (hl : us.length ≤ m) : BoardOk f m us := by
  have hs2 : us.Sublist ws := hs.trans List.filter_sublist
  refine ⟨hf, by omega, by omega, hw.nd.sublist hs2, fun w hx => hw.ok w (hs2.subset hx), by omega, fun w hx => ?_⟩
  exact (List.mem_filter.mp (hs.subset hx)).2
theorem board_perm {ws us rs : List Str} {f : Str} {m : Nat} (hw : PoolOk ws) (hf : FrontOk f) (h1 : 1 ≤ m) (h2 : m ≤ 20) (hs : (us ++ rs).Perm (startsL ws f)) (hl : us.length ≤ m) : BoardOk f m us := by
  have nd : (startsL ws f).Nodup := hw.nd.sublist List.filter_sublist
  have mem : ∀ w ∈ us, w ∈ startsL ws f := fun w hx => hs.mem_iff.mp (List.mem_append_left _ hx)
  refine ⟨hf, by omega, by omega, (List.nodup_append.mp (hs.nodup_iff.mpr nd)).1, fun w hx => hw.ok w (List.mem_filter.mp (mem w hx)).1, by omega, fun w hx => (List.mem_filter.mp (mem w hx)).2⟩
def sBoard : Spec := fun ds F Φ _ => ∃ (p : Addr) (b n : Int) (ws : List Str), ds = [.raw (.ref p), .lst (ws.map D.str)] ∧ PoolOk ws ∧ PW p b n F ∧ n < 800000000 ∧ ∀ f m us mo, BoardOk f m us → PW p b (n + 10) (updF F p mo) → Φ (.tup [.str f, .int m, .lst (us.map D.str)]) (updF F p mo)
theorem pick12 {r : Int} (h0 : 0 ≤ r) (h1 : r < 5) : ∃ m : Nat, 1 ≤ m ∧ m ≤ 20 ∧ atI [D.int 1, .int 2, .int 3, .int 5, .int 20] r = some (.int (m : Nat)) := by
  have : r = 0 ∨ r = 1 ∨ r = 2 ∨ r = 3 ∨ r = 4 := by omega
  rcases this with rfl | rfl | rfl | rfl | rfl
  · exact ⟨1, by omega, by omega, rfl⟩
  · exact ⟨2, by omega, by omega, rfl⟩
  · exact ⟨3, by omega, by omega, rfl⟩
  · exact ⟨5, by omega, by omega, rfl⟩
  · exact ⟨20, by omega, by omega, rfl⟩
theorem pick1235 {r : Int} (h0 : 0 ≤ r) (h1 : r < 4) : ∃ m : Nat, 1 ≤ m ∧ m ≤ 20 ∧ atI [D.int 1, .int 2, .int 3, .int 5] r = some (.int (m : Nat)) := by
  have : r = 0 ∨ r = 1 ∨ r = 2 ∨ r = 3 := by omega
  rcases this with rfl | rfl | rfl | rfl
  · exact ⟨1, by omega, by omega, rfl⟩
  · exact ⟨2, by omega, by omega, rfl⟩
  · exact ⟨3, by omega, by omega, rfl⟩
  · exact ⟨5, by omega, by omega, rfl⟩
abbrev nBoard : List Str := ["pouch", "hidden", "front", "most"]
theorem scBoard : FnScope nBoard ["pouch", "hidden"] (defScope (top 37)) := ⟨rfl, rfl, rfl, by decide +kernel, rfl, by decide +kernel, by decide +kernel⟩
theorem okBoard {W : Wd} (M : Md W) (a : At W "_law_board" (top 37)) (hPick : Ok W 1 "_law_pick" (top 32) ["pouch", "many"] sPick) (hFront : Ok W 2 "_law_front" (top 35) ["pouch", "words"] sFront) (hAnswer : Ok W 1 "_law_answer" (top 36) ["hidden", "front", "most"] sAnswer) : Ok W 3 "_law_board" (top 37) ["pouch", "hidden"] sBoard := by
  refine Ok.of a scBoard (fun ds F Φ Ψ h => ?_) (fun _ _ _ _ _ _ us hl => match us, hl with | [_, _], _ => rfl) (fun f cdv A outer s0 H0 E C ds F Φ Ψ h => ?_)
  · obtain ⟨p, b, n, ws, rfl, hw, hp, hn, kk⟩ := h
    rfl
  obtain ⟨p, b, n, ws, rfl, hw, hp, hn, kk⟩ := h
  have hR := C.room
  have hwl := hw.few
  refine ess_cons (es_par (i := 2) (j := 3) rfl C.nd rfl rfl (by decide) rfl rfl rfl ?_)
  walk_at "go"
  refine ev_call hFront (C.room.mono (by decide)) rfl ?_
  walk_at "go"
  refine ⟨p, b, n, ws, rfl, hw.ok, by omega, hp, by omega, fun f mo hf hpw => ?_⟩
  walk_at "go"
  refine ev_call hPick (C.room.mono (by decide)) rfl ?_
  walk_at "go"
  refine ⟨p, _, b, n + 3, rfl, hpw, by omega, by decide, by decide, fun r mo2 r0 r1 hpw2 => ?_⟩
  obtain ⟨m, m1, m2, hm⟩ := pick12 r0 r1
  refine d_ixL hm ?_
  walk_at "go"
  refine ⟨_, _, rfl, ?_⟩
  walk_at "go"
  refine ev_call hAnswer (C.room.mono (by decide)) rfl ?_
  walk_at "go"
  refine ⟨ws, f, m, rfl, by omega, ?_⟩
  walk_at "go"
  rw [updF_updF] at hpw2 ⊢
  exact kk f m _ mo2 (board_of hw hf m1 m2 (List.take_sublist _ _) (by rw [List.length_take]; omega)) (hpw2.up (by omega) (by omega))
def sAnyBoard : Spec := fun ds F Φ _ => ∃ (p : Addr) (b n : Int) (ws : List Str), ds = [.raw (.ref p), .lst (ws.map D.str)] ∧ PoolOk ws ∧ PW p b n F ∧ n < 800000000 ∧ ∀ f m us mo l, BoardOk f m us → PW p b (n + 60) (updF F p mo) → F l = none → l ≠ p → Φ (.tup [.str f, .int m, .raw (.ref l)]) (updF (updF F p mo) l (.lst (us.map D.str)))
abbrev nAnyBoard : List Str := ["pouch", "pool", "front", "most", "left", "many", "word", "turn"]
theorem scAnyBoard : FnScope nAnyBoard ["pouch", "pool"] (defScope (top 38)) := ⟨rfl, rfl, rfl, by decide +kernel, rfl, by decide +kernel, by decide +kernel⟩
theorem okAnyBoard {W : Wd} (M : Md W) (a : At W "_law_any_board" (top 38)) (hPick : Ok W 1 "_law_pick" (top 32) ["pouch", "many"] sPick) (hFront : Ok W 2 "_law_front" (top 35) ["pouch", "words"] sFront) : Ok W 3 "_law_any_board" (top 38) ["pouch", "pool"] sAnyBoard := by
  refine Ok.of a scAnyBoard (fun ds F Φ Ψ h => ?_) (fun _ _ _ _ _ _ us hl => match us, hl with | [_, _], _ => rfl) (fun f cdv A outer s0 H0 E C ds F Φ Ψ h => ?_)
  · obtain ⟨p, b, n, ws, rfl, hw, hp, hn, kk⟩ := h
    rfl
  obtain ⟨p, b, n, ws, rfl, hw, hp, hn, kk⟩ := h
  have hR := C.room
  have hwl := hw.few
  obtain ⟨mp, hmp⟩ := id hp.has
  refine ess_cons (es_asg ?_)
  walk_at "go"
  refine ev_call hFront (C.room.mono (by decide)) rfl ?_
  walk_at "go"
  refine ⟨p, b, n, ws, rfl, hw.ok, by omega, hp, by omega, fun f mo hf hpw => ?_⟩
  walk_at "go"
  refine ev_call hPick (C.room.mono (by decide)) rfl ?_
  walk_at "go"
  refine ⟨p, _, b, n + 3, rfl, hpw, by omega, by decide, by decide, fun r mo2 r0 r1 hpw2 => ?_⟩
  obtain ⟨m, m1, m2, hm⟩ := pick1235 r0 r1
  refine d_ixL hm ?_
  walk_at "go"
  refine eg_tup rfl ?_
  walk_at "go"
  refine ⟨rfl, egs_cons (eg_name (pg_name (i := 2) C.nd rfl (by first | exact .inl rfl | exact .inr rfl)) (egs_cons (eg_name (pg_name (i := 3) C.nd rfl (by first | exact .inl rfl | exact .inr rfl)) (egs_nil ?_))))⟩
  rw [updF_updF] at hpw2 ⊢
  refine ess_cons (es_asg ?_)
  refine ev_lcM rfl C.nd (own := [("word", 6)]) (blkOk_by (N := nAnyBoard) (sc := defScope (top 38)) (by decide +kernel)) (ei_list ?_)
  walk_at "go"
  refine lcOk_pure (isStart f) (fun d => d) (le_line (by rw [List.length_map]; omega)) (fun d F2 hd => ⟨_, isStart f d, fun s H B cl fp => gc_name (pg_name (i := 6) C.nd rfl (by first | exact .inl rfl | exact .inr rfl)) (by simp) ⟨rfl, rfl⟩, fun s H B cl fp => ets_one (et_val ?_), fun hb s H B cl fp => ?_, fun hb => hb⟩) (fun l hl => ?_)
  · obtain ⟨w, _, rfl⟩ := List.mem_map.mp hd
    walk_at "go"
    refine ⟨w, rfl, ?_⟩
    walk_at "go"
    refine ⟨f, rfl, ?_⟩
    walk_at "go"
    exact ⟨rfl, rfl⟩
  · walk_at "go"
    exact ⟨hb, rfl, rfl⟩
  rw [filter_start]
  have npl : p ≠ l := fun e => by
    rw [← e, updF_same] at hl
    cases hl
  have Fl : F l = none := by
    rw [updF_ne (Ne.symm npl)] at hl
    exact hl
  refine eg_name (pg_name (i := 4) C.nd rfl (by first | exact .inl rfl | exact .inr rfl)) ?_
  walk_at "go"
  walk_at "set"
  refine ev_call hPick (C.room.mono (by decide)) rfl ?_
  walk_at "go"
  refine d_lenR updF_same ?_
  walk_at "go"
  refine ⟨_, _, rfl, ?_⟩
  walk_at "go"
  have hlm : ((startsL ws f).map D.str).length = (startsL ws f).length := List.length_map ..
  have hsl : (startsL ws f).length ≤ ws.length := List.length_filter_le _ _
  refine ⟨p, _, b, n + 3 + 1, rfl, hpw2.ne npl, by omega, by split <;> omega, by split <;> omega, fun r mo3 r0 r1 hpw3 => ?_⟩
  obtain ⟨q, rfl⟩ := Int.eq_ofNat_of_zero_le r0
  have hq : q ≤ (startsL ws f).length ∧ q ≤ m := by
    rw [hlm] at r1
    split at r1 <;> omega
  refine ess_one (es_ret ?_)
  refine ev_post ?_
  walk_at "go"
  refine ev_lcM rfl C.nd (own := [("turn", 7)]) (blkOk_by (N := nAnyBoard) (sc := defScope (top 38)) (by decide +kernel)) (ei_range1 rfl (by walk_at "mg") ?_)
  walk_at "go"
  refine ⟨q, rfl, by omega, by omega, ?_⟩
  rw [Int.toNat_natCast]
  refine lcOk_popsS (F := F) (p := p) (pl := l) (b := b) (n := n + 3 + 1 + 1) (ls := startsL ws f) hq.1 (by omega) npl (by rw [updF_ne (Ne.symm npl), updF_same]) hpw3 (by omega) Fl
    (fun x m x1 e => by rw [updF_ne x1, updF_ne (fun z => by rw [z, Fl] at e; cases e), updF_ne x1]; exact e) (fun i rest F2 hi hpw4 hl4 hr1 hr2 => ?_) (fun L us rs F2 hal hperm hpw4 hL hL0 LP FL sub => ?_)
  · refine ⟨_, true, fun s H B cl fp => gc_name (pg_name (i := 7) C.nd rfl (.inl rfl)) (by simp) ⟨rfl, rfl⟩, fun s H B cl fp => ets_nil ⟨rfl, rfl⟩, brT fun s H B cl fp => ?_⟩
    walk_at "go"
    refine ⟨⟨_, _, rfl, hl4⟩, ?_⟩
    refine ev_call hPick (C.room.mono (by decide)) rfl ?_
    walk_at "go"
    refine d_lenR hl4 ?_
    walk_at "go"
    refine ⟨p, _, b, n + 3 + 1 + 1 + i, rfl, hpw4, by omega, by rw [List.length_map]; omega, by rw [List.length_map]; omega, fun r mo r0 r1 hpw5 => ?_⟩
    obtain ⟨q, rfl⟩ := Int.eq_ofNat_of_zero_le r0
    have hq : q < (rest.map D.str).length := by omega
    exact ⟨l, _, rfl, by rw [updF_ne (Ne.symm npl)]; exact hl4, q, (rest.map D.str)[q], rfl, by rw [List.length_map] at hq; omega, by simp, q, mo, by simp, hpw5, rfl⟩
  · walk_at "go"
    obtain ⟨mo4, e4, hpw6⟩ := hpw4.is (F' := F)
    refine ⟨updF (updF F p mo4) L (.lst (us.map D.str)), fun a m e => ?_, kk f m us mo4 L (board_perm hw hf m1 m2 hperm (by omega)) (hpw6.up (by omega) (by omega)) FL LP⟩
    by_cases h1 : a = L
    · rw [h1, updF_same] at e
      rw [h1, hL]
      exact e
    · rw [updF_ne h1] at e
      exact sub_put e4 sub a m e
def sLawText : Spec := fun ds F Φ _ => ∃ (b : Str) (l : Int) (ws : List Str), ds = [.tup [.str b, .int l, .lst (ws.map D.str)]] ∧ BoardOk b l ws ∧ Φ (.str (textS b l ws)) F
theorem ix3 {a b c : D} : atI [a, b, c] 0 = some a ∧ atI [a, b, c] 1 = some b ∧ atI [a, b, c] 2 = some c := ⟨rfl, rfl, rfl⟩
theorem sum_words {ws : List Str} (h : ∀ w ∈ ws, WordOk w) : (ws.map (·.length)).sum ≤ 30 * ws.length := by
  induction ws with
  | nil => exact Nat.le_refl _
  | cons w ws ih =>
    have h1 := (h w List.mem_cons_self).2
    have h2 := ih fun x hx => h x (List.mem_cons_of_mem _ hx)
    simp only [List.map_cons, List.sum_cons, List.length_cons]
    omega
abbrev nLawText : List Str := ["board"]
theorem scLawText : FnScope nLawText ["board"] (defScope (top 39)) := ⟨rfl, rfl, rfl, by decide +kernel, rfl, by decide +kernel, by decide +kernel⟩
theorem okLawText {W : Wd} (M : Md W) (a : At W "_law_text" (top 39))  : Ok W 1 "_law_text" (top 39) ["board"] sLawText := by
  refine Ok.of a scLawText (fun ds F Φ Ψ h => ?_) (fun _ _ _ _ _ _ us hl => match us, hl with | [_], _ => rfl) (fun f cdv A outer s0 H0 E C ds F Φ Ψ h => ?_)
  · obtain ⟨b, l, ws, rfl, hb, kk⟩ := h
    rfl
  obtain ⟨b, l, ws, rfl, hb, kk⟩ := h
  have hR := C.room
  walk_at "go"
  have hbl := hb.f.len
  have hw := hb.few
  have h1 := hb.l1
  have h2 := hb.l2
  refine ⟨_, rfl, ?_⟩
  refine Ev.mono (Φ := fun d F1 => d = .lst ((begS b :: strI l :: ws).map D.str) ∧ F1 = F) ?_ (fun d F1 hd => ?_)
  · walk_at "go"
    have fin : ∀ x : Str, x = begS b → AddD (.lst [.str x, .str (strI l)]) (.lst (ws.map D.str)) fun d => d = .lst ((begS b :: strI l :: ws).map D.str) ∧ F = F := fun x hx => by
      subst hx
      exact d_addL (le_line (by simp; omega)) ⟨rfl, rfl⟩
    have st : l.natAbs.log2 < 1920 := by
      have h8 : l.natAbs ≤ 20 := by omega
      have h9 : l.natAbs.log2 ≤ l.natAbs := Nat.log2_le_self _
      omega
    refine ⟨fun h => ?_, fun h => ?_⟩
    · walk_at "go"
      refine d_stI st ?_
      walk_at "go"
      exact fin b (by unfold begS; rw [if_neg (by simpa using h)])
    · walk_at "go"
      refine d_stI st ?_
      walk_at "go"
      exact fin "-" (by unfold begS; rw [if_pos (by simpa using h)])
  · obtain ⟨rfl, rfl⟩ := hd
    refine ⟨begS b :: strI l :: ws, rfl, ?_, kk⟩
    have h3 := begS_len b
    have h5 : (strI l).length ≤ 1921 := PyProof.Rows.int_text_len_1921 (by
      have h8 : l.natAbs ≤ 20 := by omega
      have h9 : l.natAbs.log2 ≤ l.natAbs := Nat.log2_le_self _
      omega)
    have h4 : (" " : Str).length = 1 := rfl
    have h6 := sum_words hb.ok
    simp only [List.map_cons, List.sum_cons, List.length_cons, h4]
    omega

/-! ### the plain law: the text of a screen is read back -/
abbrev boardD (b : Str) (l : Int) (ws : List Str) : D := .tup [.str b, .int l, .lst (ws.map D.str)]
theorem wordOk_strOk {w : Str} (h : lettersS w = true) : PyData.strOk w = true := by
  unfold lettersS at h
  rw [List.all_eq_true] at h
  refine Array.all_eq_true_iff_forall_mem.mpr fun c hc => ?_
  have := h c (Array.mem_toList_iff.mpr hc)
  simp at this
  simp
  omega
theorem szDs_words {ws : List Str} (h : ∀ w ∈ ws, WordOk w) : szDs (ws.map D.str) ≤ 304 * ws.length := by
  induction ws with
  | nil => exact Nat.le_refl _
  | cons w ws ih =>
    have h1 := (h w List.mem_cons_self).2
    have h2 := ih fun x hx => h x (List.mem_cons_of_mem _ hx)
    simp only [List.map_cons, szDs, szD, List.length_cons]
    omega
theorem okR_words {ws : List Str} (h : ∀ w ∈ ws, WordOk w) (n : Nat) : ((ws.map D.str).all fun d => okR n d) = true := by
  rw [List.all_map, List.all_eq_true]
  intro w hw
  have := wordOk_strOk (wordOk_front (h w hw)).let_
  cases n <;> simpa [okR] using this
theorem le_line_lt {n : Nat} (h : n < 16000000) : n < sizeLine := by
  rw [sizeLine_eq]
  omega
theorem log20 {l : Int} (h1 : 1 ≤ l) (h2 : l ≤ 20) : l.natAbs.log2 < 1920 := by
  have h8 : l.natAbs ≤ 20 := by omega
  have h9 : l.natAbs.log2 ≤ l.natAbs := Nat.log2_le_self _
  omega
theorem board_okR {b : Str} {l : Int} {ws : List Str} (h : BoardOk b l ws) (n : Nat) : okR (n + 2) (boardD b l ws) = true := by
  simp only [okR, List.all_cons, List.all_nil, Bool.and_true, okR_words h.ok, wordOk_strOk h.f.let_, decide_eq_true (log20 h.l1 h.l2), Bool.and_self]
theorem board_sz {b : Str} {l : Int} {ws : List Str} (h : BoardOk b l ws) : szD (boardD b l ws) ≤ 9000 := by
  have h1 := szDs_words h.ok
  have h2 := h.few
  have h3 := h.l2
  have h4 := h.f.len
  simp only [szD, szDs]
  omega
theorem board_good {b : Str} {l : Int} {ws : List Str} (h : BoardOk b l ws) : Good 60 (boardD b l ws) := ⟨board_okR h 58, by have := board_sz h; omega⟩
theorem strsD_map : ∀ ws : List Str, strsD (ws.map D.str) = ws
  | [] => rfl
  | w :: ws => by
    show w :: strsD (ws.map D.str) = w :: ws
    rw [strsD_map ws]
theorem board_screen {b : Str} {l : Int} {ws : List Str} (h : BoardOk b l ws) : screenD (boardD b l ws) = true := by
  show (lettersS b && isIntD (.int l) 1 (.int 20) && shownD b l (.lst (ws.map D.str))) = true
  have h1 : isIntD (.int l) 1 (.int 20) = true := by simp [isIntD, h.l1, h.l2]
  have h2 : ((ws.map D.str).all wordD) = true := by
    rw [List.all_map, List.all_eq_true]
    exact fun w hw => (h.ok w hw).1
  have h3 : (ws.all fun x => Txt.startswith x b) = true := List.all_eq_true.mpr h.st
  have h4 : shownD b l (.lst (ws.map D.str)) = true := by
    show (((ws.map D.str).all wordD && decide (strsD (ws.map D.str)).Nodup) && decide (((ws.map D.str).length : Int) ≤ l) && (strsD (ws.map D.str)).all fun x => Txt.startswith x b) = true
    rw [strsD_map, h2, h3, decide_eq_true h.nd, List.length_map, decide_eq_true h.few]
    rfl
  rw [h.f.let_, h1, h4]
  rfl
theorem num20 : ((List.range 20).all fun i => match numD (strI ((i : Int) + 1)) 2 with | .int n => decide (n = (i : Int) + 1) | _ => false) = true := by decide +kernel
theorem numD_strI {l : Int} (h1 : 1 ≤ l) (h2 : l ≤ 20) : numD (strI l) 2 = .int l := by
  have h := List.all_eq_true.mp num20 (l - 1).toNat (List.mem_range.mpr (by omega))
  have e : (((l - 1).toNat : Nat) : Int) + 1 = l := by omega
  rw [e] at h
  split at h
  · rename_i n e2
    rw [e2, of_decide_eq_true h]
  · cases h
theorem begS_cases {b : Str} (h : lettersS b = true) : begS b ≠ "" ∧ (if begS b = "-" then ("" : Str) else begS b) = b ∧ (32 ∉ (begS b).cps.toList) ∧ PyData.strOk (begS b) = true := by
  unfold begS
  by_cases e : b = ""
  · rw [if_pos e, if_pos rfl, e]
    exact ⟨by decide, rfl, by decide +kernel, by decide +kernel⟩
  · rw [if_neg e]
    have e2 : b ≠ "-" := fun z => by
      rw [z] at h
      exact absurd h (by decide +kernel)
    rw [if_neg e2]
    refine ⟨e, rfl, fun hc => ?_, wordOk_strOk h⟩
    have := List.all_eq_true.mp h 32 hc
    simp at this
theorem split_text {b : Str} {l : Int} {ws : List Str} (h : BoardOk b l ws) : Txt.split (textS b l ws) " " = begS b :: strI l :: ws := by
  refine TL.split_join (s := 32) (S := []) (by decide +kernel) (by decide +kernel) (by simp) fun p hp => ?_
  rcases List.mem_cons.mp hp with rfl | hp
  · exact (begS_cases h.f.let_).2.2.1
  rcases List.mem_cons.mp hp with rfl | hp
  · exact (PyProof.Rows.intText_free_32 l).mp
  · intro hc
    have h1 := (wordOk_front (h.ok p hp)).let_
    have := List.all_eq_true.mp h1 32 hc
    simp at this
theorem read_text {b : Str} {l : Int} {ws : List Str} (h : BoardOk b l ws) : readS (textS b l ws) = some (b, l, ws) := by
  obtain ⟨h1, h2, h3, h4⟩ := begS_cases h.f.let_
  unfold readS
  rw [split_text h]
  show (if begS b = "" then none else match numD (strI l) 2 with
    | .int n => if screenD (.tup [.str (if begS b = "-" then ("" : Str) else begS b), .int n, .lst (ws.map D.str)]) = true then some (if begS b = "-" then ("" : Str) else begS b, n, ws) else none
    | _ => none) = some (b, l, ws)
  rw [if_neg h1, numD_strI h.l1 h.l2, h2]
  show (if screenD (boardD b l ws) = true then some (b, l, ws) else none) = some (b, l, ws)
  rw [if_pos (board_screen h)]
theorem strI_ok {l : Int} : PyData.strOk (strI l) = true := by
  refine Array.all_eq_true_iff_forall_mem.mpr fun c hc => ?_
  have hc2 := Array.mem_toList_iff.mpr hc
  by_cases h : c < 0x110000
  · simpa using h
  · exact absurd hc2 (PyProof.Rows.int_text_free' c ⟨by omega, by omega⟩ l)
theorem strI_len {l : Int} (h1 : 1 ≤ l) (h2 : l ≤ 20) : (strI l).length ≤ 1921 := PyProof.Rows.int_text_len_1921 (log20 h1 h2)
theorem strOk_app {a b : Str} (h1 : PyData.strOk a = true) (h2 : PyData.strOk b = true) : PyData.strOk (a ++ b) = true := by
  show PyData.strOk (Str.append a b) = true
  unfold PyData.strOk Str.append at *
  rw [Array.all_append, h1, h2]
  rfl
theorem strOk_join {y : Str} (hy : PyData.strOk y = true) : ∀ {xs : List Str}, (∀ x ∈ xs, PyData.strOk x = true) → PyData.strOk (Str.join y xs) = true
  | [], _ => by
    show PyData.strOk Str.empty = true
    decide +kernel
  | [x], h => h x List.mem_cons_self
  | x :: z :: r, h => strOk_app (strOk_app (h x List.mem_cons_self) hy) (strOk_join hy fun w hw => h w (List.mem_cons_of_mem _ hw))
theorem text_strOk {b : Str} {l : Int} {ws : List Str} (h : BoardOk b l ws) : PyData.strOk (textS b l ws) = true := by
  have e : textS b l ws = Str.join " " (begS b :: strI l :: ws) := TL.join_eq _ _
  rw [e]
  refine strOk_join (by decide +kernel) fun x hx => ?_
  rcases List.mem_cons.mp hx with rfl | hx
  · exact (begS_cases h.f.let_).2.2.2
  rcases List.mem_cons.mp hx with rfl | hx
  · exact strI_ok
  · exact wordOk_strOk (wordOk_front (h.ok x hx)).let_
theorem text_len {b : Str} {l : Int} {ws : List Str} (h : BoardOk b l ws) : (textS b l ws).length ≤ 5000 := by
  have h5 := begS_len b
  have h6 := h.f.len
  have h7 := strI_len h.l1 h.l2
  have h8 := h.few
  have h9 := h.l2
  have e : textS b l ws = Str.join " " (begS b :: strI l :: ws) := TL.join_eq _ _
  have h11 := StrLaws.join_length_le " " (begS b :: strI l :: ws)
  have h12 : (" " : Str).length = 1 := rfl
  have h13 := sum_words h.ok
  rw [e]
  simp only [List.map_cons, List.sum_cons, List.length_cons, h12] at h11
  omega
theorem text_ok {b : Str} {l : Int} {ws : List Str} (h : BoardOk b l ws) : TextOk (textS b l ws) := by
  have hs := split_text h
  obtain ⟨h1, h2, h3, h4⟩ := begS_cases h.f.let_
  have h5 := begS_len b
  have h6 := h.f.len
  have h7 := strI_len h.l1 h.l2
  have h8 := h.few
  have h9 := h.l2
  have h10 := szDs_words h.ok
  have sz : szD (.lst ((Txt.split (textS b l ws) " ").map D.str)) ≤ 30000 := by
    rw [hs]
    simp only [List.map_cons, szD, szDs]
    omega
  refine ⟨?_, ⟨?_, by omega⟩, ?_, by omega⟩
  · have e : textS b l ws = Str.join " " (begS b :: strI l :: ws) := TL.join_eq _ _
    have h11 := StrLaws.join_length_le " " (begS b :: strI l :: ws)
    have h12 : (" " : Str).length = 1 := rfl
    have h13 := sum_words h.ok
    rw [e]
    simp only [List.map_cons, List.sum_cons, List.length_cons, h12] at h11
    omega
  · rw [hs]
    simp only [List.map_cons, okR, List.all_cons, okR_words h.ok, h4, strI_ok, Bool.and_self]
  · rw [hs]
    simp only [List.length_cons]
    omega


end TM

set_option Elab.async false
set_option linter.all false
set_option maxRecDepth 100000
set_option maxHeartbeats 4000000
set_option pp.maxSteps 500
namespace TM
open PySem PySem.Spec PyProof.Rows L2
local macro_rules
  | `(tactic| walk_at "iv") => `(tactic| first | exact pv 0 | exact pv 1 | exact pv 2 | exact pv 3 | exact pv 4 | exact pv 5 | exact pv 6 | exact pv 7 | exact pv 8 | exact pv 9 | exact pv 10 | exact pv 11 | exact pv 12 | exact pv 13 | exact pv 14 | exact pv 15 | exact pv 16 | exact pv 17 | exact pv 18 | exact pv 19 | exact pv 20 | exact pv 21 | exact pv 22 | exact pv 23)
  | `(tactic| walk_at "mg") => `(tactic| exact Md.bi (by assumption) _ (by decide))
  | `(tactic| walk_at "ev") => `(tactic| first
    | ((with_reducible show Ev _ _ _ _ (.Name _ _) _); refine ev_var (by walk_at "iv") (by with_unfolding_all rfl) ?_)
    | ((with_reducible show Ev _ _ _ _ (.Constant _ _ _) _); first | refine ev_int ?_ | refine ev_str ?_ | refine ev_bl ?_ | refine ev_non ?_)
    | ((with_reducible show Ev _ _ _ _ (.BinOp (.List _ _) .Mult _ _) _); refine ev_rep ?_)
    | ((with_reducible show Ev _ _ _ _ (.BinOp _ _ _ _) _); first | refine ev_add ?_ | refine ev_sub ?_ | refine ev_mod ?_ | refine ev_fdivW ?_ | refine ev_pow ?_ | refine ev_mul ?_)
    | ((with_reducible show Ev _ _ _ _ (.Compare _ [_] _ _) _); first | refine ev_isN ?_ | refine ev_notN ?_ | refine ev_lt ?_ | refine ev_le ?_ | refine ev_gt ?_ | refine ev_ge ?_ | refine ev_eq (RoomG.mono (by assumption) (Nat.zero_le _)) ?_ | refine ev_ne (RoomG.mono (by assumption) (Nat.zero_le _)) ?_ | refine ev_in ?_ | refine ev_nin ?_)
    | ((with_reducible show Ev _ _ _ _ (.Compare _ _ _ _) _); refine ev_chain ord_le ord_le ?_)
    | ((with_reducible show Ev _ _ _ _ (.BoolOp _ _ _) _); first | refine ev_b1 ?_ | refine ev_and ?_ | refine ev_or ?_)
    | ((with_reducible show Ev _ _ _ _ (.UnaryOp _ _ _) _); first | refine ev_not ?_ | refine ev_neg ?_)
    | ((with_reducible show Ev _ _ _ _ (.IfExp _ _ _ _) _); refine ev_if ?_)
    | ((with_reducible show Ev _ _ _ _ (.Tuple _ _ _) _); refine ev_tup ?_)
    | ((with_reducible show Ev _ _ _ _ (.List _ _) _); refine ev_lst ?_)
    | ((with_reducible show Ev _ _ _ _ (.Dict _ _ _) _); refine ev_dct0 ?_)
    | ((with_reducible show Ev _ _ _ _ (.Subscript _ (.Slice _ _ _ _) _) _); refine ev_slice ?_)
    | ((with_reducible show Ev _ _ _ _ (.Subscript _ _ _) _); refine ev_ix ?_)
    | ((with_reducible show Ev _ _ _ _ (.Call (.Name "isinstance" _) [_, .Name "int" _] _ _) _); refine ev_isInt (by walk_at "mg") (by walk_at "mg") ?_)
    | ((with_reducible show Ev _ _ _ _ (.Call (.Name "isinstance" _) [_, .Name "bool" _] _ _) _); refine ev_isBool (by walk_at "mg") (by walk_at "mg") ?_)
    | ((with_reducible show Ev _ _ _ _ (.Call (.Name "isinstance" _) [_, .Name "str" _] _ _) _); refine ev_isStr (by walk_at "mg") (by walk_at "mg") ?_)
    | ((with_reducible show Ev _ _ _ _ (.Call (.Name "isinstance" _) [_, .Name "list" _] _ _) _); refine ev_isList (by walk_at "mg") (by walk_at "mg") ?_)
    | ((with_reducible show Ev _ _ _ _ (.Call (.Name "isinstance" _) [_, .Name "tuple" _] _ _) _); refine ev_isTup (by walk_at "mg") (by walk_at "mg") ?_)
    | ((with_reducible show Ev _ _ _ _ (.Call (.Name "len" _) [.Call (.Name "set" _) _ _ _] _ _) _); refine ev_lenS rfl (by walk_at "mg") (by walk_at "mg") ?_)
    | ((with_reducible show Ev _ _ _ _ (.Call (.Name "len" _) _ _ _) _); refine ev_len (by walk_at "mg") ?_)
    | ((with_reducible show Ev _ _ _ _ (.Call (.Name "abs" _) _ _ _) _); refine ev_abs (by walk_at "mg") ?_)
    | ((with_reducible show Ev _ _ _ _ (.Call (.Name "all" _) _ _ _) _); refine ev_all rfl (by walk_at "mg") ?_)
    | ((with_reducible show Ev _ _ _ _ (.Call (.Name "any" _) _ _ _) _); refine ev_any rfl (by walk_at "mg") ?_)
    | ((with_reducible show Ev _ _ _ _ (.Call (.Name "max" _) _ _ _) _); refine ev_max2 rfl (by walk_at "mg") ?_)
    | ((with_reducible show Ev _ _ _ _ (.Call (.Name "min" _) _ _ _) _); refine ev_min2 rfl (by walk_at "mg") ?_)
    | ((with_reducible show Ev _ _ _ _ (.Call (.Name "str" _) _ _ _) _); refine ev_strOf (by walk_at "mg") ?_)
    | ((with_reducible show Ev _ _ _ _ (.Call (.Name "int" _) _ _ _) _); refine ev_intOf (by walk_at "mg") ?_)
    | ((with_reducible show Ev _ _ _ _ (.Call (.Name "list" _) _ _ _) _); refine ev_listOf rfl (by walk_at "mg") ?_)
    | ((with_reducible show Ev _ _ _ _ (.Call (.Name "tuple" _) _ _ _) _); refine ev_tupOf (by walk_at "mg") ?_)
    | ((with_reducible show Ev _ _ _ _ (.Call (.Name "repr" _) _ _ _) _); refine ev_repr (RoomG.mono (by assumption) (Nat.zero_le _)) (by walk_at "mg") ?_)
    | ((with_reducible show Ev _ _ _ _ (.Call (.Attribute _ "startswith" _) _ _ _) _); refine ev_startswith ?_)
    | ((with_reducible show Ev _ _ _ _ (.Call (.Attribute _ "split" _) _ _ _) _); refine ev_split ?_)
    | ((with_reducible show Ev _ _ _ _ (.Call (.Attribute _ "join" _) _ _ _) _); refine ev_join ?_)
    | ((with_reducible show Ev _ _ _ _ (.Call (.Attribute _ "append" _) _ _ _) _); refine ev_append ?_)
    | ((with_reducible show Ev _ _ _ _ (.Call (.Attribute _ "extend" _) _ _ _) _); refine ev_extend ?_)
    | ((with_reducible show Ev _ _ _ _ (.Call (.Attribute _ "pop" _) _ _ _) _); first | refine ev_popAt ?_ | refine ev_pop0 ?_)
    | ((with_reducible show Ev _ _ _ _ (.Call (.Attribute _ "reverse" _) _ _ _) _); refine ev_reverse ?_)
    | ((with_reducible show Ev _ _ _ _ (.Call (.Attribute _ "clear" _) _ _ _) _); refine ev_clear ?_))
  | `(tactic| walk_at "et") => `(tactic| first
    | ((with_reducible show Et _ _ _ _ (.Compare _ [_] _ _) _); first | refine et_isN ?_ | refine et_notN ?_ | refine et_lt ?_ | refine et_le ?_ | refine et_gt ?_ | refine et_ge ?_ | refine et_eq (RoomG.mono (by assumption) (Nat.zero_le _)) ?_ | refine et_ne (RoomG.mono (by assumption) (Nat.zero_le _)) ?_ | refine et_in ?_ | refine et_nin ?_)
    | ((with_reducible show Et _ _ _ _ (.Compare _ [_, _] _ _) _); refine et_chain ord_le ord_le ?_)
    | ((with_reducible show Et _ _ _ _ (.UnaryOp _ _ _) _); refine et_not ?_)
    | ((with_reducible show Et _ _ _ _ (.BoolOp _ _ _) _); first | refine et_w (ew_or ?_) | refine et_w (ew_and ?_))
    | refine et_val ?_)
  | `(tactic| walk_at "es") => `(tactic| first | refine es_pass ?_ | refine es_break ?_ | refine es_continue ?_ | refine es_ret ?_ | refine es_retN ?_ | refine es_if ?_ | refine es_expr ?_)
  | `(tactic| walk_at "da") => `(tactic| first
    | ((with_reducible show BlD _ _); refine d_bl ?_) | ((with_reducible show IntD _ _); refine d_int ?_) | ((with_reducible show StrD _ _); refine d_str ?_) | ((with_reducible show LstD _ _); refine d_lst ?_) | ((with_reducible show TupD _ _); refine d_tup ?_)
    | ((with_reducible show StarD _ _); first | refine d_star ?_ | refine d_starT ?_)
    | ((with_reducible show OrdD _ _ _ _ _); first | refine d_ordI ?_ | refine d_ordS ?_)
    | ((with_reducible show EqD _ _ _); first | refine d_eqI ?_ | refine d_eqS ?_ | refine d_eqB ?_)
    | ((with_reducible show AddD _ _ _); refine d_addI ?_)
    | ((with_reducible show InD _ _ _); refine d_inS ?_)
    | ((with_reducible show SlD _ _ _ _ _); refine d_slL ?_)
    | ((with_reducible show IxD _ _ _ _); first | refine d_ixL (by rfl) ?_ | refine d_ixT (by rfl) ?_)
    | ((with_reducible show LenD _ _ _); first | refine d_lenL ?_ | refine d_lenT ?_ | refine d_lenC ?_)
    | ((with_reducible show StrOfD _ _); refine d_stS ?_)
    | ((with_reducible show Br _ _ _); first | refine brT ?_ | refine brF ?_)
    | ((with_reducible show CPowW 10 _ ∧ _); refine ⟨⟨by decide, by decide, by decide⟩, ?_⟩)
    | ((with_reducible show List.length _ ≤ sizeLine ∧ _); refine ⟨le_line (Nat.le_of_ble_eq_true rfl), ?_⟩))
  | `(tactic| walk_at "st") => `(tactic| first
    | ((with_reducible show Ev _ _ _ _ _ _); walk_at "ev")
    | ((with_reducible show Ess _ _ _ _ _ _); first | refine ess_one ?_ | refine ess_cons ?_ | refine ess_nil ?_)
    | ((with_reducible show Es _ _ _ _ _ _); walk_at "es")
    | ((with_reducible show Et _ _ _ _ _ _); walk_at "et")
    | ((with_reducible show Ew _ _ _ _ _ _); first | refine ew_or1 ?_ | refine ew_and1 ?_ | refine ew_or ?_ | refine ew_and ?_)
    | ((with_reducible show Ea _ _ _ _ _ _); first | refine ea_nil ?_ | refine ea_cons ?_ | refine ea_star ?_)
    | ((with_reducible show Ek _ _ _ _ _ _); first | refine ek_nil ?_ | refine ek_cons ?_)
    | ((with_reducible show Eo _ _ _ _ _ _); first | refine eo_none ?_ | refine eo_some ?_)
    | walk_at "da")
  | `(tactic| walk_at "go") => `(tactic| repeat walk_at "st")
  | `(tactic| walk_at "goE") => `(tactic| repeat (first
    | ((with_reducible show Ev _ _ _ _ _ _); walk_at "ev")
    | ((with_reducible show Ea _ _ _ _ _ _); first | refine ea_nil ?_ | refine ea_cons ?_ | refine ea_star ?_)
    | ((with_reducible show Ek _ _ _ _ _ _); first | refine ek_nil ?_ | refine ek_cons ?_)
    | ((with_reducible show Eo _ _ _ _ _ _); first | refine eo_none ?_ | refine eo_some ?_)
    | walk_at "da"))
  | `(tactic| walk_at "evM") => `(tactic| first
    | ((with_reducible show Ev _ _ _ _ (.List _ _) _); refine ev_lstM ?_)
    | ((with_reducible show Ev _ _ _ _ (.Subscript _ (.Slice _ _ _ _) _) _); refine ev_sliceM ?_))
  | `(tactic| walk_at "goM") => `(tactic| repeat (first | walk_at "evM" | walk_at "st"))
  | `(tactic| walk_at "set") => `(tactic| first
    | refine es_set (i := 0) (Ct.nd (by assumption)) rfl (.inl rfl) (.inr rfl) ?_ | refine es_set (i := 0) (Ct.nd (by assumption)) rfl (.inr rfl) (.inl rfl) ?_
    | refine es_set (i := 1) (Ct.nd (by assumption)) rfl (.inl rfl) (.inr rfl) ?_ | refine es_set (i := 1) (Ct.nd (by assumption)) rfl (.inr rfl) (.inl rfl) ?_
    | refine es_set (i := 2) (Ct.nd (by assumption)) rfl (.inl rfl) (.inr rfl) ?_ | refine es_set (i := 2) (Ct.nd (by assumption)) rfl (.inr rfl) (.inl rfl) ?_
    | refine es_set (i := 3) (Ct.nd (by assumption)) rfl (.inl rfl) (.inr rfl) ?_ | refine es_set (i := 3) (Ct.nd (by assumption)) rfl (.inr rfl) (.inl rfl) ?_
    | refine es_set (i := 4) (Ct.nd (by assumption)) rfl (.inl rfl) (.inr rfl) ?_ | refine es_set (i := 4) (Ct.nd (by assumption)) rfl (.inr rfl) (.inl rfl) ?_
    | refine es_set (i := 5) (Ct.nd (by assumption)) rfl (.inl rfl) (.inr rfl) ?_ | refine es_set (i := 5) (Ct.nd (by assumption)) rfl (.inr rfl) (.inl rfl) ?_
    | refine es_set (i := 6) (Ct.nd (by assumption)) rfl (.inl rfl) (.inr rfl) ?_ | refine es_set (i := 6) (Ct.nd (by assumption)) rfl (.inr rfl) (.inl rfl) ?_
    | refine es_set (i := 7) (Ct.nd (by assumption)) rfl (.inl rfl) (.inr rfl) ?_ | refine es_set (i := 7) (Ct.nd (by assumption)) rfl (.inr rfl) (.inl rfl) ?_
    | refine es_set (i := 8) (Ct.nd (by assumption)) rfl (.inl rfl) (.inr rfl) ?_ | refine es_set (i := 8) (Ct.nd (by assumption)) rfl (.inr rfl) (.inl rfl) ?_
    | refine es_set (i := 9) (Ct.nd (by assumption)) rfl (.inl rfl) (.inr rfl) ?_ | refine es_set (i := 9) (Ct.nd (by assumption)) rfl (.inr rfl) (.inl rfl) ?_
    | refine es_set (i := 10) (Ct.nd (by assumption)) rfl (.inl rfl) (.inr rfl) ?_ | refine es_set (i := 10) (Ct.nd (by assumption)) rfl (.inr rfl) (.inl rfl) ?_
    | refine es_set (i := 11) (Ct.nd (by assumption)) rfl (.inl rfl) (.inr rfl) ?_ | refine es_set (i := 11) (Ct.nd (by assumption)) rfl (.inr rfl) (.inl rfl) ?_
    | refine es_set (i := 12) (Ct.nd (by assumption)) rfl (.inl rfl) (.inr rfl) ?_ | refine es_set (i := 12) (Ct.nd (by assumption)) rfl (.inr rfl) (.inl rfl) ?_
    | refine es_set (i := 13) (Ct.nd (by assumption)) rfl (.inl rfl) (.inr rfl) ?_ | refine es_set (i := 13) (Ct.nd (by assumption)) rfl (.inr rfl) (.inl rfl) ?_
    | refine es_set (i := 14) (Ct.nd (by assumption)) rfl (.inl rfl) (.inr rfl) ?_ | refine es_set (i := 14) (Ct.nd (by assumption)) rfl (.inr rfl) (.inl rfl) ?_
    | refine es_set (i := 15) (Ct.nd (by assumption)) rfl (.inl rfl) (.inr rfl) ?_ | refine es_set (i := 15) (Ct.nd (by assumption)) rfl (.inr rfl) (.inl rfl) ?_
    | refine es_set (i := 16) (Ct.nd (by assumption)) rfl (.inl rfl) (.inr rfl) ?_ | refine es_set (i := 16) (Ct.nd (by assumption)) rfl (.inr rfl) (.inl rfl) ?_
    | refine es_set (i := 17) (Ct.nd (by assumption)) rfl (.inl rfl) (.inr rfl) ?_ | refine es_set (i := 17) (Ct.nd (by assumption)) rfl (.inr rfl) (.inl rfl) ?_
    | refine es_set (i := 18) (Ct.nd (by assumption)) rfl (.inl rfl) (.inr rfl) ?_ | refine es_set (i := 18) (Ct.nd (by assumption)) rfl (.inr rfl) (.inl rfl) ?_
    | refine es_set (i := 19) (Ct.nd (by assumption)) rfl (.inl rfl) (.inr rfl) ?_ | refine es_set (i := 19) (Ct.nd (by assumption)) rfl (.inr rfl) (.inl rfl) ?_
    | refine es_set (i := 20) (Ct.nd (by assumption)) rfl (.inl rfl) (.inr rfl) ?_ | refine es_set (i := 20) (Ct.nd (by assumption)) rfl (.inr rfl) (.inl rfl) ?_
    | refine es_set (i := 21) (Ct.nd (by assumption)) rfl (.inl rfl) (.inr rfl) ?_ | refine es_set (i := 21) (Ct.nd (by assumption)) rfl (.inr rfl) (.inl rfl) ?_
    | refine es_set (i := 22) (Ct.nd (by assumption)) rfl (.inl rfl) (.inr rfl) ?_ | refine es_set (i := 22) (Ct.nd (by assumption)) rfl (.inr rfl) (.inl rfl) ?_
    | refine es_set (i := 23) (Ct.nd (by assumption)) rfl (.inl rfl) (.inr rfl) ?_ | refine es_set (i := 23) (Ct.nd (by assumption)) rfl (.inr rfl) (.inl rfl) ?_)

/-! ### texts with few spaces -/
structure Pg (n L : Nat) (x : Str) : Prop where
  len : x.length ≤ L
  ok : PyData.strOk x = true
  few : x.cps.toList.count 32 ≤ n
theorem Pg.up {n m L M : Nat} {x : Str} (h : Pg n L x) (hn : n ≤ m) (hL : L ≤ M) : Pg m M x := ⟨Nat.le_trans h.len hL, h.ok, Nat.le_trans h.few hn⟩
theorem cps_app (a b : Str) : (a ++ b).cps.toList = a.cps.toList ++ b.cps.toList := by
  show (Str.append a b).cps.toList = _
  simp [Str.append]
theorem Pg.add {n m L M : Nat} {x y : Str} (h : Pg n L x) (h' : Pg m M y) : Pg (n + m) (L + M) (x ++ y) :=
  ⟨by rw [Str.length_append]; have := h.len; have := h'.len; omega, strOk_app h.ok h'.ok, by rw [cps_app, List.count_append]; have := h.few; have := h'.few; omega⟩
theorem cut_sub (z : Str) (lo hi : Option Int) : (cutS z lo hi).cps.toList.Sublist z.cps.toList := (List.take_sublist _ _).trans (List.drop_sublist _ _)
theorem strOk_mem {x : Str} : PyData.strOk x = true ↔ ∀ c ∈ x.cps.toList, c < 0x110000 := by
  unfold PyData.strOk
  rw [Array.all_eq_true_iff_forall_mem]
  constructor
  · exact fun h c hc => by simpa using h c (Array.mem_toList_iff.mp hc)
  · exact fun h c hc => by simpa using h c (Array.mem_toList_iff.mpr hc)
theorem Pg.cut {n L : Nat} {x : Str} (h : Pg n L x) (lo hi : Option Int) : Pg n L (cutS x lo hi) :=
  ⟨Nat.le_trans (cut_len x lo hi) h.len, strOk_mem.mpr fun c hc => strOk_mem.mp h.ok c ((cut_sub x lo hi).subset hc), Nat.le_trans ((cut_sub x lo hi).count_le 32) h.few⟩
theorem cnt_count (l : List Nat) : PyProof.Rows.cnt 32 l = (l.count 32 : Int) := by
  induction l with
  | nil => rfl
  | cons a l ih =>
    rw [PyProof.Rows.cnt_cons, ih, List.count_cons]
    by_cases h : a = 32
    · simp [h]
      omega
    · simp [h]
theorem sp_eq : (" " : Str) = ⟨#[32]⟩ := by decide
theorem split_count (x : Str) : (Txt.split x " ").length = x.cps.toList.count 32 + 1 := by
  have h := PyProof.Rows.split_len x 32
  rw [← sp_eq, cnt_count] at h
  omega
theorem join_cons2 (x z : Str) (r : List Str) : Str.join " " (x :: z :: r) = x ++ " " ++ Str.join " " (z :: r) := rfl
/-- a joined text's length and spaces -/
theorem join_sizes : ∀ (xs : List Str), xs ≠ [] → (Str.join " " xs).length + 1 = (xs.map (·.length)).sum + xs.length ∧ (Str.join " " xs).cps.toList.count 32 + 1 = (xs.map fun x => x.cps.toList.count 32).sum + xs.length
  | [], h => absurd rfl h
  | [x], _ => by simp [Str.join]
  | x :: z :: r, _ => by
    obtain ⟨h1, h2⟩ := join_sizes (z :: r) (by simp)
    have e1 : (" " : Str).length = 1 := rfl
    have e2 : (" " : Str).cps.toList.count 32 = 1 := by decide +kernel
    rw [join_cons2, Str.length_append, Str.length_append, cps_app, cps_app, List.count_append, List.count_append, e1, e2]
    simp only [List.map_cons, List.sum_cons, List.length_cons] at h1 h2 ⊢
    omega
theorem mem_sum {α : Type} {f : α → Nat} {xs : List α} {x : α} (h : x ∈ xs) : f x ≤ (xs.map f).sum := by
  induction xs with
  | nil => cases h
  | cons y ys ih =>
    rw [List.map_cons, List.sum_cons]
    rcases List.mem_cons.mp h with e | h
    · rw [e]
      omega
    · have := ih h
      omega
theorem join_mem : ∀ {xs : List Str} {w : Str}, w ∈ xs → ∀ c ∈ w.cps.toList, c ∈ (Str.join " " xs).cps.toList
  | [x], w, h, c, hc => by
    rw [List.mem_singleton.mp h] at hc
    exact hc
  | x :: z :: r, w, h, c, hc => by
    rw [join_cons2, cps_app, cps_app]
    rcases List.mem_cons.mp h with e | h
    · rw [e] at hc
      exact List.mem_append_left _ (List.mem_append_left _ hc)
    · exact List.mem_append_right _ (join_mem h c hc)
/-- the parts of a text -/
structure Parts (ws : List Str) (x : Str) : Prop where
  ne : ws ≠ []
  tot : (ws.map (·.length)).sum ≤ x.length
  num : ws.length = x.cps.toList.count 32 + 1
  none_ : ∀ w ∈ ws, w.cps.toList.count 32 = 0
  ok : PyData.strOk x = true → ∀ w ∈ ws, PyData.strOk w = true
theorem split_parts (x : Str) : Parts (Txt.split x " ") x := by
  obtain ⟨f, rs, e⟩ := split_some x
  have ne : Txt.split x " " ≠ [] := by
    rw [e]
    simp
  have hj : Str.join " " (Txt.split x " ") = x := StrLaws.join_split x " "
  obtain ⟨h1, h2⟩ := join_sizes _ ne
  have h3 := split_count x
  rw [hj] at h1 h2
  refine ⟨ne, by omega, h3, fun w hw => ?_, fun hx w hw => strOk_mem.mpr fun c hc => strOk_mem.mp hx c ?_⟩
  · have h4 := mem_sum (f := fun x : Str => x.cps.toList.count 32) hw
    omega
  · have := join_mem hw c hc
    rwa [hj] at this
theorem page_text {x : Str} {n : Nat} (h : Pg n 5000 x) (hn : n ≤ 3000) : TextOk x := by
  have P := split_parts x
  have h1 := h.len
  have h2 := h.few
  have h3 := P.num
  have h4 := P.tot
  have szs : ∀ ws : List Str, szDs (ws.map D.str) = 10 * (ws.map (·.length)).sum + 4 * ws.length := by
    intro ws
    induction ws with
    | nil => rfl
    | cons w ws ih =>
      simp only [List.map_cons, szDs, szD, List.sum_cons, List.length_cons, ih]
      omega
  have sz : szD (.lst ((Txt.split x " ").map D.str)) ≤ 70000 := by
    simp only [szD, szs]
    omega
  refine ⟨by omega, ⟨?_, by omega⟩, by omega, by omega⟩
  simp only [okR, List.all_map, List.all_eq_true]
  intro w hw
  simpa [okR] using P.ok h.ok w hw
theorem join_pg {ws : List Str} {n L : Nat} (ho : ∀ w ∈ ws, PyData.strOk w = true) (h1 : (ws.map (·.length)).sum + ws.length ≤ L) (h2 : (ws.map fun x => x.cps.toList.count 32).sum + ws.length ≤ n) : Pg n L (Txt.join " " ws) := by
  rw [TL.join_eq]
  by_cases e : ws = []
  · subst e
    exact ⟨Nat.zero_le _, by decide +kernel, Nat.zero_le _⟩
  · obtain ⟨h3, h4⟩ := join_sizes ws e
    exact ⟨by omega, strOk_join (by decide +kernel) ho, by omega⟩

/-! ### the law's reading -/
theorem alph_mem (c : Nat) : decide (c ∈ ("abcdefghijklmnopqrstuvwxyz" : Str).cps.toList) = (decide (97 ≤ c) && decide (c ≤ 122)) := by
  have e : ("abcdefghijklmnopqrstuvwxyz" : Str).cps.toList = alphC := by decide +kernel
  rw [e, Bool.eq_iff_iff, Bool.and_eq_true, decide_eq_true_eq, decide_eq_true_eq, decide_eq_true_eq]
  unfold alphC
  rw [List.mem_range'_1]
  omega
theorem filter_none {α : Type} (xs : List α) (p : α → Bool) : decide ((xs.filter fun x => !p x) = []) = xs.all p := by
  rw [Bool.eq_iff_iff, decide_eq_true_eq, List.filter_eq_nil_iff, List.all_eq_true]
  simp
def sIsLetters : Spec := fun ds F Φ _ => ∃ w, ds = [.str w] ∧ w.length ≤ 1000000 ∧ PyData.strOk w = true ∧ Φ (.bl (lettersS w)) F
abbrev nIsLetters : List Str := ["word", "sign"]
theorem scIsLetters : FnScope nIsLetters ["word"] (defScope (top 40)) := ⟨rfl, rfl, rfl, by decide +kernel, rfl, by decide +kernel, by decide +kernel⟩
theorem okIsLetters {W : Wd} (M : Md W) (a : At W "_law_is_letters" (top 40))  : Ok W 1 "_law_is_letters" (top 40) ["word"] sIsLetters := by
  refine Ok.of a scIsLetters (fun ds F Φ Ψ h => ?_) (fun _ _ _ _ _ _ us hl => match us, hl with | [_], _ => rfl) (fun f cdv A outer s0 H0 E C ds F Φ Ψ h => ?_)
  · obtain ⟨w, rfl, hw, ho, kk⟩ := h
    rfl
  obtain ⟨w, rfl, hw, ho, kk⟩ := h
  have hR := C.room
  walk_at "go"
  refine ev_lcP rfl C.nd (own := [("sign", 1)]) (blkOk_by (N := nIsLetters) (sc := defScope (top 40)) (by decide +kernel)) (fun d => !lettersD d) (fun d => d) (ei_str ?_)
  walk_at "go"
  refine ⟨by rw [len_signs]; exact le_line (by omega), fun d F2 hd => ⟨_, !lettersD d, fun s H B cl fp => gc_name (pg_name (i := 1) C.nd rfl (.inl rfl)) (by simp) ⟨rfl, rfl⟩, fun s H B cl fp => ets_one ?_, fun hb s H B cl fp => ?_, fun hb => hb⟩, ?_⟩
  · obtain ⟨c, _, rfl⟩ := mem_signs hd
    walk_at "go"
    refine ⟨?_, rfl⟩
    rw [alph_mem]
    exact congrArg (!·) (lettersS_one c).symm
  · walk_at "go"
    exact ⟨hb, rfl, rfl⟩
  · rw [List.map_id']
    walk_at "go"
    refine EqD.elim_lst ?_ (by decide) ?_
    · simp only [okD, List.all_eq_true, List.mem_filter]
      rintro d ⟨hd, _⟩
      obtain ⟨c, hc, rfl⟩ := mem_signs hd
      have := strOk_mem.mp ho c hc
      simp [okD, PyData.strOk, this]
    · rw [eqD_nil, filter_none]
      have e : (signsD w).all lettersD = lettersS w := by
        have := all_signs w lettersD (fun c => decide (97 ≤ c) && decide (c ≤ 122)) lettersS_one
        rw [all_map_id] at this
        exact this
      rw [e]
      exact kk
def readD (x : Str) : D := match readS x with
  | none => .non
  | some (b, n, ws) => .tup [.str b, .int n, .lst (ws.map D.str)]
theorem num_back : ((List.range 10).all fun i => (List.range 11).all fun j => match numD (mkS ((48 + i) :: if j < 10 then [48 + j] else [])) 2 with
    | .int n => !(decide (1 ≤ n) && decide (n ≤ 20)) || decide (mkS ((48 + i) :: if j < 10 then [48 + j] else []) = strI n)
    | _ => true) = true := by decide +kernel
theorem numD_back {r : Str} {n : Int} (h : numD r 2 = .int n) (h1 : 1 ≤ n) (h2 : n ≤ 20) : r = strI n := by
  have hf : formS r 2 = true := by
    unfold numD at h
    by_cases e : formS r 2 = true
    · exact e
    · rw [if_neg e] at h
      cases h
  unfold formS at hf
  simp only [Bool.and_eq_true, decide_eq_true_eq] at hf
  obtain ⟨⟨g1, g2⟩, g3⟩ := hf
  have g4 : r.cps.toList.length = r.length := (len_toList r).symm
  have dig : ∀ c ∈ r.cps.toList, 48 ≤ c ∧ c ≤ 57 := fun c hc => by
    have := List.all_eq_true.mp g3 c hc
    simpa using this
  have fin : ∀ i j : Nat, i < 10 → j < 11 → r = mkS ((48 + i) :: if j < 10 then [48 + j] else []) → r = strI n := fun i j hi hj e => by
    have q := List.all_eq_true.mp (List.all_eq_true.mp num_back i (List.mem_range.mpr hi)) j (List.mem_range.mpr hj)
    rw [← e, h] at q
    simpa [h1, h2] using q
  match hr : r.cps.toList, g4, dig with
  | [], g4, _ => simp at g4; omega
  | [c], _, dig =>
    have d1 := dig c (by simp)
    refine fin (c - 48) 10 (by omega) (by omega) ?_
    rw [if_neg (by omega), ← mkS_of r, hr]
    congr 2
    omega
  | [c, d], _, dig =>
    have d1 := dig c (by simp)
    have d2 := dig d (by simp)
    refine fin (c - 48) (d - 48) (by omega) (by omega) ?_
    rw [if_pos (by omega), ← mkS_of r, hr]
    have e1 : 48 + (c - 48) = c := by omega
    have e2 : 48 + (d - 48) = d := by omega
    rw [e1, e2]
  | c :: d :: e :: l, g4, _ => simp at g4; omega

end TM

set_option Elab.async false
set_option linter.all false
set_option maxRecDepth 100000
set_option maxHeartbeats 4000000
set_option pp.maxSteps 500
namespace TM
open PySem PySem.Spec PyProof.Rows L2
local macro_rules
  | `(tactic| walk_at "iv") => `(tactic| first | exact pv 0 | exact pv 1 | exact pv 2 | exact pv 3 | exact pv 4 | exact pv 5 | exact pv 6 | exact pv 7 | exact pv 8 | exact pv 9 | exact pv 10 | exact pv 11 | exact pv 12 | exact pv 13 | exact pv 14 | exact pv 15 | exact pv 16 | exact pv 17 | exact pv 18 | exact pv 19 | exact pv 20 | exact pv 21 | exact pv 22 | exact pv 23)
  | `(tactic| walk_at "mg") => `(tactic| exact Md.bi (by assumption) _ (by decide))
  | `(tactic| walk_at "ev") => `(tactic| first
    | ((with_reducible show Ev _ _ _ _ (.Name _ _) _); refine ev_var (by walk_at "iv") (by with_unfolding_all rfl) ?_)
    | ((with_reducible show Ev _ _ _ _ (.Constant _ _ _) _); first | refine ev_int ?_ | refine ev_str ?_ | refine ev_bl ?_ | refine ev_non ?_)
    | ((with_reducible show Ev _ _ _ _ (.BinOp (.List _ _) .Mult _ _) _); refine ev_rep ?_)
    | ((with_reducible show Ev _ _ _ _ (.BinOp _ _ _ _) _); first | refine ev_add ?_ | refine ev_sub ?_ | refine ev_mod ?_ | refine ev_fdivW ?_ | refine ev_pow ?_ | refine ev_mul ?_)
    | ((with_reducible show Ev _ _ _ _ (.Compare _ [_] _ _) _); first | refine ev_isN ?_ | refine ev_notN ?_ | refine ev_lt ?_ | refine ev_le ?_ | refine ev_gt ?_ | refine ev_ge ?_ | refine ev_eq (RoomG.mono (by assumption) (Nat.zero_le _)) ?_ | refine ev_ne (RoomG.mono (by assumption) (Nat.zero_le _)) ?_ | refine ev_in ?_ | refine ev_nin ?_)
    | ((with_reducible show Ev _ _ _ _ (.Compare _ _ _ _) _); refine ev_chain ord_le ord_le ?_)
    | ((with_reducible show Ev _ _ _ _ (.BoolOp _ _ _) _); first | refine ev_b1 ?_ | refine ev_and ?_ | refine ev_or ?_)
    | ((with_reducible show Ev _ _ _ _ (.UnaryOp _ _ _) _); first | refine ev_not ?_ | refine ev_neg ?_)
    | ((with_reducible show Ev _ _ _ _ (.IfExp _ _ _ _) _); refine ev_if ?_)
    | ((with_reducible show Ev _ _ _ _ (.Tuple _ _ _) _); refine ev_tup ?_)
    | ((with_reducible show Ev _ _ _ _ (.List _ _) _); refine ev_lst ?_)
    | ((with_reducible show Ev _ _ _ _ (.Dict _ _ _) _); refine ev_dct0 ?_)
    | ((with_reducible show Ev _ _ _ _ (.Subscript _ (.Slice _ _ _ _) _) _); refine ev_slice ?_)
    | ((with_reducible show Ev _ _ _ _ (.Subscript _ _ _) _); refine ev_ix ?_)
    | ((with_reducible show Ev _ _ _ _ (.Call (.Name "isinstance" _) [_, .Name "int" _] _ _) _); refine ev_isInt (by walk_at "mg") (by walk_at "mg") ?_)
    | ((with_reducible show Ev _ _ _ _ (.Call (.Name "isinstance" _) [_, .Name "bool" _] _ _) _); refine ev_isBool (by walk_at "mg") (by walk_at "mg") ?_)
    | ((with_reducible show Ev _ _ _ _ (.Call (.Name "isinstance" _) [_, .Name "str" _] _ _) _); refine ev_isStr (by walk_at "mg") (by walk_at "mg") ?_)
    | ((with_reducible show Ev _ _ _ _ (.Call (.Name "isinstance" _) [_, .Name "list" _] _ _) _); refine ev_isList (by walk_at "mg") (by walk_at "mg") ?_)
    | ((with_reducible show Ev _ _ _ _ (.Call (.Name "isinstance" _) [_, .Name "tuple" _] _ _) _); refine ev_isTup (by walk_at "mg") (by walk_at "mg") ?_)
    | ((with_reducible show Ev _ _ _ _ (.Call (.Name "len" _) [.Call (.Name "set" _) _ _ _] _ _) _); refine ev_lenS rfl (by walk_at "mg") (by walk_at "mg") ?_)
    | ((with_reducible show Ev _ _ _ _ (.Call (.Name "len" _) _ _ _) _); refine ev_len (by walk_at "mg") ?_)
    | ((with_reducible show Ev _ _ _ _ (.Call (.Name "abs" _) _ _ _) _); refine ev_abs (by walk_at "mg") ?_)
    | ((with_reducible show Ev _ _ _ _ (.Call (.Name "all" _) _ _ _) _); refine ev_all rfl (by walk_at "mg") ?_)
    | ((with_reducible show Ev _ _ _ _ (.Call (.Name "any" _) _ _ _) _); refine ev_any rfl (by walk_at "mg") ?_)
    | ((with_reducible show Ev _ _ _ _ (.Call (.Name "max" _) _ _ _) _); refine ev_max2 rfl (by walk_at "mg") ?_)
    | ((with_reducible show Ev _ _ _ _ (.Call (.Name "min" _) _ _ _) _); refine ev_min2 rfl (by walk_at "mg") ?_)
    | ((with_reducible show Ev _ _ _ _ (.Call (.Name "str" _) _ _ _) _); refine ev_strOf (by walk_at "mg") ?_)
    | ((with_reducible show Ev _ _ _ _ (.Call (.Name "int" _) _ _ _) _); refine ev_intOf (by walk_at "mg") ?_)
    | ((with_reducible show Ev _ _ _ _ (.Call (.Name "list" _) _ _ _) _); refine ev_listOf rfl (by walk_at "mg") ?_)
    | ((with_reducible show Ev _ _ _ _ (.Call (.Name "tuple" _) _ _ _) _); refine ev_tupOf (by walk_at "mg") ?_)
    | ((with_reducible show Ev _ _ _ _ (.Call (.Name "repr" _) _ _ _) _); refine ev_repr (RoomG.mono (by assumption) (Nat.zero_le _)) (by walk_at "mg") ?_)
    | ((with_reducible show Ev _ _ _ _ (.Call (.Attribute _ "startswith" _) _ _ _) _); refine ev_startswith ?_)
    | ((with_reducible show Ev _ _ _ _ (.Call (.Attribute _ "split" _) _ _ _) _); refine ev_split ?_)
    | ((with_reducible show Ev _ _ _ _ (.Call (.Attribute _ "join" _) _ _ _) _); refine ev_join ?_)
    | ((with_reducible show Ev _ _ _ _ (.Call (.Attribute _ "append" _) _ _ _) _); refine ev_append ?_)
    | ((with_reducible show Ev _ _ _ _ (.Call (.Attribute _ "extend" _) _ _ _) _); refine ev_extend ?_)
    | ((with_reducible show Ev _ _ _ _ (.Call (.Attribute _ "pop" _) _ _ _) _); first | refine ev_popAt ?_ | refine ev_pop0 ?_)
    | ((with_reducible show Ev _ _ _ _ (.Call (.Attribute _ "reverse" _) _ _ _) _); refine ev_reverse ?_)
    | ((with_reducible show Ev _ _ _ _ (.Call (.Attribute _ "clear" _) _ _ _) _); refine ev_clear ?_))
  | `(tactic| walk_at "et") => `(tactic| first
    | ((with_reducible show Et _ _ _ _ (.Compare _ [_] _ _) _); first | refine et_isN ?_ | refine et_notN ?_ | refine et_lt ?_ | refine et_le ?_ | refine et_gt ?_ | refine et_ge ?_ | refine et_eq (RoomG.mono (by assumption) (Nat.zero_le _)) ?_ | refine et_ne (RoomG.mono (by assumption) (Nat.zero_le _)) ?_ | refine et_in ?_ | refine et_nin ?_)
    | ((with_reducible show Et _ _ _ _ (.Compare _ [_, _] _ _) _); refine et_chain ord_le ord_le ?_)
    | ((with_reducible show Et _ _ _ _ (.UnaryOp _ _ _) _); refine et_not ?_)
    | ((with_reducible show Et _ _ _ _ (.BoolOp _ _ _) _); first | refine et_w (ew_or ?_) | refine et_w (ew_and ?_))
    | refine et_val ?_)
  | `(tactic| walk_at "es") => `(tactic| first | refine es_pass ?_ | refine es_break ?_ | refine es_continue ?_ | refine es_ret ?_ | refine es_retN ?_ | refine es_if ?_ | refine es_expr ?_)
  | `(tactic| walk_at "da") => `(tactic| first
    | ((with_reducible show BlD _ _); refine d_bl ?_) | ((with_reducible show IntD _ _); refine d_int ?_) | ((with_reducible show StrD _ _); refine d_str ?_) | ((with_reducible show LstD _ _); refine d_lst ?_) | ((with_reducible show TupD _ _); refine d_tup ?_)
    | ((with_reducible show StarD _ _); first | refine d_star ?_ | refine d_starT ?_)
    | ((with_reducible show OrdD _ _ _ _ _); first | refine d_ordI ?_ | refine d_ordS ?_)
    | ((with_reducible show EqD _ _ _); first | refine d_eqI ?_ | refine d_eqS ?_ | refine d_eqB ?_)
    | ((with_reducible show AddD _ _ _); refine d_addI ?_)
    | ((with_reducible show InD _ _ _); refine d_inS ?_)
    | ((with_reducible show SlD _ _ _ _ _); refine d_slL ?_)
    | ((with_reducible show IxD _ _ _ _); first | refine d_ixL (by rfl) ?_ | refine d_ixT (by rfl) ?_)
    | ((with_reducible show LenD _ _ _); first | refine d_lenL ?_ | refine d_lenT ?_ | refine d_lenC ?_)
    | ((with_reducible show StrOfD _ _); refine d_stS ?_)
    | ((with_reducible show Br _ _ _); first | refine brT ?_ | refine brF ?_)
    | ((with_reducible show CPowW 10 _ ∧ _); refine ⟨⟨by decide, by decide, by decide⟩, ?_⟩)
    | ((with_reducible show List.length _ ≤ sizeLine ∧ _); refine ⟨le_line (Nat.le_of_ble_eq_true rfl), ?_⟩))
  | `(tactic| walk_at "st") => `(tactic| first
    | ((with_reducible show Ev _ _ _ _ _ _); walk_at "ev")
    | ((with_reducible show Ess _ _ _ _ _ _); first | refine ess_one ?_ | refine ess_cons ?_ | refine ess_nil ?_)
    | ((with_reducible show Es _ _ _ _ _ _); walk_at "es")
    | ((with_reducible show Et _ _ _ _ _ _); walk_at "et")
    | ((with_reducible show Ew _ _ _ _ _ _); first | refine ew_or1 ?_ | refine ew_and1 ?_ | refine ew_or ?_ | refine ew_and ?_)
    | ((with_reducible show Ea _ _ _ _ _ _); first | refine ea_nil ?_ | refine ea_cons ?_ | refine ea_star ?_)
    | ((with_reducible show Ek _ _ _ _ _ _); first | refine ek_nil ?_ | refine ek_cons ?_)
    | ((with_reducible show Eo _ _ _ _ _ _); first | refine eo_none ?_ | refine eo_some ?_)
    | walk_at "da")
  | `(tactic| walk_at "go") => `(tactic| repeat walk_at "st")
  | `(tactic| walk_at "goE") => `(tactic| repeat (first
    | ((with_reducible show Ev _ _ _ _ _ _); walk_at "ev")
    | ((with_reducible show Ea _ _ _ _ _ _); first | refine ea_nil ?_ | refine ea_cons ?_ | refine ea_star ?_)
    | ((with_reducible show Ek _ _ _ _ _ _); first | refine ek_nil ?_ | refine ek_cons ?_)
    | ((with_reducible show Eo _ _ _ _ _ _); first | refine eo_none ?_ | refine eo_some ?_)
    | walk_at "da"))
  | `(tactic| walk_at "evM") => `(tactic| first
    | ((with_reducible show Ev _ _ _ _ (.List _ _) _); refine ev_lstM ?_)
    | ((with_reducible show Ev _ _ _ _ (.Subscript _ (.Slice _ _ _ _) _) _); refine ev_sliceM ?_))
  | `(tactic| walk_at "goM") => `(tactic| repeat (first | walk_at "evM" | walk_at "st"))
  | `(tactic| walk_at "set") => `(tactic| first
    | refine es_set (i := 0) (Ct.nd (by assumption)) rfl (.inl rfl) (.inr rfl) ?_ | refine es_set (i := 0) (Ct.nd (by assumption)) rfl (.inr rfl) (.inl rfl) ?_
    | refine es_set (i := 1) (Ct.nd (by assumption)) rfl (.inl rfl) (.inr rfl) ?_ | refine es_set (i := 1) (Ct.nd (by assumption)) rfl (.inr rfl) (.inl rfl) ?_
    | refine es_set (i := 2) (Ct.nd (by assumption)) rfl (.inl rfl) (.inr rfl) ?_ | refine es_set (i := 2) (Ct.nd (by assumption)) rfl (.inr rfl) (.inl rfl) ?_
    | refine es_set (i := 3) (Ct.nd (by assumption)) rfl (.inl rfl) (.inr rfl) ?_ | refine es_set (i := 3) (Ct.nd (by assumption)) rfl (.inr rfl) (.inl rfl) ?_
    | refine es_set (i := 4) (Ct.nd (by assumption)) rfl (.inl rfl) (.inr rfl) ?_ | refine es_set (i := 4) (Ct.nd (by assumption)) rfl (.inr rfl) (.inl rfl) ?_
    | refine es_set (i := 5) (Ct.nd (by assumption)) rfl (.inl rfl) (.inr rfl) ?_ | refine es_set (i := 5) (Ct.nd (by assumption)) rfl (.inr rfl) (.inl rfl) ?_
    | refine es_set (i := 6) (Ct.nd (by assumption)) rfl (.inl rfl) (.inr rfl) ?_ | refine es_set (i := 6) (Ct.nd (by assumption)) rfl (.inr rfl) (.inl rfl) ?_
    | refine es_set (i := 7) (Ct.nd (by assumption)) rfl (.inl rfl) (.inr rfl) ?_ | refine es_set (i := 7) (Ct.nd (by assumption)) rfl (.inr rfl) (.inl rfl) ?_
    | refine es_set (i := 8) (Ct.nd (by assumption)) rfl (.inl rfl) (.inr rfl) ?_ | refine es_set (i := 8) (Ct.nd (by assumption)) rfl (.inr rfl) (.inl rfl) ?_
    | refine es_set (i := 9) (Ct.nd (by assumption)) rfl (.inl rfl) (.inr rfl) ?_ | refine es_set (i := 9) (Ct.nd (by assumption)) rfl (.inr rfl) (.inl rfl) ?_
    | refine es_set (i := 10) (Ct.nd (by assumption)) rfl (.inl rfl) (.inr rfl) ?_ | refine es_set (i := 10) (Ct.nd (by assumption)) rfl (.inr rfl) (.inl rfl) ?_
    | refine es_set (i := 11) (Ct.nd (by assumption)) rfl (.inl rfl) (.inr rfl) ?_ | refine es_set (i := 11) (Ct.nd (by assumption)) rfl (.inr rfl) (.inl rfl) ?_
    | refine es_set (i := 12) (Ct.nd (by assumption)) rfl (.inl rfl) (.inr rfl) ?_ | refine es_set (i := 12) (Ct.nd (by assumption)) rfl (.inr rfl) (.inl rfl) ?_
    | refine es_set (i := 13) (Ct.nd (by assumption)) rfl (.inl rfl) (.inr rfl) ?_ | refine es_set (i := 13) (Ct.nd (by assumption)) rfl (.inr rfl) (.inl rfl) ?_
    | refine es_set (i := 14) (Ct.nd (by assumption)) rfl (.inl rfl) (.inr rfl) ?_ | refine es_set (i := 14) (Ct.nd (by assumption)) rfl (.inr rfl) (.inl rfl) ?_
    | refine es_set (i := 15) (Ct.nd (by assumption)) rfl (.inl rfl) (.inr rfl) ?_ | refine es_set (i := 15) (Ct.nd (by assumption)) rfl (.inr rfl) (.inl rfl) ?_
    | refine es_set (i := 16) (Ct.nd (by assumption)) rfl (.inl rfl) (.inr rfl) ?_ | refine es_set (i := 16) (Ct.nd (by assumption)) rfl (.inr rfl) (.inl rfl) ?_
    | refine es_set (i := 17) (Ct.nd (by assumption)) rfl (.inl rfl) (.inr rfl) ?_ | refine es_set (i := 17) (Ct.nd (by assumption)) rfl (.inr rfl) (.inl rfl) ?_
    | refine es_set (i := 18) (Ct.nd (by assumption)) rfl (.inl rfl) (.inr rfl) ?_ | refine es_set (i := 18) (Ct.nd (by assumption)) rfl (.inr rfl) (.inl rfl) ?_
    | refine es_set (i := 19) (Ct.nd (by assumption)) rfl (.inl rfl) (.inr rfl) ?_ | refine es_set (i := 19) (Ct.nd (by assumption)) rfl (.inr rfl) (.inl rfl) ?_
    | refine es_set (i := 20) (Ct.nd (by assumption)) rfl (.inl rfl) (.inr rfl) ?_ | refine es_set (i := 20) (Ct.nd (by assumption)) rfl (.inr rfl) (.inl rfl) ?_
    | refine es_set (i := 21) (Ct.nd (by assumption)) rfl (.inl rfl) (.inr rfl) ?_ | refine es_set (i := 21) (Ct.nd (by assumption)) rfl (.inr rfl) (.inl rfl) ?_
    | refine es_set (i := 22) (Ct.nd (by assumption)) rfl (.inl rfl) (.inr rfl) ?_ | refine es_set (i := 22) (Ct.nd (by assumption)) rfl (.inr rfl) (.inl rfl) ?_
    | refine es_set (i := 23) (Ct.nd (by assumption)) rfl (.inl rfl) (.inr rfl) ?_ | refine es_set (i := 23) (Ct.nd (by assumption)) rfl (.inr rfl) (.inl rfl) ?_)

theorem screenD_iff {b : Str} {n : Int} {ws : List Str} : screenD (boardD b n ws) = true ↔ lettersS b = true ∧ 1 ≤ n ∧ n ≤ 20 ∧ (∀ w ∈ ws, wordS w = true) ∧ ws.Nodup ∧ (ws.length : Int) ≤ n ∧ ∀ w ∈ ws, Txt.startswith w b = true := by
  have e : screenD (boardD b n ws) = (lettersS b && (decide (1 ≤ n) && decide (n ≤ 20)) && (((ws.map D.str).all wordD && decide (strsD (ws.map D.str)).Nodup) && decide (((ws.map D.str).length : Int) ≤ n) && (strsD (ws.map D.str)).all fun x => Txt.startswith x b)) := rfl
  have e2 : (ws.map D.str).all wordD = ws.all wordS := by
    rw [List.all_map]
    rfl
  rw [e, strsD_map, e2, List.length_map]
  simp only [Bool.and_eq_true, decide_eq_true_eq, List.all_eq_true]
  constructor
  · rintro ⟨⟨h1, h2, h3⟩, ⟨⟨h4, h5⟩, h6⟩, h7⟩
    exact ⟨h1, h2, h3, h4, h5, h6, h7⟩
  · rintro ⟨h1, h2, h3, h4, h5, h6, h7⟩
    exact ⟨⟨h1, h2, h3⟩, ⟨⟨h4, h5⟩, h6⟩, h7⟩
theorem readS_cases {x f r b : Str} {ws : List Str} (hs : Txt.split x " " = f :: r :: ws) (hf : f ≠ "") (hb : (if f = "-" then ("" : Str) else f) = b) :
    (∃ n, numD r 2 = .int n ∧ screenD (boardD b n ws) = true ∧ readS x = some (b, n, ws)) ∨ ((∀ n, numD r 2 = .int n → ¬ screenD (boardD b n ws) = true) ∧ readS x = none) := by
  unfold readS
  rw [hs]
  show (∃ n, numD r 2 = .int n ∧ screenD (boardD b n ws) = true ∧ (if f = "" then none else match numD r 2 with
    | .int n => if screenD (.tup [.str (if f = "-" then ("" : Str) else f), .int n, .lst (ws.map D.str)]) = true then some (if f = "-" then ("" : Str) else f, n, ws) else none
    | _ => none) = some (b, n, ws)) ∨ ((∀ n, numD r 2 = .int n → ¬ screenD (boardD b n ws) = true) ∧ (if f = "" then none else match numD r 2 with
    | .int n => if screenD (.tup [.str (if f = "-" then ("" : Str) else f), .int n, .lst (ws.map D.str)]) = true then some (if f = "-" then ("" : Str) else f, n, ws) else none
    | _ => none) = none)
  rw [if_neg hf, hb]
  rcases numD_cases r 2 with e | ⟨n, e, _⟩
  · rw [e]
    exact .inr ⟨fun n h => (by cases h), rfl⟩
  · rw [e]
    by_cases h : screenD (boardD b n ws) = true
    · exact .inl ⟨n, rfl, h, if_pos h⟩
    · refine .inr ⟨fun m hm => ?_, if_neg h⟩
      cases hm
      exact h
theorem nodup_take {ws : List Str} : (∀ (j : Nat) (w : Str), ws[j]? = some w → w ∉ ws.take j) ↔ ws.Nodup := by
  constructor
  · intro h
    refine List.pairwise_iff_getElem.mpr fun i j hi hj hij e => ?_
    refine h j ws[j] (by simp) ?_
    rw [← e]
    exact List.mem_take_iff_getElem.mpr ⟨i, by omega, rfl⟩
  · intro h j w hw hm
    obtain ⟨i, hi, e⟩ := List.mem_take_iff_getElem.mp hm
    obtain ⟨hj, e2⟩ := List.getElem?_eq_some_iff.mp hw
    exact List.pairwise_iff_getElem.mp h i j (by omega) hj (by omega) (e.trans e2.symm)
theorem eqD_str (a b : Str) : eqD (.str a) (.str b) = decide (a = b) := by
  unfold eqD
  simp only [toP, PyData.eqv]
  by_cases h : a = b
  · subst h
    simp
  · rw [decide_eq_false h]
    exact beq_eq_false_iff_ne.mpr h
theorem inD_strs (a : Str) (ws : List Str) : inD (.str a) (ws.map D.str) = decide (a ∈ ws) := by
  unfold inD
  rw [List.any_map]
  induction ws with
  | nil => simp
  | cons w ws ih =>
    rw [List.any_cons, ih]
    show (eqD (.str w) (.str a) || _) = _
    rw [eqD_str]
    by_cases h : w = a
    · simp [h]
    · have h2 : ¬ a = w := fun e => h e.symm
      simp [h, h2]
theorem flat_strs (ws : List Str) : (ws.map D.str).all flatD = true := by
  rw [List.all_map, List.all_eq_true]
  exact fun _ _ => rfl
def nums20 : List Str := (List.range 20).map fun k => strI (1 + (k : Nat))
theorem nums20_mem {r : Str} : r ∈ nums20 ↔ ∃ n : Int, 1 ≤ n ∧ n ≤ 20 ∧ r = strI n := by
  unfold nums20
  rw [List.mem_map]
  constructor
  · rintro ⟨k, hk, rfl⟩
    have := List.mem_range.mp hk
    exact ⟨1 + (k : Nat), by omega, by omega, rfl⟩
  · rintro ⟨n, h1, h2, rfl⟩
    refine ⟨(n - 1).toNat, List.mem_range.mpr (by omega), ?_⟩
    congr 1
    omega
theorem int20 : ((List.range 20).all fun i => decide (PySem.intText? (strI (1 + (i : Int))) = some (1 + (i : Int)) ∧ (strI (1 + (i : Int))).length ≤ 640)) = true := by decide +kernel
theorem int_strI {l : Int} (h1 : 1 ≤ l) (h2 : l ≤ 20) : PySem.intText? (strI l) = some l ∧ (strI l).length ≤ 640 := by
  have h := of_decide_eq_true (List.all_eq_true.mp int20 (l - 1).toNat (List.mem_range.mpr (by omega)))
  have e : (1 : Int) + ((l - 1).toNat : Int) = l := by omega
  rwa [e] at h
theorem cutD_two {α : Type} (d e : α) (ds : List α) : cutD (d :: e :: ds) (some 2) none = ds := by
  unfold cutD
  have h1 : HT.sIx (d :: e :: ds).length 0 (some 2) = 2 := by
    unfold HT.sIx
    simp
  have h2 : HT.sIx (d :: e :: ds).length (d :: e :: ds).length none = (d :: e :: ds).length := rfl
  rw [h1, h2]
  simp
theorem cutD_front {α : Type} (ds : List α) (i : Nat) (h : i ≤ ds.length) : cutD ds none (some (i : Int)) = ds.take i := by
  unfold cutD
  have h1 : HT.sIx ds.length 0 none = 0 := rfl
  have h2 : HT.sIx ds.length ds.length (some (i : Int)) = i := by
    unfold HT.sIx
    simp only
    rw [if_neg (by omega)]
    omega
  rw [h1, h2]
  simp
def sRead : Spec := fun ds F Φ _ => ∃ x n, ds = [.str x] ∧ Pg n 5000 x ∧ n ≤ 3000 ∧ Φ (readD x) F
abbrev nRead : List Str := ["page", "words", "front", "row", "most", "spot", "word"]
theorem scRead : FnScope nRead ["page"] (defScope (top 41)) := ⟨rfl, rfl, rfl, by decide +kernel, rfl, by decide +kernel, by decide +kernel⟩
theorem okRead {W : Wd} (M : Md W) (a : At W "_law_read" (top 41)) (hIsLetters : Ok W 1 "_law_is_letters" (top 40) ["word"] sIsLetters) : Ok W 2 "_law_read" (top 41) ["page"] sRead := by
  refine Ok.of a scRead (fun ds F Φ Ψ h => ?_) (fun _ _ _ _ _ _ us hl => match us, hl with | [_], _ => rfl) (fun f cdv A outer s0 H0 E C ds F Φ Ψ h => ?_)
  · obtain ⟨x, nn, rfl, hx, hnn, kk⟩ := h
    rfl
  obtain ⟨x, nn, rfl, hx, hnn, kk⟩ := h
  have hR := C.room
  have P := split_parts x
  have hxl := hx.len
  have hok := P.ok hx.ok
  have htot := P.tot
  have hnum := P.num
  have hfew := hx.few
  have no : readS x = none → Φ .non F := fun e => by
    unfold readD at kk
    rw [e] at kk
    exact kk
  have wl : ∀ w ∈ Txt.split x " ", w.length ≤ 5000 := fun w hw => by
    have := mem_sum (f := fun x : Str => x.length) hw
    omega
  obtain ⟨g0, rs, hsp⟩ := split_some x
  refine ess_cons ?_
  walk_at "set"
  walk_at "goE"
  refine ⟨x, rfl, ?_⟩
  walk_at "goE"
  refine ⟨" ", rfl, by decide, le_line (by omega), ?_⟩
  rw [hsp] at hok wl hnum ⊢
  refine ess_cons (es_if (Et.mono (Φ := fun k F1 => F1 = F ∧ (k = true → readS x = none) ∧ (k = false → ∃ r ws, rs = r :: ws ∧ g0 ≠ "" ∧ lettersS (if g0 = "-" then ("" : Str) else g0) = true)) ?_ (fun k F1 hk => ?_)))
  · have two : rs = [] → readS x = none := fun e => by
      unfold readS
      rw [hsp, e]
    have emp : g0 = "" → readS x = none := fun e => by
      unfold readS
      rw [hsp]
      subst e
      cases rs with
      | nil => rfl
      | cons r ws => rfl
    walk_at "go"
    refine ⟨fun h1 => ?_, fun h1 => ?_⟩
    · refine ⟨rfl, fun _ => two ?_, fun h => by cases h⟩
      cases rs with
      | nil => rfl
      | cons r ws =>
        simp at h1
        omega
    obtain ⟨r, ws, rfl⟩ : ∃ r ws, rs = r :: ws := by
      cases rs with
      | nil => simp at h1
      | cons r ws => exact ⟨r, ws, rfl⟩
    walk_at "go"
    refine d_ixL (d := .str g0) (atI_nat (j := 0) rfl) ?_
    walk_at "go"
    refine ⟨fun h2 => ?_, fun h2 => ?_⟩
    · exact ⟨rfl, fun _ => emp (by simpa using h2), fun h => by cases h⟩
    have hf : g0 ≠ "" := by simpa using h2
    have fl := wl g0 (by simp)
    walk_at "go"
    refine ev_call hIsLetters (C.room.mono (by decide)) rfl ?_
    walk_at "go"
    refine d_ixL (d := .str g0) (atI_nat (j := 0) rfl) ?_
    walk_at "go"
    refine ⟨g0, rfl, by omega, hok g0 (by simp), ?_⟩
    walk_at "go"
    refine ⟨fun h3 => ?_, fun h3 => ?_⟩
    · have h3 : ¬ lettersS g0 = true := by simpa using h3
      walk_at "go"
      refine d_ixL (d := .str g0) (atI_nat (j := 0) rfl) ?_
      walk_at "go"
      refine ⟨rfl, fun h4 => ?_, fun h4 => ⟨r, ws, rfl, hf, ?_⟩⟩
      · have h4 : ¬ g0 = "-" := by simpa using h4
        rcases readS_cases hsp hf (if_neg h4) with ⟨n, _, h, _⟩ | ⟨_, h⟩
        · exact absurd (screenD_iff.mp h).1 h3
        · exact h
      · have h4 : g0 = "-" := by simpa using h4
        rw [if_pos h4]
        rfl
    · have h3 : lettersS g0 = true := by simpa using h3
      refine ⟨rfl, (fun h => by cases h), fun _ => ⟨r, ws, rfl, hf, ?_⟩⟩
      split
      · rfl
      · exact h3
  obtain ⟨rfl, hk1, hk2⟩ := hk
  refine ⟨fun hk => ?_, fun hk => ?_⟩
  · walk_at "go"
    exact no (hk1 hk)
  obtain ⟨r, ws, rfl, hf, hlet⟩ := hk2 hk
  generalize hb : (if g0 = "-" then ("" : Str) else g0) = b at hlet
  have RC := readS_cases hsp hf hb
  walk_at "go"
  refine es_par (i := 2) (j := 3) rfl C.nd rfl rfl (by decide) rfl rfl rfl ?_
  refine ea_cons (Ev.mono (Φ := fun d F2 => d = .str b ∧ F2 = F1) ?_ (fun d F2 hd => ?_))
  · walk_at "go"
    refine d_ixL (d := .str g0) (atI_nat (j := 0) rfl) ?_
    walk_at "go"
    refine ⟨fun h3 => ?_, fun h3 => ?_⟩
    · walk_at "go"
      rw [if_pos (by simpa using h3)] at hb
      exact ⟨congrArg D.str hb, rfl⟩
    · walk_at "go"
      refine d_ixL (d := .str g0) (atI_nat (j := 0) rfl) ?_
      rw [if_neg (by simpa using h3)] at hb
      exact ⟨congrArg D.str hb, rfl⟩
  obtain ⟨rfl, rfl⟩ := hd
  walk_at "go"
  rw [List.map_cons, List.map_cons, cutD_two]
  refine ⟨_, _, rfl, ?_⟩
  refine ess_cons (es_if (Et.mono (Φ := fun k F3 => F3 = F2 ∧ (k = true → readS x = none) ∧ (k = false → ∃ n, r = strI n ∧ numD r 2 = .int n ∧ 1 ≤ n ∧ n ≤ 20 ∧ (ws.length : Int) ≤ n)) ?_ (fun k F3 hk => ?_)))
  · walk_at "go"
    refine d_ixL (d := .str r) (atI_nat (j := 1) rfl) ?_
    refine ev_map rfl C.nd (own := [("most", 4)]) (blkOk_by (N := nRead) (sc := defScope (top 41)) (by decide +kernel)) (fun d => match d with | .int n => .str (strI n) | _ => .non) (ei_range2 rfl (by walk_at "mg") ?_)
    walk_at "go"
    refine ⟨_, _, rfl, by decide, ?_⟩
    refine ⟨by rw [rangeD_len]; exact le_line (by decide), fun d F4 hd => ⟨_, fun s H B cl fp => gc_name (pg_name (i := 4) C.nd rfl (.inl rfl)) (by simp) ⟨rfl, rfl⟩, fun s H B cl fp => ?_⟩, ?_⟩
    · obtain ⟨q, hq, rfl⟩ := List.mem_map.mp hd
      have hq := List.mem_range.mp hq
      walk_at "go"
      refine ⟨?_, rfl, rfl⟩
      exact log20 (by omega) (by omega)
    have er : (rangeD 1 ((21 : Int) - 1).toNat).map (fun d => match d with | .int n => D.str (strI n) | _ => .non) = nums20.map D.str := by
      unfold rangeD nums20
      rw [List.map_map, List.map_map]
      rfl
    rw [er]
    refine ⟨rfl, flat_strs _, ?_⟩
    rw [inD_strs]
    refine ⟨fun h5 => ?_, fun h5 => ?_⟩
    · have h5 : ¬ r ∈ nums20 := by simpa using h5
      refine ⟨rfl, fun _ => ?_, fun h => by cases h⟩
      rcases RC with ⟨n, e, h, _⟩ | ⟨_, h⟩
      · obtain ⟨_, h1, h2, _⟩ := screenD_iff.mp h
        exact absurd (nums20_mem.mpr ⟨n, h1, h2, numD_back e h1 h2⟩) h5
      · exact h
    have h5 : r ∈ nums20 := by simpa using h5
    obtain ⟨n, hn1, hn2, rfl⟩ := nums20_mem.mp h5
    obtain ⟨i1, i2⟩ := int_strI hn1 hn2
    walk_at "go"
    refine d_ixL (d := .str (strI n)) (atI_nat (j := 1) rfl) ?_
    refine ⟨n, i1, i2, ?_⟩
    walk_at "go"
    refine ⟨rfl, fun h6 => ?_, fun h6 => ⟨n, rfl, numD_strI hn1 hn2, hn1, hn2, ?_⟩⟩
    · rcases RC with ⟨m, e, h, _⟩ | ⟨_, h⟩
      · rw [numD_strI hn1 hn2] at e
        cases e
        have := (screenD_iff.mp h).2.2.2.2.2.1
        simp at h6
        omega
      · exact h
    · simp at h6
      omega
  obtain ⟨rfl, hk3, hk4⟩ := hk
  refine ⟨fun hk => ?_, fun hk => ?_⟩
  · walk_at "go"
    exact no (hk3 hk)
  obtain ⟨n, rfl, hn1, hn2, hn3, hn4⟩ := hk4 hk
  clear hk hk4 hk3
  refine ess_nil ?_
  have goods : (∀ (j : Nat) (w : Str), ws[j]? = some w → w ≠ "" ∧ lettersS w = true ∧ Txt.startswith w b = true ∧ w ∉ ws.take j) → readS x = some (b, n, ws) := fun h => by
    rcases RC with ⟨m, e, _, h'⟩ | ⟨h', _⟩
    · rw [hn1] at e
      cases e
      exact h'
    · refine absurd (screenD_iff.mpr ⟨hlet, hn2, hn3, fun w hw => ?_, nodup_take.mp fun j w hw => (h j w hw).2.2.2, hn4, fun w hw => ?_⟩) (h' n hn1)
      · obtain ⟨j, hj⟩ := List.mem_iff_getElem?.mp hw
        obtain ⟨g1, g2, _⟩ := h j w hj
        simp [wordS, g1, g2]
      · obtain ⟨j, hj⟩ := List.mem_iff_getElem?.mp hw
        exact (h j w hj).2.2.1
  have bad : ∀ (j : Nat) (w : Str), ws[j]? = some w → ¬ (w ≠ "" ∧ lettersS w = true ∧ Txt.startswith w b = true ∧ w ∉ ws.take j) → readS x = none := fun j w hw hn => by
    rcases RC with ⟨m, e, h, _⟩ | ⟨_, h⟩
    · obtain ⟨_, _, _, h1, h2, _, h3⟩ := screenD_iff.mp h
      have hm := List.mem_iff_getElem?.mpr ⟨j, hw⟩
      have h4 := h1 w hm
      simp only [wordS, Bool.and_eq_true, decide_eq_true_eq] at h4
      exact absurd ⟨h4.2, h4.1, h3 w hm, nodup_take.mpr h2 j w hw⟩ hn
    · exact h
  refine ess_cons (es_for C.pass rfl (ei_enum (by walk_at "mg") ?_))
  walk_at "go"
  refine ⟨fun i ρ4 F4 => (∃ v5 v6, ρ4 = [some (.str x), some (.lst ((g0 :: strI n :: ws).map D.str)), some (.str b), some (.lst (ws.map D.str)), none, v5, v6]) ∧ F4 = F3 ∧ ∀ (j : Nat) (w : Str), j < i → ws[j]? = some w → w ≠ "" ∧ lettersS w = true ∧ Txt.startswith w b = true ∧ w ∉ ws.take j, ⟨⟨none, none, rfl⟩, rfl, fun j w h => absurd h (Nat.not_lt_zero j)⟩, ?_, ?_⟩
  · rintro i d ρ4 F4 hd ⟨⟨v5, v6, rfl⟩, rfl, hg⟩
    obtain ⟨y, hy, rfl⟩ := enumD_get hd
    obtain ⟨w, hw, rfl⟩ : ∃ w, ws[i]? = some w ∧ y = .str w := by
      rw [List.getElem?_map] at hy
      cases e : ws[i]? with
      | none =>
        rw [e] at hy
        cases hy
      | some w =>
        rw [e] at hy
        exact ⟨w, rfl, (Option.some.inj hy).symm⟩
    have hi : i < ws.length := (List.getElem?_eq_some_iff.mp hw).1
    have wm : w ∈ g0 :: strI n :: ws := List.mem_cons_of_mem _ (List.mem_cons_of_mem _ (List.mem_iff_getElem?.mpr ⟨i, hw⟩))
    have wll := wl w wm
    refine eg_tup rfl (d_tup ⟨rfl, egs_cons (eg_name (pg_name (i := 5) C.nd rfl (by first | exact .inl rfl | exact .inr rfl)) (egs_cons (eg_name (pg_name (i := 6) C.nd rfl (by first | exact .inl rfl | exact .inr rfl)) (egs_nil ?_))))⟩)
    refine ess_cons (es_if (Et.mono (Φ := fun k F5 => F5 = F4 ∧ k = !decide (w ≠ "" ∧ lettersS w = true ∧ Txt.startswith w b = true ∧ w ∉ ws.take i)) ?_ (fun k F5 hk => ?_)))
    · walk_at "go"
      refine ⟨fun h1 => ⟨rfl, ?_⟩, fun h1 => ?_⟩
      · have h1 : w = "" := by simpa using h1
        simp [h1]
      have h1 : w ≠ "" := by simpa using h1
      walk_at "go"
      refine ev_call hIsLetters (C.room.mono (by decide)) rfl ?_
      walk_at "go"
      refine ⟨w, rfl, by omega, hok w wm, ?_⟩
      walk_at "go"
      refine ⟨fun h2 => ⟨rfl, ?_⟩, fun h2 => ?_⟩
      · have h2 : ¬ lettersS w = true := by simpa using h2
        simp [h2]
      have h2 : lettersS w = true := by simpa using h2
      walk_at "go"
      refine ⟨w, rfl, ?_⟩
      walk_at "go"
      refine ⟨b, rfl, ?_⟩
      walk_at "go"
      refine ⟨fun h3 => ⟨rfl, ?_⟩, fun h3 => ?_⟩
      · have h3 : Txt.startswith w b = false := by simpa using h3
        simp [h3]
      have h3 : Txt.startswith w b = true := by simpa using h3
      walk_at "go"
      refine ⟨rfl, ?_⟩
      rw [cutD_front _ _ (by rw [List.length_map]; omega), ← List.map_take]
      refine ⟨flat_strs _, ?_⟩
      rw [inD_strs]
      refine ⟨rfl, ?_⟩
      simp [h1, h2, h3]
    obtain ⟨rfl, rfl⟩ := hk
    refine ⟨fun hk => ?_, fun hk => ?_⟩
    · walk_at "go"
      exact no (bad i w hw (of_decide_eq_false (by simpa only [Bool.not_eq_true'] using hk)))
    · walk_at "go"
      refine ⟨⟨_, _, rfl⟩, rfl, fun j u hj hu => ?_⟩
      rcases Nat.lt_succ_iff_lt_or_eq.mp hj with h | rfl
      · exact hg j u h hu
      · rw [hw] at hu
        cases hu
        simpa using hk
  · rintro ρ4 F4 ⟨⟨v5, v6, rfl⟩, rfl, hg⟩
    have hrd : readS x = some (b, n, ws) := goods fun j w hw => hg j w (by
      rw [enumD_len, List.length_map]
      exact (List.getElem?_eq_some_iff.mp hw).1) hw
    unfold readD at kk
    rw [hrd] at kk
    obtain ⟨i1, i2⟩ := int_strI hn2 hn3
    walk_at "go"
    refine d_ixL (d := .str (strI n)) (atI_nat (j := 1) rfl) ?_
    refine ⟨n, i1, i2, ?_⟩
    walk_at "go"
    exact kk

end TM

set_option Elab.async false
set_option linter.all false
set_option maxRecDepth 100000
set_option maxHeartbeats 4000000
set_option pp.maxSteps 500
namespace TM
open PySem PySem.Spec PyProof.Rows L2
local macro_rules
  | `(tactic| walk_at "iv") => `(tactic| first | exact pv 0 | exact pv 1 | exact pv 2 | exact pv 3 | exact pv 4 | exact pv 5 | exact pv 6 | exact pv 7 | exact pv 8 | exact pv 9 | exact pv 10 | exact pv 11 | exact pv 12 | exact pv 13 | exact pv 14 | exact pv 15 | exact pv 16 | exact pv 17 | exact pv 18 | exact pv 19 | exact pv 20 | exact pv 21 | exact pv 22 | exact pv 23)
  | `(tactic| walk_at "mg") => `(tactic| exact Md.bi (by assumption) _ (by decide))
  | `(tactic| walk_at "ev") => `(tactic| first
    | ((with_reducible show Ev _ _ _ _ (.Name _ _) _); refine ev_var (by walk_at "iv") (by with_unfolding_all rfl) ?_)
    | ((with_reducible show Ev _ _ _ _ (.Constant _ _ _) _); first | refine ev_int ?_ | refine ev_str ?_ | refine ev_bl ?_ | refine ev_non ?_)
    | ((with_reducible show Ev _ _ _ _ (.BinOp (.List _ _) .Mult _ _) _); refine ev_rep ?_)
    | ((with_reducible show Ev _ _ _ _ (.BinOp _ _ _ _) _); first | refine ev_add ?_ | refine ev_sub ?_ | refine ev_mod ?_ | refine ev_fdivW ?_ | refine ev_pow ?_ | refine ev_mul ?_)
    | ((with_reducible show Ev _ _ _ _ (.Compare _ [_] _ _) _); first | refine ev_isN ?_ | refine ev_notN ?_ | refine ev_lt ?_ | refine ev_le ?_ | refine ev_gt ?_ | refine ev_ge ?_ | refine ev_eq (RoomG.mono (by assumption) (Nat.zero_le _)) ?_ | refine ev_ne (RoomG.mono (by assumption) (Nat.zero_le _)) ?_ | refine ev_in ?_ | refine ev_nin ?_)
    | ((with_reducible show Ev _ _ _ _ (.Compare _ _ _ _) _); refine ev_chain ord_le ord_le ?_)
    | ((with_reducible show Ev _ _ _ _ (.BoolOp _ _ _) _); first | refine ev_b1 ?_ | refine ev_and ?_ | refine ev_or ?_)
    | ((with_reducible show Ev _ _ _ _ (.UnaryOp _ _ _) _); first | refine ev_not ?_ | refine ev_neg ?_)
    | ((with_reducible show Ev _ _ _ _ (.IfExp _ _ _ _) _); refine ev_if ?_)
    | ((with_reducible show Ev _ _ _ _ (.Tuple _ _ _) _); refine ev_tup ?_)
    | ((with_reducible show Ev _ _ _ _ (.List _ _) _); refine ev_lst ?_)
    | ((with_reducible show Ev _ _ _ _ (.Dict _ _ _) _); refine ev_dct0 ?_)
    | ((with_reducible show Ev _ _ _ _ (.Subscript _ (.Slice _ _ _ _) _) _); refine ev_slice ?_)
    | ((with_reducible show Ev _ _ _ _ (.Subscript _ _ _) _); refine ev_ix ?_)
    | ((with_reducible show Ev _ _ _ _ (.Call (.Name "isinstance" _) [_, .Name "int" _] _ _) _); refine ev_isInt (by walk_at "mg") (by walk_at "mg") ?_)
    | ((with_reducible show Ev _ _ _ _ (.Call (.Name "isinstance" _) [_, .Name "bool" _] _ _) _); refine ev_isBool (by walk_at "mg") (by walk_at "mg") ?_)
    | ((with_reducible show Ev _ _ _ _ (.Call (.Name "isinstance" _) [_, .Name "str" _] _ _) _); refine ev_isStr (by walk_at "mg") (by walk_at "mg") ?_)
    | ((with_reducible show Ev _ _ _ _ (.Call (.Name "isinstance" _) [_, .Name "list" _] _ _) _); refine ev_isList (by walk_at "mg") (by walk_at "mg") ?_)
    | ((with_reducible show Ev _ _ _ _ (.Call (.Name "isinstance" _) [_, .Name "tuple" _] _ _) _); refine ev_isTup (by walk_at "mg") (by walk_at "mg") ?_)
    | ((with_reducible show Ev _ _ _ _ (.Call (.Name "len" _) [.Call (.Name "set" _) _ _ _] _ _) _); refine ev_lenS rfl (by walk_at "mg") (by walk_at "mg") ?_)
    | ((with_reducible show Ev _ _ _ _ (.Call (.Name "len" _) _ _ _) _); refine ev_len (by walk_at "mg") ?_)
    | ((with_reducible show Ev _ _ _ _ (.Call (.Name "abs" _) _ _ _) _); refine ev_abs (by walk_at "mg") ?_)
    | ((with_reducible show Ev _ _ _ _ (.Call (.Name "all" _) _ _ _) _); refine ev_all rfl (by walk_at "mg") ?_)
    | ((with_reducible show Ev _ _ _ _ (.Call (.Name "any" _) _ _ _) _); refine ev_any rfl (by walk_at "mg") ?_)
    | ((with_reducible show Ev _ _ _ _ (.Call (.Name "max" _) _ _ _) _); refine ev_max2 rfl (by walk_at "mg") ?_)
    | ((with_reducible show Ev _ _ _ _ (.Call (.Name "min" _) _ _ _) _); refine ev_min2 rfl (by walk_at "mg") ?_)
    | ((with_reducible show Ev _ _ _ _ (.Call (.Name "str" _) _ _ _) _); refine ev_strOf (by walk_at "mg") ?_)
    | ((with_reducible show Ev _ _ _ _ (.Call (.Name "int" _) _ _ _) _); refine ev_intOf (by walk_at "mg") ?_)
    | ((with_reducible show Ev _ _ _ _ (.Call (.Name "list" _) _ _ _) _); refine ev_listOf rfl (by walk_at "mg") ?_)
    | ((with_reducible show Ev _ _ _ _ (.Call (.Name "tuple" _) _ _ _) _); refine ev_tupOf (by walk_at "mg") ?_)
    | ((with_reducible show Ev _ _ _ _ (.Call (.Name "repr" _) _ _ _) _); refine ev_repr (RoomG.mono (by assumption) (Nat.zero_le _)) (by walk_at "mg") ?_)
    | ((with_reducible show Ev _ _ _ _ (.Call (.Attribute _ "startswith" _) _ _ _) _); refine ev_startswith ?_)
    | ((with_reducible show Ev _ _ _ _ (.Call (.Attribute _ "split" _) _ _ _) _); refine ev_split ?_)
    | ((with_reducible show Ev _ _ _ _ (.Call (.Attribute _ "join" _) _ _ _) _); refine ev_join ?_)
    | ((with_reducible show Ev _ _ _ _ (.Call (.Attribute _ "append" _) _ _ _) _); refine ev_append ?_)
    | ((with_reducible show Ev _ _ _ _ (.Call (.Attribute _ "extend" _) _ _ _) _); refine ev_extend ?_)
    | ((with_reducible show Ev _ _ _ _ (.Call (.Attribute _ "pop" _) _ _ _) _); first | refine ev_popAt ?_ | refine ev_pop0 ?_)
    | ((with_reducible show Ev _ _ _ _ (.Call (.Attribute _ "reverse" _) _ _ _) _); refine ev_reverse ?_)
    | ((with_reducible show Ev _ _ _ _ (.Call (.Attribute _ "clear" _) _ _ _) _); refine ev_clear ?_))
  | `(tactic| walk_at "et") => `(tactic| first
    | ((with_reducible show Et _ _ _ _ (.Compare _ [_] _ _) _); first | refine et_isN ?_ | refine et_notN ?_ | refine et_lt ?_ | refine et_le ?_ | refine et_gt ?_ | refine et_ge ?_ | refine et_eq (RoomG.mono (by assumption) (Nat.zero_le _)) ?_ | refine et_ne (RoomG.mono (by assumption) (Nat.zero_le _)) ?_ | refine et_in ?_ | refine et_nin ?_)
    | ((with_reducible show Et _ _ _ _ (.Compare _ [_, _] _ _) _); refine et_chain ord_le ord_le ?_)
    | ((with_reducible show Et _ _ _ _ (.UnaryOp _ _ _) _); refine et_not ?_)
    | ((with_reducible show Et _ _ _ _ (.BoolOp _ _ _) _); first | refine et_w (ew_or ?_) | refine et_w (ew_and ?_))
    | refine et_val ?_)
  | `(tactic| walk_at "es") => `(tactic| first | refine es_pass ?_ | refine es_break ?_ | refine es_continue ?_ | refine es_ret ?_ | refine es_retN ?_ | refine es_if ?_ | refine es_expr ?_)
  | `(tactic| walk_at "da") => `(tactic| first
    | ((with_reducible show BlD _ _); refine d_bl ?_) | ((with_reducible show IntD _ _); refine d_int ?_) | ((with_reducible show StrD _ _); refine d_str ?_) | ((with_reducible show LstD _ _); refine d_lst ?_) | ((with_reducible show TupD _ _); refine d_tup ?_)
    | ((with_reducible show StarD _ _); first | refine d_star ?_ | refine d_starT ?_)
    | ((with_reducible show OrdD _ _ _ _ _); first | refine d_ordI ?_ | refine d_ordS ?_)
    | ((with_reducible show EqD _ _ _); first | refine d_eqI ?_ | refine d_eqS ?_ | refine d_eqB ?_)
    | ((with_reducible show AddD _ _ _); refine d_addI ?_)
    | ((with_reducible show InD _ _ _); refine d_inS ?_)
    | ((with_reducible show SlD _ _ _ _ _); refine d_slL ?_)
    | ((with_reducible show IxD _ _ _ _); first | refine d_ixL (by rfl) ?_ | refine d_ixT (by rfl) ?_)
    | ((with_reducible show LenD _ _ _); first | refine d_lenL ?_ | refine d_lenT ?_ | refine d_lenC ?_)
    | ((with_reducible show StrOfD _ _); refine d_stS ?_)
    | ((with_reducible show Br _ _ _); first | refine brT ?_ | refine brF ?_)
    | ((with_reducible show CPowW 10 _ ∧ _); refine ⟨⟨by decide, by decide, by decide⟩, ?_⟩)
    | ((with_reducible show List.length _ ≤ sizeLine ∧ _); refine ⟨le_line (Nat.le_of_ble_eq_true rfl), ?_⟩))
  | `(tactic| walk_at "st") => `(tactic| first
    | ((with_reducible show Ev _ _ _ _ _ _); walk_at "ev")
    | ((with_reducible show Ess _ _ _ _ _ _); first | refine ess_one ?_ | refine ess_cons ?_ | refine ess_nil ?_)
    | ((with_reducible show Es _ _ _ _ _ _); walk_at "es")
    | ((with_reducible show Et _ _ _ _ _ _); walk_at "et")
    | ((with_reducible show Ew _ _ _ _ _ _); first | refine ew_or1 ?_ | refine ew_and1 ?_ | refine ew_or ?_ | refine ew_and ?_)
    | ((with_reducible show Ea _ _ _ _ _ _); first | refine ea_nil ?_ | refine ea_cons ?_ | refine ea_star ?_)
    | ((with_reducible show Ek _ _ _ _ _ _); first | refine ek_nil ?_ | refine ek_cons ?_)
    | ((with_reducible show Eo _ _ _ _ _ _); first | refine eo_none ?_ | refine eo_some ?_)
    | walk_at "da")
  | `(tactic| walk_at "go") => `(tactic| repeat walk_at "st")
  | `(tactic| walk_at "goE") => `(tactic| repeat (first
    | ((with_reducible show Ev _ _ _ _ _ _); walk_at "ev")
    | ((with_reducible show Ea _ _ _ _ _ _); first | refine ea_nil ?_ | refine ea_cons ?_ | refine ea_star ?_)
    | ((with_reducible show Ek _ _ _ _ _ _); first | refine ek_nil ?_ | refine ek_cons ?_)
    | ((with_reducible show Eo _ _ _ _ _ _); first | refine eo_none ?_ | refine eo_some ?_)
    | walk_at "da"))
  | `(tactic| walk_at "evM") => `(tactic| first
    | ((with_reducible show Ev _ _ _ _ (.List _ _) _); refine ev_lstM ?_)
    | ((with_reducible show Ev _ _ _ _ (.Subscript _ (.Slice _ _ _ _) _) _); refine ev_sliceM ?_))
  | `(tactic| walk_at "goM") => `(tactic| repeat (first | walk_at "evM" | walk_at "st"))
  | `(tactic| walk_at "set") => `(tactic| first
    | refine es_set (i := 0) (Ct.nd (by assumption)) rfl (.inl rfl) (.inr rfl) ?_ | refine es_set (i := 0) (Ct.nd (by assumption)) rfl (.inr rfl) (.inl rfl) ?_
    | refine es_set (i := 1) (Ct.nd (by assumption)) rfl (.inl rfl) (.inr rfl) ?_ | refine es_set (i := 1) (Ct.nd (by assumption)) rfl (.inr rfl) (.inl rfl) ?_
    | refine es_set (i := 2) (Ct.nd (by assumption)) rfl (.inl rfl) (.inr rfl) ?_ | refine es_set (i := 2) (Ct.nd (by assumption)) rfl (.inr rfl) (.inl rfl) ?_
    | refine es_set (i := 3) (Ct.nd (by assumption)) rfl (.inl rfl) (.inr rfl) ?_ | refine es_set (i := 3) (Ct.nd (by assumption)) rfl (.inr rfl) (.inl rfl) ?_
    | refine es_set (i := 4) (Ct.nd (by assumption)) rfl (.inl rfl) (.inr rfl) ?_ | refine es_set (i := 4) (Ct.nd (by assumption)) rfl (.inr rfl) (.inl rfl) ?_
    | refine es_set (i := 5) (Ct.nd (by assumption)) rfl (.inl rfl) (.inr rfl) ?_ | refine es_set (i := 5) (Ct.nd (by assumption)) rfl (.inr rfl) (.inl rfl) ?_
    | refine es_set (i := 6) (Ct.nd (by assumption)) rfl (.inl rfl) (.inr rfl) ?_ | refine es_set (i := 6) (Ct.nd (by assumption)) rfl (.inr rfl) (.inl rfl) ?_
    | refine es_set (i := 7) (Ct.nd (by assumption)) rfl (.inl rfl) (.inr rfl) ?_ | refine es_set (i := 7) (Ct.nd (by assumption)) rfl (.inr rfl) (.inl rfl) ?_
    | refine es_set (i := 8) (Ct.nd (by assumption)) rfl (.inl rfl) (.inr rfl) ?_ | refine es_set (i := 8) (Ct.nd (by assumption)) rfl (.inr rfl) (.inl rfl) ?_
    | refine es_set (i := 9) (Ct.nd (by assumption)) rfl (.inl rfl) (.inr rfl) ?_ | refine es_set (i := 9) (Ct.nd (by assumption)) rfl (.inr rfl) (.inl rfl) ?_
    | refine es_set (i := 10) (Ct.nd (by assumption)) rfl (.inl rfl) (.inr rfl) ?_ | refine es_set (i := 10) (Ct.nd (by assumption)) rfl (.inr rfl) (.inl rfl) ?_
    | refine es_set (i := 11) (Ct.nd (by assumption)) rfl (.inl rfl) (.inr rfl) ?_ | refine es_set (i := 11) (Ct.nd (by assumption)) rfl (.inr rfl) (.inl rfl) ?_
    | refine es_set (i := 12) (Ct.nd (by assumption)) rfl (.inl rfl) (.inr rfl) ?_ | refine es_set (i := 12) (Ct.nd (by assumption)) rfl (.inr rfl) (.inl rfl) ?_
    | refine es_set (i := 13) (Ct.nd (by assumption)) rfl (.inl rfl) (.inr rfl) ?_ | refine es_set (i := 13) (Ct.nd (by assumption)) rfl (.inr rfl) (.inl rfl) ?_
    | refine es_set (i := 14) (Ct.nd (by assumption)) rfl (.inl rfl) (.inr rfl) ?_ | refine es_set (i := 14) (Ct.nd (by assumption)) rfl (.inr rfl) (.inl rfl) ?_
    | refine es_set (i := 15) (Ct.nd (by assumption)) rfl (.inl rfl) (.inr rfl) ?_ | refine es_set (i := 15) (Ct.nd (by assumption)) rfl (.inr rfl) (.inl rfl) ?_
    | refine es_set (i := 16) (Ct.nd (by assumption)) rfl (.inl rfl) (.inr rfl) ?_ | refine es_set (i := 16) (Ct.nd (by assumption)) rfl (.inr rfl) (.inl rfl) ?_
    | refine es_set (i := 17) (Ct.nd (by assumption)) rfl (.inl rfl) (.inr rfl) ?_ | refine es_set (i := 17) (Ct.nd (by assumption)) rfl (.inr rfl) (.inl rfl) ?_
    | refine es_set (i := 18) (Ct.nd (by assumption)) rfl (.inl rfl) (.inr rfl) ?_ | refine es_set (i := 18) (Ct.nd (by assumption)) rfl (.inr rfl) (.inl rfl) ?_
    | refine es_set (i := 19) (Ct.nd (by assumption)) rfl (.inl rfl) (.inr rfl) ?_ | refine es_set (i := 19) (Ct.nd (by assumption)) rfl (.inr rfl) (.inl rfl) ?_
    | refine es_set (i := 20) (Ct.nd (by assumption)) rfl (.inl rfl) (.inr rfl) ?_ | refine es_set (i := 20) (Ct.nd (by assumption)) rfl (.inr rfl) (.inl rfl) ?_
    | refine es_set (i := 21) (Ct.nd (by assumption)) rfl (.inl rfl) (.inr rfl) ?_ | refine es_set (i := 21) (Ct.nd (by assumption)) rfl (.inr rfl) (.inl rfl) ?_
    | refine es_set (i := 22) (Ct.nd (by assumption)) rfl (.inl rfl) (.inr rfl) ?_ | refine es_set (i := 22) (Ct.nd (by assumption)) rfl (.inr rfl) (.inl rfl) ?_
    | refine es_set (i := 23) (Ct.nd (by assumption)) rfl (.inl rfl) (.inr rfl) ?_ | refine es_set (i := 23) (Ct.nd (by assumption)) rfl (.inr rfl) (.inl rfl) ?_)

theorem cut4900 (z : Str) : (cutS z none (some 4900)).length ≤ 4900 := by
  unfold cutS Str.length
  simp only [List.size_toArray, List.length_take]
  have : HT.sIx z.cps.size z.cps.size (some 4900) ≤ 4900 := by
    unfold HT.sIx
    simp only
    rw [if_neg (by decide)]
    omega
  show min (HT.sIx z.cps.size z.cps.size (some 4900) - _) _ ≤ 4900
  omega
theorem cutD_sub {α : Type} (xs : List α) (lo hi : Option Int) : (cutD xs lo hi).Sublist xs := (List.take_sublist _ _).trans (List.drop_sublist _ _)
theorem cutD_map {α β : Type} (f : α → β) (xs : List α) (lo hi : Option Int) : cutD (xs.map f) lo hi = (cutD xs lo hi).map f := by
  unfold cutD
  rw [List.length_map, List.map_take, List.map_drop]
theorem sub_sum {α : Type} (f : α → Nat) {xs ys : List α} (h : xs.Sublist ys) : (xs.map f).sum ≤ (ys.map f).sum := by
  induction h with
  | slnil => exact Nat.le_refl _
  | cons a _ ih =>
    rw [List.map_cons, List.sum_cons]
    omega
  | cons_cons a _ ih =>
    rw [List.map_cons, List.map_cons, List.sum_cons, List.sum_cons]
    omega
theorem zero_sum {α : Type} (f : α → Nat) {xs : List α} (h : ∀ x ∈ xs, f x = 0) : (xs.map f).sum = 0 := by
  induction xs with
  | nil => rfl
  | cons x xs ih =>
    rw [List.map_cons, List.sum_cons, h x (by simp), ih fun y hy => h y (by simp [hy])]
theorem join_two {c : Nat} {x : Str} (hx : Pg c 5000 x) {l1 m l2 : List Str} (s1 : l1.Sublist (Txt.split x " ")) (s2 : l2.Sublist (Txt.split x " ")) (hm : ∀ w ∈ m, Pg 0 5000 w) (hl : m.length ≤ 1) :
    Pg (2 * c + 5) (20000 + 2 * c) (Txt.join " " (l1 ++ m ++ l2)) ∧ ((l1 ++ m ++ l2).map (·.length)).sum + (l1 ++ m ++ l2).length ≤ 20000 + 2 * c := by
  have P := split_parts x
  have h1 := hx.len
  have h2 := hx.few
  have t := P.tot
  have n := P.num
  have a1 := sub_sum (fun x : Str => x.length) s1
  have a2 := sub_sum (fun x : Str => x.length) s2
  have b1 := s1.length_le
  have b2 := s2.length_le
  have am : (m.map (·.length)).sum ≤ 5000 := by
    match m, hl, hm with
    | [], _, _ => exact Nat.zero_le _
    | [w], _, hm =>
      have := (hm w (by simp)).len
      simpa using this
  have key : ((l1 ++ m ++ l2).map (·.length)).sum + (l1 ++ m ++ l2).length ≤ 20000 + 2 * c := by
    simp only [List.map_append, List.sum_append, List.length_append]
    omega
  refine ⟨join_pg (fun w hw => ?_) key ?_, key⟩
  · rcases List.mem_append.mp hw with hw | hw
    · rcases List.mem_append.mp hw with hw | hw
      · exact P.ok hx.ok w (s1.subset hw)
      · exact (hm w hw).ok
    · exact P.ok hx.ok w (s2.subset hw)
  · rw [zero_sum _ fun w hw => ?_]
    · simp only [List.length_append]
      omega
    · rcases List.mem_append.mp hw with hw | hw
      · rcases List.mem_append.mp hw with hw | hw
        · exact P.none_ w (s1.subset hw)
        · exact Nat.le_zero.mp (hm w hw).few
      · exact P.none_ w (s2.subset hw)
theorem pick_in {ds : List D} {r : Int} (h0 : 0 ≤ r) (h1 : r < ds.length) : ∃ d ∈ ds, atI ds r = some d := by
  obtain ⟨j, rfl⟩ := Int.eq_ofNat_of_zero_le h0
  have hj : j < ds.length := by omega
  exact ⟨ds[j], List.getElem_mem hj, atI_nat (by simp)⟩
theorem pick_last {ds : List D} (h : 0 < ds.length) : ∃ d ∈ ds, atI ds (-1) = some d := by
  refine ⟨ds[ds.length - 1], List.getElem_mem (by omega), ?_⟩
  unfold atI
  have e : ixN ds.length (-1) = some (ds.length - 1) := by
    unfold ixN
    rw [if_neg (by decide), if_pos (by omega)]
    congr 1
    omega
  rw [e]
  exact List.getElem?_eq_getElem (by omega)
def pgB (n L : Nat) (x : Str) : Bool := decide (x.length ≤ L) && PyData.strOk x && decide (x.cps.toList.count 32 ≤ n)
theorem pgB_ok {n L : Nat} {x : Str} (h : pgB n L x = true) : Pg n L x := by
  unfold pgB at h
  simp only [Bool.and_eq_true, decide_eq_true_eq] at h
  exact ⟨h.1.1, h.1.2, h.2⟩
theorem nines : Pg 0 5000 (repS "9" (Int.toNat 4400)) := by
  have e : repS "9" (Int.toNat 4400) = mkS (List.replicate 4400 57) := repS_mk 57 4400
  rw [e]
  refine ⟨by rw [mkS_len, List.length_replicate]; decide, strOk_mem.mpr fun c hc => ?_, ?_⟩
  · rw [mkS_cps] at hc
    rw [(List.mem_replicate.mp hc).2]
    decide
  · rw [mkS_cps, List.count_replicate]
    simp
def sSpoiled : Spec := fun ds F Φ _ => ∃ (p : Addr) (b n : Int) (x : Str) (c : Nat), ds = [.raw (.ref p), .str x] ∧ Pg c 5000 x ∧ c ≤ 1000 ∧ PW p b n F ∧ n < 900000000 ∧ ∀ y mo, Pg (2 * c + 5) 4900 y → PW p b (n + 10) (updF F p mo) → Φ (.str y) (updF F p mo)
abbrev nSpoiled : List Str := ["pouch", "page", "spot", "words", "signs", "at", "sign", "odd", "word", "some"]
theorem scSpoiled : FnScope nSpoiled ["pouch", "page"] (defScope (top 42)) := ⟨rfl, rfl, rfl, by decide +kernel, rfl, by decide +kernel, by decide +kernel⟩
theorem okSpoiled {W : Wd} (M : Md W) (a : At W "_law_spoiled" (top 42)) (hPick : Ok W 1 "_law_pick" (top 32) ["pouch", "many"] sPick) : Ok W 2 "_law_spoiled" (top 42) ["pouch", "page"] sSpoiled := by
  refine Ok.of a scSpoiled (fun ds F Φ Ψ h => ?_) (fun _ _ _ _ _ _ us hl => match us, hl with | [_, _], _ => rfl) (fun f cdv A outer s0 H0 E C ds F Φ Ψ h => ?_)
  · obtain ⟨p, b, n, x, c, rfl, hx, hc, hp, hn, kk⟩ := h
    rfl
  obtain ⟨p, b, n, x, c, rfl, hx, hc, hp, hn, kk⟩ := h
  have hR := C.room
  have P := split_parts x
  have hxl := hx.len
  have hok := P.ok hx.ok
  have htot := P.tot
  have hnum := P.num
  have hfew := hx.few
  generalize hc' : List.count 32 x.cps.toList = c' at hnum hfew
  have wpg : ∀ w ∈ Txt.split x " ", Pg 0 5000 w := fun w hw => by
    have := mem_sum (f := fun x : Str => x.length) hw
    exact ⟨by omega, hok w hw, Nat.le_of_eq (P.none_ w hw)⟩
  obtain ⟨mp, hmp⟩ := id hp.has
  refine ess_cons (es_par (i := 2) (j := 3) rfl C.nd rfl rfl (by decide) rfl rfl rfl ?_)
  walk_at "go"
  refine ev_call hPick (C.room.mono (by decide)) rfl ?_
  walk_at "go"
  refine d_lenS (le_line (by omega)) ?_
  walk_at "go"
  refine ⟨p, _, b, n, rfl, hp, by omega, by omega, by omega, fun r mo r0 r1 hpw => ?_⟩
  walk_at "go"
  refine ⟨x, rfl, ?_⟩
  walk_at "go"
  refine ⟨" ", rfl, by decide, le_line (by omega), ?_⟩
  walk_at "go"
  refine ⟨_, _, rfl, ?_⟩
  generalize hws : Txt.split x " " = ws at wpg
  refine ess_cons ?_
  walk_at "set"
  walk_at "go"
  refine es_par (i := 5) (j := 6) rfl C.nd rfl rfl (by decide) rfl rfl rfl ?_
  walk_at "go"
  refine ev_call hPick (C.room.mono (by decide)) rfl ?_
  walk_at "go"
  have wl : (ws.map D.str).length = c' + 1 := by rw [List.length_map, ← hws, hnum]
  refine ⟨p, _, b, n + 1, rfl, hpw, by omega, by omega, by omega, fun r2 mo2 r20 r21 hpw2 => ?_⟩
  walk_at "go"
  refine ev_call hPick (C.room.mono (by decide)) rfl ?_
  walk_at "go"
  refine ⟨p, _, b, n + 1 + 1, rfl, hpw2, by omega, by decide, by decide, fun r3 mo3 r30 r31 hpw3 => ?_⟩
  obtain ⟨d, hd, hd2⟩ := pick_in r30 r31
  have hd3 : ∃ sg, d = .str sg ∧ Pg 2 2 sg := by
    simp only [List.mem_cons, List.not_mem_nil, or_false] at hd
    rcases hd with rfl | rfl | rfl | rfl | rfl | rfl | rfl | rfl | rfl | rfl | rfl | rfl | rfl | rfl <;> exact ⟨_, rfl, pgB_ok (by decide +kernel)⟩
  obtain ⟨sg, rfl, hsg⟩ := hd3
  refine d_ixL hd2 ?_
  walk_at "go"
  refine ⟨_, _, rfl, ?_⟩
  clear hd2 hd r31 r30
  refine ess_cons ?_
  walk_at "set"
  walk_at "go"
  refine d_mulS (by decide) (by decide) (by decide +kernel) ?_
  walk_at "go"
  refine d_mulS (by decide) (by decide) (by decide +kernel) ?_
  walk_at "go"
  walk_at "set"
  walk_at "go"
  obtain ⟨g0, rs, hsp⟩ := split_some x
  rw [hws] at hsp
  have w0 : g0 ∈ ws := by simp [hsp]
  refine d_ixL (d := .str g0) (atI_nat (j := 0) (by rw [hsp]; rfl)) ?_
  walk_at "go"
  obtain ⟨d, hd, hd2⟩ := pick_last (ds := ws.map D.str) (by omega)
  obtain ⟨g1, hg1, rfl⟩ := List.mem_map.mp hd
  refine d_ixL hd2 ?_
  walk_at "go"
  refine d_addL (le_line (Nat.le_of_ble_eq_true rfl)) ?_
  have hodd : ∀ d ∈ [D.str "", .str "-", .str "0", .str "21", .str "20", .str "01", .str "1.0", .str "-1", .str "+1", .str "a", .str "ab", .str (repS "x" (Int.toNat 30)), .str "Ab", .str (repS "9" (Int.toNat 4400))] ++ [D.str g0, D.str g1], ∃ w, d = .str w ∧ Pg 0 5000 w := fun d hd => by
    simp only [List.mem_append, List.mem_cons, List.not_mem_nil, or_false] at hd
    rcases hd with (rfl | rfl | rfl | rfl | rfl | rfl | rfl | rfl | rfl | rfl | rfl | rfl | rfl | rfl) | rfl | rfl
    all_goals first | exact ⟨_, rfl, wpg _ w0⟩ | exact ⟨_, rfl, wpg _ hg1⟩ | exact ⟨_, rfl, nines⟩ | exact ⟨_, rfl, pgB_ok (by decide +kernel)⟩
  have hol : ([D.str "", .str "-", .str "0", .str "21", .str "20", .str "01", .str "1.0", .str "-1", .str "+1", .str "a", .str "ab", .str (repS "x" (Int.toNat 30)), .str "Ab", .str (repS "9" (Int.toNat 4400))] ++ [D.str g0, D.str g1]).length = 16 := rfl
  generalize [D.str "", .str "-", .str "0", .str "21", .str "20", .str "01", .str "1.0", .str "-1", .str "+1", .str "a", .str "ab", .str (repS "x" (Int.toNat 30)), .str "Ab", .str (repS "9" (Int.toNat 4400))] ++ [D.str g0, D.str g1] = odd at hodd hol ⊢
  walk_at "go"
  walk_at "set"
  walk_at "go"
  refine ev_call hPick (C.room.mono (by decide)) rfl ?_
  walk_at "go"
  refine ⟨p, _, b, n + 1 + 1 + 1, rfl, hpw3, by omega, by omega, by omega, fun r4 mo4 r40 r41 hpw4 => ?_⟩
  obtain ⟨d, hd3, hd4⟩ := pick_in r40 r41
  obtain ⟨wd, rfl, hwd⟩ := hodd d hd3
  refine d_ixL hd4 ?_
  clear hd2 hd hd3 hd4
  generalize hF4 : updF (updF (updF (updF F p mo) p mo2) p mo3) p mo4 = F4 at hpw4 ⊢
  rw [updF_updF, updF_updF, updF_updF] at hF4
  walk_at "go"
  walk_at "set"
  walk_at "go"
  have c1 := cut_len x none (some r)
  have c2 := cut_len x (some r) none
  have c3 := cut_len x (some (r + 1)) none
  have sl := hsg.len
  refine d_slS (le_line (by omega)) ?_
  walk_at "go"
  refine d_addS (le_line (by omega)) ?_
  walk_at "go"
  refine d_slS (le_line (by omega)) ?_
  walk_at "go"
  refine d_addS (le_line (by rw [Str.length_append]; omega)) ?_
  walk_at "go"
  refine d_slS (le_line (by omega)) ?_
  walk_at "go"
  refine d_slS (le_line (by omega)) ?_
  walk_at "go"
  refine d_addS (le_line (by omega)) ?_
  walk_at "go"
  walk_at "set"
  walk_at "go"
  refine d_slS (le_line (by omega)) ?_
  walk_at "go"
  refine d_addS (le_line (by omega)) ?_
  walk_at "go"
  refine d_slS (le_line (by omega)) ?_
  walk_at "go"
  refine d_addS (le_line (by rw [Str.length_append]; omega)) ?_
  walk_at "go"
  refine ⟨" ", rfl, ?_⟩
  walk_at "go"
  rw [List.length_map] at wl
  have J : ∀ l1 m l2 : List Str, l1.Sublist ws → l2.Sublist ws → (∀ w ∈ m, Pg 0 5000 w) → m.length ≤ 1 → Pg (2 * c + 5) (20000 + 2 * c) (Txt.join " " (l1 ++ m ++ l2)) ∧ ((l1 ++ m ++ l2).map (·.length)).sum + (l1 ++ m ++ l2).length * (" " : Str).length ≤ 16777216 := by
    rw [← hws]
    intro l1 m l2 s1 s2 hm hl
    obtain ⟨j1, j2⟩ := join_two hx s1 s2 hm hl
    refine ⟨j1, ?_⟩
    have e1 : (" " : Str).length = 1 := rfl
    rw [e1]
    omega
  have K : ∀ lo hi, (cutD ws lo hi).length ≤ 1001 := fun lo hi => by
    have := (cutD_sub ws lo hi).length_le
    omega
  have k1 := K none (some r2)
  have k2 := K (some (r2 + 1)) none
  have k3 := K none (some (r2 + 1))
  have k4 := K (some r2) none
  have S := cutD_sub ws
  have hcm : ∀ lo hi, cutD (ws.map D.str) lo hi = (cutD ws lo hi).map D.str := cutD_map D.str ws
  rw [hcm, hcm]
  refine d_addL (le_line (by rw [List.length_map, List.length_map]; omega)) ?_
  have J1 := J _ [] _ (S none (some r2)) (S (some (r2 + 1)) none) (by simp) (by simp)
  refine ⟨_, ?_, J1.2, ?_⟩
  · show _ = _
    simp only [List.append_nil, List.map_append]
  walk_at "go"
  refine d_addL (le_line (Nat.le_of_ble_eq_true rfl)) ?_
  walk_at "go"
  have G1 : Pg (2 * c + 5) 30000 (cutS x none (some r) ++ sg ++ cutS x (some r) none) := (((hx.cut _ _).add hsg).add (hx.cut _ _)).up (by omega) (by decide)
  have G2 : Pg (2 * c + 5) 30000 (cutS x none (some r) ++ cutS x (some (r + 1)) none) := ((hx.cut _ _).add (hx.cut _ _)).up (by omega) (by decide)
  have G3 : Pg (2 * c + 5) 30000 (cutS x none (some r) ++ sg ++ cutS x (some (r + 1)) none) := (((hx.cut _ _).add hsg).add (hx.cut _ _)).up (by omega) (by decide)
  have G4 := J1.1.up (Nat.le_refl _) (show 20000 + 2 * c ≤ 30000 by omega)
  have hso : ∀ d ∈ [D.str (cutS x none (some r) ++ sg ++ cutS x (some r) none), D.str (cutS x none (some r) ++ cutS x (some (r + 1)) none)] ++ [D.str (cutS x none (some r) ++ sg ++ cutS x (some (r + 1)) none), D.str (Txt.join " " (cutD ws none (some r2) ++ [] ++ cutD ws (some (r2 + 1)) none))], ∃ y, d = .str y ∧ Pg (2 * c + 5) 30000 y := fun d hd => by
    simp only [List.mem_append, List.mem_cons, List.not_mem_nil, or_false] at hd
    rcases hd with (rfl | rfl) | rfl | rfl
    · exact ⟨_, rfl, G1⟩
    · exact ⟨_, rfl, G2⟩
    · exact ⟨_, rfl, G3⟩
    · exact ⟨_, rfl, G4⟩
  have hsl : ([D.str (cutS x none (some r) ++ sg ++ cutS x (some r) none), D.str (cutS x none (some r) ++ cutS x (some (r + 1)) none)] ++ [D.str (cutS x none (some r) ++ sg ++ cutS x (some (r + 1)) none), D.str (Txt.join " " (cutD ws none (some r2) ++ [] ++ cutD ws (some (r2 + 1)) none))]).length = 4 := rfl
  generalize [D.str (cutS x none (some r) ++ sg ++ cutS x (some r) none), D.str (cutS x none (some r) ++ cutS x (some (r + 1)) none)] ++ [D.str (cutS x none (some r) ++ sg ++ cutS x (some (r + 1)) none), D.str (Txt.join " " (cutD ws none (some r2) ++ [] ++ cutD ws (some (r2 + 1)) none))] = so at hso hsl ⊢
  walk_at "set"
  refine ev_addM ?_
  walk_at "go"
  refine ⟨" ", rfl, ?_⟩
  walk_at "go"
  rw [hcm, hcm]
  refine d_addL (le_line (by rw [List.length_map, List.length_map]; omega)) ?_
  have J2 := J _ [] _ (S none (some (r2 + 1))) (S (some r2) none) (by simp) (by simp)
  refine ⟨_, ?_, J2.2, ?_⟩
  · show _ = _
    simp only [List.append_nil, List.map_append]
  walk_at "go"
  refine ⟨" ", rfl, ?_⟩
  walk_at "go"
  rw [hcm]
  refine d_addL (le_line (by rw [List.length_map]; simp only [List.length_cons, List.length_nil]; omega)) ?_
  walk_at "go"
  rw [hcm]
  refine d_addL (le_line (by rw [List.length_append, List.length_map, List.length_map]; simp only [List.length_cons, List.length_nil]; omega)) ?_
  have J3 := J _ [wd] _ (S none (some r2)) (S (some (r2 + 1)) none) (by simp only [List.mem_singleton, forall_eq]; exact hwd) (by simp)
  refine ⟨_, ?_, J3.2, ?_⟩
  · show _ = _
    simp only [List.map_append, List.map_cons, List.map_nil]
  walk_at "go"
  refine ⟨le_line (by rw [hsl]; exact Nat.le_of_ble_eq_true rfl), fun l hl => ?_⟩
  have F4p : ∃ m, F4 p = some m := ⟨mo4, by rw [← hF4, updF_same]⟩
  have npl : p ≠ l := fun e => by
    obtain ⟨m, hm⟩ := F4p
    rw [← e, hm] at hl
    cases hl
  have Fl : F l = none := by
    rw [← hF4, updF_ne (Ne.symm npl)] at hl
    exact hl
  walk_at "go"
  refine ⟨⟨l, _, rfl, updF_same⟩, ?_⟩
  walk_at "go"
  refine ⟨" ", rfl, ?_⟩
  walk_at "go"
  rw [hcm, hcm]
  refine d_addL (le_line (by rw [List.length_map, List.length_map]; omega)) ?_
  have J4 := J _ [] _ (S (some r2) none) (S none (some r2)) (by simp) (by simp)
  refine ⟨_, ?_, J4.2, ?_⟩
  · show _ = _
    simp only [List.append_nil, List.map_append]
  refine ⟨l, _, rfl, updF_same, le_line_lt ?_, ?_⟩
  · simp only [List.length_append, hsl, List.length_cons, List.length_nil]
    decide
  rw [updF_updF]
  refine ess_one (es_ret (ev_post ?_))
  walk_at "go"
  refine ev_call hPick (C.room.mono (by decide)) rfl ?_
  walk_at "go"
  refine d_lenR updF_same ?_
  walk_at "go"
  have hfl : ∀ (z1 z2 z3 : D), (so ++ [z1, z2] ++ [z3]).length = 7 := fun z1 z2 z3 => by
    simp only [List.length_append, hsl, List.length_cons, List.length_nil]
  refine ⟨p, _, b, n + 1 + 1 + 1 + 1, rfl, hpw4.ne npl, by omega, by rw [hfl]; decide, by rw [hfl]; decide, fun r5 mo5 r50 r51 hpw5 => ?_⟩
  obtain ⟨d, hd, hd2⟩ := pick_in r50 r51
  have hfin : ∃ y, d = .str y ∧ Pg (2 * c + 5) 30000 y := by
    simp only [List.mem_append, List.mem_cons, List.not_mem_nil, or_false] at hd
    rcases hd with (hd | rfl | rfl) | rfl
    · exact hso d hd
    · exact ⟨_, rfl, J2.1.up (Nat.le_refl _) (by omega)⟩
    · exact ⟨_, rfl, J3.1.up (Nat.le_refl _) (by omega)⟩
    · exact ⟨_, rfl, J4.1.up (Nat.le_refl _) (by omega)⟩
  obtain ⟨y, rfl, hy⟩ := hfin
  refine d_ixR (by rw [updF_ne (Ne.symm npl), updF_same]) hd2 ?_
  walk_at "go"
  have yl := hy.len
  refine d_slS (le_line (by omega)) ?_
  obtain ⟨mo6, e6, hpw6⟩ := hpw5.is (F' := F)
  refine ⟨updF F p mo6, fun a m e => sub_put e6 (fun a m ha e => ?_) a m e, kk _ mo6 ⟨cut4900 y, (hy.cut none (some 4900)).ok, (hy.cut none (some 4900)).few⟩ (hpw6.up (by omega) (by omega))⟩
  rw [updF_ne ha, updF_ne (fun z => by rw [z, Fl] at e; cases e), ← hF4, updF_ne ha]
  exact e

end TM

set_option Elab.async false
set_option linter.all false
set_option maxRecDepth 100000
set_option maxHeartbeats 4000000
set_option pp.maxSteps 500
namespace TM
open PySem PySem.Spec PyProof.Rows L2
local macro_rules
  | `(tactic| walk_at "iv") => `(tactic| first | exact pv 0 | exact pv 1 | exact pv 2 | exact pv 3 | exact pv 4 | exact pv 5 | exact pv 6 | exact pv 7 | exact pv 8 | exact pv 9 | exact pv 10 | exact pv 11 | exact pv 12 | exact pv 13 | exact pv 14 | exact pv 15 | exact pv 16 | exact pv 17 | exact pv 18 | exact pv 19 | exact pv 20 | exact pv 21 | exact pv 22 | exact pv 23)
  | `(tactic| walk_at "mg") => `(tactic| exact Md.bi (by assumption) _ (by decide))
  | `(tactic| walk_at "ev") => `(tactic| first
    | ((with_reducible show Ev _ _ _ _ (.Name _ _) _); refine ev_var (by walk_at "iv") (by with_unfolding_all rfl) ?_)
    | ((with_reducible show Ev _ _ _ _ (.Constant _ _ _) _); first | refine ev_int ?_ | refine ev_str ?_ | refine ev_bl ?_ | refine ev_non ?_)
    | ((with_reducible show Ev _ _ _ _ (.BinOp (.List _ _) .Mult _ _) _); refine ev_rep ?_)
    | ((with_reducible show Ev _ _ _ _ (.BinOp _ _ _ _) _); first | refine ev_add ?_ | refine ev_sub ?_ | refine ev_mod ?_ | refine ev_fdivW ?_ | refine ev_pow ?_ | refine ev_mul ?_)
    | ((with_reducible show Ev _ _ _ _ (.Compare _ [_] _ _) _); first | refine ev_isN ?_ | refine ev_notN ?_ | refine ev_lt ?_ | refine ev_le ?_ | refine ev_gt ?_ | refine ev_ge ?_ | refine ev_eq (RoomG.mono (by assumption) (Nat.zero_le _)) ?_ | refine ev_ne (RoomG.mono (by assumption) (Nat.zero_le _)) ?_ | refine ev_in ?_ | refine ev_nin ?_)
    | ((with_reducible show Ev _ _ _ _ (.Compare _ _ _ _) _); refine ev_chain ord_le ord_le ?_)
    | ((with_reducible show Ev _ _ _ _ (.BoolOp _ _ _) _); first | refine ev_b1 ?_ | refine ev_and ?_ | refine ev_or ?_)
    | ((with_reducible show Ev _ _ _ _ (.UnaryOp _ _ _) _); first | refine ev_not ?_ | refine ev_neg ?_)
    | ((with_reducible show Ev _ _ _ _ (.IfExp _ _ _ _) _); refine ev_if ?_)
    | ((with_reducible show Ev _ _ _ _ (.Tuple _ _ _) _); refine ev_tup ?_)
    | ((with_reducible show Ev _ _ _ _ (.List _ _) _); refine ev_lst ?_)
    | ((with_reducible show Ev _ _ _ _ (.Dict _ _ _) _); refine ev_dct0 ?_)
    | ((with_reducible show Ev _ _ _ _ (.Subscript _ (.Slice _ _ _ _) _) _); refine ev_slice ?_)
    | ((with_reducible show Ev _ _ _ _ (.Subscript _ _ _) _); refine ev_ix ?_)
    | ((with_reducible show Ev _ _ _ _ (.Call (.Name "isinstance" _) [_, .Name "int" _] _ _) _); refine ev_isInt (by walk_at "mg") (by walk_at "mg") ?_)
    | ((with_reducible show Ev _ _ _ _ (.Call (.Name "isinstance" _) [_, .Name "bool" _] _ _) _); refine ev_isBool (by walk_at "mg") (by walk_at "mg") ?_)
    | ((with_reducible show Ev _ _ _ _ (.Call (.Name "isinstance" _) [_, .Name "str" _] _ _) _); refine ev_isStr (by walk_at "mg") (by walk_at "mg") ?_)
    | ((with_reducible show Ev _ _ _ _ (.Call (.Name "isinstance" _) [_, .Name "list" _] _ _) _); refine ev_isList (by walk_at "mg") (by walk_at "mg") ?_)
    | ((with_reducible show Ev _ _ _ _ (.Call (.Name "isinstance" _) [_, .Name "tuple" _] _ _) _); refine ev_isTup (by walk_at "mg") (by walk_at "mg") ?_)
    | ((with_reducible show Ev _ _ _ _ (.Call (.Name "len" _) [.Call (.Name "set" _) _ _ _] _ _) _); refine ev_lenS rfl (by walk_at "mg") (by walk_at "mg") ?_)
    | ((with_reducible show Ev _ _ _ _ (.Call (.Name "len" _) _ _ _) _); refine ev_len (by walk_at "mg") ?_)
    | ((with_reducible show Ev _ _ _ _ (.Call (.Name "abs" _) _ _ _) _); refine ev_abs (by walk_at "mg") ?_)
    | ((with_reducible show Ev _ _ _ _ (.Call (.Name "all" _) _ _ _) _); refine ev_all rfl (by walk_at "mg") ?_)
    | ((with_reducible show Ev _ _ _ _ (.Call (.Name "any" _) _ _ _) _); refine ev_any rfl (by walk_at "mg") ?_)
    | ((with_reducible show Ev _ _ _ _ (.Call (.Name "max" _) _ _ _) _); refine ev_max2 rfl (by walk_at "mg") ?_)
    | ((with_reducible show Ev _ _ _ _ (.Call (.Name "min" _) _ _ _) _); refine ev_min2 rfl (by walk_at "mg") ?_)
    | ((with_reducible show Ev _ _ _ _ (.Call (.Name "str" _) _ _ _) _); refine ev_strOf (by walk_at "mg") ?_)
    | ((with_reducible show Ev _ _ _ _ (.Call (.Name "int" _) _ _ _) _); refine ev_intOf (by walk_at "mg") ?_)
    | ((with_reducible show Ev _ _ _ _ (.Call (.Name "list" _) _ _ _) _); refine ev_listOf rfl (by walk_at "mg") ?_)
    | ((with_reducible show Ev _ _ _ _ (.Call (.Name "tuple" _) _ _ _) _); refine ev_tupOf (by walk_at "mg") ?_)
    | ((with_reducible show Ev _ _ _ _ (.Call (.Name "repr" _) _ _ _) _); refine ev_repr (RoomG.mono (by assumption) (Nat.zero_le _)) (by walk_at "mg") ?_)
    | ((with_reducible show Ev _ _ _ _ (.Call (.Attribute _ "startswith" _) _ _ _) _); refine ev_startswith ?_)
    | ((with_reducible show Ev _ _ _ _ (.Call (.Attribute _ "split" _) _ _ _) _); refine ev_split ?_)
    | ((with_reducible show Ev _ _ _ _ (.Call (.Attribute _ "join" _) _ _ _) _); refine ev_join ?_)
    | ((with_reducible show Ev _ _ _ _ (.Call (.Attribute _ "append" _) _ _ _) _); refine ev_append ?_)
    | ((with_reducible show Ev _ _ _ _ (.Call (.Attribute _ "extend" _) _ _ _) _); refine ev_extend ?_)
    | ((with_reducible show Ev _ _ _ _ (.Call (.Attribute _ "pop" _) _ _ _) _); first | refine ev_popAt ?_ | refine ev_pop0 ?_)
    | ((with_reducible show Ev _ _ _ _ (.Call (.Attribute _ "reverse" _) _ _ _) _); refine ev_reverse ?_)
    | ((with_reducible show Ev _ _ _ _ (.Call (.Attribute _ "clear" _) _ _ _) _); refine ev_clear ?_))
  | `(tactic| walk_at "et") => `(tactic| first
    | ((with_reducible show Et _ _ _ _ (.Compare _ [_] _ _) _); first | refine et_isN ?_ | refine et_notN ?_ | refine et_lt ?_ | refine et_le ?_ | refine et_gt ?_ | refine et_ge ?_ | refine et_eq (RoomG.mono (by assumption) (Nat.zero_le _)) ?_ | refine et_ne (RoomG.mono (by assumption) (Nat.zero_le _)) ?_ | refine et_in ?_ | refine et_nin ?_)
    | ((with_reducible show Et _ _ _ _ (.Compare _ [_, _] _ _) _); refine et_chain ord_le ord_le ?_)
    | ((with_reducible show Et _ _ _ _ (.UnaryOp _ _ _) _); refine et_not ?_)
    | ((with_reducible show Et _ _ _ _ (.BoolOp _ _ _) _); first | refine et_w (ew_or ?_) | refine et_w (ew_and ?_))
    | refine et_val ?_)
  | `(tactic| walk_at "es") => `(tactic| first | refine es_pass ?_ | refine es_break ?_ | refine es_continue ?_ | refine es_ret ?_ | refine es_retN ?_ | refine es_if ?_ | refine es_expr ?_)
  | `(tactic| walk_at "da") => `(tactic| first
    | ((with_reducible show BlD _ _); refine d_bl ?_) | ((with_reducible show IntD _ _); refine d_int ?_) | ((with_reducible show StrD _ _); refine d_str ?_) | ((with_reducible show LstD _ _); refine d_lst ?_) | ((with_reducible show TupD _ _); refine d_tup ?_)
    | ((with_reducible show StarD _ _); first | refine d_star ?_ | refine d_starT ?_)
    | ((with_reducible show OrdD _ _ _ _ _); first | refine d_ordI ?_ | refine d_ordS ?_)
    | ((with_reducible show EqD _ _ _); first | refine d_eqI ?_ | refine d_eqS ?_ | refine d_eqB ?_)
    | ((with_reducible show AddD _ _ _); refine d_addI ?_)
    | ((with_reducible show InD _ _ _); refine d_inS ?_)
    | ((with_reducible show SlD _ _ _ _ _); refine d_slL ?_)
    | ((with_reducible show IxD _ _ _ _); first | refine d_ixL (by rfl) ?_ | refine d_ixT (by rfl) ?_)
    | ((with_reducible show LenD _ _ _); first | refine d_lenL ?_ | refine d_lenT ?_ | refine d_lenC ?_)
    | ((with_reducible show StrOfD _ _); refine d_stS ?_)
    | ((with_reducible show Br _ _ _); first | refine brT ?_ | refine brF ?_)
    | ((with_reducible show CPowW 10 _ ∧ _); refine ⟨⟨by decide, by decide, by decide⟩, ?_⟩)
    | ((with_reducible show List.length _ ≤ sizeLine ∧ _); refine ⟨le_line (Nat.le_of_ble_eq_true rfl), ?_⟩))
  | `(tactic| walk_at "st") => `(tactic| first
    | ((with_reducible show Ev _ _ _ _ _ _); walk_at "ev")
    | ((with_reducible show Ess _ _ _ _ _ _); first | refine ess_one ?_ | refine ess_cons ?_ | refine ess_nil ?_)
    | ((with_reducible show Es _ _ _ _ _ _); walk_at "es")
    | ((with_reducible show Et _ _ _ _ _ _); walk_at "et")
    | ((with_reducible show Ew _ _ _ _ _ _); first | refine ew_or1 ?_ | refine ew_and1 ?_ | refine ew_or ?_ | refine ew_and ?_)
    | ((with_reducible show Ea _ _ _ _ _ _); first | refine ea_nil ?_ | refine ea_cons ?_ | refine ea_star ?_)
    | ((with_reducible show Ek _ _ _ _ _ _); first | refine ek_nil ?_ | refine ek_cons ?_)
    | ((with_reducible show Eo _ _ _ _ _ _); first | refine eo_none ?_ | refine eo_some ?_)
    | walk_at "da")
  | `(tactic| walk_at "go") => `(tactic| repeat walk_at "st")
  | `(tactic| walk_at "goE") => `(tactic| repeat (first
    | ((with_reducible show Ev _ _ _ _ _ _); walk_at "ev")
    | ((with_reducible show Ea _ _ _ _ _ _); first | refine ea_nil ?_ | refine ea_cons ?_ | refine ea_star ?_)
    | ((with_reducible show Ek _ _ _ _ _ _); first | refine ek_nil ?_ | refine ek_cons ?_)
    | ((with_reducible show Eo _ _ _ _ _ _); first | refine eo_none ?_ | refine eo_some ?_)
    | walk_at "da"))
  | `(tactic| walk_at "evM") => `(tactic| first
    | ((with_reducible show Ev _ _ _ _ (.List _ _) _); refine ev_lstM ?_)
    | ((with_reducible show Ev _ _ _ _ (.Subscript _ (.Slice _ _ _ _) _) _); refine ev_sliceM ?_))
  | `(tactic| walk_at "goM") => `(tactic| repeat (first | walk_at "evM" | walk_at "st"))
  | `(tactic| walk_at "set") => `(tactic| first
    | refine es_set (i := 0) (Ct.nd (by assumption)) rfl (.inl rfl) (.inr rfl) ?_ | refine es_set (i := 0) (Ct.nd (by assumption)) rfl (.inr rfl) (.inl rfl) ?_
    | refine es_set (i := 1) (Ct.nd (by assumption)) rfl (.inl rfl) (.inr rfl) ?_ | refine es_set (i := 1) (Ct.nd (by assumption)) rfl (.inr rfl) (.inl rfl) ?_
    | refine es_set (i := 2) (Ct.nd (by assumption)) rfl (.inl rfl) (.inr rfl) ?_ | refine es_set (i := 2) (Ct.nd (by assumption)) rfl (.inr rfl) (.inl rfl) ?_
    | refine es_set (i := 3) (Ct.nd (by assumption)) rfl (.inl rfl) (.inr rfl) ?_ | refine es_set (i := 3) (Ct.nd (by assumption)) rfl (.inr rfl) (.inl rfl) ?_
    | refine es_set (i := 4) (Ct.nd (by assumption)) rfl (.inl rfl) (.inr rfl) ?_ | refine es_set (i := 4) (Ct.nd (by assumption)) rfl (.inr rfl) (.inl rfl) ?_
    | refine es_set (i := 5) (Ct.nd (by assumption)) rfl (.inl rfl) (.inr rfl) ?_ | refine es_set (i := 5) (Ct.nd (by assumption)) rfl (.inr rfl) (.inl rfl) ?_
    | refine es_set (i := 6) (Ct.nd (by assumption)) rfl (.inl rfl) (.inr rfl) ?_ | refine es_set (i := 6) (Ct.nd (by assumption)) rfl (.inr rfl) (.inl rfl) ?_
    | refine es_set (i := 7) (Ct.nd (by assumption)) rfl (.inl rfl) (.inr rfl) ?_ | refine es_set (i := 7) (Ct.nd (by assumption)) rfl (.inr rfl) (.inl rfl) ?_
    | refine es_set (i := 8) (Ct.nd (by assumption)) rfl (.inl rfl) (.inr rfl) ?_ | refine es_set (i := 8) (Ct.nd (by assumption)) rfl (.inr rfl) (.inl rfl) ?_
    | refine es_set (i := 9) (Ct.nd (by assumption)) rfl (.inl rfl) (.inr rfl) ?_ | refine es_set (i := 9) (Ct.nd (by assumption)) rfl (.inr rfl) (.inl rfl) ?_
    | refine es_set (i := 10) (Ct.nd (by assumption)) rfl (.inl rfl) (.inr rfl) ?_ | refine es_set (i := 10) (Ct.nd (by assumption)) rfl (.inr rfl) (.inl rfl) ?_
    | refine es_set (i := 11) (Ct.nd (by assumption)) rfl (.inl rfl) (.inr rfl) ?_ | refine es_set (i := 11) (Ct.nd (by assumption)) rfl (.inr rfl) (.inl rfl) ?_
    | refine es_set (i := 12) (Ct.nd (by assumption)) rfl (.inl rfl) (.inr rfl) ?_ | refine es_set (i := 12) (Ct.nd (by assumption)) rfl (.inr rfl) (.inl rfl) ?_
    | refine es_set (i := 13) (Ct.nd (by assumption)) rfl (.inl rfl) (.inr rfl) ?_ | refine es_set (i := 13) (Ct.nd (by assumption)) rfl (.inr rfl) (.inl rfl) ?_
    | refine es_set (i := 14) (Ct.nd (by assumption)) rfl (.inl rfl) (.inr rfl) ?_ | refine es_set (i := 14) (Ct.nd (by assumption)) rfl (.inr rfl) (.inl rfl) ?_
    | refine es_set (i := 15) (Ct.nd (by assumption)) rfl (.inl rfl) (.inr rfl) ?_ | refine es_set (i := 15) (Ct.nd (by assumption)) rfl (.inr rfl) (.inl rfl) ?_
    | refine es_set (i := 16) (Ct.nd (by assumption)) rfl (.inl rfl) (.inr rfl) ?_ | refine es_set (i := 16) (Ct.nd (by assumption)) rfl (.inr rfl) (.inl rfl) ?_
    | refine es_set (i := 17) (Ct.nd (by assumption)) rfl (.inl rfl) (.inr rfl) ?_ | refine es_set (i := 17) (Ct.nd (by assumption)) rfl (.inr rfl) (.inl rfl) ?_
    | refine es_set (i := 18) (Ct.nd (by assumption)) rfl (.inl rfl) (.inr rfl) ?_ | refine es_set (i := 18) (Ct.nd (by assumption)) rfl (.inr rfl) (.inl rfl) ?_
    | refine es_set (i := 19) (Ct.nd (by assumption)) rfl (.inl rfl) (.inr rfl) ?_ | refine es_set (i := 19) (Ct.nd (by assumption)) rfl (.inr rfl) (.inl rfl) ?_
    | refine es_set (i := 20) (Ct.nd (by assumption)) rfl (.inl rfl) (.inr rfl) ?_ | refine es_set (i := 20) (Ct.nd (by assumption)) rfl (.inr rfl) (.inl rfl) ?_
    | refine es_set (i := 21) (Ct.nd (by assumption)) rfl (.inl rfl) (.inr rfl) ?_ | refine es_set (i := 21) (Ct.nd (by assumption)) rfl (.inr rfl) (.inl rfl) ?_
    | refine es_set (i := 22) (Ct.nd (by assumption)) rfl (.inl rfl) (.inr rfl) ?_ | refine es_set (i := 22) (Ct.nd (by assumption)) rfl (.inr rfl) (.inl rfl) ?_
    | refine es_set (i := 23) (Ct.nd (by assumption)) rfl (.inl rfl) (.inr rfl) ?_ | refine es_set (i := 23) (Ct.nd (by assumption)) rfl (.inr rfl) (.inl rfl) ?_)

/-! ### lines -/
theorem join_sub (sep : Str) : ∀ {xs : List Str} {w : Str}, w ∈ xs → w.cps.toList.Sublist (Str.join sep xs).cps.toList
  | [x], w, h => by
    rw [List.mem_singleton.mp h]
    exact List.Sublist.refl _
  | x :: z :: r, w, h => by
    have e : Str.join sep (x :: z :: r) = x ++ sep ++ Str.join sep (z :: r) := rfl
    rw [e, cps_app, cps_app]
    rcases List.mem_cons.mp h with e | h
    · rw [e]
      exact (List.sublist_append_left _ _).trans (List.sublist_append_left _ _)
    · exact (join_sub sep h).trans (List.sublist_append_right _ _)
theorem line_sub {x r : Str} (h : r ∈ Txt.split x "\n") : r.cps.toList.Sublist x.cps.toList := by
  have hj : Str.join "\n" (Txt.split x "\n") = x := StrLaws.join_split x "\n"
  have := join_sub "\n" h
  rwa [hj] at this
theorem linesS_sub {x r : Str} (h : r ∈ linesS x) : r.cps.toList.Sublist x.cps.toList := by
  unfold linesS at h
  split at h
  · cases h
  · exact line_sub h
theorem nl_eq : ("\n" : Str) = ⟨#[10]⟩ := by decide
theorem cnt_count' (k : Nat) (l : List Nat) : PyProof.Rows.cnt k l = (l.count k : Int) := by
  induction l with
  | nil => rfl
  | cons a l ih =>
    rw [PyProof.Rows.cnt_cons, ih, List.count_cons]
    by_cases h : a = k
    · simp [h]
      omega
    · simp [h]
theorem lines_few (x : Str) : (linesS x).length ≤ x.length + 1 := by
  unfold linesS
  split
  · exact Nat.zero_le _
  · have h := PyProof.Rows.split_len x 10
    rw [← nl_eq, cnt_count'] at h
    have h2 := List.count_le_length (a := 10) (l := x.cps.toList)
    rw [← len_toList] at h2
    omega
/-- a text that may be read line by line -/
structure Lp (x : Str) : Prop where
  len : x.length ≤ 300000
  ok : PyData.strOk x = true
  lines : ∀ r ∈ linesS x, ∃ n, Pg n 5000 r ∧ n ≤ 3000
theorem Lp.lok {x : Str} (h : Lp x) : LinesOk x := by
  have h1 := h.len
  have h2 := lines_few x
  refine ⟨by omega, by omega, fun r hr => ?_⟩
  obtain ⟨n, h3, h4⟩ := h.lines r hr
  exact page_text h3 h4
theorem join_count (sep : Str) (hs : sep.cps.toList.count 32 = 0) : ∀ xs : List Str, (Str.join sep xs).cps.toList.count 32 = (xs.map fun x => x.cps.toList.count 32).sum
  | [] => rfl
  | [x] => by simp [Str.join]
  | x :: z :: r => by
    have e : Str.join sep (x :: z :: r) = x ++ sep ++ Str.join sep (z :: r) := rfl
    rw [e, cps_app, cps_app, List.count_append, List.count_append, hs, join_count sep hs (z :: r)]
    simp only [List.map_cons, List.sum_cons]
    omega
theorem sum_le_mul {α : Type} {f : α → Nat} {c : Nat} : ∀ {xs : List α}, (∀ x ∈ xs, f x ≤ c) → (xs.map f).sum ≤ c * xs.length
  | [], _ => Nat.le_refl _
  | x :: xs, h => by
    have h1 := h x List.mem_cons_self
    have h2 := sum_le_mul (xs := xs) fun y hy => h y (List.mem_cons_of_mem _ hy)
    simp only [List.map_cons, List.sum_cons, List.length_cons, Nat.mul_succ]
    omega
theorem page_strOk {rows : List Str} (h : ∀ r ∈ rows, Pg 49 5000 r) : PyData.strOk (Txt.join "\n" rows) = true := by
  rw [TL.join_eq]
  exact strOk_join (by decide +kernel) fun r hr => (h r hr).ok
theorem lp_join {rows : List Str} (h : ∀ r ∈ rows, Pg 49 5000 r) (hl : rows.length ≤ 45) (hs : (Txt.join "\n" rows).length ≤ 4900) : Lp (Txt.join "\n" rows) := by
  have ho := page_strOk h
  have hc := join_count "\n" (by decide +kernel) rows
  have hc2 := sum_le_mul (f := fun x : Str => x.cps.toList.count 32) (c := 49) (xs := rows) fun r hr => (h r hr).few
  rw [← TL.join_eq] at hc
  refine ⟨by omega, ho, fun r hr => ?_⟩
  have sub := linesS_sub hr
  refine ⟨r.cps.toList.count 32, ⟨?_, ?_, Nat.le_refl _⟩, ?_⟩
  · have := sub.length_le
    rw [← len_toList, ← len_toList] at this
    omega
  · exact strOk_mem.mpr fun c hc => strOk_mem.mp ho c (sub.subset hc)
  · have := sub.count_le 32
    omega
/-! ### a page of screens -/
abbrev BkOk (b : Bd) : Prop := BoardOk b.1 b.2.1 b.2.2
theorem bk_bd {b : Bd} (h : BkOk b) : BdOk b := by
  refine ⟨board_screen h, ⟨board_okR h 56, ?_⟩, ?_⟩
  · have := board_sz h
    show szD (boardD b.1 b.2.1 b.2.2) ≤ 4000000
    omega
  · have h1 := sum_words h.ok
    have h2 := h.few
    have h3 := h.l2
    have h4 := h.f.len
    unfold sizeW
    omega
theorem text_pg' {b : Bd} (h : BkOk b) : Pg 22 5000 (bdT b) := by
  have h1 := text_len h
  have h2 := split_count (textS b.1 b.2.1 b.2.2)
  rw [split_text h] at h2
  have h3 := h.few
  have h4 := h.l2
  simp only [List.length_cons] at h2
  exact ⟨h1, text_strOk h, by show List.count 32 (textS b.1 b.2.1 b.2.2).cps.toList ≤ 22; omega⟩
theorem join_free {c : Nat} {sep : Str} (hs : c ∉ sep.cps.toList) : ∀ {xs : List Str}, (∀ x ∈ xs, c ∉ x.cps.toList) → c ∉ (Str.join sep xs).cps.toList
  | [], _ => by
    show c ∉ ([] : List Nat)
    simp
  | [x], h => h x List.mem_cons_self
  | x :: z :: r, h => by
    have e : Str.join sep (x :: z :: r) = x ++ sep ++ Str.join sep (z :: r) := rfl
    rw [e, cps_app, cps_app]
    simp only [List.mem_append, not_or]
    exact ⟨⟨h x List.mem_cons_self, hs⟩, join_free hs fun y hy => h y (List.mem_cons_of_mem _ hy)⟩
theorem letters_free {c : Nat} {w : Str} (h : lettersS w = true) (hc : c < 97) : c ∉ w.cps.toList := fun hm => by
  have := List.all_eq_true.mp h c hm
  simp at this
  omega
theorem num_free : ((List.range 20).all fun i => decide (10 ∉ (strI ((i : Int) + 1)).cps.toList)) = true := by decide +kernel
theorem text_free {b : Bd} (h : BkOk b) : 10 ∉ (bdT b).cps.toList := by
  have e : bdT b = Str.join " " (begS b.1 :: strI b.2.1 :: b.2.2) := TL.join_eq _ _
  rw [e]
  refine join_free (by decide +kernel) fun x hx => ?_
  rcases List.mem_cons.mp hx with rfl | hx
  · unfold begS
    split
    · decide +kernel
    · exact letters_free h.f.let_ (by decide)
  rcases List.mem_cons.mp hx with rfl | hx
  · have h1 := h.l1
    have h2 := h.l2
    have h3 := List.all_eq_true.mp num_free (b.2.1 - 1).toNat (List.mem_range.mpr (by omega))
    have e : (((b.2.1 - 1).toNat : Nat) : Int) + 1 = b.2.1 := by omega
    rw [e] at h3
    exact of_decide_eq_true h3
  · exact letters_free (wordOk_front (h.ok x hx)).let_ (by decide)
theorem page_lines {bs : List Bd} (h : ∀ b ∈ bs, BkOk b) : linesS (pageS bs) = bs.map bdT := by
  cases bs with
  | nil => rfl
  | cons b bs =>
    have hsp : Txt.split (pageS (b :: bs)) "\n" = (b :: bs).map bdT := by
      refine TL.split_join (s := 10) (S := []) (by decide +kernel) (by decide +kernel) (by simp) fun p hp => ?_
      obtain ⟨d, hd, rfl⟩ := List.mem_map.mp hp
      exact text_free (h d hd)
    unfold linesS
    rw [if_neg ?_, hsp]
    intro e
    rw [e] at hsp
    have e2 : Txt.split "" "\n" = [("" : Str)] := by decide +kernel
    rw [e2, List.map_cons] at hsp
    have e3 : ("" : Str) = bdT b := (List.cons.inj hsp).1
    have h1 := read_text (h b List.mem_cons_self)
    have h2 : readS "" = none := by decide +kernel
    rw [show textS b.1 b.2.1 b.2.2 = bdT b from rfl, ← e3, h2] at h1
    cases h1
theorem read_bd {b : Bd} (h : BkOk b) : readS (bdT b) = some b := read_text h
theorem parse_page : ∀ {bs acc : List Bd}, (∀ b ∈ bs, BkOk b) → acc.length + bs.length ≤ 20 → parseL acc (bs.map bdT) = .inr (acc ++ bs)
  | [], acc, _, _ => by
    rw [List.append_nil]
    rfl
  | b :: bs, acc, h, hl => by
    rw [List.length_cons] at hl
    have e : parseL acc ((b :: bs).map bdT) = match readS (bdT b) with
      | none => Sum.inl acc.length
      | some b => if acc.length = 20 then Sum.inl 20 else parseL (acc ++ [b]) (bs.map bdT) := rfl
    rw [e, read_bd (h b List.mem_cons_self)]
    show (if acc.length = 20 then Sum.inl 20 else parseL (acc ++ [b]) (bs.map bdT)) = _
    rw [if_neg (by omega), parse_page (fun x hx => h x (List.mem_cons_of_mem _ hx)) (by rw [List.length_append]; simp; omega), List.append_assoc]
    rfl
theorem parse_ok {bs : List Bd} (h : ∀ b ∈ bs, BkOk b) (hl : bs.length ≤ 20) : parseL [] (linesS (pageS bs)) = .inr bs := by
  rw [page_lines h]
  exact parse_page h (by simpa using hl)
theorem lp_page {bs : List Bd} (h : ∀ b ∈ bs, BkOk b) (hl : bs.length ≤ 20) : Lp (pageS bs) := by
  have e : pageS bs = Str.join "\n" (bs.map bdT) := TL.join_eq _ _
  have h1 := StrLaws.join_length_le "\n" (bs.map bdT)
  have h2 := sum_le_mul (f := fun x : Str => x.length) (c := 5000) (xs := bs.map bdT) fun r hr => by
    obtain ⟨b, hb, rfl⟩ := List.mem_map.mp hr
    exact (text_pg' (h b hb)).len
  have h3 : ("\n" : Str).length = 1 := rfl
  rw [List.length_map] at h2
  refine ⟨?_, ?_, fun r hr => ?_⟩
  · rw [e]
    rw [h3, List.length_map] at h1
    omega
  · rw [e]
    refine strOk_join (by decide +kernel) fun r hr => ?_
    obtain ⟨b, hb, rfl⟩ := List.mem_map.mp hr
    exact (text_pg' (h b hb)).ok
  · rw [page_lines h] at hr
    obtain ⟨b, hb, rfl⟩ := List.mem_map.mp hr
    exact ⟨22, text_pg' (h b hb), by decide⟩
/-! ### the law's readers -/
def longD (d : D) : Bool := match d with
  | .str w => decide (30 < w.length) && lettersS w
  | _ => false
def sIsLong : Spec := fun ds F Φ _ => ∃ x, ds = [.str x] ∧ x.length ≤ 4900 ∧ PyData.strOk x = true ∧ ∀ k, Φ (.bl k) F
theorem repl_len (x : Str) : (Txt.replace x "\n" " ").length ≤ 2 * x.length + 1 := by
  have := TK.replace_len x "\n" " "
  have h : (" " : Str).length = 1 := rfl
  rw [h] at this
  omega
theorem repl_ok {x : Str} (h : PyData.strOk x = true) : PyData.strOk (Txt.replace x "\n" " ") = true := by
  have e := StrLaws.replace_one x " " 10
  rw [← nl_eq] at e
  rw [e]
  refine strOk_join (by decide +kernel) fun r hr => strOk_mem.mpr fun c hc => strOk_mem.mp h c ((line_sub hr).subset hc)
abbrev nIsLong : List Str := ["page", "words", "word"]
theorem scIsLong : FnScope nIsLong ["page"] (defScope (top 43)) := ⟨rfl, rfl, rfl, by decide +kernel, rfl, by decide +kernel, by decide +kernel⟩
theorem okIsLong {W : Wd} (M : Md W) (a : At W "_law_is_long" (top 43)) (hIsLetters : Ok W 1 "_law_is_letters" (top 40) ["word"] sIsLetters) : OkI W 2 "_law_is_long" (top 43) ["page"] sIsLong := by
  refine OkI.of a scIsLong (fun ds F Φ Ψ h => ?_) (fun _ _ _ _ _ _ us hl => match us, hl with | [_], _ => rfl) (fun f cdv A outer s0 H0 E C ds F Φ Ψ h => ?_)
  · obtain ⟨x, rfl, hx, ho, kk⟩ := h
    rfl
  obtain ⟨x, rfl, hx, ho, kk⟩ := h
  have hR := C.room
  refine esst_set (i := 1) (Ct.nd (by assumption)) rfl (.inl rfl) (.inr rfl) ?_
  refine evt_split (evt_replace ?_)
  walk_at "go"
  refine ⟨x, rfl, ?_, ?_⟩
  · have h : (" " : Str).length = 1 := rfl
    rw [h]
    omega
  have rl := repl_len x
  have ro := repl_ok ho
  generalize Txt.replace x "\n" " " = y at rl ro
  have P := split_parts y
  have hok := P.ok ro
  have htot := P.tot
  have hnum := P.num
  have hfew := List.count_le_length (a := 32) (l := y.cps.toList)
  rw [← len_toList] at hfew
  have wl : ∀ w ∈ Txt.split y " ", w.length ≤ 10000 := fun w hw => by
    have := mem_sum (f := fun x : Str => x.length) hw
    omega
  refine ⟨y, rfl, by decide, le_line (by omega), ?_⟩
  walk_at "go"
  refine ev_lcP rfl C.nd (own := [("word", 2)]) (blkOk_by (N := nIsLong) (sc := defScope (top 43)) (by decide +kernel)) longD (fun d => d) (ei_list ?_)
  walk_at "go"
  refine ⟨le_line (by rw [List.length_map]; omega), fun d F2 hd => ⟨_, _, fun s H B cl fp => gc_name (pg_name (i := 2) C.nd rfl (.inl rfl)) (by simp) ⟨rfl, rfl⟩, fun s H B cl fp => ets_one (Et.mono (Φ := fun k F3 => k = longD d ∧ F3 = F2) ?_ (fun k F3 hk => hk)), fun hb s H B cl fp => ?_, fun hb => hb⟩, ?_⟩
  · obtain ⟨w, hw, rfl⟩ := List.mem_map.mp hd
    have w1 := wl w hw
    walk_at "go"
    refine d_lenS (le_line (by omega)) ?_
    walk_at "go"
    refine ⟨fun h => ?_, fun h => ?_⟩
    · have h : 30 < w.length := by
        have := of_decide_eq_true h
        omega
      walk_at "go"
      refine ev_call hIsLetters (C.room.mono (by decide)) rfl ?_
      walk_at "go"
      refine ⟨w, rfl, by omega, hok w hw, ?_⟩
      walk_at "go"
      refine ⟨?_, rfl⟩
      simp [longD, h]
    · have h : ¬ 30 < w.length := by
        have := of_decide_eq_false h
        omega
      refine ⟨?_, rfl⟩
      simp [longD, h]
  · walk_at "go"
    exact ⟨hb, rfl, rfl⟩
  · rw [List.map_id']
    walk_at "go"
    refine EqD.elim_lst ?_ (by decide) ?_
    · simp only [okD, List.all_eq_true, List.mem_filter]
      rintro d ⟨hd, _⟩
      obtain ⟨w, hw, rfl⟩ := List.mem_map.mp hd
      simpa [okD] using hok w hw
    · exact kk _
def sTold (_W : Wd) : Spec := fun ds F Φ _ => ∃ x i, ds = [.str x, .int i] ∧ Lp x ∧ match parseL [] (linesS x) with
  | .inl j => Φ (.lst [.str "line", .int (j : Nat)]) F
  | .inr bs => ∀ l, F l = none → Φ (.lst [.str "fine", .raw (.ref l)]) (updF F l (.lst (bs.map bdD)))
abbrev nTold : List Str := ["page", "way", "e"]
theorem scTold : FnScope nTold ["page", "way"] (defScope (top 44)) := ⟨rfl, rfl, rfl, by decide +kernel, rfl, by decide +kernel, by decide +kernel⟩
theorem okTold {W : Wd} (M : Md W) (a : At W "_law_told" (top 44)) (hParseScreens : Ok W 8 "parse_screens" (top 29) ["text"] (sParseScreens W)) : Ok W 9 "_law_told" (top 44) ["page", "way"] (sTold W) := by
  refine Ok.of a scTold (fun ds F Φ Ψ h => ?_) (fun _ _ _ _ _ _ us hl => match us, hl with | [_, _], _ => rfl) (fun f cdv A outer s0 H0 E C ds F Φ Ψ h => ?_)
  · obtain ⟨x, i, rfl, hx, k⟩ := h
    rfl
  obtain ⟨x, i, rfl, hx, k⟩ := h
  have hR := C.room
  refine ess_one ?_
  refine es_try (fun er ρ' F' => ρ' = [some (.str x), some (.int i), none] ∧ F' = F ∧ ∃ d, er = ⟨clsA W "InvalidText", some ("line", d)⟩ ∧ Φ (.lst [.str "line", d]) F) [(.ref (clsA W "InvalidText"), some 2), (.ref (clsA W "TopMatchesError"), none)] C rfl rfl (.named ⟨rfl, by decide, .inl M.atInvalidText⟩ rfl rfl (.bare ⟨rfl, by decide, .inl M.atTopMatchesError⟩ .nil)) ?_ ?_
  · intro pn xe C2
    have hR2 := C2.room
    walk_at "go"
    have fin : ∀ Φ' : D → FS → Prop, (∀ d F1, Φ (.lst [.str "fine", d]) F1 → Φ' d F1) → sParseScreens W [.str x] F Φ' (fun er F' => enter nTold [.str x, .int i] = [some (.str x), some (.int i), none] ∧ F' = F ∧ ∃ d, er = ⟨clsA W "InvalidText", some ("line", d)⟩ ∧ Φ (.lst [.str "line", d]) F) := fun Φ' hΦ => by
      refine ⟨_, _, rfl, rfl, .inl ⟨x, rfl, hx.lok, ?_⟩⟩
      cases hp : parseL [] (linesS x) with
      | inl j =>
        rw [hp] at k
        exact ⟨rfl, rfl, _, rfl, k⟩
      | inr bs =>
        rw [hp] at k
        exact fun l hl => hΦ _ _ (k l hl)
    refine ⟨fun h => ?_, fun h => ?_⟩
    · refine ev_call hParseScreens (C.room.mono (by decide)) rfl ?_
      walk_at "go"
      refine fin _ fun d F1 h => ?_
      walk_at "go"
      exact h
    · refine ev_callK (ks := ["text"]) (fun {α} xs => xs) permsId hParseScreens (C.room.mono (by decide)) rfl (fun _ _ _ _ _ _ us hl => match us, hl with | [_], _ => rfl) ?_
      walk_at "go"
      refine ⟨rfl, fin _ fun d F1 h => ?_⟩
      walk_at "go"
      exact h
  · rintro er ρ' F' ⟨rfl, rfl, d, rfl, kk⟩
    refine ⟨true, M.xInvalidText_InvalidText, (fun h => by cases h), fun _ a dd hdd => ?_⟩
    intro oe pn hz hf
    obtain ⟨ad, rfl⟩ : ∃ ad, dd = some ad := by
      cases dd with
      | none => cases hdd
      | some ad => exact ⟨ad, rfl⟩
    refine ess_one (es_ret (ev_lst ?_))
    refine ea_cons (ev_str ?_)
    refine ea_cons (ev_xf M.InvalidText.xf M.InvalidText.no hz hf ?_)
    walk_at "go"
    refine ⟨d, rfl, ?_⟩
    walk_at "go"
    exact kk

end TM

set_option Elab.async false
set_option linter.all false
set_option maxRecDepth 100000
set_option maxHeartbeats 4000000
set_option pp.maxSteps 500
namespace TM
open PySem PySem.Spec PyProof.Rows L2
local macro_rules
  | `(tactic| walk_at "iv") => `(tactic| first | exact pv 0 | exact pv 1 | exact pv 2 | exact pv 3 | exact pv 4 | exact pv 5 | exact pv 6 | exact pv 7 | exact pv 8 | exact pv 9 | exact pv 10 | exact pv 11 | exact pv 12 | exact pv 13 | exact pv 14 | exact pv 15 | exact pv 16 | exact pv 17 | exact pv 18 | exact pv 19 | exact pv 20 | exact pv 21 | exact pv 22 | exact pv 23)
  | `(tactic| walk_at "mg") => `(tactic| exact Md.bi (by assumption) _ (by decide))
  | `(tactic| walk_at "ev") => `(tactic| first
    | ((with_reducible show Ev _ _ _ _ (.Name _ _) _); refine ev_var (by walk_at "iv") (by with_unfolding_all rfl) ?_)
    | ((with_reducible show Ev _ _ _ _ (.Constant _ _ _) _); first | refine ev_int ?_ | refine ev_str ?_ | refine ev_bl ?_ | refine ev_non ?_)
    | ((with_reducible show Ev _ _ _ _ (.BinOp (.List _ _) .Mult _ _) _); refine ev_rep ?_)
    | ((with_reducible show Ev _ _ _ _ (.BinOp _ _ _ _) _); first | refine ev_add ?_ | refine ev_sub ?_ | refine ev_mod ?_ | refine ev_fdivW ?_ | refine ev_pow ?_ | refine ev_mul ?_)
    | ((with_reducible show Ev _ _ _ _ (.Compare _ [_] _ _) _); first | refine ev_isN ?_ | refine ev_notN ?_ | refine ev_lt ?_ | refine ev_le ?_ | refine ev_gt ?_ | refine ev_ge ?_ | refine ev_eq (RoomG.mono (by assumption) (Nat.zero_le _)) ?_ | refine ev_ne (RoomG.mono (by assumption) (Nat.zero_le _)) ?_ | refine ev_in ?_ | refine ev_nin ?_)
    | ((with_reducible show Ev _ _ _ _ (.Compare _ _ _ _) _); refine ev_chain ord_le ord_le ?_)
    | ((with_reducible show Ev _ _ _ _ (.BoolOp _ _ _) _); first | refine ev_b1 ?_ | refine ev_and ?_ | refine ev_or ?_)
    | ((with_reducible show Ev _ _ _ _ (.UnaryOp _ _ _) _); first | refine ev_not ?_ | refine ev_neg ?_)
    | ((with_reducible show Ev _ _ _ _ (.IfExp _ _ _ _) _); refine ev_if ?_)
    | ((with_reducible show Ev _ _ _ _ (.Tuple _ _ _) _); refine ev_tup ?_)
    | ((with_reducible show Ev _ _ _ _ (.List _ _) _); refine ev_lst ?_)
    | ((with_reducible show Ev _ _ _ _ (.Dict _ _ _) _); refine ev_dct0 ?_)
    | ((with_reducible show Ev _ _ _ _ (.Subscript _ (.Slice _ _ _ _) _) _); refine ev_slice ?_)
    | ((with_reducible show Ev _ _ _ _ (.Subscript _ _ _) _); refine ev_ix ?_)
    | ((with_reducible show Ev _ _ _ _ (.Call (.Name "isinstance" _) [_, .Name "int" _] _ _) _); refine ev_isInt (by walk_at "mg") (by walk_at "mg") ?_)
    | ((with_reducible show Ev _ _ _ _ (.Call (.Name "isinstance" _) [_, .Name "bool" _] _ _) _); refine ev_isBool (by walk_at "mg") (by walk_at "mg") ?_)
    | ((with_reducible show Ev _ _ _ _ (.Call (.Name "isinstance" _) [_, .Name "str" _] _ _) _); refine ev_isStr (by walk_at "mg") (by walk_at "mg") ?_)
    | ((with_reducible show Ev _ _ _ _ (.Call (.Name "isinstance" _) [_, .Name "list" _] _ _) _); refine ev_isList (by walk_at "mg") (by walk_at "mg") ?_)
    | ((with_reducible show Ev _ _ _ _ (.Call (.Name "isinstance" _) [_, .Name "tuple" _] _ _) _); refine ev_isTup (by walk_at "mg") (by walk_at "mg") ?_)
    | ((with_reducible show Ev _ _ _ _ (.Call (.Name "len" _) [.Call (.Name "set" _) _ _ _] _ _) _); refine ev_lenS rfl (by walk_at "mg") (by walk_at "mg") ?_)
    | ((with_reducible show Ev _ _ _ _ (.Call (.Name "len" _) _ _ _) _); refine ev_len (by walk_at "mg") ?_)
    | ((with_reducible show Ev _ _ _ _ (.Call (.Name "abs" _) _ _ _) _); refine ev_abs (by walk_at "mg") ?_)
    | ((with_reducible show Ev _ _ _ _ (.Call (.Name "all" _) _ _ _) _); refine ev_all rfl (by walk_at "mg") ?_)
    | ((with_reducible show Ev _ _ _ _ (.Call (.Name "any" _) _ _ _) _); refine ev_any rfl (by walk_at "mg") ?_)
    | ((with_reducible show Ev _ _ _ _ (.Call (.Name "max" _) _ _ _) _); refine ev_max2 rfl (by walk_at "mg") ?_)
    | ((with_reducible show Ev _ _ _ _ (.Call (.Name "min" _) _ _ _) _); refine ev_min2 rfl (by walk_at "mg") ?_)
    | ((with_reducible show Ev _ _ _ _ (.Call (.Name "str" _) _ _ _) _); refine ev_strOf (by walk_at "mg") ?_)
    | ((with_reducible show Ev _ _ _ _ (.Call (.Name "int" _) _ _ _) _); refine ev_intOf (by walk_at "mg") ?_)
    | ((with_reducible show Ev _ _ _ _ (.Call (.Name "list" _) _ _ _) _); refine ev_listOf rfl (by walk_at "mg") ?_)
    | ((with_reducible show Ev _ _ _ _ (.Call (.Name "tuple" _) _ _ _) _); refine ev_tupOf (by walk_at "mg") ?_)
    | ((with_reducible show Ev _ _ _ _ (.Call (.Name "repr" _) _ _ _) _); refine ev_repr (RoomG.mono (by assumption) (Nat.zero_le _)) (by walk_at "mg") ?_)
    | ((with_reducible show Ev _ _ _ _ (.Call (.Attribute _ "startswith" _) _ _ _) _); refine ev_startswith ?_)
    | ((with_reducible show Ev _ _ _ _ (.Call (.Attribute _ "split" _) _ _ _) _); refine ev_split ?_)
    | ((with_reducible show Ev _ _ _ _ (.Call (.Attribute _ "join" _) _ _ _) _); refine ev_join ?_)
    | ((with_reducible show Ev _ _ _ _ (.Call (.Attribute _ "append" _) _ _ _) _); refine ev_append ?_)
    | ((with_reducible show Ev _ _ _ _ (.Call (.Attribute _ "extend" _) _ _ _) _); refine ev_extend ?_)
    | ((with_reducible show Ev _ _ _ _ (.Call (.Attribute _ "pop" _) _ _ _) _); first | refine ev_popAt ?_ | refine ev_pop0 ?_)
    | ((with_reducible show Ev _ _ _ _ (.Call (.Attribute _ "reverse" _) _ _ _) _); refine ev_reverse ?_)
    | ((with_reducible show Ev _ _ _ _ (.Call (.Attribute _ "clear" _) _ _ _) _); refine ev_clear ?_))
  | `(tactic| walk_at "et") => `(tactic| first
    | ((with_reducible show Et _ _ _ _ (.Compare _ [_] _ _) _); first | refine et_isN ?_ | refine et_notN ?_ | refine et_lt ?_ | refine et_le ?_ | refine et_gt ?_ | refine et_ge ?_ | refine et_eq (RoomG.mono (by assumption) (Nat.zero_le _)) ?_ | refine et_ne (RoomG.mono (by assumption) (Nat.zero_le _)) ?_ | refine et_in ?_ | refine et_nin ?_)
    | ((with_reducible show Et _ _ _ _ (.Compare _ [_, _] _ _) _); refine et_chain ord_le ord_le ?_)
    | ((with_reducible show Et _ _ _ _ (.UnaryOp _ _ _) _); refine et_not ?_)
    | ((with_reducible show Et _ _ _ _ (.BoolOp _ _ _) _); first | refine et_w (ew_or ?_) | refine et_w (ew_and ?_))
    | refine et_val ?_)
  | `(tactic| walk_at "es") => `(tactic| first | refine es_pass ?_ | refine es_break ?_ | refine es_continue ?_ | refine es_ret ?_ | refine es_retN ?_ | refine es_if ?_ | refine es_expr ?_)
  | `(tactic| walk_at "da") => `(tactic| first
    | ((with_reducible show BlD _ _); refine d_bl ?_) | ((with_reducible show IntD _ _); refine d_int ?_) | ((with_reducible show StrD _ _); refine d_str ?_) | ((with_reducible show LstD _ _); refine d_lst ?_) | ((with_reducible show TupD _ _); refine d_tup ?_)
    | ((with_reducible show StarD _ _); first | refine d_star ?_ | refine d_starT ?_)
    | ((with_reducible show OrdD _ _ _ _ _); first | refine d_ordI ?_ | refine d_ordS ?_)
    | ((with_reducible show EqD _ _ _); first | refine d_eqI ?_ | refine d_eqS ?_ | refine d_eqB ?_)
    | ((with_reducible show AddD _ _ _); refine d_addI ?_)
    | ((with_reducible show InD _ _ _); refine d_inS ?_)
    | ((with_reducible show SlD _ _ _ _ _); refine d_slL ?_)
    | ((with_reducible show IxD _ _ _ _); first | refine d_ixL (by rfl) ?_ | refine d_ixT (by rfl) ?_)
    | ((with_reducible show LenD _ _ _); first | refine d_lenL ?_ | refine d_lenT ?_ | refine d_lenC ?_)
    | ((with_reducible show StrOfD _ _); refine d_stS ?_)
    | ((with_reducible show Br _ _ _); first | refine brT ?_ | refine brF ?_)
    | ((with_reducible show CPowW 10 _ ∧ _); refine ⟨⟨by decide, by decide, by decide⟩, ?_⟩)
    | ((with_reducible show List.length _ ≤ sizeLine ∧ _); refine ⟨le_line (Nat.le_of_ble_eq_true rfl), ?_⟩))
  | `(tactic| walk_at "st") => `(tactic| first
    | ((with_reducible show Ev _ _ _ _ _ _); walk_at "ev")
    | ((with_reducible show Ess _ _ _ _ _ _); first | refine ess_one ?_ | refine ess_cons ?_ | refine ess_nil ?_)
    | ((with_reducible show Es _ _ _ _ _ _); walk_at "es")
    | ((with_reducible show Et _ _ _ _ _ _); walk_at "et")
    | ((with_reducible show Ew _ _ _ _ _ _); first | refine ew_or1 ?_ | refine ew_and1 ?_ | refine ew_or ?_ | refine ew_and ?_)
    | ((with_reducible show Ea _ _ _ _ _ _); first | refine ea_nil ?_ | refine ea_cons ?_ | refine ea_star ?_)
    | ((with_reducible show Ek _ _ _ _ _ _); first | refine ek_nil ?_ | refine ek_cons ?_)
    | ((with_reducible show Eo _ _ _ _ _ _); first | refine eo_none ?_ | refine eo_some ?_)
    | walk_at "da")
  | `(tactic| walk_at "go") => `(tactic| repeat walk_at "st")
  | `(tactic| walk_at "goE") => `(tactic| repeat (first
    | ((with_reducible show Ev _ _ _ _ _ _); walk_at "ev")
    | ((with_reducible show Ea _ _ _ _ _ _); first | refine ea_nil ?_ | refine ea_cons ?_ | refine ea_star ?_)
    | ((with_reducible show Ek _ _ _ _ _ _); first | refine ek_nil ?_ | refine ek_cons ?_)
    | ((with_reducible show Eo _ _ _ _ _ _); first | refine eo_none ?_ | refine eo_some ?_)
    | walk_at "da"))
  | `(tactic| walk_at "evM") => `(tactic| first
    | ((with_reducible show Ev _ _ _ _ (.List _ _) _); refine ev_lstM ?_)
    | ((with_reducible show Ev _ _ _ _ (.Subscript _ (.Slice _ _ _ _) _) _); refine ev_sliceM ?_))
  | `(tactic| walk_at "goM") => `(tactic| repeat (first | walk_at "evM" | walk_at "st"))
  | `(tactic| walk_at "set") => `(tactic| first
    | refine es_set (i := 0) (Ct.nd (by assumption)) rfl (.inl rfl) (.inr rfl) ?_ | refine es_set (i := 0) (Ct.nd (by assumption)) rfl (.inr rfl) (.inl rfl) ?_
    | refine es_set (i := 1) (Ct.nd (by assumption)) rfl (.inl rfl) (.inr rfl) ?_ | refine es_set (i := 1) (Ct.nd (by assumption)) rfl (.inr rfl) (.inl rfl) ?_
    | refine es_set (i := 2) (Ct.nd (by assumption)) rfl (.inl rfl) (.inr rfl) ?_ | refine es_set (i := 2) (Ct.nd (by assumption)) rfl (.inr rfl) (.inl rfl) ?_
    | refine es_set (i := 3) (Ct.nd (by assumption)) rfl (.inl rfl) (.inr rfl) ?_ | refine es_set (i := 3) (Ct.nd (by assumption)) rfl (.inr rfl) (.inl rfl) ?_
    | refine es_set (i := 4) (Ct.nd (by assumption)) rfl (.inl rfl) (.inr rfl) ?_ | refine es_set (i := 4) (Ct.nd (by assumption)) rfl (.inr rfl) (.inl rfl) ?_
    | refine es_set (i := 5) (Ct.nd (by assumption)) rfl (.inl rfl) (.inr rfl) ?_ | refine es_set (i := 5) (Ct.nd (by assumption)) rfl (.inr rfl) (.inl rfl) ?_
    | refine es_set (i := 6) (Ct.nd (by assumption)) rfl (.inl rfl) (.inr rfl) ?_ | refine es_set (i := 6) (Ct.nd (by assumption)) rfl (.inr rfl) (.inl rfl) ?_
    | refine es_set (i := 7) (Ct.nd (by assumption)) rfl (.inl rfl) (.inr rfl) ?_ | refine es_set (i := 7) (Ct.nd (by assumption)) rfl (.inr rfl) (.inl rfl) ?_
    | refine es_set (i := 8) (Ct.nd (by assumption)) rfl (.inl rfl) (.inr rfl) ?_ | refine es_set (i := 8) (Ct.nd (by assumption)) rfl (.inr rfl) (.inl rfl) ?_
    | refine es_set (i := 9) (Ct.nd (by assumption)) rfl (.inl rfl) (.inr rfl) ?_ | refine es_set (i := 9) (Ct.nd (by assumption)) rfl (.inr rfl) (.inl rfl) ?_
    | refine es_set (i := 10) (Ct.nd (by assumption)) rfl (.inl rfl) (.inr rfl) ?_ | refine es_set (i := 10) (Ct.nd (by assumption)) rfl (.inr rfl) (.inl rfl) ?_
    | refine es_set (i := 11) (Ct.nd (by assumption)) rfl (.inl rfl) (.inr rfl) ?_ | refine es_set (i := 11) (Ct.nd (by assumption)) rfl (.inr rfl) (.inl rfl) ?_
    | refine es_set (i := 12) (Ct.nd (by assumption)) rfl (.inl rfl) (.inr rfl) ?_ | refine es_set (i := 12) (Ct.nd (by assumption)) rfl (.inr rfl) (.inl rfl) ?_
    | refine es_set (i := 13) (Ct.nd (by assumption)) rfl (.inl rfl) (.inr rfl) ?_ | refine es_set (i := 13) (Ct.nd (by assumption)) rfl (.inr rfl) (.inl rfl) ?_
    | refine es_set (i := 14) (Ct.nd (by assumption)) rfl (.inl rfl) (.inr rfl) ?_ | refine es_set (i := 14) (Ct.nd (by assumption)) rfl (.inr rfl) (.inl rfl) ?_
    | refine es_set (i := 15) (Ct.nd (by assumption)) rfl (.inl rfl) (.inr rfl) ?_ | refine es_set (i := 15) (Ct.nd (by assumption)) rfl (.inr rfl) (.inl rfl) ?_
    | refine es_set (i := 16) (Ct.nd (by assumption)) rfl (.inl rfl) (.inr rfl) ?_ | refine es_set (i := 16) (Ct.nd (by assumption)) rfl (.inr rfl) (.inl rfl) ?_
    | refine es_set (i := 17) (Ct.nd (by assumption)) rfl (.inl rfl) (.inr rfl) ?_ | refine es_set (i := 17) (Ct.nd (by assumption)) rfl (.inr rfl) (.inl rfl) ?_
    | refine es_set (i := 18) (Ct.nd (by assumption)) rfl (.inl rfl) (.inr rfl) ?_ | refine es_set (i := 18) (Ct.nd (by assumption)) rfl (.inr rfl) (.inl rfl) ?_
    | refine es_set (i := 19) (Ct.nd (by assumption)) rfl (.inl rfl) (.inr rfl) ?_ | refine es_set (i := 19) (Ct.nd (by assumption)) rfl (.inr rfl) (.inl rfl) ?_
    | refine es_set (i := 20) (Ct.nd (by assumption)) rfl (.inl rfl) (.inr rfl) ?_ | refine es_set (i := 20) (Ct.nd (by assumption)) rfl (.inr rfl) (.inl rfl) ?_
    | refine es_set (i := 21) (Ct.nd (by assumption)) rfl (.inl rfl) (.inr rfl) ?_ | refine es_set (i := 21) (Ct.nd (by assumption)) rfl (.inr rfl) (.inl rfl) ?_
    | refine es_set (i := 22) (Ct.nd (by assumption)) rfl (.inl rfl) (.inr rfl) ?_ | refine es_set (i := 22) (Ct.nd (by assumption)) rfl (.inr rfl) (.inl rfl) ?_
    | refine es_set (i := 23) (Ct.nd (by assumption)) rfl (.inl rfl) (.inr rfl) ?_ | refine es_set (i := 23) (Ct.nd (by assumption)) rfl (.inr rfl) (.inl rfl) ?_)

theorem read_some {x b : Str} {n : Int} {ws : List Str} (h : readS x = some (b, n, ws)) : ∃ g0 r, Txt.split x " " = g0 :: r :: ws ∧ (b = "" ∨ b = g0) ∧ 1 ≤ n ∧ n ≤ 20 := by
  obtain ⟨g0, rs, hsp⟩ := split_some x
  cases rs with
  | nil =>
    unfold readS at h
    rw [hsp] at h
    cases h
  | cons r us =>
    by_cases hf : g0 = ""
    · unfold readS at h
      rw [hsp] at h
      subst hf
      cases h
    · rcases readS_cases hsp hf rfl with ⟨m, e, hs, h'⟩ | ⟨_, h'⟩
      · rw [h'] at h
        cases h
        obtain ⟨_, h1, h2, _⟩ := screenD_iff.mp hs
        refine ⟨g0, r, hsp, ?_, h1, h2⟩
        split
        · exact .inl rfl
        · exact .inr rfl
      · rw [h'] at h
        cases h
theorem szDs_txt (ws : List Str) : szDs (ws.map D.str) = 10 * (ws.map (·.length)).sum + 4 * ws.length := by
  induction ws with
  | nil => rfl
  | cons w ws ih =>
    simp only [List.map_cons, szDs, szD, List.sum_cons, List.length_cons, ih]
    omega
theorem read_bdOk {x : Str} {b : Bd} {k : Nat} (hx : Pg k 5000 x) (hk : k ≤ 3000) (h : readS x = some b) : okR 57 (bdD b) = true ∧ szD (bdD b) ≤ 200000 := by
  obtain ⟨b, n, ws⟩ := b
  obtain ⟨g0, r, hsp, hb, h1, h2⟩ := read_some h
  have P := split_parts x
  have hl := hx.len
  have hf := hx.few
  have ok := P.ok hx.ok
  have num := P.num
  have tot := P.tot
  rw [hsp] at ok num tot
  simp only [List.map_cons, List.sum_cons, List.length_cons] at num tot
  have okb : PyData.strOk b = true := by
    rcases hb with rfl | rfl
    · decide +kernel
    · exact ok _ (by simp)
  have lb : b.length ≤ 5000 := by
    rcases hb with rfl | rfl
    · exact Nat.zero_le _
    · omega
  refine ⟨?_, ?_⟩
  · simp only [bdD, okR, List.all_cons, List.all_nil, Bool.and_true, List.all_map, Bool.and_eq_true, List.all_eq_true]
    refine ⟨okb, decide_eq_true (log20 h1 h2), fun w hw => ?_⟩
    simpa [okR] using ok w (by simp [hw])
  · simp only [bdD, szD, szDs, szDs_txt]
    omega
theorem parseL_len : ∀ {rows : List Str} {acc : List Bd}, acc.length ≤ 20 → (∀ j, parseL acc rows = .inl j → j ≤ 20) ∧ ∀ bs, parseL acc rows = .inr bs → bs.length ≤ 20
  | [], acc, h => ⟨fun j e => (by cases e), fun bs e => by
    cases e
    exact h⟩
  | r :: rs, acc, h => by
    have e : parseL acc (r :: rs) = match readS r with
      | none => Sum.inl acc.length
      | some b => if acc.length = 20 then Sum.inl 20 else parseL (acc ++ [b]) rs := rfl
    rw [e]
    cases hr : readS r with
    | none => exact ⟨fun j e => by
        cases e
        exact h, fun bs e => by cases e⟩
    | some b =>
      by_cases h2 : acc.length = 20
      · simp only [if_pos h2]
        exact ⟨fun j e => by
          cases e
          exact Nat.le_refl _, fun bs e => (by cases e)⟩
      · simp only [if_neg h2]
        exact parseL_len (by rw [List.length_append]; simp; omega)
theorem parseL_all {p : Bd → Prop} : ∀ {rows : List Str} {acc : List Bd}, (∀ b ∈ acc, p b) → (∀ r ∈ rows, ∀ b, readS r = some b → p b) → ∀ bs, parseL acc rows = .inr bs → ∀ b ∈ bs, p b
  | [], acc, h, _, bs, e => by
    cases e
    exact h
  | r :: rs, acc, h, hr, bs, e => by
    have e' : parseL acc (r :: rs) = match readS r with
      | none => Sum.inl acc.length
      | some b => if acc.length = 20 then Sum.inl 20 else parseL (acc ++ [b]) rs := rfl
    rw [e'] at e
    cases hrd : readS r with
    | none =>
      rw [hrd] at e
      cases e
    | some b =>
      rw [hrd] at e
      by_cases h2 : acc.length = 20
      · simp only [if_pos h2] at e
        cases e
      · simp only [if_neg h2] at e
        refine parseL_all (fun x hx => ?_) (fun r' hr' => hr r' (List.mem_cons_of_mem _ hr')) bs e
        rcases List.mem_append.mp hx with hx | hx
        · exact h x hx
        · rw [List.mem_singleton.mp hx]
          exact hr r List.mem_cons_self b hrd
theorem szDs_le {c : Nat} : ∀ {bs : List Bd}, (∀ b ∈ bs, szD (bdD b) ≤ c) → szDs (bs.map bdD) ≤ (c + 2) * bs.length
  | [], _ => Nat.le_refl _
  | b :: bs, h => by
    have h1 := h b List.mem_cons_self
    have h2 := szDs_le (bs := bs) fun x hx => h x (List.mem_cons_of_mem _ hx)
    simp only [List.map_cons, szDs, List.length_cons, Nat.mul_succ]
    omega
def dueD (x : Str) : D := match parseL [] (linesS x) with
  | .inl i => .lst [.str "line", .int (i : Nat)]
  | .inr bs => .lst [.str "fine", .lst (bs.map bdD)]
theorem due_ok {x : Str} (hx : Lp x) : okR 59 (dueD x) = true ∧ szD (dueD x) ≤ 4100000 := by
  unfold dueD
  obtain ⟨l1, l2⟩ := parseL_len (rows := linesS x) (acc := []) (by decide)
  cases hp : parseL [] (linesS x) with
  | inl j =>
    have := l1 j hp
    have h9 : ((j : Nat) : Int).natAbs.log2 ≤ ((j : Nat) : Int).natAbs := Nat.log2_le_self _
    have h8 : ((j : Nat) : Int).natAbs = j := Int.natAbs_natCast j
    have e1 : PyData.strOk "line" = true := by decide +kernel
    have e2 : ("line" : Str).length = 4 := rfl
    refine ⟨?_, ?_⟩
    · simp only [okR, List.all_cons, List.all_nil, Bool.and_true, Bool.and_eq_true, decide_eq_true_eq]
      exact ⟨e1, by omega⟩
    · simp only [szD, szDs, e2]
      omega
  | inr bs =>
    have hb := l2 bs hp
    have ha := parseL_all (p := fun b => okR 57 (bdD b) = true ∧ szD (bdD b) ≤ 200000) (fun b hb => by cases hb) (fun r hr b hrd => by
      obtain ⟨n, h1, h2⟩ := hx.lines r hr
      exact read_bdOk h1 h2 hrd) bs hp
    have e1 : PyData.strOk "fine" = true := by decide +kernel
    have e2 : ("fine" : Str).length = 4 := rfl
    refine ⟨?_, ?_⟩
    · simp only [okR, List.all_cons, List.all_nil, Bool.and_true, Bool.and_eq_true, List.all_map, List.all_eq_true]
      exact ⟨e1, fun b hb => (ha b hb).1⟩
    · have h3 := szDs_le fun b hb => (ha b hb).2
      simp only [szD, szDs, e2]
      omega
def sDue : Spec := fun ds F Φ _ => ∃ x, ds = [.str x] ∧ Lp x ∧ Φ (dueD x) F
theorem readD_some {r : Str} {b : Bd} (h : readS r = some b) : readD r = bdD b := by
  unfold readD
  rw [h]
  rfl
abbrev nDue : List Str := ["page", "boards", "spot", "line_here", "board"]
theorem scDue : FnScope nDue ["page"] (defScope (top 45)) := ⟨rfl, rfl, rfl, by decide +kernel, rfl, by decide +kernel, by decide +kernel⟩
theorem okDue {W : Wd} (M : Md W) (a : At W "_law_due" (top 45)) (hRead : Ok W 2 "_law_read" (top 41) ["page"] sRead) : Ok W 3 "_law_due" (top 45) ["page"] sDue := by
  refine Ok.of a scDue (fun ds F Φ Ψ h => ?_) (fun _ _ _ _ _ _ us hl => match us, hl with | [_], _ => rfl) (fun f cdv A outer s0 H0 E C ds F Φ Ψ h => ?_)
  · obtain ⟨x, rfl, hx, kk⟩ := h
    rfl
  obtain ⟨x, rfl, hx, kk⟩ := h
  have hR := C.room
  refine ess_cons ?_
  walk_at "set"
  walk_at "goM"
  intro l hl
  refine ess_cons (es_for C.pass rfl (ei_enum (by walk_at "mg") ?_))
  refine Ev.mono (Φ := fun d F1 => d = .lst ((linesS x).map D.str) ∧ F1 = updF F l (.lst [])) ?_ (fun d F1 hd => ?_)
  · walk_at "go"
    refine ⟨fun h => ?_, fun h => ?_⟩
    · have h : x ≠ "" := by simpa using h
      walk_at "go"
      refine ⟨x, rfl, ?_⟩
      have := hx.len
      walk_at "go"
      refine ⟨"\n", rfl, by decide, le_line (by omega), ?_⟩
      unfold linesS
      rw [if_neg h]
      exact ⟨rfl, rfl⟩
    · have h : x = "" := by simpa using h
      walk_at "go"
      unfold linesS
      rw [if_pos h]
      exact ⟨rfl, rfl⟩
  obtain ⟨rfl, rfl⟩ := hd
  show LstD (D.lst ((linesS x).map D.str)) _
  walk_at "go"
  refine ⟨fun i ρ2 F2 => ∃ (acc : List Bd) (a b c : Option D), acc.length = i ∧ ρ2 = [some (.str x), some (.raw (.ref l)), a, b, c] ∧ F2 = updF F l (.lst (acc.map bdD)) ∧ parseL [] (linesS x) = parseL acc ((linesS x).drop i) ∧ i ≤ 20, ⟨[], none, none, none, rfl, rfl, rfl, rfl, by decide⟩, ?_, ?_⟩
  · rintro i d ρ2 F2 hd ⟨acc, a, b, c, ha, rfl, rfl, hp, hi⟩
    obtain ⟨d2, hd2, rfl⟩ := enumD_get hd
    rw [List.getElem?_map] at hd2
    obtain ⟨r, hr, rfl⟩ : ∃ r, (linesS x)[i]? = some r ∧ d2 = .str r := by
      cases e : (linesS x)[i]? with
      | none =>
        rw [e] at hd2
        cases hd2
      | some r =>
        rw [e] at hd2
        exact ⟨r, rfl, (Option.some.inj hd2).symm⟩
    rw [parseL_step hr ha] at hp
    obtain ⟨n, hpg, hn⟩ := hx.lines r (List.mem_of_getElem? hr)
    refine eg_tup rfl ?_
    refine ⟨rfl, egs_cons (eg_name (pg_name (i := 2) C.nd rfl (by first | exact .inl rfl | exact .inr rfl)) (egs_cons (eg_name (pg_name (i := 3) C.nd rfl (by first | exact .inl rfl | exact .inr rfl)) (egs_nil ?_))))⟩
    refine ess_cons ?_
    walk_at "set"
    refine ev_call hRead (C.room.mono (by decide)) rfl ?_
    walk_at "go"
    refine ⟨r, n, rfl, hpg, hn, ?_⟩
    have back : ∀ j, parseL [] (linesS x) = .inl j → Φ (.lst [.str "line", .int (j : Nat)]) F := fun j e => by
      unfold dueD at kk
      rw [e] at kk
      exact kk
    cases hrd : readS r with
    | none =>
      rw [hrd] at hp
      have er : readD r = .non := by
        unfold readD
        rw [hrd]
      rw [er]
      refine ess_less (upd_more hl) ?_
      walk_at "go"
      exact back _ hp
    | some bb =>
      rw [readD_some hrd]
      obtain ⟨b1, n1, ws1⟩ := bb
      rw [hrd] at hp
      unfold bdD
      walk_at "go"
      refine ⟨fun h => ?_, fun h => ?_⟩
      · have h : i = 20 := by
          have := of_decide_eq_true h
          omega
        subst h
        refine ess_less (upd_more hl) ?_
        walk_at "go"
        exact back _ hp
      · have h : i ≠ 20 := by
          have := of_decide_eq_false h
          omega
        walk_at "go"
        refine ⟨⟨l, _, rfl, updF_same⟩, ?_⟩
        walk_at "go"
        refine ⟨l, _, rfl, updF_same, le_line_lt' (by rw [List.length_map]; omega), ?_⟩
        walk_at "go"
        refine ⟨acc ++ [(b1, n1, ws1)], _, _, _, by rw [List.length_append, ha]; rfl, rfl, ?_, ?_, by omega⟩
        · rw [updF_updF, List.map_append]
          rfl
        · rw [hp]
          exact if_neg h
  · rintro ρ2 F2 ⟨acc, a, b, c, ha, rfl, rfl, hp, hi⟩
    rw [enumD_len, List.length_map, List.drop_length] at hp
    refine ess_frz 1 rfl updF_same ?_
    rw [delF_updF hl]
    walk_at "go"
    unfold dueD at kk
    rw [hp] at kk
    exact kk
def sRight (_W : Wd) : Spec := fun ds F Φ _ => ∃ x, ds = [.str x] ∧ Lp x ∧ Φ (.bl true) F
theorem lend_fine (l : Addr) (bs : List Bd) : lend (one1 l (bs.map bdD)) (.lst [.str "fine", .raw (.ref l)]) = .lst [.str "fine", .lst (bs.map bdD)] := by simp [lend, lends, one1]
/-- told, its list changed no more -/
theorem ev_told {X : Cx} {Ψ : XP} {ρ : En} {F : FS} {e : Expr} {x : Str} {Φ : D → FS → Prop} (h : ∀ Φ' : D → FS → Prop, (match parseL [] (linesS x) with
  | .inl j => Φ' (.lst [.str "line", .int (j : Nat)]) F
  | .inr bs => ∀ l, F l = none → Φ' (.lst [.str "fine", .raw (.ref l)]) (updF F l (.lst (bs.map bdD)))) → Ev X Ψ ρ F e Φ') (k : Φ (dueD x) F) : Ev X Ψ ρ F e Φ := by
  unfold dueD at k
  cases hp : parseL [] (linesS x) with
  | inl j =>
    rw [hp] at k h
    exact h Φ k
  | inr bs =>
    rw [hp] at k h
    refine ev_frzD (h _ fun l hl => ⟨l, _, updF_same, ?_⟩)
    rw [lend_fine, delF_updF hl]
    exact k
abbrev nRight : List Str := ["page", "due"]
theorem scRight : FnScope nRight ["page"] (defScope (top 46)) := ⟨rfl, rfl, rfl, by decide +kernel, rfl, by decide +kernel, by decide +kernel⟩
theorem okRight {W : Wd} (M : Md W) (a : At W "_law_right" (top 46)) (hDue : Ok W 3 "_law_due" (top 45) ["page"] sDue) (hTold : Ok W 9 "_law_told" (top 44) ["page", "way"] (sTold W)) : Ok W 10 "_law_right" (top 46) ["page"] (sRight W) := by
  refine Ok.of a scRight (fun ds F Φ Ψ h => ?_) (fun _ _ _ _ _ _ us hl => match us, hl with | [_], _ => rfl) (fun f cdv A outer s0 H0 E C ds F Φ Ψ h => ?_)
  · obtain ⟨x, rfl, hx, kk⟩ := h
    rfl
  obtain ⟨x, rfl, hx, kk⟩ := h
  have hR := C.room
  refine ess_cons ?_
  walk_at "set"
  refine ev_call hDue (C.room.mono (by decide)) rfl ?_
  walk_at "go"
  refine ⟨x, rfl, hx, ?_⟩
  obtain ⟨o1, o2⟩ := due_ok hx
  have okL : okR 60 (.lst [dueD x, dueD x]) = true := by
    simp only [okR, List.all_cons, List.all_nil, Bool.and_true, Bool.and_eq_true]
    exact ⟨o1, o1⟩
  have szL : szD (.lst [dueD x, dueD x]) ≤ sizeLine := by
    have e : szD (.lst [dueD x, dueD x]) = szD (dueD x) + 2 + (szD (dueD x) + 2 + 0) + 4 := by simp only [szD, szDs]
    rw [e]
    exact le_line (by omega)
  generalize hdd : dueD x = dd at okL szL
  walk_at "go"
  refine ev_told (x := x) (fun Φ' h => ?_) ?_
  · refine ev_call hTold (C.room.mono (by decide)) rfl ?_
    walk_at "go"
    exact ⟨x, 0, rfl, hx, h⟩
  rw [hdd]
  walk_at "go"
  refine ev_told (x := x) (fun Φ' h => ?_) ?_
  · refine ev_call hTold (C.room.mono (by decide)) rfl ?_
    walk_at "go"
    exact ⟨x, 1, rfl, hx, h⟩
  rw [hdd]
  walk_at "go"
  refine ⟨rfl, okL, szL, ?_⟩
  walk_at "go"
  refine ⟨rfl, okL, szL, ?_⟩
  walk_at "go"
  rw [decide_eq_true rfl]
  exact kk

end TM

set_option Elab.async false
set_option linter.all false
set_option maxRecDepth 100000
set_option maxHeartbeats 4000000
set_option pp.maxSteps 500
namespace TM
open PySem PySem.Spec PyProof.Rows L2
local macro_rules
  | `(tactic| walk_at "iv") => `(tactic| first | exact pv 0 | exact pv 1 | exact pv 2 | exact pv 3 | exact pv 4 | exact pv 5 | exact pv 6 | exact pv 7 | exact pv 8 | exact pv 9 | exact pv 10 | exact pv 11 | exact pv 12 | exact pv 13 | exact pv 14 | exact pv 15 | exact pv 16 | exact pv 17 | exact pv 18 | exact pv 19 | exact pv 20 | exact pv 21 | exact pv 22 | exact pv 23)
  | `(tactic| walk_at "mg") => `(tactic| exact Md.bi (by assumption) _ (by decide))
  | `(tactic| walk_at "ev") => `(tactic| first
    | ((with_reducible show Ev _ _ _ _ (.Name _ _) _); refine ev_var (by walk_at "iv") (by with_unfolding_all rfl) ?_)
    | ((with_reducible show Ev _ _ _ _ (.Constant _ _ _) _); first | refine ev_int ?_ | refine ev_str ?_ | refine ev_bl ?_ | refine ev_non ?_)
    | ((with_reducible show Ev _ _ _ _ (.BinOp (.List _ _) .Mult _ _) _); refine ev_rep ?_)
    | ((with_reducible show Ev _ _ _ _ (.BinOp _ _ _ _) _); first | refine ev_add ?_ | refine ev_sub ?_ | refine ev_mod ?_ | refine ev_fdivW ?_ | refine ev_pow ?_ | refine ev_mul ?_)
    | ((with_reducible show Ev _ _ _ _ (.Compare _ [_] _ _) _); first | refine ev_isN ?_ | refine ev_notN ?_ | refine ev_lt ?_ | refine ev_le ?_ | refine ev_gt ?_ | refine ev_ge ?_ | refine ev_eq (RoomG.mono (by assumption) (Nat.zero_le _)) ?_ | refine ev_ne (RoomG.mono (by assumption) (Nat.zero_le _)) ?_ | refine ev_in ?_ | refine ev_nin ?_)
    | ((with_reducible show Ev _ _ _ _ (.Compare _ _ _ _) _); refine ev_chain ord_le ord_le ?_)
    | ((with_reducible show Ev _ _ _ _ (.BoolOp _ _ _) _); first | refine ev_b1 ?_ | refine ev_and ?_ | refine ev_or ?_)
    | ((with_reducible show Ev _ _ _ _ (.UnaryOp _ _ _) _); first | refine ev_not ?_ | refine ev_neg ?_)
    | ((with_reducible show Ev _ _ _ _ (.IfExp _ _ _ _) _); refine ev_if ?_)
    | ((with_reducible show Ev _ _ _ _ (.Tuple _ _ _) _); refine ev_tup ?_)
    | ((with_reducible show Ev _ _ _ _ (.List _ _) _); refine ev_lst ?_)
    | ((with_reducible show Ev _ _ _ _ (.Dict _ _ _) _); refine ev_dct0 ?_)
    | ((with_reducible show Ev _ _ _ _ (.Subscript _ (.Slice _ _ _ _) _) _); refine ev_slice ?_)
    | ((with_reducible show Ev _ _ _ _ (.Subscript _ _ _) _); refine ev_ix ?_)
    | ((with_reducible show Ev _ _ _ _ (.Call (.Name "isinstance" _) [_, .Name "int" _] _ _) _); refine ev_isInt (by walk_at "mg") (by walk_at "mg") ?_)
    | ((with_reducible show Ev _ _ _ _ (.Call (.Name "isinstance" _) [_, .Name "bool" _] _ _) _); refine ev_isBool (by walk_at "mg") (by walk_at "mg") ?_)
    | ((with_reducible show Ev _ _ _ _ (.Call (.Name "isinstance" _) [_, .Name "str" _] _ _) _); refine ev_isStr (by walk_at "mg") (by walk_at "mg") ?_)
    | ((with_reducible show Ev _ _ _ _ (.Call (.Name "isinstance" _) [_, .Name "list" _] _ _) _); refine ev_isList (by walk_at "mg") (by walk_at "mg") ?_)
    | ((with_reducible show Ev _ _ _ _ (.Call (.Name "isinstance" _) [_, .Name "tuple" _] _ _) _); refine ev_isTup (by walk_at "mg") (by walk_at "mg") ?_)
    | ((with_reducible show Ev _ _ _ _ (.Call (.Name "len" _) [.Call (.Name "set" _) _ _ _] _ _) _); refine ev_lenS rfl (by walk_at "mg") (by walk_at "mg") ?_)
    | ((with_reducible show Ev _ _ _ _ (.Call (.Name "len" _) _ _ _) _); refine ev_len (by walk_at "mg") ?_)
    | ((with_reducible show Ev _ _ _ _ (.Call (.Name "abs" _) _ _ _) _); refine ev_abs (by walk_at "mg") ?_)
    | ((with_reducible show Ev _ _ _ _ (.Call (.Name "all" _) _ _ _) _); refine ev_all rfl (by walk_at "mg") ?_)
    | ((with_reducible show Ev _ _ _ _ (.Call (.Name "any" _) _ _ _) _); refine ev_any rfl (by walk_at "mg") ?_)
    | ((with_reducible show Ev _ _ _ _ (.Call (.Name "max" _) _ _ _) _); refine ev_max2 rfl (by walk_at "mg") ?_)
    | ((with_reducible show Ev _ _ _ _ (.Call (.Name "min" _) _ _ _) _); refine ev_min2 rfl (by walk_at "mg") ?_)
    | ((with_reducible show Ev _ _ _ _ (.Call (.Name "str" _) _ _ _) _); refine ev_strOf (by walk_at "mg") ?_)
    | ((with_reducible show Ev _ _ _ _ (.Call (.Name "int" _) _ _ _) _); refine ev_intOf (by walk_at "mg") ?_)
    | ((with_reducible show Ev _ _ _ _ (.Call (.Name "list" _) _ _ _) _); refine ev_listOf rfl (by walk_at "mg") ?_)
    | ((with_reducible show Ev _ _ _ _ (.Call (.Name "tuple" _) _ _ _) _); refine ev_tupOf (by walk_at "mg") ?_)
    | ((with_reducible show Ev _ _ _ _ (.Call (.Name "repr" _) _ _ _) _); refine ev_repr (RoomG.mono (by assumption) (Nat.zero_le _)) (by walk_at "mg") ?_)
    | ((with_reducible show Ev _ _ _ _ (.Call (.Attribute _ "startswith" _) _ _ _) _); refine ev_startswith ?_)
    | ((with_reducible show Ev _ _ _ _ (.Call (.Attribute _ "split" _) _ _ _) _); refine ev_split ?_)
    | ((with_reducible show Ev _ _ _ _ (.Call (.Attribute _ "join" _) _ _ _) _); refine ev_join ?_)
    | ((with_reducible show Ev _ _ _ _ (.Call (.Attribute _ "append" _) _ _ _) _); refine ev_append ?_)
    | ((with_reducible show Ev _ _ _ _ (.Call (.Attribute _ "extend" _) _ _ _) _); refine ev_extend ?_)
    | ((with_reducible show Ev _ _ _ _ (.Call (.Attribute _ "pop" _) _ _ _) _); first | refine ev_popAt ?_ | refine ev_pop0 ?_)
    | ((with_reducible show Ev _ _ _ _ (.Call (.Attribute _ "reverse" _) _ _ _) _); refine ev_reverse ?_)
    | ((with_reducible show Ev _ _ _ _ (.Call (.Attribute _ "clear" _) _ _ _) _); refine ev_clear ?_))
  | `(tactic| walk_at "et") => `(tactic| first
    | ((with_reducible show Et _ _ _ _ (.Compare _ [_] _ _) _); first | refine et_isN ?_ | refine et_notN ?_ | refine et_lt ?_ | refine et_le ?_ | refine et_gt ?_ | refine et_ge ?_ | refine et_eq (RoomG.mono (by assumption) (Nat.zero_le _)) ?_ | refine et_ne (RoomG.mono (by assumption) (Nat.zero_le _)) ?_ | refine et_in ?_ | refine et_nin ?_)
    | ((with_reducible show Et _ _ _ _ (.Compare _ [_, _] _ _) _); refine et_chain ord_le ord_le ?_)
    | ((with_reducible show Et _ _ _ _ (.UnaryOp _ _ _) _); refine et_not ?_)
    | ((with_reducible show Et _ _ _ _ (.BoolOp _ _ _) _); first | refine et_w (ew_or ?_) | refine et_w (ew_and ?_))
    | refine et_val ?_)
  | `(tactic| walk_at "es") => `(tactic| first | refine es_pass ?_ | refine es_break ?_ | refine es_continue ?_ | refine es_ret ?_ | refine es_retN ?_ | refine es_if ?_ | refine es_expr ?_)
  | `(tactic| walk_at "da") => `(tactic| first
    | ((with_reducible show BlD _ _); refine d_bl ?_) | ((with_reducible show IntD _ _); refine d_int ?_) | ((with_reducible show StrD _ _); refine d_str ?_) | ((with_reducible show LstD _ _); refine d_lst ?_) | ((with_reducible show TupD _ _); refine d_tup ?_)
    | ((with_reducible show StarD _ _); first | refine d_star ?_ | refine d_starT ?_)
    | ((with_reducible show OrdD _ _ _ _ _); first | refine d_ordI ?_ | refine d_ordS ?_)
    | ((with_reducible show EqD _ _ _); first | refine d_eqI ?_ | refine d_eqS ?_ | refine d_eqB ?_)
    | ((with_reducible show AddD _ _ _); refine d_addI ?_)
    | ((with_reducible show InD _ _ _); refine d_inS ?_)
    | ((with_reducible show SlD _ _ _ _ _); refine d_slL ?_)
    | ((with_reducible show IxD _ _ _ _); first | refine d_ixL (by rfl) ?_ | refine d_ixT (by rfl) ?_)
    | ((with_reducible show LenD _ _ _); first | refine d_lenL ?_ | refine d_lenT ?_ | refine d_lenC ?_)
    | ((with_reducible show StrOfD _ _); refine d_stS ?_)
    | ((with_reducible show Br _ _ _); first | refine brT ?_ | refine brF ?_)
    | ((with_reducible show CPowW 10 _ ∧ _); refine ⟨⟨by decide, by decide, by decide⟩, ?_⟩)
    | ((with_reducible show List.length _ ≤ sizeLine ∧ _); refine ⟨le_line (Nat.le_of_ble_eq_true rfl), ?_⟩))
  | `(tactic| walk_at "st") => `(tactic| first
    | ((with_reducible show Ev _ _ _ _ _ _); walk_at "ev")
    | ((with_reducible show Ess _ _ _ _ _ _); first | refine ess_one ?_ | refine ess_cons ?_ | refine ess_nil ?_)
    | ((with_reducible show Es _ _ _ _ _ _); walk_at "es")
    | ((with_reducible show Et _ _ _ _ _ _); walk_at "et")
    | ((with_reducible show Ew _ _ _ _ _ _); first | refine ew_or1 ?_ | refine ew_and1 ?_ | refine ew_or ?_ | refine ew_and ?_)
    | ((with_reducible show Ea _ _ _ _ _ _); first | refine ea_nil ?_ | refine ea_cons ?_ | refine ea_star ?_)
    | ((with_reducible show Ek _ _ _ _ _ _); first | refine ek_nil ?_ | refine ek_cons ?_)
    | ((with_reducible show Eo _ _ _ _ _ _); first | refine eo_none ?_ | refine eo_some ?_)
    | walk_at "da")
  | `(tactic| walk_at "go") => `(tactic| repeat walk_at "st")
  | `(tactic| walk_at "goE") => `(tactic| repeat (first
    | ((with_reducible show Ev _ _ _ _ _ _); walk_at "ev")
    | ((with_reducible show Ea _ _ _ _ _ _); first | refine ea_nil ?_ | refine ea_cons ?_ | refine ea_star ?_)
    | ((with_reducible show Ek _ _ _ _ _ _); first | refine ek_nil ?_ | refine ek_cons ?_)
    | ((with_reducible show Eo _ _ _ _ _ _); first | refine eo_none ?_ | refine eo_some ?_)
    | walk_at "da"))
  | `(tactic| walk_at "evM") => `(tactic| first
    | ((with_reducible show Ev _ _ _ _ (.List _ _) _); refine ev_lstM ?_)
    | ((with_reducible show Ev _ _ _ _ (.Subscript _ (.Slice _ _ _ _) _) _); refine ev_sliceM ?_))
  | `(tactic| walk_at "goM") => `(tactic| repeat (first | walk_at "evM" | walk_at "st"))
  | `(tactic| walk_at "set") => `(tactic| first
    | refine es_set (i := 0) (Ct.nd (by assumption)) rfl (.inl rfl) (.inr rfl) ?_ | refine es_set (i := 0) (Ct.nd (by assumption)) rfl (.inr rfl) (.inl rfl) ?_
    | refine es_set (i := 1) (Ct.nd (by assumption)) rfl (.inl rfl) (.inr rfl) ?_ | refine es_set (i := 1) (Ct.nd (by assumption)) rfl (.inr rfl) (.inl rfl) ?_
    | refine es_set (i := 2) (Ct.nd (by assumption)) rfl (.inl rfl) (.inr rfl) ?_ | refine es_set (i := 2) (Ct.nd (by assumption)) rfl (.inr rfl) (.inl rfl) ?_
    | refine es_set (i := 3) (Ct.nd (by assumption)) rfl (.inl rfl) (.inr rfl) ?_ | refine es_set (i := 3) (Ct.nd (by assumption)) rfl (.inr rfl) (.inl rfl) ?_
    | refine es_set (i := 4) (Ct.nd (by assumption)) rfl (.inl rfl) (.inr rfl) ?_ | refine es_set (i := 4) (Ct.nd (by assumption)) rfl (.inr rfl) (.inl rfl) ?_
    | refine es_set (i := 5) (Ct.nd (by assumption)) rfl (.inl rfl) (.inr rfl) ?_ | refine es_set (i := 5) (Ct.nd (by assumption)) rfl (.inr rfl) (.inl rfl) ?_
    | refine es_set (i := 6) (Ct.nd (by assumption)) rfl (.inl rfl) (.inr rfl) ?_ | refine es_set (i := 6) (Ct.nd (by assumption)) rfl (.inr rfl) (.inl rfl) ?_
    | refine es_set (i := 7) (Ct.nd (by assumption)) rfl (.inl rfl) (.inr rfl) ?_ | refine es_set (i := 7) (Ct.nd (by assumption)) rfl (.inr rfl) (.inl rfl) ?_
    | refine es_set (i := 8) (Ct.nd (by assumption)) rfl (.inl rfl) (.inr rfl) ?_ | refine es_set (i := 8) (Ct.nd (by assumption)) rfl (.inr rfl) (.inl rfl) ?_
    | refine es_set (i := 9) (Ct.nd (by assumption)) rfl (.inl rfl) (.inr rfl) ?_ | refine es_set (i := 9) (Ct.nd (by assumption)) rfl (.inr rfl) (.inl rfl) ?_
    | refine es_set (i := 10) (Ct.nd (by assumption)) rfl (.inl rfl) (.inr rfl) ?_ | refine es_set (i := 10) (Ct.nd (by assumption)) rfl (.inr rfl) (.inl rfl) ?_
    | refine es_set (i := 11) (Ct.nd (by assumption)) rfl (.inl rfl) (.inr rfl) ?_ | refine es_set (i := 11) (Ct.nd (by assumption)) rfl (.inr rfl) (.inl rfl) ?_
    | refine es_set (i := 12) (Ct.nd (by assumption)) rfl (.inl rfl) (.inr rfl) ?_ | refine es_set (i := 12) (Ct.nd (by assumption)) rfl (.inr rfl) (.inl rfl) ?_
    | refine es_set (i := 13) (Ct.nd (by assumption)) rfl (.inl rfl) (.inr rfl) ?_ | refine es_set (i := 13) (Ct.nd (by assumption)) rfl (.inr rfl) (.inl rfl) ?_
    | refine es_set (i := 14) (Ct.nd (by assumption)) rfl (.inl rfl) (.inr rfl) ?_ | refine es_set (i := 14) (Ct.nd (by assumption)) rfl (.inr rfl) (.inl rfl) ?_
    | refine es_set (i := 15) (Ct.nd (by assumption)) rfl (.inl rfl) (.inr rfl) ?_ | refine es_set (i := 15) (Ct.nd (by assumption)) rfl (.inr rfl) (.inl rfl) ?_
    | refine es_set (i := 16) (Ct.nd (by assumption)) rfl (.inl rfl) (.inr rfl) ?_ | refine es_set (i := 16) (Ct.nd (by assumption)) rfl (.inr rfl) (.inl rfl) ?_
    | refine es_set (i := 17) (Ct.nd (by assumption)) rfl (.inl rfl) (.inr rfl) ?_ | refine es_set (i := 17) (Ct.nd (by assumption)) rfl (.inr rfl) (.inl rfl) ?_
    | refine es_set (i := 18) (Ct.nd (by assumption)) rfl (.inl rfl) (.inr rfl) ?_ | refine es_set (i := 18) (Ct.nd (by assumption)) rfl (.inr rfl) (.inl rfl) ?_
    | refine es_set (i := 19) (Ct.nd (by assumption)) rfl (.inl rfl) (.inr rfl) ?_ | refine es_set (i := 19) (Ct.nd (by assumption)) rfl (.inr rfl) (.inl rfl) ?_
    | refine es_set (i := 20) (Ct.nd (by assumption)) rfl (.inl rfl) (.inr rfl) ?_ | refine es_set (i := 20) (Ct.nd (by assumption)) rfl (.inr rfl) (.inl rfl) ?_
    | refine es_set (i := 21) (Ct.nd (by assumption)) rfl (.inl rfl) (.inr rfl) ?_ | refine es_set (i := 21) (Ct.nd (by assumption)) rfl (.inr rfl) (.inl rfl) ?_
    | refine es_set (i := 22) (Ct.nd (by assumption)) rfl (.inl rfl) (.inr rfl) ?_ | refine es_set (i := 22) (Ct.nd (by assumption)) rfl (.inr rfl) (.inl rfl) ?_
    | refine es_set (i := 23) (Ct.nd (by assumption)) rfl (.inl rfl) (.inr rfl) ?_ | refine es_set (i := 23) (Ct.nd (by assumption)) rfl (.inr rfl) (.inl rfl) ?_)

theorem lcOk_draws {X : Cx} {scope : Scope} {vs : List Nat} {tg : Expr} {elt : Expr} {ρ : En} {F1 : FS} {Φ : Addr → List D → FS → Prop} {p : Addr} {b n c : Int} {k : Nat} (R : D → Prop) (hk : k ≤ 1000000) (hc : 0 ≤ c) (hn : n + c * k ≤ 1000000000) (hp : PW p b n F1)
    (step : ∀ (i : Nat) F2, i < k → PW p b (n + c * i) F2 → Turn X scope vs tg [] elt ρ (.int (i : Nat)) F2 False (fun y F5 => ∃ mo : MO, R y ∧ PW p b (n + c * i + c) (updF F2 p mo) ∧ F5 = updF F2 p mo))
    (last : ∀ L acc F2, acc.length = k → (∀ y ∈ acc, R y) → PW p b (n + c * k) F2 → F2 L = some (.lst acc) → F1 L = none → Φ L acc F2) : LcOk X scope vs tg [] elt ρ F1 (rangeD 0 k) Φ := by
  refine ⟨fun L i acc F2 => F1 L = none ∧ acc.length = i ∧ (∀ y ∈ acc, R y) ∧ PW p b (n + c * i) F2 ∧ L ≠ p, fun L hL => ?_, ?_, ?_⟩
  · obtain ⟨m, hm⟩ := hp.has
    have n1 : L ≠ p := fun e => by
      rw [e, hm] at hL
      cases hL
    refine ⟨hL, rfl, fun y hy => (by cases hy), ?_, n1⟩
    have := hp.ne (q := L) (m := .lst []) (Ne.symm n1)
    simpa using this
  · rintro L i d acc F2 hd ⟨hL0, hal, hR, hpw, n1⟩ hL
    obtain ⟨hi, rfl⟩ := rangeD_get hd
    rw [Int.zero_add]
    obtain ⟨ρ3, bb, hG, hT, hE⟩ := step i F2 hi hpw
    refine ⟨ρ3, bb, hG, hT, fun hb s H C cl fp => (hE.1 hb s H C cl fp).mono fun y F5 hy => ?_, fun hb => (hE.2 hb).elim⟩
    obtain ⟨mo, hy, hpw2, rfl⟩ := hy
    refine ⟨by rw [updF_ne n1]; exact hL, by rw [sizeLine_eq]; omega, hL0, by rw [List.length_append, hal]; rfl, fun z hz => ?_, ?_, n1⟩
    · rcases List.mem_append.mp hz with hz | hz
      · exact hR z hz
      · rw [List.mem_singleton.mp hz]
        exact hy
    · have e : n + c * ((i + 1 : Nat) : Int) = n + c * i + c := by
        have : ((i + 1 : Nat) : Int) = (i : Int) + 1 := by omega
        rw [this, Int.mul_add, Int.mul_one, Int.add_assoc]
      rw [e]
      exact hpw2.ne (Ne.symm n1)
  · rintro L acc F2 ⟨hL0, hal, hR, hpw, n1⟩ hL
    rw [rangeD_len] at hal hpw
    exact last L acc F2 hal hR hpw hL hL0
theorem bds_of : ∀ {acc : List D}, (∀ y ∈ acc, ∃ b : Bd, y = bdD b ∧ BkOk b) → ∃ bs : List Bd, acc = bs.map bdD ∧ ∀ b ∈ bs, BkOk b
  | [], _ => ⟨[], rfl, fun b hb => by cases hb⟩
  | y :: acc, h => by
    obtain ⟨b, rfl, hb⟩ := h y List.mem_cons_self
    obtain ⟨bs, rfl, hbs⟩ := bds_of (acc := acc) fun z hz => h z (List.mem_cons_of_mem _ hz)
    refine ⟨b :: bs, rfl, fun x hx => ?_⟩
    rcases List.mem_cons.mp hx with rfl | hx
    · exact hb
    · exact hbs x hx
theorem pick_many {r1 r2 r3 : Int} (h1 : 0 ≤ r1) (h2 : r1 < 5) (h3 : 0 ≤ r2) (h4 : r2 < 21) (h5 : 0 ≤ r3) (h6 : r3 < 3) : ∃ q : Nat, q ≤ 20 ∧ atI [D.int r1, .int r2, .int 20] r3 = some (.int (q : Nat)) := by
  have : r3 = 0 ∨ r3 = 1 ∨ r3 = 2 := by omega
  rcases this with rfl | rfl | rfl
  · exact ⟨r1.toNat, by omega, by rw [Int.toNat_of_nonneg h1]; rfl⟩
  · exact ⟨r2.toNat, by omega, by rw [Int.toNat_of_nonneg h3]; rfl⟩
  · exact ⟨20, by omega, rfl⟩
theorem ess_mid {X : Cx} {Ψ : XP} {ρ : En} {F : FS} {st : Stmt} {sts : List Stmt} {Θ : Po} (A : En → FS → Prop) (h : Es X Ψ ρ F st { Θ with nx := A }) (w : ∀ ρ' F', A ρ' F' → Ess X Ψ ρ' F' sts Θ) : Ess X Ψ ρ F (st :: sts) Θ :=
  ess_cons ⟨ps_weak h.ps fun D σ H ⟨P, tk, hd, en, n, r⟩ => ⟨P, tk, hd, en, fun σ' ρ' P' F' H' s1 hd1 en1 φ => n σ' ρ' P' F' H' s1 hd1 en1 (w _ _ φ), r⟩⟩
theorem lend_raw1 (l : Addr) (ds : List D) : lend (one1 l ds) (.raw (.ref l)) = .lst ds := by simp [lend, one1]
theorem okR_bds {bs : List Bd} (h : ∀ b ∈ bs, BkOk b) : okR 60 (.lst (bs.map bdD)) = true := by
  simp only [okR, List.all_map, List.all_eq_true]
  exact fun b hb => board_okR (h b hb) 57
theorem okD_bds {bs : List Bd} (h : ∀ b ∈ bs, BkOk b) : okD 60 (.lst (bs.map bdD)) = true := (okR_okD 60 _ (okR_bds h)).1
theorem delF_ne {F : FS} {a b : Addr} (h : b ≠ a) : delF F a b = F b := if_neg h
theorem PW.del {p q : Addr} {b n : Int} {F : FS} (h : PW p b n F) (hq : p ≠ q) : PW p b n (delF F q) := h.at_ (delF_ne hq)
theorem ixN_last {n : Nat} (h : 1 ≤ n) : ixN n (-1) = some (n - 1) := by
  unfold ixN
  rw [if_neg (by decide), if_pos (by omega)]
  congr 1
  omega
theorem cutD_init {α : Type} (xs : List α) (x : α) : cutD (xs ++ [x]) none (some (-1)) = xs := by
  unfold cutD HT.sIx
  have h : (-1 + ((xs ++ [x]).length : Int)).toNat = xs.length := by
    rw [List.length_append]
    simp
    omega
  simp only [show (-1 : Int) < 0 by decide, if_true, h, Nat.sub_zero, List.drop_zero]
  exact List.take_left' rfl
/-- rows of a text that may be read -/
structure RowsOk (rows : List Str) (n : Nat) : Prop where
  ok : ∀ r ∈ rows, Pg 49 5000 r
  few : rows.length ≤ n
theorem RowsOk.up {rows : List Str} {n m : Nat} (h : RowsOk rows n) (hm : n ≤ m) : RowsOk rows m := ⟨h.ok, Nat.le_trans h.few hm⟩
theorem RowsOk.add {xs ys : List Str} {n m : Nat} (h : RowsOk xs n) (h' : RowsOk ys m) : RowsOk (xs ++ ys) (n + m) :=
  ⟨fun r hr => (List.mem_append.mp hr).elim (h.ok r) (h'.ok r), by rw [List.length_append]; have := h.few; have := h'.few; omega⟩
theorem cutD_subl {α : Type} (xs : List α) (lo hi : Option Int) : (cutD xs lo hi).Sublist xs := (List.take_sublist _ _).trans (List.drop_sublist _ _)
theorem RowsOk.cut {xs : List Str} {n : Nat} (h : RowsOk xs n) (lo hi : Option Int) : RowsOk (cutD xs lo hi) n :=
  ⟨fun r hr => h.ok r ((cutD_subl xs lo hi).subset hr), Nat.le_trans (cutD_subl xs lo hi).length_le h.few⟩
def RowsD (d : D) : Prop := ∃ rows : List Str, d = .lst (rows.map D.str) ∧ RowsOk rows 45
theorem add_rows {xs ys : List Str} {n m : Nat} {Φ : D → Prop} (h : RowsOk xs n) (h' : RowsOk ys m) (hl : n + m ≤ 100) (k : Φ (.lst ((xs ++ ys).map D.str))) : AddD (.lst (xs.map D.str)) (.lst (ys.map D.str)) Φ := by
  refine d_addL (le_line ?_) ?_
  · rw [List.length_map, List.length_map]
    have := h.few
    have := h'.few
    omega
  · rw [← List.map_append]
    exact k
def joinD (d : D) : D := match d with
  | .lst xs => .str (Txt.join "\n" (strsD xs))
  | _ => .non
def lpB (x : Str) : Bool := decide (x.length ≤ 4900) && PyData.strOk x && (linesS x).all (pgB 100 5000)
theorem lpB_ok {x : Str} (h : lpB x = true) : Lp x := by
  unfold lpB at h
  simp only [Bool.and_eq_true, decide_eq_true_eq, List.all_eq_true] at h
  exact ⟨by omega, h.1.2, fun r hr => ⟨100, pgB_ok (h.2 r hr), by decide⟩⟩
theorem end1 : parseL [] (linesS "x 3\n- 2 sun cup") = .inr [("x", 3, []), ("", 2, ["sun", "cup"])] := by decide +kernel
theorem due_inl {x : Str} {i : Nat} (h : parseL [] (linesS x) = .inl i) : dueD x = .lst [.str "line", .int (i : Nat)] := by
  unfold dueD
  rw [h]
theorem end2 : dueD "x 3\n" = .lst [.str "line", .int 1] := due_inl (i := 1) (by decide +kernel)
theorem end3 : dueD "\n" = .lst [.str "line", .int 0] := due_inl (i := 0) (by decide +kernel)
theorem end4 : dueD (Txt.join "\n" (List.replicate 21 "a 1")) = .lst [.str "line", .int 20] := due_inl (i := 20) (by decide +kernel)
def sLaw : Spec := fun ds F Φ _ => ∃ ns : List Int, ds = [.scr ns] ∧ ns.length ≤ 63 ∧ ∀ F', Φ (.bl true) F'
abbrev nLaw : List Str := ["script", "k", "pouch", "pool", "hidden", "turn", "many", "boards", "lines", "page", "kept", "first", "second", "at", "row", "others", "some", "spot", "board", "rows"]
theorem scLaw : FnScope nLaw ["script"] (defScope (top 47)) := ⟨rfl, rfl, rfl, by decide +kernel, rfl, by decide +kernel, by decide +kernel⟩
theorem okLaw {W : Wd} (M : Md W) (a : At W "law" (top 47)) (hPouch : Ok W 1 "_law_pouch" (top 31) ["script", "k"] sPouch) (hPool : Ok W 2 "_law_pool" (top 33) ["pouch"] sPool) (hHidden : Ok W 3 "_law_hidden" (top 34) ["pouch", "many"] sHidden) (hPick : Ok W 1 "_law_pick" (top 32) ["pouch", "many"] sPick) (hBoard : Ok W 3 "_law_board" (top 37) ["pouch", "hidden"] sBoard) (hAnyBoard : Ok W 3 "_law_any_board" (top 38) ["pouch", "pool"] sAnyBoard) (hLawText : Ok W 1 "_law_text" (top 39) ["board"] sLawText) (hFormatScreens : Ok W 8 "format_screens" (top 28) ["screens"] (sFormatScreens W)) (hParseScreens : Ok W 8 "parse_screens" (top 29) ["text"] (sParseScreens W)) (hSpoiled : Ok W 2 "_law_spoiled" (top 42) ["pouch", "page"] sSpoiled) (hIsLong : OkI W 2 "_law_is_long" (top 43) ["page"] sIsLong) (hRight : Ok W 10 "_law_right" (top 46) ["page"] (sRight W)) (hTold : Ok W 9 "_law_told" (top 44) ["page", "way"] (sTold W)) : Ok W 11 "law" (top 47) ["script"] sLaw := by
  refine Ok.of a scLaw (fun ds F Φ Ψ h => ?_) (fun _ _ _ _ _ _ us hl => match us, hl with | [_], _ => rfl) (fun f cdv A outer s0 H0 E C ds F Φ Ψ h => ?_)
  · obtain ⟨ns, rfl, hns, kk⟩ := h
    rfl
  obtain ⟨ns, rfl, hns, kk⟩ := h
  have hR := C.room
  refine ess_cons (es_for C.pass rfl (ei_range1 rfl (by walk_at "mg") ?_))
  walk_at "go"
  refine ⟨_, _, rfl, ?_⟩
  walk_at "go"
  refine ⟨_, _, rfl, ?_⟩
  walk_at "go"
  refine ⟨_, rfl, by split <;> split <;> omega, by split <;> split <;> omega, ?_⟩
  generalize hm : (if (if (ns.length : Int) < 5 then (ns.length : Int) else 5) > 1 then (if (ns.length : Int) < 5 then (ns.length : Int) else 5) else 1) = m
  have hm2 : m ≤ 5 := by
    rw [← hm]
    split <;> split <;> omega
  refine ⟨fun i ρ2 F4 => ∃ v1 v2 v3 v4 v5 v6 v7 v8 v9 v10 v11 v12 v13 v14 v15 v16 v17 v18 v19, ρ2 = [some (.scr ns), v1, v2, v3, v4, v5, v6, v7, v8, v9, v10, v11, v12, v13, v14, v15, v16, v17, v18, v19], ⟨none, none, none, none, none, none, none, none, none, none, none, none, none, none, none, none, none, none, none, rfl⟩, ?_, ?_⟩
  · rintro i d ρ2 F4 hd ⟨v1, v2, v3, v4, v5, v6, v7, v8, v9, v10, v11, v12, v13, v14, v15, v16, v17, v18, v19, rfl⟩
    obtain ⟨hi, rfl⟩ := rangeD_get hd
    refine eg_name (pg_name (i := 1) C.nd rfl (by first | exact .inl rfl | exact .inr rfl)) ?_
    refine ess_cons ?_
    walk_at "set"
    refine ev_call hPouch (C.room.mono (by decide)) rfl ?_
    walk_at "go"
    refine ⟨ns, _, rfl, by omega, by omega, fun p mo b hp hpw => ?_⟩
    refine ess_cons (es_asg ?_)
    refine ev_tup (ea_cons (ev_frz ?_))
    refine ev_call hPool (C.room.mono (by decide)) rfl ?_
    walk_at "go"
    refine ⟨p, b, 0, rfl, hpw, by decide, fun ws mo2 l hw hl hpw2 => ?_⟩
    refine ⟨l, _, rfl, updF_same, ?_⟩
    have npl : l ≠ p := fun e => by
      rw [e, updF_same] at hl
      cases hl
    rw [delF_updF (by rw [updF_ne npl]; exact hl)]
    refine ea_cons ?_
    refine ev_call hHidden (C.room.mono (by decide)) rfl ?_
    walk_at "go"
    refine ⟨p, 7, b, _, rfl, by decide, by decide, hpw2, by omega, fun hs mo3 hhs hpw3 => ?_⟩
    walk_at "go"
    refine eg_tup rfl ?_
    refine ⟨rfl, egs_cons (eg_name (pg_name (i := 3) C.nd rfl (by first | exact .inl rfl | exact .inr rfl)) (egs_cons (eg_name (pg_name (i := 4) C.nd rfl (by first | exact .inl rfl | exact .inr rfl)) (egs_nil ?_))))⟩
    generalize updF (updF (updF F4 p mo) p mo2) p mo3 = F5 at hpw3
    refine ess_one (es_for C.pass rfl (ei_range1 rfl (by walk_at "mg") ?_))
    walk_at "go"
    refine ⟨3, rfl, by decide, by decide, ?_⟩
    refine ⟨fun j ρ3 F6 => (∃ v5 v6 v7 v8 v9 v10 v11 v12 v13 v14 v15 v16 v17 v18 v19, ρ3 = [some (.scr ns), some (.int (0 + (i : Nat))), some (.raw (.ref p)), some (.lst (ws.map D.str)), some (.lst (hs.map D.str)), v5, v6, v7, v8, v9, v10, v11, v12, v13, v14, v15, v16, v17, v18, v19]) ∧ PW p b (100 + 1000 * (j : Nat)) F6, ⟨⟨v5, v6, v7, v8, v9, v10, v11, v12, v13, v14, v15, v16, v17, v18, v19, rfl⟩, hpw3.up (by omega) (by omega)⟩, ?_, ?_⟩
    · rintro j d ρ3 F6 hd ⟨⟨v5, v6, v7, v8, v9, v10, v11, v12, v13, v14, v15, v16, v17, v18, v19, rfl⟩, hq⟩
      obtain ⟨hj, rfl⟩ := rangeD_get hd
      have hj3 : j < 3 := hj
      refine eg_name (pg_name (i := 5) C.nd rfl (by first | exact .inl rfl | exact .inr rfl)) ?_
      refine ess_cons ?_
      walk_at "set"
      walk_at "go"
      refine ev_call hPick (C.room.mono (by decide)) rfl ?_
      walk_at "go"
      refine ⟨p, _, b, _, rfl, hq, by omega, by decide, by decide, fun r1 mo4 r10 r11 hq1 => ?_⟩
      walk_at "go"
      refine ev_call hPick (C.room.mono (by decide)) rfl ?_
      walk_at "go"
      refine ⟨p, _, b, _, rfl, hq1, by omega, by decide, by decide, fun r2 mo5 r20 r21 hq2 => ?_⟩
      walk_at "go"
      refine ev_call hPick (C.room.mono (by decide)) rfl ?_
      walk_at "go"
      refine ⟨p, _, b, _, rfl, hq2, by omega, by decide, by decide, fun r3 mo6 r30 r31 hq3 => ?_⟩
      obtain ⟨q, hq20, hat⟩ := pick_many r10 r11 r20 r21 r30 r31
      refine d_ixL hat ?_
      generalize updF (updF (updF F6 p mo4) p mo5) p mo6 = F7 at hq3
      refine ess_cons (es_setLcM (i := 7) (own := [("spot", 17)]) rfl C.nd rfl rfl (sw_true rfl rfl rfl rfl) (blkOk_by (N := nLaw) (sc := defScope (top 47)) (by decide +kernel)) (ei_range1 rfl (by walk_at "mg") ?_))
      walk_at "go"
      refine ⟨q, rfl, by omega, by omega, ?_⟩
      rw [Int.toNat_natCast]
      refine lcOk_draws (p := p) (b := b) (n := 100 + 1000 * (j : Nat) + 1 + 1 + 1) (c := 10) (fun y => ∃ b : Bd, y = bdD b ∧ BkOk b) (by omega) (by decide) (by omega) hq3 (fun i2 F8 hi2 hpw8 => ⟨_, true, fun s H B cl fp => gc_name (pg_name (i := 17) C.nd rfl (.inl rfl)) (by simp) ⟨rfl, rfl⟩, fun s H B cl fp => ets_nil ⟨rfl, rfl⟩, brT fun s H B cl fp => ?_⟩) (fun L acc F8 hal hR8 hq8 hL hL0 => ?_)
      · refine ev_call hBoard (C.room.mono (by decide)) rfl ?_
        walk_at "go"
        refine ⟨p, b, _, hs, rfl, hhs, hpw8, by omega, fun f m us mo hb hpw9 => ?_⟩
        exact ⟨mo, ⟨(f, m, us), rfl, hb⟩, hpw9, rfl⟩
      obtain ⟨bs0, rfl, hbs0⟩ := bds_of hR8
      have nLp : L ≠ p := fun e => by
        obtain ⟨mm, hmm⟩ := hq3.has
        rw [e, hmm] at hL0
        cases hL0
      rw [List.length_map] at hal
      refine ess_mid (fun ρ' F' => ∃ bs : List Bd, ρ' = [some (.scr ns), some (.int (0 + (i : Nat))), some (.raw (.ref p)), some (.lst (ws.map D.str)), some (.lst (hs.map D.str)), some (.int (0 + (j : Nat))), some (.int (q : Nat)), some (.raw (.ref L)), v8, v9, v10, v11, v12, v13, v14, v15, v16, v17, v18, v19] ∧ F' L = some (.lst (bs.map bdD)) ∧ bs.length ≤ 20 ∧ (∀ b ∈ bs, BkOk b) ∧ PW p b (500 + 1000 * (j : Nat)) F') ?_ ?_
      · refine es_if (et_lend (one1 L (bs0.map bdD)) (one1_ok hL) (fun F2 h2 => ?_))
        walk_at "go"
        rw [lend_raw1]
        refine EqD.elim_lst (okD_bds hbs0) (by decide) ?_
        rw [eqD_nil]
        refine ⟨rfl, fun h => ?_, fun h => ?_⟩
        · have h : bs0 ≠ [] := by simpa using h
          refine ess_one (es_asg (ev_frzD ?_))
          refine ev_call hAnyBoard (C.room.mono (by decide)) rfl ?_
          walk_at "go"
          refine ⟨p, b, _, ws, rfl, hw, hq8, by omega, fun f m us mo l2 hb hpw9 hl2 nl2 => ?_⟩
          refine ⟨l2, _, updF_same, ?_⟩
          rw [lend_bd, delF_updF (by rw [updF_ne nl2]; exact hl2)]
          refine eg_ix ?_
          walk_at "go"
          have hL2 : updF F8 p mo L = some (.lst (bs0.map bdD)) := by rw [updF_ne nLp]; exact hL
          have h1 : 1 ≤ bs0.length := by
            cases bs0 with
            | nil => exact absurd rfl h
            | cons x xs => simp
          refine ⟨L, _, -1, bs0.length - 1, rfl, rfl, hL2, (by rw [List.length_map]; exact ixN_last h1), ?_⟩
          walk_at "go"
          refine ⟨bs0.set (bs0.length - 1) (f, m, us), rfl, ?_, by rw [List.length_set]; omega, fun x hx => ?_, (hpw9.ne (Ne.symm nLp)).up (by omega) (by omega)⟩
          · rw [updF_same, List.map_set]
          · rcases List.mem_or_eq_of_mem_set hx with hx | rfl
            · exact hbs0 x hx
            · exact hb
        · walk_at "go"
          exact ⟨bs0, rfl, hL, by omega, hbs0, hq8.up (by omega) (by omega)⟩
      rintro ρ' F9 ⟨bs, rfl, hLb, hbl, hbs, hq9⟩
      refine ess_frz 7 rfl hLb ?_
      have hq10 := hq9.del (Ne.symm nLp)
      generalize delF F9 L = F10 at hq10
      refine ess_cons (es_setLcM (i := 8) (own := [("board", 18)]) rfl C.nd rfl rfl (sw_true rfl rfl rfl rfl) (blkOk_by (N := nLaw) (sc := defScope (top 47)) (by decide +kernel)) (ei_list ?_))
      walk_at "go"
      refine lcOk_pure (fun _ => true) textOfD (le_line (by rw [List.length_map]; omega)) (fun d F2 hd => ⟨_, true, fun s H B cl fp => gc_name (pg_name (i := 18) C.nd rfl (.inl rfl)) (by simp) ⟨rfl, rfl⟩, fun s H B cl fp => ets_nil ⟨rfl, rfl⟩, brT fun s H B cl fp => ?_⟩) (fun l3 hl3 => ?_)
      · obtain ⟨bb, hbm, rfl⟩ := List.mem_map.mp hd
        refine ev_call hLawText (C.room.mono (by decide)) rfl ?_
        walk_at "go"
        exact ⟨bb.1, bb.2.1, bb.2.2, rfl, hbs bb hbm, rfl, (textOf_bd bb).symm, rfl⟩
      have et : ((bs.map bdD).filter fun _ => true).map textOfD = (bs.map bdT).map D.str := by
        rw [List.filter_eq_self.mpr fun _ _ => rfl, List.map_map, List.map_map]
        exact List.map_congr_left fun b _ => textOf_bd b
      rw [et]
      refine ess_frz 8 rfl updF_same ?_
      rw [delF_updF hl3]
      have tsum := sum_le_mul (f := fun x : Str => x.length) (c := 5000) (xs := bs.map bdT) fun r hr => by
        obtain ⟨b, hb, rfl⟩ := List.mem_map.mp hr
        exact (text_pg' (hbs b hb)).len
      rw [List.length_map] at tsum
      have okB : okR 60 (.lst (bs.map bdD)) = true := okR_bds hbs
      have szB : szD (.lst (bs.map bdD)) ≤ 200000 := by
        have := szDs_le (c := 9000) fun b hb => board_sz (hbs b hb)
        simp only [szD]
        omega
      have nl1 : ("\n" : Str).length = 1 := rfl
      have LP := lp_page hbs hbl
      have PO := parse_ok hbs hbl
      have plen := LP.len
      refine ess_cons (es_par (i := 9) (j := 10) rfl C.nd rfl rfl (by decide) rfl rfl rfl ?_)
      walk_at "go"
      refine ⟨"\n", rfl, ?_⟩
      walk_at "go"
      refine ⟨bs.map bdT, rfl, by rw [nl1, List.length_map]; omega, ?_⟩
      walk_at "go"
      refine ⟨rfl, okB, le_line (by omega), ?_⟩
      walk_at "go"
      refine ⟨_, _, rfl, ?_⟩
      rw [show Txt.join "\n" (bs.map bdT) = pageS bs from rfl]
      generalize hpg : pageS bs = pg at LP PO plen
      have gB : Good 60 (.lst (bs.map bdD)) := ⟨okB, by omega⟩
      have lB : ∀ xs, D.lst (bs.map bdD) = .lst xs → ∀ d ∈ xs, lensOk d := fun xs e d hd => by
        cases e
        obtain ⟨b, hb, rfl⟩ := List.mem_map.mp hd
        have h1 := (hbs b hb).few
        have h2 := (hbs b hb).l2
        show (b.2.2.map D.str).length < 4000
        rw [List.length_map]
        omega
      have FSk : ∀ {F' : FS} {Φ' : D → FS → Prop} {Ψ' : Err → FS → Prop}, Φ' (.str pg) F' → sFormatScreens W [.lst (bs.map bdD)] F' Φ' Ψ' := fun {F'} {Φ'} {Ψ'} h => ⟨_, rfl, gB, lB, .inl ⟨bs, rfl, hbl, fun b hb => bk_bd (hbs b hb), by rw [hpg]; exact h⟩⟩
      have PSk : ∀ {F' : FS} {Φ' : D → FS → Prop} {Ψ' : Err → FS → Prop}, (∀ l, F' l = none → Φ' (.raw (.ref l)) (updF F' l (.lst (bs.map bdD)))) → sParseScreens W [.str pg] F' Φ' Ψ' := fun {F'} {Φ'} {Ψ'} h => ⟨_, _, rfl, rfl, .inl ⟨pg, rfl, LP.lok, by rw [PO]; exact h⟩⟩
      have okP : okR 60 (.lst [.str pg, .str pg]) = true := by
        have := LP.ok
        simp [okR, this]
      have szP : szD (.lst [.str pg, .str pg]) ≤ sizeLine := by
        have e : szD (.lst [.str pg, .str pg]) = (10 * pg.length + 2) + 2 + ((10 * pg.length + 2) + 2 + 0) + 4 := by simp only [szD, szDs]
        rw [e]
        exact le_line (by omega)
      refine ess_cons ?_
      walk_at "go"
      refine ev_call hFormatScreens (C.room.mono (by decide)) rfl ?_
      walk_at "go"
      refine FSk ?_
      walk_at "go"
      refine ev_callK (ks := ["screens"]) (fun {α} xs => xs) permsId hFormatScreens (C.room.mono (by decide)) rfl (fun _ _ _ _ _ _ us hl => match us, hl with | [_], _ => rfl) ?_
      walk_at "go"
      refine ⟨rfl, FSk ?_⟩
      walk_at "go"
      refine ⟨rfl, okP, szP, ?_⟩
      walk_at "go"
      refine ⟨rfl, okP, szP, ?_⟩
      walk_at "go"
      rw [decide_eq_true rfl]
      refine brF (h := ?_)
      walk_at "go"
      refine ⟨rfl, okB, le_line (by omega), ?_⟩
      walk_at "go"
      rw [decide_eq_true rfl]
      refine brF (h := ?_)
      walk_at "go"
      refine ev_call hRight (C.room.mono (by decide)) rfl ?_
      walk_at "go"
      refine ⟨pg, rfl, LP, ?_⟩
      walk_at "go"
      refine es_par (i := 11) (j := 12) rfl C.nd rfl rfl (by decide) rfl rfl rfl ?_
      walk_at "go"
      refine ev_call hParseScreens (C.room.mono (by decide)) rfl ?_
      walk_at "go"
      refine PSk fun l4 hl4 => ?_
      walk_at "go"
      refine ev_call hParseScreens (C.room.mono (by decide)) rfl ?_
      walk_at "go"
      refine PSk fun l5 hl5 => ?_
      walk_at "go"
      refine ⟨_, _, rfl, ?_⟩
      have n45 : l4 ≠ l5 := fun e => by
        rw [← e, updF_same] at hl5
        cases hl5
      obtain ⟨mp, hmp⟩ := id hq10.has
      have n4 : p ≠ l4 := fun e => by
        rw [← e, hmp] at hl4
        cases hl4
      have n5 : p ≠ l5 := fun e => by
        rw [← e, updF_ne n4, hmp] at hl5
        cases hl5
      refine ess_cons ?_
      walk_at "go"
      refine ⟨⟨l4, _, rfl, by rw [updF_ne n45]; exact updF_same⟩, ?_⟩
      walk_at "go"
      refine ⟨l4, _, rfl, by rw [updF_ne n45]; exact updF_same, le_line_lt (by rw [List.length_map]; omega), ?_⟩
      refine ess_frz 11 rfl updF_same ?_
      refine ess_frz 12 rfl (by rw [delF_ne (Ne.symm n45), updF_ne (Ne.symm n45)]; exact updF_same) ?_
      have hq11 := ((((hq10.ne (m := .lst (bs.map bdD)) n4).ne (m := .lst (bs.map bdD)) n5).ne (m := .lst (bs.map bdD ++ [.tup [.str "", .int 1, .lst []]])) n4).del n4).del n5
      generalize delF (delF (updF (updF (updF F10 l4 (.lst (bs.map bdD))) l5 (.lst (bs.map bdD))) l4 (.lst (bs.map bdD ++ [.tup [.str "", .int 1, .lst []]]))) l4) l5 = F11 at hq11
      have okDB : okD 60 (.lst (bs.map bdD)) = true := (okR_okD 60 _ okB).1
      walk_at "go"
      refine EqD.elim_lst okDB okDB ?_
      rw [eqD_refl okDB]
      refine brF (h := ?_)
      walk_at "go"
      rw [cutD_init]
      refine EqD.elim_lst okDB okDB ?_
      rw [eqD_refl okDB]
      refine brF (h := ?_)
      walk_at "go"
      refine ev_frzD ?_
      refine ev_call hParseScreens (C.room.mono (by decide)) rfl ?_
      walk_at "go"
      refine PSk fun l6 hl6 => ?_
      refine ⟨l6, _, updF_same, ?_⟩
      rw [delF_updF hl6, lend_raw1]
      walk_at "go"
      refine EqD.elim_lst okDB okDB ?_
      rw [eqD_refl okDB]
      refine brF (h := ?_)
      walk_at "go"
      walk_at "set"
      refine ev_call hPick (C.room.mono (by decide)) rfl ?_
      walk_at "go"
      refine ⟨p, _, b, _, rfl, hq11, by omega, by omega, by omega, fun r4 mo7 r40 r41 hq12 => ?_⟩
      walk_at "go"
      walk_at "set"
      refine ev_call hSpoiled (C.room.mono (by decide)) rfl ?_
      walk_at "go"
      refine ev_call hLawText (C.room.mono (by decide)) rfl ?_
      walk_at "go"
      refine ev_call hBoard (C.room.mono (by decide)) rfl ?_
      walk_at "go"
      refine ⟨p, b, _, hs, rfl, hhs, hq12, by omega, fun f1 m1 us1 mo8 hb1 hq13 => ?_⟩
      walk_at "go"
      refine ⟨f1, m1, us1, rfl, hb1, ?_⟩
      walk_at "go"
      refine ⟨p, b, _, _, 22, rfl, text_pg' (b := (f1, m1, us1)) hb1, by decide, hq13, by omega, fun y mo9 hy hq14 => ?_⟩
      generalize updF (updF (updF F11 p mo7) p mo8) p mo9 = F12 at hq14
      have hT : ∀ r ∈ bs.map bdT, Pg 49 5000 r := fun r hr => by
        obtain ⟨b, hb, rfl⟩ := List.mem_map.mp hr
        exact (text_pg' (hbs b hb)).up (by decide) (by decide)
      have hTl : (bs.map bdT).length ≤ 20 := by
        rw [List.length_map]
        exact hbl
      generalize bs.map bdT = T at hT hTl
      have hC : ∀ lo hi, RowsOk (cutD T lo hi) 20 := fun lo hi => (RowsOk.mk hT hTl).cut lo hi
      have hT2 : RowsOk T 20 := ⟨hT, hTl⟩
      have hy2 : RowsOk [y] 1 := ⟨fun r hr => by
        rw [List.mem_singleton.mp hr]
        exact hy.up (by decide) (by decide), Nat.le_refl _⟩
      have he2 : RowsOk [("" : Str)] 1 := ⟨fun r hr => by
        rw [List.mem_singleton.mp hr]
        exact pgB_ok (by decide +kernel), Nat.le_refl _⟩
      have ha2 : RowsOk [("a 1" : Str)] 1 := ⟨fun r hr => by
        rw [List.mem_singleton.mp hr]
        exact pgB_ok (by decide +kernel), Nat.le_refl _⟩
      walk_at "go"
      walk_at "set"
      walk_at "go"
      rw [cutD_map]
      refine add_rows (ys := [y]) (hC _ _) hy2 (by decide) ?_
      walk_at "go"
      rw [cutD_map]
      refine add_rows ((hC none (some r4)).add hy2) (hC _ _) (by decide) ?_
      walk_at "go"
      rw [cutD_map]
      refine add_rows (ys := [("" : Str)]) (hC _ _) he2 (by decide) ?_
      walk_at "go"
      rw [cutD_map]
      refine add_rows ((hC none (some r4)).add he2) (hC _ _) (by decide) ?_
      walk_at "go"
      refine ⟨by decide, by decide, le_line (by decide), ?_⟩
      refine add_rows (ys := ["a 1", "a 1"]) hT2 (ha2.add ha2) (by decide) ?_
      walk_at "go"
      have hO1 : ∀ d ∈ [D.lst ((cutD T none (some r4) ++ [y] ++ cutD T (some (r4 + 1)) none).map D.str), .lst ((cutD T none (some r4) ++ [("" : Str)] ++ cutD T (some r4) none).map D.str), .lst ((T ++ [("a 1" : Str), "a 1"]).map D.str)], RowsD d := fun d hd => by
        simp only [List.mem_cons, List.not_mem_nil, or_false] at hd
        rcases hd with rfl | rfl | rfl
        · exact ⟨_, rfl, (((hC _ _).add hy2).add (hC _ _)).up (by decide)⟩
        · exact ⟨_, rfl, (((hC _ _).add he2).add (hC _ _)).up (by decide)⟩
        · exact ⟨_, rfl, (hT2.add (ha2.add ha2)).up (by decide)⟩
      have hl1 : [D.lst ((cutD T none (some r4) ++ [y] ++ cutD T (some (r4 + 1)) none).map D.str), .lst ((cutD T none (some r4) ++ [("" : Str)] ++ cutD T (some r4) none).map D.str), .lst ((T ++ [("a 1" : Str), "a 1"]).map D.str)].length = 3 := rfl
      generalize [D.lst ((cutD T none (some r4) ++ [y] ++ cutD T (some (r4 + 1)) none).map D.str), .lst ((cutD T none (some r4) ++ [("" : Str)] ++ cutD T (some r4) none).map D.str), .lst ((T ++ [("a 1" : Str), "a 1"]).map D.str)] = O1 at hO1 hl1 ⊢
      walk_at "set"
      walk_at "go"
      rw [cutD_map, cutD_map]
      refine add_rows (hC _ _) (hC _ _) (by decide) ?_
      walk_at "go"
      rw [cutD_map, cutD_map]
      refine add_rows (hC _ _) (hC _ _) (by decide) ?_
      walk_at "go"
      refine ⟨by decide, by decide, le_line (by decide), ?_⟩
      have hr21 : RowsOk (List.replicate 21 ("a 1" : Str)) 21 := ⟨fun r hr => by
        rw [List.eq_of_mem_replicate hr]
        exact pgB_ok (by decide +kernel), by simp⟩
      walk_at "go"
      refine add_rows (xs := List.replicate 21 ("a 1" : Str)) (ys := [("" : Str)]) hr21 he2 (by decide) ?_
      walk_at "go"
      refine d_addL (le_line (by rw [hl1]; exact Nat.le_of_ble_eq_true rfl)) ?_
      have hO2 : ∀ d ∈ O1 ++ [D.lst ((cutD T none (some r4) ++ cutD T (some (r4 + 1)) none).map D.str), .lst ((cutD T (some r4) none ++ cutD T none (some r4)).map D.str), .lst ((List.replicate 21 ("a 1" : Str) ++ [("" : Str)]).map D.str)], RowsD d := fun d hd => by
        rcases List.mem_append.mp hd with hd | hd
        · exact hO1 d hd
        simp only [List.mem_cons, List.not_mem_nil, or_false] at hd
        rcases hd with rfl | rfl | rfl
        · exact ⟨_, rfl, ((hC _ _).add (hC _ _)).up (by decide)⟩
        · exact ⟨_, rfl, ((hC _ _).add (hC _ _)).up (by decide)⟩
        · exact ⟨_, rfl, (hr21.add he2).up (by decide)⟩
      have hl2 : (O1 ++ [D.lst ((cutD T none (some r4) ++ cutD T (some (r4 + 1)) none).map D.str), .lst ((cutD T (some r4) none ++ cutD T none (some r4)).map D.str), .lst ((List.replicate 21 ("a 1" : Str) ++ [("" : Str)]).map D.str)]).length = 6 := by
        rw [List.length_append, hl1]
        rfl
      generalize O1 ++ [D.lst ((cutD T none (some r4) ++ cutD T (some (r4 + 1)) none).map D.str), .lst ((cutD T (some r4) none ++ cutD T none (some r4)).map D.str), .lst ((List.replicate 21 ("a 1" : Str) ++ [("" : Str)]).map D.str)] = O2 at hO2 hl2 ⊢
      walk_at "go"
      refine es_for C.pass rfl (ei_list ?_)
      refine ev_map rfl C.nd (own := [("rows", 19)]) (blkOk_by (N := nLaw) (sc := defScope (top 47)) (by decide +kernel)) joinD (ei_list ?_)
      walk_at "go"
      refine ⟨le_line (by rw [hl2]; decide), fun d F2 hd => ⟨_, fun s H B cl fp => gc_name (pg_name (i := 19) C.nd rfl (.inl rfl)) (by simp) ⟨rfl, rfl⟩, fun s H B cl fp => ?_⟩, ?_⟩
      · obtain ⟨rows, rfl, hro⟩ := hO2 d hd
        walk_at "go"
        refine ⟨"\n", rfl, ?_⟩
        walk_at "go"
        refine ⟨rows, rfl, ?_, ?_, rfl⟩
        · have h1 := sum_le_mul (f := fun x : Str => x.length) (c := 5000) (xs := rows) fun r hr => (hro.ok r hr).len
          have h2 := hro.few
          rw [nl1]
          omega
        · show _ = D.str (Txt.join "\n" (strsD (rows.map D.str)))
          rw [strsD_map']
      walk_at "go"
      refine ⟨fun k ρ4 F13 => (∃ v5 v6 v7 v8 v9 v10 v11 v12 v13 v14 v15 v16 v17 v18 v19, ρ4 = [some (.scr ns), some (.int (0 + (i : Nat))), some (.raw (.ref p)), some (.lst (ws.map D.str)), some (.lst (hs.map D.str)), v5, v6, v7, v8, v9, v10, v11, v12, v13, v14, v15, v16, v17, v18, v19]) ∧ PW p b (1000 + 1000 * (j : Nat)) F13, ⟨⟨_, _, _, _, _, _, _, _, _, _, _, _, _, _, _, rfl⟩, hq14.up (by omega) (by omega)⟩, ?_, ?_⟩
      · rintro k d ρ4 F13 hd ⟨⟨v5, v6, v7, v8, v9, v10, v11, v12, v13, v14, v15, v16, v17, v18, v19, rfl⟩, hw13⟩
        obtain ⟨d0, hd0, rfl⟩ : ∃ d0, d0 ∈ O2 ∧ d = joinD d0 := by
          obtain ⟨d0, h1, h2⟩ := List.mem_map.mp (List.mem_of_getElem? hd)
          exact ⟨d0, h1, h2.symm⟩
        obtain ⟨rows, rfl, hro⟩ := hO2 d0 hd0
        have ej : joinD (.lst (rows.map D.str)) = .str (Txt.join "\n" rows) := by
          show D.str (Txt.join "\n" (strsD (rows.map D.str))) = _
          rw [strsD_map']
        rw [ej]
        have jl := StrLaws.join_length_le "\n" rows
        rw [← TL.join_eq, nl1] at jl
        have js := sum_le_mul (f := fun x : Str => x.length) (c := 5000) (xs := rows) fun r hr => (hro.ok r hr).len
        have jf := hro.few
        have jo := page_strOk hro.ok
        refine eg_name (pg_name (i := 16) C.nd rfl (by first | exact .inl rfl | exact .inr rfl)) ?_
        refine ess_one (es_if (et_w (ew_andT ord_le ?_)))
        walk_at "go"
        refine d_lenS (le_line (by omega)) ?_
        walk_at "go"
        refine ⟨fun h => ?_, fun h => ?_⟩
        · have h : (Txt.join "\n" rows).length ≤ 4900 := by
            have := of_decide_eq_true h
            omega
          refine ewt_and (ett_not (ett_val ?_))
          refine evt_call hIsLong (C.room.mono (by decide)) rfl ?_
          walk_at "go"
          refine ⟨_, rfl, h, jo, fun kb => ?_⟩
          walk_at "go"
          refine ⟨fun h2 => ?_, fun h2 => ?_⟩
          · walk_at "go"
            refine ev_call hRight (C.room.mono (by decide)) rfl ?_
            walk_at "go"
            refine ⟨_, rfl, lp_join hro.ok hro.few h, ?_⟩
            walk_at "go"
            exact ⟨⟨_, _, _, _, _, _, _, _, _, _, _, _, _, _, _, rfl⟩, hw13⟩
          · walk_at "go"
            exact ⟨⟨_, _, _, _, _, _, _, _, _, _, _, _, _, _, _, rfl⟩, hw13⟩
        · walk_at "go"
          exact ⟨⟨_, _, _, _, _, _, _, _, _, _, _, _, _, _, _, rfl⟩, hw13⟩
      · rintro ρ4 F13 ⟨⟨v5, v6, v7, v8, v9, v10, v11, v12, v13, v14, v15, v16, v17, v18, v19, rfl⟩, hw13⟩
        exact ⟨⟨_, _, _, _, _, _, _, _, _, _, _, _, _, _, _, rfl⟩, hw13.up (by omega) (by omega)⟩
    · rintro ρ3 F6 ⟨⟨v5, v6, v7, v8, v9, v10, v11, v12, v13, v14, v15, v16, v17, v18, v19, rfl⟩, hq⟩
      exact ⟨_, _, _, _, _, _, _, _, _, _, _, _, _, _, _, _, _, _, _, rfl⟩
  · rintro ρ2 F4 ⟨v1, v2, v3, v4, v5, v6, v7, v8, v9, v10, v11, v12, v13, v14, v15, v16, v17, v18, v19, rfl⟩
    walk_at "go"
    refine ev_frzD ?_
    refine ev_call hParseScreens (C.room.mono (by decide)) rfl ?_
    walk_at "go"
    refine ⟨_, _, rfl, rfl, .inl ⟨_, rfl, (lpB_ok (by decide +kernel)).lok, ?_⟩⟩
    rw [end1]
    intro l hl
    refine ⟨l, _, updF_same, ?_⟩
    rw [delF_updF hl, lend_raw1]
    walk_at "go"
    refine EqD.elim_lst (by decide +kernel) (by decide +kernel) ?_
    rw [show eqD (.lst (List.map bdD [(("x" : Str), (3 : Int), []), ("", 2, ["sun", "cup"])])) (.lst [.tup [.str "x", .int 3, .lst []], .tup [.str "", .int 2, .lst [.str "sun", .str "cup"]]]) = true from eqD_refl (n := 60) (by decide +kernel)]
    refine brF (h := ?_)
    walk_at "go"
    refine ev_call hFormatScreens (C.room.mono (by decide)) rfl ?_
    walk_at "go"
    refine ⟨_, rfl, ⟨by decide +kernel, by decide⟩, fun xs e d hd => (by cases e; cases hd), .inl ⟨[], rfl, by decide, fun b hb => (by cases hb), ?_⟩⟩
    walk_at "go"
    refine ev_frzD ?_
    refine ev_call hParseScreens (C.room.mono (by decide)) rfl ?_
    walk_at "go"
    refine ⟨_, _, rfl, rfl, .inl ⟨_, rfl, (lpB_ok (by decide +kernel)).lok, ?_⟩⟩
    rw [show parseL [] (linesS "") = .inr [] by decide +kernel]
    intro l2 hl2
    refine ⟨l2, _, updF_same, ?_⟩
    rw [delF_updF hl2, lend_raw1]
    walk_at "go"
    refine EqD.elim_lst (by decide +kernel) (by decide +kernel) ?_
    rw [show eqD (.lst (List.map bdD [])) (.lst []) = true from eqD_refl (n := 60) (by decide +kernel)]
    refine brF (h := ?_)
    walk_at "go"
    refine ev_told (x := "x 3\n") (fun Φ' h => ?_) ?_
    · refine ev_call hTold (C.room.mono (by decide)) rfl ?_
      walk_at "go"
      exact ⟨_, 0, rfl, lpB_ok (by decide +kernel), h⟩
    rw [end2]
    walk_at "go"
    refine EqD.elim_lst (by decide +kernel) (by decide +kernel) ?_
    rw [eqD_refl (n := 60) (by decide +kernel)]
    refine brF (h := ?_)
    walk_at "go"
    refine ev_told (x := "\n") (fun Φ' h => ?_) ?_
    · refine ev_call hTold (C.room.mono (by decide)) rfl ?_
      walk_at "go"
      exact ⟨_, 0, rfl, lpB_ok (by decide +kernel), h⟩
    rw [end3]
    walk_at "go"
    refine EqD.elim_lst (by decide +kernel) (by decide +kernel) ?_
    rw [eqD_refl (n := 60) (by decide +kernel)]
    walk_at "go"
    refine ev_told (x := Txt.join "\n" (List.replicate 21 "a 1")) (fun Φ' h => ?_) ?_
    · refine ev_call hTold (C.room.mono (by decide)) rfl ?_
      walk_at "go"
      refine ⟨"\n", rfl, ?_⟩
      walk_at "go"
      refine ⟨by decide, by decide, le_line (by decide), ?_⟩
      refine ⟨List.replicate 21 "a 1", rfl, by decide +kernel, ?_⟩
      walk_at "go"
      exact ⟨_, 0, rfl, lpB_ok (by decide +kernel), h⟩
    rw [end4]
    walk_at "go"
    refine EqD.elim_lst (by decide +kernel) (by decide +kernel) ?_
    rw [eqD_refl (n := 60) (by decide +kernel)]
    exact kk _

end TM

set_option Elab.async false
set_option linter.all false
set_option maxRecDepth 100000
set_option maxHeartbeats 4000000
namespace TM
open PySem PySem.Spec PyProof.Rows L2
theorem allOk {W : Wd} (M : Md W) (aPouch : At W "_law_pouch" (top 31)) (aPick : At W "_law_pick" (top 32)) (aPool : At W "_law_pool" (top 33)) (aHidden : At W "_law_hidden" (top 34)) (aFront : At W "_law_front" (top 35)) (aAnswer : At W "_law_answer" (top 36)) (aBoard : At W "_law_board" (top 37)) (aAnyBoard : At W "_law_any_board" (top 38)) (aLawText : At W "_law_text" (top 39)) (aAreLetters : At W "are_letters" (top 8)) (aIsInteger : At W "is_integer" (top 7)) (aIsLimit : At W "is_limit" (top 12)) (aHasWord : At W "has_word_form" (top 9)) (aDiffWords : At W "are_different_words" (top 10)) (aIsShown : At W "is_shown_list" (top 11)) (aScreenForm : At W "has_screen_form" (top 13)) (aScreensForm : At W "has_screens_form" (top 14)) (aAreScreens : At W "are_screens" (top 17)) (aBeginningText : At W "beginning_text" (top 24)) (aScreenText : At W "screen_text" (top 25)) (aFormatScreens : At W "format_screens" (top 28)) (aRequireString : At W "require_string" (top 27)) (aNumberIn : At W "number_in" (top 23)) (aIsScreen : At W "is_screen" (top 16)) (aScreenIn : At W "screen_in" (top 26)) (aParseScreens : At W "parse_screens" (top 29)) (aSpoiled : At W "_law_spoiled" (top 42)) (aIsLetters : At W "_law_is_letters" (top 40)) (aIsLong : At W "_law_is_long" (top 43)) (aRead : At W "_law_read" (top 41)) (aDue : At W "_law_due" (top 45)) (aTold : At W "_law_told" (top 44)) (aRight : At W "_law_right" (top 46)) (aLaw : At W "law" (top 47)) : Ok W 11 "law" (top 47) ["script"] sLaw := by
  have hPouch := okPouch M aPouch 
  have hPick := okPick M aPick 
  have hPool := okPool M aPool hPick
  have hHidden := okHidden M aHidden hPick hPool
  have hFront := okFront M aFront hPick
  have hAnswer := okAnswer M aAnswer 
  have hBoard := okBoard M aBoard hPick hFront hAnswer
  have hAnyBoard := okAnyBoard M aAnyBoard hPick hFront
  have hLawText := okLawText M aLawText 
  have hAreLetters := okAreLetters M aAreLetters 
  have hIsInteger := okIsInteger M aIsInteger 
  have hIsLimit := okIsLimit M aIsLimit hIsInteger
  have hHasWord := okHasWord M aHasWord hAreLetters
  have hDiffWords := okDiffWords M aDiffWords hHasWord
  have hIsShown := okIsShown M aIsShown hDiffWords
  have hScreenForm := okScreenForm M aScreenForm hAreLetters hIsLimit hIsShown
  have hScreensForm := okScreensForm M aScreensForm hScreenForm
  have hAreScreens := okAreScreens M aAreScreens hScreensForm
  have hBeginningText := okBeginningText M aBeginningText 
  have hScreenText := okScreenText M aScreenText hBeginningText
  have hFormatScreens := okFormatScreens M aFormatScreens hAreScreens hScreenText
  have hRequireString := okRequireString M aRequireString 
  have hNumberIn := okNumberIn M aNumberIn 
  have hIsScreen := okIsScreen M aIsScreen hScreenForm
  have hScreenIn := okScreenIn M aScreenIn hNumberIn hIsScreen
  have hParseScreens := okParseScreens M aParseScreens hRequireString hScreenIn
  have hSpoiled := okSpoiled M aSpoiled hPick
  have hIsLetters := okIsLetters M aIsLetters 
  have hIsLong := okIsLong M aIsLong hIsLetters
  have hRead := okRead M aRead hIsLetters
  have hDue := okDue M aDue hRead
  have hTold := okTold M aTold hParseScreens
  have hRight := okRight M aRight hDue hTold
  exact okLaw M aLaw hPouch hPool hHidden hPick hBoard hAnyBoard hLawText hFormatScreens hParseScreens hSpoiled hIsLong hRight hTold
theorem mgc_int {K : PySem.W.Frag} {mg : Str → Option Value} {h : Heap} {x : Str} {i : Int} {v : Value} (X : K.In h) (G : h.Ns mainGlobals mg) (a : PySem.W.nsIn K mainGlobals x = some (some v)) (q : ∃ t, v = .int i t) : ∃ t, mg x = some (.int i t) := by
  obtain ⟨t, rfl⟩ := q
  exact ⟨t, PySem.W.mg_of X G a⟩
theorem mgc_str {K : PySem.W.Frag} {mg : Str → Option Value} {h : Heap} {x : Str} {i : Str} {v : Value} (X : K.In h) (G : h.Ns mainGlobals mg) (a : PySem.W.nsIn K mainGlobals x = some (some v)) (q : ∃ t, v = .str i t) : ∃ t, mg x = some (.str i t) := by
  obtain ⟨t, rfl⟩ := q
  exact ⟨t, PySem.W.mg_of X G a⟩
theorem at_mk {P : Program} {w : World} {K : PySem.W.Frag} {mg : Str → Option Value} {base h : Heap} {x : Str} {st : Stmt} {f : Addr} {od an : Option Addr} {sl : Array (Option Value)} {oc kV dc pm cd ct : Value} (X : K.In h) (G : h.Ns mainGlobals mg)
    (a : PySem.W.nsIn K mainGlobals x = some (some (.ref f))) (l : K.lookup f = some ⟨oc, od, .func (PySem.W.fnOf x x (defArgs st) (defBody st) (defScope st) .none kV dc pm an cd ct), sl⟩) (c : PySem.W.codeIn K cd x = true) (k : PySem.W.keepIn K (.ref f) = true) : At ⟨P, w, K, mg, base⟩ x st :=
  ⟨f, _, PySem.W.mg_of X G a, fun_mk l c k⟩
theorem Ok.use {W : Wd} {k : Nat} {x : Str} {st : Stmt} {ps : List Str} {S : Spec} {f : Addr} {fd : FuncData} (h : Ok W k x st ps S) (hm : W.mg x = some (.ref f)) (F : Fun W.K x x st f fd) : FnD W k f fd ps S := by
  obtain ⟨f', fd', a⟩ := h
  have e := hm.symm.trans a.at_
  cases e
  obtain ⟨oc, od, kV, doc, pm, an, cdv, ct, osl, e1, lk, hcd⟩ := F.ex
  obtain ⟨oc2, od2, kV2, doc2, pm2, an2, cdv2, ct2, osl2, e2, lk2, hcd2⟩ := a.fn.ex
  have e3 := lk.symm.trans lk2
  simp only [Option.some.injEq, Obj.mk.injEq, Data.func.injEq] at e3
  obtain ⟨_, _, e4, _⟩ := e3
  have e5 : fd = fd' := by rw [e1, e2]; rw [e1, e2] at e4; exact e4
  rw [e5]
  exact a.ok
theorem clsA_of {W : Wd} {x : Str} {C : Addr} (h : W.mg x = some (.ref C)) : clsA W x = C := by
  unfold clsA
  rw [h]
theorem atC_mk {P : Program} {w : World} {K : PySem.W.Frag} {mg : Str → Option Value} {base h : Heap} {x : Str} {C : Addr} (X : K.In h) (G : h.Ns mainGlobals mg) (a : PySem.W.nsIn K mainGlobals x = some (some (.ref C))) : mg x = some (.ref (clsA ⟨P, w, K, mg, base⟩ x)) := by
  have h1 := PySem.W.mg_of X G a
  rw [clsA_of (W := ⟨P, w, K, mg, base⟩) h1]
  exact h1
theorem exm_mk {P : Program} {w : World} {K : PySem.W.Frag} {mg : Str → Option Value} {base h : Heap} {x y : Str} {C D : Addr} {b : Bool} (X : K.In h) (G : h.Ns mainGlobals mg) (a : PySem.W.nsIn K mainGlobals x = some (some (.ref C))) (a' : PySem.W.nsIn K mainGlobals y = some (some (.ref D)))
    (h1 : PySem.W.subIn K (.ref D) (.type "BaseException") = some true) (h2 : PySem.W.isClsIn K D = true) (h3 : PySem.W.typeIn K (.ref D) = some (.type "type")) (h4 : PySem.W.subIn K (.ref C) (.ref D) = some b) : PySem.W.exmOne K (.ref (clsA ⟨P, w, K, mg, base⟩ x)) (.ref (clsA ⟨P, w, K, mg, base⟩ y)) = some b := by
  rw [clsA_of (W := ⟨P, w, K, mg, base⟩) (PySem.W.mg_of X G a), clsA_of (W := ⟨P, w, K, mg, base⟩) (PySem.W.mg_of X G a')]
  have e1 : (PySem.W.subIn K (.ref D) (.type "BaseException") == some true) = true := by rw [h1] <;> rfl
  have e2 : ((PySem.W.clsIn K D).isSome && PySem.W.typeIn K (.ref D) == some (.type "type")) = true := by
    have h2' : (PySem.W.clsIn K D).isSome = true := h2
    rw [h2', h3] <;> rfl
  show (if (PySem.W.subIn K (.ref D) (.type "BaseException") == some true) = true then (if ((PySem.W.clsIn K D).isSome && PySem.W.typeIn K (.ref D) == some (.type "type")) = true then PySem.W.subIn K (.ref C) (.ref D) else none) else none) = some b
  rw [if_pos e1, if_pos e2]
  exact h4
theorem rzC_mk {P : Program} {w : World} {K : PySem.W.Frag} {mg : Str → Option Value} {base h : Heap} {x : Str} {C : Addr} (X : K.In h) (G : h.Ns mainGlobals mg) (a : PySem.W.nsIn K mainGlobals x = some (some (.ref C))) (kC : PySem.W.keepIn K (.ref C) = true)
    (eX : PySem.W.excIn K C [.type "ValueError", .type "Exception", .type "BaseException", .type "object"] "ValueError.__new__" = true) (eC : PySem.W.subIn K (.ref C) (.type "BaseException") = some true) (tC : PySem.W.typeIn K (.ref C) = some (.type "type")) : RzC ⟨P, w, K, mg, base⟩ x (clsA ⟨P, w, K, mg, base⟩ x) := by
  have h1 := PySem.W.mg_of X G a
  rw [clsA_of (W := ⟨P, w, K, mg, base⟩) h1]
  exact ⟨h1, kC, eX, eC, tC⟩
theorem rzI_InvalidText {P : Program} {w : World} {K : PySem.W.Frag} {mg : Str → Option Value} {base h : Heap} {C f1 T : Addr} {nm q : Str} {N : Addr} {bs bm : List Value} {sn : List Str} {sub : List Value} {ab : Bool} {col : Option Bool} {dd : Option Addr} {m0 m1 m2 m3 m5 : Option Value}
    {od1 an1 odT : Option Addr} {sl1 slT : Array (Option Value)} {oc1 kV1 dc1 pm1 cd1 ct1 ocT : Value} {nT : Nat} (X : K.In h) (G : h.Ns mainGlobals mg)
    (aC : PySem.W.nsIn K mainGlobals "InvalidText" = some (some (.ref C))) (xL : K.lookup C = some (excClassObj nm q C N bs bm true sn sub ab col dd m0 m1 m2 m3 m5 "ValueError.__new__")) (hbm : PySem.HandSPX.refsVE bm = true)
    (sa : PySem.W.findIn K (.ref C) "__setattr__" = some (some (.builtin "object.__setattr__"))) (ga : PySem.W.findIn K (.ref C) "__getattribute__" = some (some (.builtin "BaseException.__getattribute__"))) (gg : PySem.W.findIn K (.ref C) "__getattr__" = some none) (nb : PySem.W.findIn K (.ref C) "line" = some none)
    (a1 : PySem.W.findIn K (.ref C) "__init__" = some (some (.ref f1))) (t1 : PySem.W.typeIn K (.ref f1) = some (.type "function"))
    (l1 : K.lookup f1 = some ⟨oc1, od1, .func (PySem.W.fnOf "__init__" "InvalidText.__init__" (defArgs (inClass (top 3) 0)) (defBody (inClass (top 3) 0)) (defScope (inClass (top 3) 0)) (.ref T) kV1 dc1 pm1 an1 cd1 ct1), sl1⟩) (c1 : PySem.W.codeIn K cd1 "InvalidText.__init__" = true) (k1 : PySem.W.keepIn K (.ref f1) = true)
    (kC : PySem.W.keepIn K (.ref C) = true) (eC : PySem.W.subIn K (.ref C) (.type "BaseException") = some true) (tC : PySem.W.typeIn K (.ref C) = some (.type "type")) (hC : PySem.W.hasDictIn K C = true) (lT : K.lookup T = some ⟨ocT, odT, .seq #[.none] nT, slT⟩) :
    RzI ⟨P, w, K, mg, base⟩ "InvalidText" "line" (clsA ⟨P, w, K, mg, base⟩ "InvalidText") ∧ RzN ⟨P, w, K, mg, base⟩ "line" (clsA ⟨P, w, K, mg, base⟩ "InvalidText") := by
  have h1 := PySem.W.mg_of X G aC
  rw [clsA_of (W := ⟨P, w, K, mg, base⟩) h1]
  have F : FunD K "__init__" "InvalidText.__init__" (defArgs (inClass (top 3) 0)) (defBody (inClass (top 3) 0)) (defScope (inClass (top 3) 0)) [V.non] [] f1 _ := ⟨⟨_, _, _, _, _, _, _, _, _, _, rfl, l1, c1, .inr ⟨by simp, T, _, [.none], nT, rfl, lT, rfl, .cons rfl .nil⟩, .inl rfl⟩, k1⟩
  obtain ⟨b1, b2⟩ := bindsInvalidText (W := ⟨P, w, K, mg, base⟩) F
  have ok := okInitInvalidText (W := ⟨P, w, K, mg, base⟩) F
  exact ⟨⟨h1, ⟨⟨_, _, _, _, _, _, _, _, _, _, _, _, _, _, _, xL, hbm⟩, sa, eC, tC, kC⟩, nb, ⟨ga, gg, eC, hC⟩, f1, _, _, a1, t1, ok, b1⟩, f1, _, _, a1, t1, ok, b2⟩
theorem all_mk {l : PySem.W.OpenLaw} {w : World} {K : PySem.W.Frag} {mg : Str → Option Value} {fa : Addr} (hfa : mg "law" = some (.ref fa)) (M : ∀ base, Md ⟨l.prog, w, K, mg, base⟩)
    (aPouch : ∀ base, At ⟨l.prog, w, K, mg, base⟩ "_law_pouch" (top 31)) (aPick : ∀ base, At ⟨l.prog, w, K, mg, base⟩ "_law_pick" (top 32)) (aPool : ∀ base, At ⟨l.prog, w, K, mg, base⟩ "_law_pool" (top 33)) (aHidden : ∀ base, At ⟨l.prog, w, K, mg, base⟩ "_law_hidden" (top 34)) (aFront : ∀ base, At ⟨l.prog, w, K, mg, base⟩ "_law_front" (top 35)) (aAnswer : ∀ base, At ⟨l.prog, w, K, mg, base⟩ "_law_answer" (top 36)) (aBoard : ∀ base, At ⟨l.prog, w, K, mg, base⟩ "_law_board" (top 37)) (aAnyBoard : ∀ base, At ⟨l.prog, w, K, mg, base⟩ "_law_any_board" (top 38)) (aLawText : ∀ base, At ⟨l.prog, w, K, mg, base⟩ "_law_text" (top 39)) (aAreLetters : ∀ base, At ⟨l.prog, w, K, mg, base⟩ "are_letters" (top 8)) (aIsInteger : ∀ base, At ⟨l.prog, w, K, mg, base⟩ "is_integer" (top 7)) (aIsLimit : ∀ base, At ⟨l.prog, w, K, mg, base⟩ "is_limit" (top 12)) (aHasWord : ∀ base, At ⟨l.prog, w, K, mg, base⟩ "has_word_form" (top 9)) (aDiffWords : ∀ base, At ⟨l.prog, w, K, mg, base⟩ "are_different_words" (top 10)) (aIsShown : ∀ base, At ⟨l.prog, w, K, mg, base⟩ "is_shown_list" (top 11)) (aScreenForm : ∀ base, At ⟨l.prog, w, K, mg, base⟩ "has_screen_form" (top 13)) (aScreensForm : ∀ base, At ⟨l.prog, w, K, mg, base⟩ "has_screens_form" (top 14)) (aAreScreens : ∀ base, At ⟨l.prog, w, K, mg, base⟩ "are_screens" (top 17)) (aBeginningText : ∀ base, At ⟨l.prog, w, K, mg, base⟩ "beginning_text" (top 24)) (aScreenText : ∀ base, At ⟨l.prog, w, K, mg, base⟩ "screen_text" (top 25)) (aFormatScreens : ∀ base, At ⟨l.prog, w, K, mg, base⟩ "format_screens" (top 28)) (aRequireString : ∀ base, At ⟨l.prog, w, K, mg, base⟩ "require_string" (top 27)) (aNumberIn : ∀ base, At ⟨l.prog, w, K, mg, base⟩ "number_in" (top 23)) (aIsScreen : ∀ base, At ⟨l.prog, w, K, mg, base⟩ "is_screen" (top 16)) (aScreenIn : ∀ base, At ⟨l.prog, w, K, mg, base⟩ "screen_in" (top 26)) (aParseScreens : ∀ base, At ⟨l.prog, w, K, mg, base⟩ "parse_screens" (top 29)) (aSpoiled : ∀ base, At ⟨l.prog, w, K, mg, base⟩ "_law_spoiled" (top 42)) (aIsLetters : ∀ base, At ⟨l.prog, w, K, mg, base⟩ "_law_is_letters" (top 40)) (aIsLong : ∀ base, At ⟨l.prog, w, K, mg, base⟩ "_law_is_long" (top 43)) (aRead : ∀ base, At ⟨l.prog, w, K, mg, base⟩ "_law_read" (top 41)) (aDue : ∀ base, At ⟨l.prog, w, K, mg, base⟩ "_law_due" (top 45)) (aTold : ∀ base, At ⟨l.prog, w, K, mg, base⟩ "_law_told" (top 44)) (aRight : ∀ base, At ⟨l.prog, w, K, mg, base⟩ "_law_right" (top 46)) (aLaw : ∀ base, At ⟨l.prog, w, K, mg, base⟩ "law" (top 47)) :
    ∃ fd : FuncData, (∀ (s : Shared) (v : Value), BindsTo s fd ⟨[v], []⟩ [("script", v)]) ∧ ∀ base : Heap, K.In base → base.Ns mainGlobals mg → FnD ⟨l.prog, w, K, mg, base⟩ 11 fa fd ["script"] sLaw := by
  obtain ⟨f, fd, h1, h2⟩ := aLaw default
  have e := hfa.symm.trans h1
  cases e
  obtain ⟨oc, od, kV, doc, pm, an, cdv, ct, osl, e1, lk, hcd⟩ := id h2.ex
  refine ⟨fd, fun s v => ?_, fun base _ _ => (allOk (M base) (aPouch base) (aPick base) (aPool base) (aHidden base) (aFront base) (aAnswer base) (aBoard base) (aAnyBoard base) (aLawText base) (aAreLetters base) (aIsInteger base) (aIsLimit base) (aHasWord base) (aDiffWords base) (aIsShown base) (aScreenForm base) (aScreensForm base) (aAreScreens base) (aBeginningText base) (aScreenText base) (aFormatScreens base) (aRequireString base) (aNumberIn base) (aIsScreen base) (aScreenIn base) (aParseScreens base) (aSpoiled base) (aIsLetters base) (aIsLong base) (aRead base) (aDue base) (aTold base) (aRight base) (aLaw base)).use hfa h2⟩
  rw [e1]
  exact .of_eq rfl
end TM
open PySem PySem.W PyProof.Rows in
set_option maxRecDepth 100000 in
set_option maxHeartbeats 0 in
theorem PySem.Challenge.cw_topmatches_k58_texts_of_many_screens_holds : PySem.Challenge.rw_topmatches_k58_texts_of_many_screens.Holds := by
  w_on; o_law; k_head; (case hw => w_witness2)
  k_fill
  refine TM.end_walk (l := PySem.Challenge.rw_topmatches_k58_texts_of_many_screens) (x := "script") (st := TM.top 0) (S := TM.sLaw) (k := 11) (n := 63) rfl (by decide) rfl ⟨rfl, by decide, by decide⟩ (fun w h Y => PySem.W.kIn_of Y) ?F (fun ns hns => ⟨ns, rfl, hns, fun _ => rfl⟩)
  case F =>
    intro w mg fa h KX G hmg
    have aPouch : ∀ base, TM.At ⟨PySem.Challenge.rw_topmatches_k58_texts_of_many_screens.prog, w, _, mg, base⟩ "_law_pouch" (TM.top 31) := fun base => by
      refine' TM.at_mk KX G ?a ?l ?c ?k
      (case a => k_is)
      (case l => k_is)
      (case c => k_is)
      (case k => k_is)
    have aPick : ∀ base, TM.At ⟨PySem.Challenge.rw_topmatches_k58_texts_of_many_screens.prog, w, _, mg, base⟩ "_law_pick" (TM.top 32) := fun base => by
      refine' TM.at_mk KX G ?a ?l ?c ?k
      (case a => k_is)
      (case l => k_is)
      (case c => k_is)
      (case k => k_is)
    have aPool : ∀ base, TM.At ⟨PySem.Challenge.rw_topmatches_k58_texts_of_many_screens.prog, w, _, mg, base⟩ "_law_pool" (TM.top 33) := fun base => by
      refine' TM.at_mk KX G ?a ?l ?c ?k
      (case a => k_is)
      (case l => k_is)
      (case c => k_is)
      (case k => k_is)
    have aHidden : ∀ base, TM.At ⟨PySem.Challenge.rw_topmatches_k58_texts_of_many_screens.prog, w, _, mg, base⟩ "_law_hidden" (TM.top 34) := fun base => by
      refine' TM.at_mk KX G ?a ?l ?c ?k
      (case a => k_is)
      (case l => k_is)
      (case c => k_is)
      (case k => k_is)
    have aFront : ∀ base, TM.At ⟨PySem.Challenge.rw_topmatches_k58_texts_of_many_screens.prog, w, _, mg, base⟩ "_law_front" (TM.top 35) := fun base => by
      refine' TM.at_mk KX G ?a ?l ?c ?k
      (case a => k_is)
      (case l => k_is)
      (case c => k_is)
      (case k => k_is)
    have aAnswer : ∀ base, TM.At ⟨PySem.Challenge.rw_topmatches_k58_texts_of_many_screens.prog, w, _, mg, base⟩ "_law_answer" (TM.top 36) := fun base => by
      refine' TM.at_mk KX G ?a ?l ?c ?k
      (case a => k_is)
      (case l => k_is)
      (case c => k_is)
      (case k => k_is)
    have aBoard : ∀ base, TM.At ⟨PySem.Challenge.rw_topmatches_k58_texts_of_many_screens.prog, w, _, mg, base⟩ "_law_board" (TM.top 37) := fun base => by
      refine' TM.at_mk KX G ?a ?l ?c ?k
      (case a => k_is)
      (case l => k_is)
      (case c => k_is)
      (case k => k_is)
    have aAnyBoard : ∀ base, TM.At ⟨PySem.Challenge.rw_topmatches_k58_texts_of_many_screens.prog, w, _, mg, base⟩ "_law_any_board" (TM.top 38) := fun base => by
      refine' TM.at_mk KX G ?a ?l ?c ?k
      (case a => k_is)
      (case l => k_is)
      (case c => k_is)
      (case k => k_is)
    have aLawText : ∀ base, TM.At ⟨PySem.Challenge.rw_topmatches_k58_texts_of_many_screens.prog, w, _, mg, base⟩ "_law_text" (TM.top 39) := fun base => by
      refine' TM.at_mk KX G ?a ?l ?c ?k
      (case a => k_is)
      (case l => k_is)
      (case c => k_is)
      (case k => k_is)
    have aAreLetters : ∀ base, TM.At ⟨PySem.Challenge.rw_topmatches_k58_texts_of_many_screens.prog, w, _, mg, base⟩ "are_letters" (TM.top 8) := fun base => by
      refine' TM.at_mk KX G ?a ?l ?c ?k
      (case a => k_is)
      (case l => k_is)
      (case c => k_is)
      (case k => k_is)
    have aIsInteger : ∀ base, TM.At ⟨PySem.Challenge.rw_topmatches_k58_texts_of_many_screens.prog, w, _, mg, base⟩ "is_integer" (TM.top 7) := fun base => by
      refine' TM.at_mk KX G ?a ?l ?c ?k
      (case a => k_is)
      (case l => k_is)
      (case c => k_is)
      (case k => k_is)
    have aIsLimit : ∀ base, TM.At ⟨PySem.Challenge.rw_topmatches_k58_texts_of_many_screens.prog, w, _, mg, base⟩ "is_limit" (TM.top 12) := fun base => by
      refine' TM.at_mk KX G ?a ?l ?c ?k
      (case a => k_is)
      (case l => k_is)
      (case c => k_is)
      (case k => k_is)
    have aHasWord : ∀ base, TM.At ⟨PySem.Challenge.rw_topmatches_k58_texts_of_many_screens.prog, w, _, mg, base⟩ "has_word_form" (TM.top 9) := fun base => by
      refine' TM.at_mk KX G ?a ?l ?c ?k
      (case a => k_is)
      (case l => k_is)
      (case c => k_is)
      (case k => k_is)
    have aDiffWords : ∀ base, TM.At ⟨PySem.Challenge.rw_topmatches_k58_texts_of_many_screens.prog, w, _, mg, base⟩ "are_different_words" (TM.top 10) := fun base => by
      refine' TM.at_mk KX G ?a ?l ?c ?k
      (case a => k_is)
      (case l => k_is)
      (case c => k_is)
      (case k => k_is)
    have aIsShown : ∀ base, TM.At ⟨PySem.Challenge.rw_topmatches_k58_texts_of_many_screens.prog, w, _, mg, base⟩ "is_shown_list" (TM.top 11) := fun base => by
      refine' TM.at_mk KX G ?a ?l ?c ?k
      (case a => k_is)
      (case l => k_is)
      (case c => k_is)
      (case k => k_is)
    have aScreenForm : ∀ base, TM.At ⟨PySem.Challenge.rw_topmatches_k58_texts_of_many_screens.prog, w, _, mg, base⟩ "has_screen_form" (TM.top 13) := fun base => by
      refine' TM.at_mk KX G ?a ?l ?c ?k
      (case a => k_is)
      (case l => k_is)
      (case c => k_is)
      (case k => k_is)
    have aScreensForm : ∀ base, TM.At ⟨PySem.Challenge.rw_topmatches_k58_texts_of_many_screens.prog, w, _, mg, base⟩ "has_screens_form" (TM.top 14) := fun base => by
      refine' TM.at_mk KX G ?a ?l ?c ?k
      (case a => k_is)
      (case l => k_is)
      (case c => k_is)
      (case k => k_is)
    have aAreScreens : ∀ base, TM.At ⟨PySem.Challenge.rw_topmatches_k58_texts_of_many_screens.prog, w, _, mg, base⟩ "are_screens" (TM.top 17) := fun base => by
      refine' TM.at_mk KX G ?a ?l ?c ?k
      (case a => k_is)
      (case l => k_is)
      (case c => k_is)
      (case k => k_is)
    have aBeginningText : ∀ base, TM.At ⟨PySem.Challenge.rw_topmatches_k58_texts_of_many_screens.prog, w, _, mg, base⟩ "beginning_text" (TM.top 24) := fun base => by
      refine' TM.at_mk KX G ?a ?l ?c ?k
      (case a => k_is)
      (case l => k_is)
      (case c => k_is)
      (case k => k_is)
    have aScreenText : ∀ base, TM.At ⟨PySem.Challenge.rw_topmatches_k58_texts_of_many_screens.prog, w, _, mg, base⟩ "screen_text" (TM.top 25) := fun base => by
      refine' TM.at_mk KX G ?a ?l ?c ?k
      (case a => k_is)
      (case l => k_is)
      (case c => k_is)
      (case k => k_is)
    have aFormatScreens : ∀ base, TM.At ⟨PySem.Challenge.rw_topmatches_k58_texts_of_many_screens.prog, w, _, mg, base⟩ "format_screens" (TM.top 28) := fun base => by
      refine' TM.at_mk KX G ?a ?l ?c ?k
      (case a => k_is)
      (case l => k_is)
      (case c => k_is)
      (case k => k_is)
    have aRequireString : ∀ base, TM.At ⟨PySem.Challenge.rw_topmatches_k58_texts_of_many_screens.prog, w, _, mg, base⟩ "require_string" (TM.top 27) := fun base => by
      refine' TM.at_mk KX G ?a ?l ?c ?k
      (case a => k_is)
      (case l => k_is)
      (case c => k_is)
      (case k => k_is)
    have aNumberIn : ∀ base, TM.At ⟨PySem.Challenge.rw_topmatches_k58_texts_of_many_screens.prog, w, _, mg, base⟩ "number_in" (TM.top 23) := fun base => by
      refine' TM.at_mk KX G ?a ?l ?c ?k
      (case a => k_is)
      (case l => k_is)
      (case c => k_is)
      (case k => k_is)
    have aIsScreen : ∀ base, TM.At ⟨PySem.Challenge.rw_topmatches_k58_texts_of_many_screens.prog, w, _, mg, base⟩ "is_screen" (TM.top 16) := fun base => by
      refine' TM.at_mk KX G ?a ?l ?c ?k
      (case a => k_is)
      (case l => k_is)
      (case c => k_is)
      (case k => k_is)
    have aScreenIn : ∀ base, TM.At ⟨PySem.Challenge.rw_topmatches_k58_texts_of_many_screens.prog, w, _, mg, base⟩ "screen_in" (TM.top 26) := fun base => by
      refine' TM.at_mk KX G ?a ?l ?c ?k
      (case a => k_is)
      (case l => k_is)
      (case c => k_is)
      (case k => k_is)
    have aParseScreens : ∀ base, TM.At ⟨PySem.Challenge.rw_topmatches_k58_texts_of_many_screens.prog, w, _, mg, base⟩ "parse_screens" (TM.top 29) := fun base => by
      refine' TM.at_mk KX G ?a ?l ?c ?k
      (case a => k_is)
      (case l => k_is)
      (case c => k_is)
      (case k => k_is)
    have aSpoiled : ∀ base, TM.At ⟨PySem.Challenge.rw_topmatches_k58_texts_of_many_screens.prog, w, _, mg, base⟩ "_law_spoiled" (TM.top 42) := fun base => by
      refine' TM.at_mk KX G ?a ?l ?c ?k
      (case a => k_is)
      (case l => k_is)
      (case c => k_is)
      (case k => k_is)
    have aIsLetters : ∀ base, TM.At ⟨PySem.Challenge.rw_topmatches_k58_texts_of_many_screens.prog, w, _, mg, base⟩ "_law_is_letters" (TM.top 40) := fun base => by
      refine' TM.at_mk KX G ?a ?l ?c ?k
      (case a => k_is)
      (case l => k_is)
      (case c => k_is)
      (case k => k_is)
    have aIsLong : ∀ base, TM.At ⟨PySem.Challenge.rw_topmatches_k58_texts_of_many_screens.prog, w, _, mg, base⟩ "_law_is_long" (TM.top 43) := fun base => by
      refine' TM.at_mk KX G ?a ?l ?c ?k
      (case a => k_is)
      (case l => k_is)
      (case c => k_is)
      (case k => k_is)
    have aRead : ∀ base, TM.At ⟨PySem.Challenge.rw_topmatches_k58_texts_of_many_screens.prog, w, _, mg, base⟩ "_law_read" (TM.top 41) := fun base => by
      refine' TM.at_mk KX G ?a ?l ?c ?k
      (case a => k_is)
      (case l => k_is)
      (case c => k_is)
      (case k => k_is)
    have aDue : ∀ base, TM.At ⟨PySem.Challenge.rw_topmatches_k58_texts_of_many_screens.prog, w, _, mg, base⟩ "_law_due" (TM.top 45) := fun base => by
      refine' TM.at_mk KX G ?a ?l ?c ?k
      (case a => k_is)
      (case l => k_is)
      (case c => k_is)
      (case k => k_is)
    have aTold : ∀ base, TM.At ⟨PySem.Challenge.rw_topmatches_k58_texts_of_many_screens.prog, w, _, mg, base⟩ "_law_told" (TM.top 44) := fun base => by
      refine' TM.at_mk KX G ?a ?l ?c ?k
      (case a => k_is)
      (case l => k_is)
      (case c => k_is)
      (case k => k_is)
    have aRight : ∀ base, TM.At ⟨PySem.Challenge.rw_topmatches_k58_texts_of_many_screens.prog, w, _, mg, base⟩ "_law_right" (TM.top 46) := fun base => by
      refine' TM.at_mk KX G ?a ?l ?c ?k
      (case a => k_is)
      (case l => k_is)
      (case c => k_is)
      (case k => k_is)
    have aLaw : ∀ base, TM.At ⟨PySem.Challenge.rw_topmatches_k58_texts_of_many_screens.prog, w, _, mg, base⟩ "law" (TM.top 47) := fun base => by
      refine' TM.at_mk KX G ?a ?l ?c ?k
      (case a => k_is)
      (case l => k_is)
      (case c => k_is)
      (case k => k_is)
    have zisinstance : mg "isinstance" = none := by
      refine' PySem.W.mg_none_of KX G ?z
      (case z => k_is)
    have zint : mg "int" = none := by
      refine' PySem.W.mg_none_of KX G ?z
      (case z => k_is)
    have zbool : mg "bool" = none := by
      refine' PySem.W.mg_none_of KX G ?z
      (case z => k_is)
    have zstr : mg "str" = none := by
      refine' PySem.W.mg_none_of KX G ?z
      (case z => k_is)
    have zall : mg "all" = none := by
      refine' PySem.W.mg_none_of KX G ?z
      (case z => k_is)
    have zany : mg "any" = none := by
      refine' PySem.W.mg_none_of KX G ?z
      (case z => k_is)
    have zlen : mg "len" = none := by
      refine' PySem.W.mg_none_of KX G ?z
      (case z => k_is)
    have zset : mg "set" = none := by
      refine' PySem.W.mg_none_of KX G ?z
      (case z => k_is)
    have zlist : mg "list" = none := by
      refine' PySem.W.mg_none_of KX G ?z
      (case z => k_is)
    have ztuple : mg "tuple" = none := by
      refine' PySem.W.mg_none_of KX G ?z
      (case z => k_is)
    have zrange : mg "range" = none := by
      refine' PySem.W.mg_none_of KX G ?z
      (case z => k_is)
    have zmax : mg "max" = none := by
      refine' PySem.W.mg_none_of KX G ?z
      (case z => k_is)
    have zmin : mg "min" = none := by
      refine' PySem.W.mg_none_of KX G ?z
      (case z => k_is)
    have zabs : mg "abs" = none := by
      refine' PySem.W.mg_none_of KX G ?z
      (case z => k_is)
    have zrepr : mg "repr" = none := by
      refine' PySem.W.mg_none_of KX G ?z
      (case z => k_is)
    have zenumerate : mg "enumerate" = none := by
      refine' PySem.W.mg_none_of KX G ?z
      (case z => k_is)
    have zsorted : mg "sorted" = none := by
      refine' PySem.W.mg_none_of KX G ?z
      (case z => k_is)
    have zzip : mg "zip" = none := by
      refine' PySem.W.mg_none_of KX G ?z
      (case z => k_is)
    have zdict : mg "dict" = none := by
      refine' PySem.W.mg_none_of KX G ?z
      (case z => k_is)
    have ztype : mg "type" = none := by
      refine' PySem.W.mg_none_of KX G ?z
      (case z => k_is)
    have zsum : mg "sum" = none := by
      refine' PySem.W.mg_none_of KX G ?z
      (case z => k_is)
    have zreversed : mg "reversed" = none := by
      refine' PySem.W.mg_none_of KX G ?z
      (case z => k_is)
    have cMOST_WORDS : ∃ t, mg "MOST_WORDS" = some (.int 20 t) := by
      refine' TM.mgc_int KX G ?a ?eqv
      (case a => k_is)
      (case eqv => exact ⟨_, rfl⟩)
    have cMOST_SCREENS : ∃ t, mg "MOST_SCREENS" = some (.int 20 t) := by
      refine' TM.mgc_int KX G ?a ?eqv
      (case a => k_is)
      (case eqv => exact ⟨_, rfl⟩)
    have cEMPTY : ∃ t, mg "EMPTY" = some (.str "-" t) := by
      refine' TM.mgc_str KX G ?a ?eqv
      (case a => k_is)
      (case eqv => exact ⟨_, rfl⟩)
    have cDIGITS : ∃ t, mg "DIGITS" = some (.str "0123456789" t) := by
      refine' TM.mgc_str KX G ?a ?eqv
      (case a => k_is)
      (case eqv => exact ⟨_, rfl⟩)
    have cMOST_LIMIT_DIGITS : ∃ t, mg "MOST_LIMIT_DIGITS" = some (.int 2 t) := by
      refine' TM.mgc_int KX G ?a ?eqv
      (case a => k_is)
      (case eqv => exact ⟨_, rfl⟩)
    have cMOST_LINES : ∃ t, mg "MOST_LINES" = some (.int 20 t) := by
      refine' TM.mgc_int KX G ?a ?eqv
      (case a => k_is)
      (case eqv => exact ⟨_, rfl⟩)
    have atInvalidText : ∀ base, mg "InvalidText" = some (.ref (TM.clsA ⟨PySem.Challenge.rw_topmatches_k58_texts_of_many_screens.prog, w, _, mg, base⟩ "InvalidText")) := fun base => by
      refine' TM.atC_mk KX G ?a
      (case a => k_is)
    have atTopMatchesError : ∀ base, mg "TopMatchesError" = some (.ref (TM.clsA ⟨PySem.Challenge.rw_topmatches_k58_texts_of_many_screens.prog, w, _, mg, base⟩ "TopMatchesError")) := fun base => by
      refine' TM.atC_mk KX G ?a
      (case a => k_is)
    have iInvalidText : ∀ base, TM.RzI ⟨PySem.Challenge.rw_topmatches_k58_texts_of_many_screens.prog, w, _, mg, base⟩ "InvalidText" "line" (TM.clsA ⟨PySem.Challenge.rw_topmatches_k58_texts_of_many_screens.prog, w, _, mg, base⟩ "InvalidText") ∧ TM.RzN ⟨PySem.Challenge.rw_topmatches_k58_texts_of_many_screens.prog, w, _, mg, base⟩ "line" (TM.clsA ⟨PySem.Challenge.rw_topmatches_k58_texts_of_many_screens.prog, w, _, mg, base⟩ "InvalidText") := fun base => by
      refine' TM.rzI_InvalidText KX G ?aC ?xL ?hbm ?sa ?ga ?gg ?nb ?a1 ?t1 ?l1 ?c1 ?k1 ?kC ?eC ?tC ?hC ?lT
      (case aC => k_is)
      (case xL => k_is)
      (case hbm => decide +kernel)
      (case sa => k_is)
      (case ga => k_is)
      (case gg => k_is)
      (case nb => k_is)
      (case a1 => k_is)
      (case t1 => k_is)
      (case l1 => k_is)
      (case c1 => k_is)
      (case k1 => k_is)
      (case kC => k_is)
      (case eC => k_is)
      (case tC => k_is)
      (case hC => k_is)
      (case lT => k_is)
    have xInvalidText_InvalidText : ∀ base, PySem.W.exmOne _ (.ref (TM.clsA ⟨PySem.Challenge.rw_topmatches_k58_texts_of_many_screens.prog, w, _, mg, base⟩ "InvalidText")) (.ref (TM.clsA ⟨PySem.Challenge.rw_topmatches_k58_texts_of_many_screens.prog, w, _, mg, base⟩ "InvalidText")) = some true := fun base => by
      refine' TM.exm_mk KX G ?a ?b ?h1 ?h2 ?h3 ?h4
      (case a => k_is)
      (case b => k_is)
      (case h1 => k_is)
      (case h2 => k_is)
      (case h3 => k_is)
      (case h4 => first | rfl | k_is)
    have xInvalidText_TopMatchesError : ∀ base, PySem.W.exmOne _ (.ref (TM.clsA ⟨PySem.Challenge.rw_topmatches_k58_texts_of_many_screens.prog, w, _, mg, base⟩ "InvalidText")) (.ref (TM.clsA ⟨PySem.Challenge.rw_topmatches_k58_texts_of_many_screens.prog, w, _, mg, base⟩ "TopMatchesError")) = some true := fun base => by
      refine' TM.exm_mk KX G ?a ?b ?h1 ?h2 ?h3 ?h4
      (case a => k_is)
      (case b => k_is)
      (case h1 => k_is)
      (case h2 => k_is)
      (case h3 => k_is)
      (case h4 => first | rfl | k_is)
    have iInvalidScreens : ∀ base, TM.RzC ⟨PySem.Challenge.rw_topmatches_k58_texts_of_many_screens.prog, w, _, mg, base⟩ "InvalidScreens" (TM.clsA ⟨PySem.Challenge.rw_topmatches_k58_texts_of_many_screens.prog, w, _, mg, base⟩ "InvalidScreens") := fun base => by
      refine' TM.rzC_mk KX G ?a ?kC ?eX ?eC ?tC
      (case a => k_is)
      (case kC => k_is)
      (case eX => k_exc)
      (case eC => k_is)
      (case tC => k_is)
    have xInvalidScreens_InvalidText : ∀ base, PySem.W.exmOne _ (.ref (TM.clsA ⟨PySem.Challenge.rw_topmatches_k58_texts_of_many_screens.prog, w, _, mg, base⟩ "InvalidScreens")) (.ref (TM.clsA ⟨PySem.Challenge.rw_topmatches_k58_texts_of_many_screens.prog, w, _, mg, base⟩ "InvalidText")) = some false := fun base => by
      refine' TM.exm_mk KX G ?a ?b ?h1 ?h2 ?h3 ?h4
      (case a => k_is)
      (case b => k_is)
      (case h1 => k_is)
      (case h2 => k_is)
      (case h3 => k_is)
      (case h4 => first | rfl | k_is)
    have xInvalidScreens_TopMatchesError : ∀ base, PySem.W.exmOne _ (.ref (TM.clsA ⟨PySem.Challenge.rw_topmatches_k58_texts_of_many_screens.prog, w, _, mg, base⟩ "InvalidScreens")) (.ref (TM.clsA ⟨PySem.Challenge.rw_topmatches_k58_texts_of_many_screens.prog, w, _, mg, base⟩ "TopMatchesError")) = some true := fun base => by
      refine' TM.exm_mk KX G ?a ?b ?h1 ?h2 ?h3 ?h4
      (case a => k_is)
      (case b => k_is)
      (case h1 => k_is)
      (case h2 => k_is)
      (case h3 => k_is)
      (case h4 => first | rfl | k_is)
    refine TM.all_mk hmg (fun base => ⟨?_, cMOST_WORDS, cMOST_SCREENS, cEMPTY, cDIGITS, cMOST_LIMIT_DIGITS, cMOST_LINES, atInvalidText base, atTopMatchesError base, (iInvalidText base).1, (iInvalidText base).2, xInvalidText_InvalidText base, xInvalidText_TopMatchesError base, iInvalidScreens base, xInvalidScreens_InvalidText base, xInvalidScreens_TopMatchesError base⟩) aPouch aPick aPool aHidden aFront aAnswer aBoard aAnyBoard aLawText aAreLetters aIsInteger aIsLimit aHasWord aDiffWords aIsShown aScreenForm aScreensForm aAreScreens aBeginningText aScreenText aFormatScreens aRequireString aNumberIn aIsScreen aScreenIn aParseScreens aSpoiled aIsLetters aIsLong aRead aDue aTold aRight aLaw
    intro x hx
    simp only [List.mem_cons, List.not_mem_nil, or_false] at hx
    rcases hx with rfl | rfl | rfl | rfl | rfl | rfl | rfl | rfl | rfl | rfl | rfl | rfl | rfl | rfl | rfl | rfl | rfl | rfl | rfl | rfl | rfl | rfl
    · exact zisinstance
    · exact zint
    · exact zbool
    · exact zstr
    · exact zall
    · exact zany
    · exact zlen
    · exact zset
    · exact zlist
    · exact ztuple
    · exact zrange
    · exact zmax
    · exact zmin
    · exact zabs
    · exact zrepr
    · exact zenumerate
    · exact zsorted
    · exact zzip
    · exact zdict
    · exact ztype
    · exact zsum
    · exact zreversed

