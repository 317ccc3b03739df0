import PyProof.Rows.All
import Wide.All
import OpenK.AllK
import Wide.FinOn
import HandS.ForMost
import HandS.Evl
import HandS.Wide
import HandS.TupAny
import HandS.TupMul
import HandS.IsInst
import HandS.Style
import HandS.Zip
import HandS.More
import KE.GoesEnum
import HandS.Deep
import HandS.SortInts
import HandS.Strs
import HandS.SetFor
import PyProof.Rows.IntBool
import PyProof.CallStr
import PySem.Challenge.RW_flexrow_k05_whole_shares_and_bends
set_option Elab.async false
set_option linter.all false
set_option maxRecDepth 100000
set_option maxHeartbeats 4000000
set_option exponentiation.threshold 10000
namespace DL
open PySem PySem.Spec PyProof.Rows L2
open Evl (Ex ex_l ex_t)
abbrev D := PyData
/-- what a list or dict that may change holds -/
inductive Ct where
  | lst (l : List D)
  | dct (kvs : List (Key × D))
/-- a slot: nothing known; a datum (what it reaches never changes); a list or dict that is changed through this slot alone (true: made here; false: the caller's own) -/
inductive Sl where
  | no
  | val (d : D)
  | mu (b : Bool) (t : Ct)
abbrev En := List Sl

theorem dpAll_mono {K : PySem.W.Frag} {H H' : Hp} (e : Ex H H') : ∀ {d : D} {v : V}, Dp K H v d → Dp K H' v d := by
  intro d v h
  exact Dp.rec (motive_1 := fun v d _ => Dp K H' v d) (motive_2 := fun vs ds _ => DpAll K H' vs ds)
    .non (fun b => .bl b) (fun i => .int i) (fun x => .str x) (fun s _ ih => .lst (ex_l e s) ih) (fun s _ ih => .tup (ex_t e s) ih) .nil (fun _ _ a b => .cons a b) h
theorem dp_mono {K : PySem.W.Frag} {H H' : Hp} (e : Ex H H') {d : D} {v : V} (h : Dp K H v d) : Dp K H' v d := dpAll_mono e h
theorem dps_mono {K : PySem.W.Frag} {H H' : Hp} (e : Ex H H') : ∀ {vs : List V} {ds : List D}, DpAll K H vs ds → DpAll K H' vs ds
  | _, _, .nil => .nil
  | _, _, .cons a b => .cons (dp_mono e a) (dps_mono e b)

def CtOk (K : PySem.W.Frag) (F : Hp) : HO → Ct → Prop
  | .lst vs, .lst l => DpAll K F vs l
  | .dK kvs, .dct es => Paired (fun p q => p.1 = q.1 ∧ Dp K F p.2 q.2) kvs es
  | _, _ => False
theorem paired_mono {K : PySem.W.Frag} {F F' : Hp} (e : Ex F F') : ∀ {kvs : List (Key × V)} {es : List (Key × D)}, Paired (fun p q => p.1 = q.1 ∧ Dp K F p.2 q.2) kvs es → Paired (fun p q => p.1 = q.1 ∧ Dp K F' p.2 q.2) kvs es
  | _, _, .nil => .nil
  | _, _, .cons a b => .cons ⟨a.1, dp_mono e a.2⟩ (paired_mono e b)
theorem ctOk_mono {K : PySem.W.Frag} {F F' : Hp} (e : Ex F F') : ∀ {o : HO} {t : Ct}, CtOk K F o t → CtOk K F' o t := by
  intro o t h
  cases o <;> cases t <;> simp only [CtOk] at h ⊢
  · exact dps_mono e h
  · exact paired_mono e h

/-- the context of a def's data: the data's heap and the heap at its entry, the addresses of the caller's own that it may change -/
structure Cc where
  K : PySem.W.Frag
  F0 : Hp
  G : Hp
  M : List Addr
  pu : Bool := false

/-- from (F, H) on to (F', H'): the data grow; where nothing may be changed (pu) the heap grows, too -/
structure Go (c : Cc) (F H F' H' : Hp) : Prop where
  f : Ex F F'
  h : c.pu = true → Ex H H'
theorem Go.refl {c : Cc} {F H : Hp} : Go c F H F H := ⟨Evl.Ex.refl F, fun _ => Evl.Ex.refl H⟩
theorem Go.trans {c : Cc} {F H F1 H1 F2 H2 : Hp} (a : Go c F H F1 H1) (b : Go c F1 H1 F2 H2) : Go c F H F2 H2 := ⟨a.f.trans b.f, fun z => (a.h z).trans (b.h z)⟩

structure Ok (c : Cc) (F H : Hp) (σ : L2.St) (ρ : En) : Prop where
  mg : ∀ a ∈ c.M, c.G a ≠ none
  f0 : Ex c.F0 F
  fh : Ex F H
  old : ∀ a o, c.G a = some o → a ∉ c.M → H a = some o
  mem : ∀ a ∈ c.M, H a ≠ none
  oldF : ∀ a, c.G a ≠ none → c.F0 a = none → F a = none
  len : σ.length = ρ.length
  val : ∀ (i : Nat) d, ρ[i]? = some (.val d) → ∃ v, σ[i]? = some (some v) ∧ Dp c.K F v d
  mu : ∀ (i : Nat) b t, ρ[i]? = some (.mu b t) → ∃ p o, σ[i]? = some (some (.ref p)) ∧ F p = none ∧ H p = some o ∧ CtOk c.K F o t ∧ (b = true → c.G p = none) ∧ (b = false → p ∈ c.M)
  dis : ∀ (i j : Nat) b t b' t' p, i ≠ j → ρ[i]? = some (.mu b t) → ρ[j]? = some (.mu b' t') → σ[i]? = some (some (.ref p)) → σ[j]? ≠ some (some (.ref p))

/-- no slot of ρ that may change stands at p -/
def Apart (σ : L2.St) (ρ : En) (p : Addr) : Prop := ∀ (i : Nat) b t, ρ[i]? = some (.mu b t) → σ[i]? ≠ some (some (.ref p))

/-- a result -/
def RepR (c : Cc) (σ : L2.St) (ρ : En) (F H : Hp) (v : V) : Sl → Prop
  | .val d => Dp c.K F v d
  | .mu b t => b = true ∧ ∃ p o, v = .ref p ∧ c.G p = none ∧ F p = none ∧ H p = some o ∧ CtOk c.K F o t ∧ Apart σ ρ p
  | .no => False

section
variable {c : Cc} {F F' H H' : Hp} {σ : L2.St} {ρ ρ' : En} {v : V} {r : Sl} {p : Addr} {o : HO}
theorem Ok.hm (I : Ok c F H σ ρ) (fh : Ex F H') (k : ∀ a o, H a = some o → H' a = some o) : Ok c F H' σ ρ :=
  ⟨I.mg, I.f0, fh, fun a o h m => k a o (I.old a o h m), fun a m z => (by
    cases q : H a with
    | none => exact I.mem a m q
    | some o =>
      rw [k a o q] at z
      cases z), I.oldF, I.len, I.val, fun i b t h => by
    obtain ⟨p, o, h1, h2, h3, h4⟩ := I.mu i b t h
    exact ⟨p, o, h1, h2, k p o h3, h4⟩, I.dis⟩
/-- a new object that data may reach -/
theorem Ok.new (I : Ok c F H σ ρ) (hp : H p = none) : Ok c (upd F p o) (upd H p o) σ ρ ∧ Go c F H (upd F p o) (upd H p o) ∧ (upd F p o) p = some o := by
  have fp : F p = none := by
    cases q : F p with
    | none => rfl
    | some u => rw [I.fh p u q] at hp; cases hp
  have eF : Ex F (upd F p o) := Evl.Ex.new fp
  have eH : Ex H (upd H p o) := Evl.Ex.new hp
  have ne : ∀ {a : Addr} {u : HO}, H a = some u → a ≠ p := fun h z => by rw [z, hp] at h; cases h
  refine ⟨⟨I.mg, fun a u h => eF a u (I.f0 a u h), fun a u h => ?_, fun a u h m => eH a u (I.old a u h m), fun a m z => ?_, fun a g f => ?_, I.len, fun i d h => ?_, fun i b t h => ?_, I.dis⟩, ⟨eF, fun _ => eH⟩, upd_same⟩
  · by_cases e : a = p
    · subst e; rw [upd_same] at h ⊢; exact h
    · rw [upd_ne e] at h ⊢; exact I.fh a u h
  · cases q : H a with
    | none => exact I.mem a m q
    | some u => rw [eH a u q] at z; cases z
  · have ha : a ≠ p := fun e => by
      subst e
      cases q : c.G a with
      | none => exact g q
      | some u =>
        by_cases m : a ∈ c.M
        · exact I.mem a m hp
        · rw [I.old a u q m] at hp; cases hp
    rw [upd_ne ha]
    exact I.oldF a g f
  · obtain ⟨v, h1, h2⟩ := I.val i d h
    exact ⟨v, h1, dp_mono eF h2⟩
  · obtain ⟨q, u, h1, h2, h3, h4, h5⟩ := I.mu i b t h
    exact ⟨q, u, h1, by rw [upd_ne (ne h3)]; exact h2, by rw [upd_ne (ne h3)]; exact h3, ctOk_mono eF h4, h5⟩
/-- a new list of one's own -/
theorem Ok.fresh (I : Ok c F H σ ρ) {t : Ct} (hp : H p = none) (ht : CtOk c.K F o t) : Ok c F (upd H p o) σ ρ ∧ Go c F H F (upd H p o) ∧ RepR c σ ρ F (upd H p o) (.ref p) (.mu true t) := by
  have fp : F p = none := by
    cases q : F p with
    | none => rfl
    | some u => rw [I.fh p u q] at hp; cases hp
  have gp : c.G p = none := by
    cases q : c.G p with
    | none => rfl
    | some u =>
      by_cases m : p ∈ c.M
      · exact absurd hp (I.mem p m)
      · rw [I.old p u q m] at hp; cases hp
  refine ⟨I.hm (fun a u h => by rw [upd_ne (ne_of_none (I.fh a u h) hp)]; exact I.fh a u h) (Evl.Ex.new hp), ⟨Evl.Ex.refl F, fun _ => Evl.Ex.new hp⟩, rfl, p, o, rfl, gp, fp, upd_same, ht, fun i b t' h z => ?_⟩
  obtain ⟨q, u, h1, h2, h3, _⟩ := I.mu i b t' h
  rw [h1] at z
  injection z with z; injection z with z; injection z with z
  rw [z, hp] at h3; cases h3
/-- a list of one's own becomes a datum -/
theorem Ok.freeze (I : Ok c F H σ ρ) {l : List D} (h : RepR c σ ρ F H v (.mu true (.lst l))) : ∃ F', Ok c F' H σ ρ ∧ Go c F H F' H ∧ Dp c.K F' v (.list l) := by
  obtain ⟨_, p, o, rfl, gp, fp, hp, ct, ap⟩ := h
  cases o with
  | lst vs =>
    have eF : Ex F (upd F p (.lst vs)) := Evl.Ex.new fp
    refine ⟨upd F p (.lst vs), ⟨I.mg, fun a u h => eF a u (I.f0 a u h), fun a u h => ?_, I.old, I.mem, fun a g f => ?_, I.len, fun i d h => ?_, fun i b t h => ?_, I.dis⟩, ⟨eF, fun _ => Evl.Ex.refl H⟩, .lst (.inl (.inl upd_same)) (dps_mono eF ct)⟩
    · by_cases e : a = p
      · subst e; rw [upd_same] at h; rw [← h]; exact hp
      · rw [upd_ne e] at h; exact I.fh a u h
    · have ha : a ≠ p := fun e => by subst e; exact g gp
      rw [upd_ne ha]; exact I.oldF a g f
    · obtain ⟨v, h1, h2⟩ := I.val i d h
      exact ⟨v, h1, dp_mono eF h2⟩
    · obtain ⟨q, u, h1, h2, h3, h4, h5⟩ := I.mu i b t h
      have hq : q ≠ p := fun e => by subst e; exact ap i b t h h1
      exact ⟨q, u, h1, by rw [upd_ne hq]; exact h2, h3, ctOk_mono eF h4, h5⟩
  | _ => cases ct

/-! ### readings -/
abbrev DT := En → (Sl → En → Prop) → Prop
abbrev DB := En → (Bool → En → Prop) → Prop
def lift (c : Cc) (w : DT) : TE := fun σ H Q => ∃ F ρ Qd, Ok c F H σ ρ ∧ w ρ Qd ∧ ∀ r ρ' v F' H', Qd r ρ' → Ok c F' H' σ ρ' → Go c F H F' H' → RepR c σ ρ' F' H' v r → Q v H'
def liftB (c : Cc) (w : DB) : TT := fun σ H Q => ∃ F ρ Qd, Ok c F H σ ρ ∧ w ρ Qd ∧ ∀ b ρ' F' H', Qd b ρ' → Ok c F' H' σ ρ' → Go c F H F' H' → Q b H'
/-- arguments: a datum, or the slot whose list is handed over to be changed -/
inductive Ag where
  | d (d : D)
  | sl (i : Nat)
def AgOk (c : Cc) (σ : L2.St) (ρ : En) (F : Hp) (v : V) : Ag → Prop
  | .d x => Dp c.K F v x
  | .sl i => σ[i]? = some (some v) ∧ ∃ b t, ρ[i]? = some (.mu b t)
def AgsOk (c : Cc) (σ : L2.St) (ρ : En) (F : Hp) : List V → List Ag → Prop
  | [], [] => True
  | v :: vs, a :: as => AgOk c σ ρ F v a ∧ AgsOk c σ ρ F vs as
  | _, _ => False
abbrev DA := En → (List Ag → En → Prop) → Prop
def liftA (c : Cc) (w : DA) : TA := fun σ H Q => ∃ F ρ Qd, Ok c F H σ ρ ∧ w ρ Qd ∧ ∀ as ρ' vs F' H', Qd as ρ' → Ok c F' H' σ ρ' → Go c F H F' H' → AgsOk c σ ρ' F' vs as → Q vs H'

theorem peto {X : Cx} {e : Expr} {t t' : TE} (h : PE X e t) (k : ∀ σ H Q, t' σ H Q → t σ H Q) : PE X e t' := ⟨fun pins s σ H Q I q => h.run pins s σ H Q I (k σ H Q q)⟩
theorem ptto {X : Cx} {e : Expr} {t t' : TT} (h : PT X e t) (k : ∀ σ H Q, t' σ H Q → t σ H Q) : PT X e t' := ⟨fun pins s σ H Q I q => h.run pins s σ H Q I (k σ H Q q)⟩
theorem pwto {X : Cx} {e : Expr} {t t' : TT} (h : PW X e t) (k : ∀ σ H Q, t' σ H Q → t σ H Q) : PW X e t' := ⟨fun wh pins s σ H Q I q => h.run wh pins s σ H Q I (k σ H Q q)⟩
theorem pato {X : Cx} {es : List Expr} {t t' : TA} (h : PA X es t) (k : ∀ σ H Q, t' σ H Q → t σ H Q) : PA X es t' := ⟨fun pos pins s σ H Q I q => h.run pos pins s σ H Q I (k σ H Q q)⟩
theorem psto {X : Cx} {st : Stmt} {t t' : TS} (h : PS X st t) (k : ∀ D σ H, t' D σ H → t D σ H) : PS X st t' := ⟨fun pins s σ H D I q => h.run pins s σ H D I (k D σ H q)⟩
theorem pssto {X : Cx} {st : List Stmt} {t t' : TS} (h : PSs X st t) (k : ∀ D σ H, t' D σ H → t D σ H) : PSs X st t' := ⟨fun pins s σ H D I q => h.run pins s σ H D I (k D σ H q)⟩

/-! the judgements -/
abbrev DE (c : Cc) (X : Cx) (e : Expr) (w : DT) : Prop := PE X e (lift c w)
abbrev DTe (c : Cc) (X : Cx) (e : Expr) (w : DB) : Prop := PT X e (liftB c w)
abbrev DAs (c : Cc) (X : Cx) (es : List Expr) (w : DA) : Prop := PA X es (liftA c w)

/-- a result as a datum -/
def dF (r : Sl) (Q : D → Prop) : Prop := match r with
  | .val d => Q d
  | .mu true (.lst l) => Q (.list l)
  | _ => False
theorem dF_go (I : Ok c F H σ ρ) {Q : D → Prop} (q : dF r Q) (h : RepR c σ ρ F H v r) : ∃ F' d, Ok c F' H σ ρ ∧ Go c F H F' H ∧ Dp c.K F' v d ∧ Q d := by
  cases r with
  | no => exact q.elim
  | val d => exact ⟨F, d, I, Go.refl, h, q⟩
  | mu b t =>
    cases b with
    | false => exact q.elim
    | true =>
      cases t with
      | dct _ => exact q.elim
      | lst l =>
        obtain ⟨F', I', e, h'⟩ := I.freeze h
        exact ⟨F', _, I', e, h', q⟩

/-! ### names and constants -/
def dC (d : D) : DT := fun ρ Q => Q (.val d) ρ
/-- a name: a list of one's own is a datum from then on -/
def dVar (i : Nat) : DT := fun ρ Q => match ρ[i]? with
  | some (.val d) => Q (.val d) ρ
  | some (.mu true (.lst l)) => Q (.val (.list l)) (ρ.set i (.val (.list l)))
  | _ => False
/-- a name whose own list is handed on: the name is not asked again -/
def dMov (i : Nat) : DT := fun ρ Q => match ρ[i]? with
  | some (.mu true t) => Q (.mu true t) (ρ.set i .no)
  | _ => False

theorem Ok.forget (I : Ok c F H σ ρ) (i : Nat) : Ok c F H σ (ρ.set i .no) := by
  have g : ∀ {j : Nat} {s : Sl}, (ρ.set i .no)[j]? = some s → s ≠ .no → ρ[j]? = some s ∧ j ≠ i := fun {j s} h ns => by
    by_cases e : i = j
    · subst e
      rw [List.getElem?_set_self'] at h
      cases q : ρ[i]? with
      | none => rw [q] at h; cases h
      | some z => rw [q] at h; exact absurd (Option.some.inj h).symm ns
    · rw [List.getElem?_set_ne e] at h
      exact ⟨h, fun z => e z.symm⟩
  exact ⟨I.mg, I.f0, I.fh, I.old, I.mem, I.oldF, by rw [List.length_set]; exact I.len, fun j d h => I.val j d (g h (by simp)).1, fun j b t h => I.mu j b t (g h (by simp)).1,
    fun j k b t b' t' p ne h1 h2 => I.dis j k b t b' t' p ne (g h1 (by simp)).1 (g h2 (by simp)).1⟩
theorem Ok.take (I : Ok c F H σ ρ) {i : Nat} {t : Ct} (h : ρ[i]? = some (.mu true t)) : ∃ p, σ[i]? = some (some (.ref p)) ∧ Ok c F H σ (ρ.set i .no) ∧ RepR c σ (ρ.set i .no) F H (.ref p) (.mu true t) := by
  obtain ⟨p, o, h1, h2, h3, h4, h5, _⟩ := I.mu i true t h
  refine ⟨p, h1, I.forget i, rfl, p, o, rfl, h5 rfl, h2, h3, h4, fun j b t' hj z => ?_⟩
  by_cases e : i = j
  · subst e
    rw [List.getElem?_set_self', h] at hj
    cases hj
  · rw [List.getElem?_set_ne e] at hj
    exact I.dis i j true t b t' p e h hj h1 z
theorem Ok.putVal (I : Ok c F H σ ρ) {i : Nat} {d : D} (h : σ[i]? = some (some v)) (hd : Dp c.K F v d) : Ok c F H σ (ρ.set i (.val d)) := by
  have J := I.forget i
  have g : ∀ {j : Nat} {b : Bool} {t : Ct}, (ρ.set i (.val d))[j]? = some (.mu b t) → (ρ.set i .no)[j]? = some (.mu b t) := fun {j b t} h => by
    by_cases e : i = j
    · subst e
      rw [List.getElem?_set_self'] at h
      cases q : ρ[i]? with
      | none => rw [q] at h; cases h
      | some z => rw [q] at h; cases h
    · rw [List.getElem?_set_ne e] at h ⊢
      exact h
  refine ⟨I.mg, I.f0, I.fh, I.old, I.mem, I.oldF, by rw [List.length_set]; exact I.len, fun j d' h' => ?_, fun j b t h => J.mu j b t (g h), fun j k b t b' t' p ne h1 h2 => J.dis j k b t b' t' p ne (g h1) (g h2)⟩
  by_cases e : i = j
  · subst e
    rw [List.getElem?_set_self'] at h'
    cases q : ρ[i]? with
    | none => rw [q] at h'; cases h'
    | some z =>
      rw [q] at h'
      injection h' with h'; injection h' with h'
      subst h'
      exact ⟨v, h, hd⟩
  · rw [List.getElem?_set_ne e] at h'
    exact I.val j d' h'

theorem lt_len {α : Type} {l : List α} {i : Nat} {x : α} (h : l[i]? = some x) : i < l.length := (List.getElem?_eq_some_iff.mp h).1

variable {X : Cx}
theorem de_var (i : Nat) {x : Str} {pos : Pos} (hN : X.N[i]? = some x := by rfl) (hv : Vis X.env.scope x := by first | exact Or.inl rfl | exact Or.inr (Or.inl rfl) | exact Or.inr (Or.inr rfl)) (hd : (x == ("__debug__" : Str)) = false := by decide)
    (hcd : (x == ("__classdict__" : Str)) = false := by decide) : DE c X (.Name x pos) (dVar i) := peto (pe_var hN hv hd hcd) fun σ H Q ⟨F, ρ, Qd, I, h, k⟩ => by
  unfold dVar at h
  split at h
  · rename_i d e
    obtain ⟨v, h1, h2⟩ := I.val i d e
    exact ⟨v, h1, k _ _ v F H h I (Go.refl) h2⟩
  · rename_i l e
    obtain ⟨p, h1, I', h2⟩ := I.take e
    obtain ⟨F', I2, e2, h3⟩ := I'.freeze h2
    have I3 := I2.putVal (i := i) h1 h3
    rw [List.set_set] at I3
    exact ⟨_, h1, k _ _ _ F' H h I3 e2 h3⟩
  · exact h.elim
theorem de_mov (i : Nat) {x : Str} {pos : Pos} (hN : X.N[i]? = some x := by rfl) (hv : Vis X.env.scope x := by first | exact Or.inl rfl | exact Or.inr (Or.inl rfl) | exact Or.inr (Or.inr rfl)) (hd : (x == ("__debug__" : Str)) = false := by decide)
    (hcd : (x == ("__classdict__" : Str)) = false := by decide) : DE c X (.Name x pos) (dMov i) := peto (pe_var hN hv hd hcd) fun σ H Q ⟨F, ρ, Qd, I, h, k⟩ => by
  unfold dMov at h
  split at h
  · rename_i t e
    obtain ⟨p, h1, I', h2⟩ := I.take e
    exact ⟨_, h1, k _ _ _ F H h I' (Go.refl) h2⟩
  · exact h.elim
theorem de_c {e : Expr} {v : V} {d : D} (h : PE X e (tC v)) (hd : ∀ K H, Dp K H v d) : DE c X e (dC d) := peto h fun σ H Q ⟨F, ρ, Qd, I, h, k⟩ => k _ _ v F H h I (Go.refl) (hd _ _)
theorem de_int {i j pos} : DE c X (.Constant (.int i) j pos) (dC (.int i)) := de_c pe_int fun _ _ => .int i
theorem de_bl {b j pos} : DE c X (.Constant (.bool b) j pos) (dC (.bool b)) := de_c pe_bl fun _ _ => .bl b
theorem de_non {j pos} : DE c X (.Constant .none j pos) (dC .none) := de_c pe_non fun _ _ => .non
theorem de_str {x j pos} : DE c X (.Constant (.str x) j pos) (dC (.str x)) := de_c pe_str fun _ _ => .str x
/-- a module's int -/
theorem de_globI {x : Str} {i : Int} {t : Tok} {pos : Pos} (hg : Gl X x) (hm : X.mg x = some (.int i t)) (hd : (x == ("__debug__" : Str)) = false := by decide) : DE c X (.Name x pos) (dC (.int i)) := de_c (pe_glob (v := .int i) hg hm ⟨t, rfl⟩ hd) fun _ _ => .int i
end
end DL

namespace DL
open PySem PySem.Spec PyProof.Rows L2
open Evl (Ex ex_l ex_t)

/-! ### a two-place operation -/
abbrev F2 := D → D → (Sl → Prop) → Prop
def OpS (c : Cc) (r : R2) (f : F2) : Prop := ∀ (F H : Hp) (σ : L2.St) (ρ : En) (v1 v2 : V) (x y : D) (Qd : Sl → Prop) (Q : VK), Ok c F H σ ρ → Dp c.K F v1 x → Dp c.K F v2 y → f x y Qd →
  (∀ z v F' H', Qd z → Ok c F' H' σ ρ → Go c F H F' H' → RepR c σ ρ F' H' v z → Q v H') → r v1 v2 H Q
def dOp (f : F2) (wa wb : DT) : DT := fun ρ Q => wa ρ fun r1 ρ1 => dF r1 fun x => wb ρ1 fun r2 ρ2 => dF r2 fun y => f x y fun z => Q z ρ2
abbrev F1 := D → (Sl → Prop) → Prop
def UnS (c : Cc) (r : V → Hp → VK → Prop) (f : F1) : Prop := ∀ (F H : Hp) (σ : L2.St) (ρ : En) (v1 : V) (x : D) (Qd : Sl → Prop) (Q : VK), Ok c F H σ ρ → Dp c.K F v1 x → f x Qd →
  (∀ z v F' H', Qd z → Ok c F' H' σ ρ → Go c F H F' H' → RepR c σ ρ F' H' v z → Q v H') → r v1 H Q
def dUn (f : F1) (wa : DT) : DT := fun ρ Q => wa ρ fun r1 ρ1 => dF r1 fun x => f x fun z => Q z ρ1

section
variable {c : Cc} {X : Cx} {F F' H H' : Hp} {σ : L2.St} {ρ ρ' : En} {v : V} {r : R2} {f : F2} {wa wb wc : DT} {a b e : Expr} {pos : Pos}
theorem lift_op (h : OpS c r f) (σ : L2.St) (H : Hp) (Q : VK) (q : lift c (dOp f wa wb) σ H Q) : tOp r (lift c wa) (lift c wb) σ H Q := by
  obtain ⟨F, ρ, Qd, I, h1, k⟩ := q
  refine ⟨F, ρ, _, I, h1, fun r1 ρ1 v1 F1 H1 q1 I1 e1 p1 => ?_⟩
  obtain ⟨F1', x, I1', e1', p1', q1⟩ := dF_go I1 q1 p1
  refine ⟨F1', ρ1, _, I1', q1, fun r2 ρ2 v2 F2 H2 q2 I2 e2 p2 => ?_⟩
  obtain ⟨F2', y, I2', e2', p2', q2⟩ := dF_go I2 q2 p2
  exact h F2' H2 σ ρ2 v1 v2 x y _ Q I2' (dp_mono (e2.trans e2').f p1') p2' q2 fun z v F3 H3 hz I3 e3 p3 => k z ρ2 v F3 H3 hz I3 ((e1.trans e1').trans ((e2.trans e2').trans e3)) p3
theorem lift_un {r : V → Hp → VK → Prop} {f : F1} (h : UnS c r f) (σ : L2.St) (H : Hp) (Q : VK) (q : lift c (dUn f wa) σ H Q) : tUn r (lift c wa) σ H Q := by
  obtain ⟨F, ρ, Qd, I, h1, k⟩ := q
  refine ⟨F, ρ, _, I, h1, fun r1 ρ1 v1 F1 H1 q1 I1 e1 p1 => ?_⟩
  obtain ⟨F1', x, I1', e1', p1', q1⟩ := dF_go I1 q1 p1
  exact h F1' H1 σ ρ1 v1 x _ Q I1' p1' q1 fun z v F3 H3 hz I3 e3 p3 => k z ρ1 v F3 H3 hz I3 ((e1.trans e1').trans e3) p3
theorem de_op {op : Operator} (ho : OpR X (binaryOp op) r) (h : OpS c r f) (ha : DE c X a wa) (hb : DE c X b wb) : DE c X (.BinOp a op b pos) (dOp f wa wb) := peto (pe_op ho ha hb) (lift_op h)
theorem de_cmp {op : CmpOp} (ho : OpR X (compareOp op) r) (h : OpS c r f) (hm : behindInMarks op b = false) (ha : DE c X a wa) (hb : DE c X b wb) : DE c X (.Compare a [op] [b] pos) (dOp f wa wb) := peto (pe_cmpR ho ha hb hm) (lift_op h)

/-! merging rules -/
def rOr (r r' : R2) : R2 := fun x y H Q => r x y H Q ∨ r' x y H Q
theorem opOr {g : Value → Value → Sem Value} {r r' : R2} (h : OpR X g r) (h' : OpR X g r') : OpR X g (rOr r r') := fun pins s σ H x y v u Q I rx ry q => q.elim (h pins s σ H x y v u Q I rx ry) (h' pins s σ H x y v u Q I rx ry)
theorem opsOr_l {r r' : R2} (h : OpS c r f) : OpS c (rOr r r') f := fun F H σ ρ v1 v2 x y Qd Q I p1 p2 q k => .inl (h F H σ ρ v1 v2 x y Qd Q I p1 p2 q k)

/-! list + list, whoever made them -/
def rCatS (K : PySem.W.Frag) : R2 := fun x y H Q => ∃ l b xs zs, x = .ref l ∧ y = .ref b ∧ SqL K H l xs ∧ SqL K H b zs ∧ xs.length + zs.length ≤ sizeLine ∧ ∀ p, H p = none → Q (.ref p) (upd H p (.lst (xs ++ zs)))
theorem op_catS : OpR X (binaryOp .Add) (rCatS X.K) := by
  intro pins s σ H x y v u Q I rx ry h
  obtain ⟨l, b, xs, zs, rfl, rfl, hH, hB, hz, q⟩ := h
  cases rx
  cases ry
  obtain ⟨its, r, ⟨⟨cls, dd, data, sl⟩, n, ho, hc, hdd, hd⟩, z⟩ := I.list hH
  obtain ⟨its2, r2, ⟨⟨cls2, dd2, data2, sl2⟩, n2, ho2, hc2, hdd2, hd2⟩, z2⟩ := I.list hB
  simp only at hc hd hc2 hd2 hdd hdd2
  subst hc hd hc2 hd2 hdd hdd2
  have l1 := r.length
  have l2 := r2.length
  refine concat_meets ⟨_, ho, rfl⟩ ⟨_, ho2, rfl⟩ noFill_list_add seq_list_add PySem.F.slot_list_add PySem.F.entry_list_add (PySem.F.args_list_add_2 _ _) (list_addW l b its.toArray its2.toArray n n2 none none sl sl2 (by simp only [List.size_toArray]; omega)) ⟨ho, ho2, ?_⟩
  have ea : its.toArray ++ its2.toArray = (its ++ its2).toArray := by simp
  rw [ea]
  exact ⟨.ref _, _, I.lnew (t' := s.toks) (r.append r2) (by rw [List.length_append]; omega), rfl, q _ I.fresh⟩

/-! inversion -/
theorem dp_int {K : PySem.W.Frag} {i : Int} (h : Dp K H v (.int i)) : v = .int i := by cases h; rfl
theorem dp_bl {K : PySem.W.Frag} {i : Bool} (h : Dp K H v (.bool i)) : v = .bl i := by cases h; rfl
theorem dp_non {K : PySem.W.Frag} (h : Dp K H v .none) : v = .non := by cases h; rfl
theorem dp_str {K : PySem.W.Frag} {x : Str} (h : Dp K H v (.str x)) : v = .str x := by cases h; rfl
theorem dp_lst {K : PySem.W.Frag} {l : List D} (h : Dp K H v (.list l)) : ∃ a xs, v = .ref a ∧ SqL K H a xs ∧ DpAll K H xs l := by cases h; exact ⟨_, _, rfl, by assumption, by assumption⟩
theorem dp_tup {K : PySem.W.Frag} {l : List D} (h : Dp K H v (.tuple l)) : ∃ a xs, v = .ref a ∧ SqT K H a xs ∧ DpAll K H xs l := by cases h; exact ⟨_, _, rfl, by assumption, by assumption⟩
theorem dps_len {K : PySem.W.Frag} : ∀ {xs : List V} {l : List D}, DpAll K H xs l → xs.length = l.length
  | _, _, .nil => rfl
  | _, _, .cons _ t => by rw [List.length_cons, List.length_cons, dps_len t]
theorem dps_app {K : PySem.W.Frag} : ∀ {xs ys : List V} {l m : List D}, DpAll K H xs l → DpAll K H ys m → DpAll K H (xs ++ ys) (l ++ m)
  | _, _, _, _, .nil, h => h
  | _, _, _, _, .cons a t, h => .cons a (dps_app t h)
theorem dps_get {K : PySem.W.Frag} : ∀ {xs : List V} {l : List D} {i : Nat} {d : D}, DpAll K H xs l → l[i]? = some d → ∃ v, xs[i]? = some v ∧ Dp K H v d
  | _, _, i, _, .nil, h => by simp at h
  | _, _, 0, _, .cons a t, h => by simp at h; subst h; exact ⟨_, rfl, a⟩
  | _, _, i + 1, _, .cons a t, h => by
    obtain ⟨v, h1, h2⟩ := dps_get (i := i) t (by simpa using h)
    exact ⟨v, by simpa using h1, h2⟩
theorem dps_getV {K : PySem.W.Frag} : ∀ {xs : List V} {l : List D} {i : Nat} {v : V}, DpAll K H xs l → xs[i]? = some v → ∃ d, l[i]? = some d ∧ Dp K H v d
  | _, _, i, _, .nil, h => by simp at h
  | _, _, 0, _, .cons a t, h => by simp at h; subst h; exact ⟨_, rfl, a⟩
  | _, _, i + 1, _, .cons a t, h => by
    obtain ⟨v, h1, h2⟩ := dps_getV (i := i) t (by simpa using h)
    exact ⟨v, by simpa using h1, h2⟩
theorem dps_set {K : PySem.W.Frag} : ∀ {xs : List V} {l : List D} (i : Nat) {v : V} {d : D}, DpAll K H xs l → Dp K H v d → DpAll K H (xs.set i v) (l.set i d)
  | _, _, _, _, _, .nil, _ => .nil
  | _, _, 0, _, _, .cons _ t, h => .cons h t
  | _, _, i + 1, _, _, .cons a t, h => .cons a (dps_set i t h)
theorem dps_take {K : PySem.W.Frag} : ∀ {xs : List V} {l : List D} (n : Nat), DpAll K H xs l → DpAll K H (xs.take n) (l.take n)
  | _, _, 0, _ => .nil
  | _, _, _ + 1, .nil => .nil
  | _, _, n + 1, .cons a t => .cons a (dps_take n t)
theorem dps_drop {K : PySem.W.Frag} : ∀ {xs : List V} {l : List D} (n : Nat), DpAll K H xs l → DpAll K H (xs.drop n) (l.drop n)
  | _, _, 0, h => h
  | _, _, _ + 1, .nil => .nil
  | _, _, n + 1, .cons a t => dps_drop n t
theorem dps_rev {K : PySem.W.Frag} : ∀ {xs : List V} {l : List D}, DpAll K H xs l → DpAll K H xs.reverse l.reverse
  | _, _, .nil => .nil
  | _, _, .cons a t => by rw [List.reverse_cons, List.reverse_cons]; exact dps_app (dps_rev t) (.cons a .nil)
theorem dps_ints {K : PySem.W.Frag} : ∀ {xs : List V} {ns : List Int}, DpAll K H xs (ns.map PyData.int) → xs = ns.map V.int
  | _, [], .nil => rfl
  | _, _ :: _, .cons a t => by rw [dp_int a, dps_ints t]; rfl
theorem dps_bls {K : PySem.W.Frag} : ∀ {xs : List V} {ns : List Bool}, DpAll K H xs (ns.map PyData.bool) → xs = ns.map V.bl
  | _, [], .nil => rfl
  | _, _ :: _, .cons a t => by rw [dp_bl a, dps_bls t]; rfl

def lim : Nat := 100000
theorem lim_le {n : Nat} (h : n ≤ lim) : n ≤ sizeLine := Nat.le_trans h (by decide)
theorem lim_lt {n : Nat} (h : n < lim) : n < sizeLine := Nat.lt_of_lt_of_le h (by decide)

/-- what a new object hands on -/
theorem new_tup {Qd : Sl → Prop} {Q : VK} {xs : List V} {l : List D} (I : Ok c F H σ ρ) (h : DpAll c.K F xs l) (q : Qd (.val (.tuple l))) (k : ∀ z v F' H', Qd z → Ok c F' H' σ ρ → Go c F H F' H' → RepR c σ ρ F' H' v z → Q v H') : ∀ p, H p = none → Q (.ref p) (upd H p (.tup xs)) := fun p hp => by
  obtain ⟨I', e, s⟩ := I.new (o := .tup xs) hp
  exact k _ _ _ _ q I' e (.tup (.inl (.inl s)) (dps_mono e.f h))
theorem new_lst {Qd : Sl → Prop} {Q : VK} {xs : List V} {l : List D} (I : Ok c F H σ ρ) (h : DpAll c.K F xs l) (q : Qd (.mu true (.lst l))) (k : ∀ z v F' H', Qd z → Ok c F' H' σ ρ → Go c F H F' H' → RepR c σ ρ F' H' v z → Q v H') : ∀ p, H p = none → Q (.ref p) (upd H p (.lst xs)) := fun p hp => by
  obtain ⟨I', g, s⟩ := I.fresh (o := .lst xs) (t := .lst l) hp h
  exact k _ _ _ _ q I' g s

/-! ### the operators -/
def fAdd : F2 := fun x y Q => match x, y with
  | .int i, .int j => Q (.val (.int (i + j)))
  | .list xs, .list ys => xs.length + ys.length ≤ lim ∧ Q (.mu true (.lst (xs ++ ys)))
  | .tuple xs, .tuple ys => xs.length + ys.length ≤ lim ∧ Q (.val (.tuple (xs ++ ys)))
  | _, _ => False
def rAddA (K : PySem.W.Frag) : R2 := rOr (rI0 fun i j => .int (i + j)) (rOr (rCatS K) (rCatA K))
theorem op_addA : OpR X (binaryOp .Add) (rAddA X.K) := opOr op_add (opOr op_catS op_catA)
theorem ops_add : OpS c (rAddA c.K) fAdd := by
  intro F H σ ρ v1 v2 x y Qd Q I p1 p2 q k
  unfold fAdd at q
  split at q
  · cases p1; cases p2
    exact .inl ⟨_, _, rfl, rfl, k _ _ F H q I (Go.refl) (.int _)⟩
  · obtain ⟨a1, xs1, rfl, s1, d1⟩ := dp_lst p1
    obtain ⟨a2, xs2, rfl, s2, d2⟩ := dp_lst p2
    refine .inr (.inl ⟨_, _, xs1, xs2, rfl, rfl, ex_l I.fh s1, ex_l I.fh s2, lim_le (by rw [dps_len d1, dps_len d2]; exact q.1), new_lst I (dps_app d1 d2) q.2 k⟩)
  · obtain ⟨a1, xs1, rfl, s1, d1⟩ := dp_tup p1
    obtain ⟨a2, xs2, rfl, s2, d2⟩ := dp_tup p2
    have n1 := dps_len d1
    have n2 := dps_len d2
    refine .inr (.inr ⟨_, _, xs1, xs2, rfl, rfl, ex_t I.fh s1, ex_t I.fh s2, lim_le (by rw [n1, n2]; exact q.1), fun e => ?_, fun _ e => ?_, fun _ _ => new_tup I (dps_app d1 d2) q.2 k⟩)
    · subst e
      cases d1
      exact k _ _ F H q.2 I (Go.refl) p2
    · subst e
      cases d2
      have q2 := q.2
      rw [List.append_nil] at q2
      exact k _ _ F H q2 I (Go.refl) p1
  · exact q.elim
/-- ints, ints under a condition -/
def fI (C : Int → Int → Prop) (g : Int → Int → D) : F2 := fun x y Q => match x, y with
  | .int i, .int j => C i j ∧ Q (.val (g i j))
  | _, _ => False
def fI0 (g : Int → Int → D) : F2 := fun x y Q => match x, y with
  | .int i, .int j => Q (.val (g i j))
  | _, _ => False
theorem ops_I0 {g : Int → Int → V} {g' : Int → Int → D} (hg : ∀ K H i j, Dp K H (g i j) (g' i j)) : OpS c (rI0 g) (fI0 g') := by
  intro F H σ ρ v1 v2 x y Qd Q I p1 p2 q k
  unfold fI0 at q
  split at q
  · cases p1; cases p2
    exact ⟨_, _, rfl, rfl, k _ _ F H q I (Go.refl) (hg _ _ _ _)⟩
  · exact q.elim
theorem ops_I {C : Int → Int → Prop} {g : Int → Int → V} {g' : Int → Int → D} (hg : ∀ K H i j, C i j → Dp K H (g i j) (g' i j)) : OpS c (rI C g) (fI C g') := by
  intro F H σ ρ v1 v2 x y Qd Q I p1 p2 q k
  unfold fI at q
  split at q
  · cases p1; cases p2
    exact ⟨_, _, rfl, rfl, q.1, k _ _ F H q.2 I (Go.refl) (hg _ _ _ _ q.1)⟩
  · exact q.elim
/-- a product: one side below 2 ^ 64, or both together below a million bits -/
def CMulA (i j : Int) : Prop := CMul i j ∨ CMulW i j
theorem op_mulA : OpR X (binaryOp .Mult) (rI CMulA fun i j => .int (i * j)) := opI fun _ _ _ _ _ _ _ hc q => by
  rcases hc with (⟨h1, h2⟩ | ⟨h1, h2⟩) | h
  · exact mul_int q (.of_left (intBits_le_64 h1 h2))
  · exact mul_int q (.of_right (intBits_le_64 h1 h2))
  · exact mul_int q h.ok
def fMul : F2 := fun x y Q => match x, y with
  | .int i, .int j => CMulA i j ∧ Q (.val (.int (i * j)))
  | .tuple xs, .int k => (xs ≠ [] ∧ 2 ≤ k ∧ k ≤ 1000 ∧ xs.length ≤ 1000) ∧ Q (.val (.tuple (List.replicate k.toNat xs).flatten))
  | _, _ => False
def rMulA (K : PySem.W.Frag) : R2 := rOr (rI CMulA fun i j => .int (i * j)) (rRepT K)
theorem op_mul' : OpR X (binaryOp .Mult) (rMulA X.K) := opOr op_mulA op_repT
theorem dps_flat {K : PySem.W.Frag} {xs : List V} {l : List D} (h : DpAll K H xs l) : ∀ n : Nat, DpAll K H (List.replicate n xs).flatten (List.replicate n l).flatten
  | 0 => .nil
  | n + 1 => by
    rw [List.replicate_succ, List.replicate_succ, List.flatten_cons, List.flatten_cons]
    exact dps_app h (dps_flat h n)
theorem ops_mul : OpS c (rMulA c.K) fMul := by
  intro F H σ ρ v1 v2 x y Qd Q I p1 p2 q k
  unfold fMul at q
  split at q
  · cases p1; cases p2
    exact .inl ⟨_, _, rfl, rfl, q.1, k _ _ F H q.2 I (Go.refl) (.int _)⟩
  · obtain ⟨a1, xs1, rfl, s1, d1⟩ := dp_tup p1
    cases p2
    have n1 := dps_len d1
    obtain ⟨⟨h1, h2, h3, h4⟩, q⟩ := q
    exact .inr ⟨_, _, xs1, rfl, rfl, ex_t I.fh s1, fun e => h1 (by subst e; cases d1; rfl), h2, h3, by rw [n1]; exact h4, new_tup I (dps_flat d1 _) q k⟩
  · exact q.elim
def CDivD (_ j : Int) : Prop := 0 < j ∧ j.natAbs.log2 < 9000
abbrev fSub : F2 := fI0 fun i j => .int (i - j)
abbrev fDiv : F2 := fI CDivW fun i j => .int (i / j)
abbrev fMod : F2 := fI (fun _ j => 0 < j) fun i j => .int (i % j)
abbrev fPow : F2 := fI CPow fun i j => .int (i ^ j.toNat)
theorem op_modP : OpR X (binaryOp .Mod) (rI (fun _ j => 0 < j) fun i j => .int (i % j)) := opI fun i j _ _ _ _ _ hc q => mod_int' (Int.ne_of_gt hc) (by rw [Int.fmod_eq_emod_of_nonneg i (Int.le_of_lt hc)]; exact q)
theorem de_add (ha : DE c X a wa) (hb : DE c X b wb) (hk : X.K = c.K := by rfl) : DE c X (.BinOp a .Add b pos) (dOp fAdd wa wb) := de_op (hk ▸ op_addA) ops_add ha hb
theorem de_sub (ha : DE c X a wa) (hb : DE c X b wb) : DE c X (.BinOp a .Sub b pos) (dOp fSub wa wb) := de_op op_sub (ops_I0 fun _ _ i j => .int _) ha hb
theorem de_mul (ha : DE c X a wa) (hb : DE c X b wb) (hk : X.K = c.K := by rfl) : DE c X (.BinOp a .Mult b pos) (dOp fMul wa wb) := de_op (hk ▸ op_mul') ops_mul ha hb
theorem de_div (ha : DE c X a wa) (hb : DE c X b wb) : DE c X (.BinOp a .FloorDiv b pos) (dOp fDiv wa wb) := de_op op_fdivW (ops_I fun _ _ i j _ => .int _) ha hb
theorem de_mod (ha : DE c X a wa) (hb : DE c X b wb) : DE c X (.BinOp a .Mod b pos) (dOp fMod wa wb) := de_op op_modP (ops_I fun _ _ i j _ => .int _) ha hb
theorem de_pow (ha : DE c X a wa) (hb : DE c X b wb) : DE c X (.BinOp a .Pow b pos) (dOp fPow wa wb) := de_op op_pow (ops_I fun _ _ i j _ => .int _) ha hb
def fNeg : F1 := fun x Q => match x with
  | .int i => Q (.val (.int (-i)))
  | _ => False
theorem de_neg (ha : DE c X a wa) : DE c X (.UnaryOp .USub a pos) (dUn fNeg wa) := peto (pe_un un_neg ha) (lift_un fun F H σ ρ v1 x Qd Q I p q k => by
  unfold fNeg at q
  split at q
  · cases p
    exact ⟨_, rfl, k _ _ F H q I (Go.refl) (.int _)⟩
  · exact q.elim)

/-! ### comparisons -/
abbrev fLt : F2 := fI0 fun i j => .bool (decide (i < j))
abbrev fLe : F2 := fI0 fun i j => .bool (decide (i ≤ j))
abbrev fGt : F2 := fI0 fun i j => .bool (decide (j < i))
abbrev fGe : F2 := fI0 fun i j => .bool (decide (j ≤ i))
def fEq : F2 := fun x y Q => match x, y with
  | .int i, .int j => Q (.val (.bool (decide (i = j))))
  | x, y => SeqAt.shaped x = true ∧ SeqAt.shaped y = true ∧ Q (.val (.bool (PyData.eqv x y)))
def fNe : F2 := fun x y Q => match x, y with
  | .int i, .int j => Q (.val (.bool (!decide (i = j))))
  | x, y => SeqAt.shaped x = true ∧ SeqAt.shaped y = true ∧ Q (.val (.bool (!PyData.eqv x y)))
theorem ops_eq : OpS c (rEqD c.K) fEq := by
  intro F H σ ρ v1 v2 x y Qd Q I p1 p2 q k
  unfold fEq at q
  split at q
  · cases p1; cases p2
    exact ⟨_, _, .int _, .int _, rfl, rfl, k _ _ F H q I (Go.refl) (.bl _)⟩
  · exact ⟨_, _, dp_mono I.fh p1, dp_mono I.fh p2, q.1, q.2.1, k _ _ F H q.2.2 I (Go.refl) (.bl _)⟩
theorem ops_ne : OpS c (rNeD c.K) fNe := by
  intro F H σ ρ v1 v2 x y Qd Q I p1 p2 q k
  unfold fNe at q
  split at q
  · cases p1; cases p2
    exact ⟨_, _, .int _, .int _, rfl, rfl, k _ _ F H q I (Go.refl) (.bl _)⟩
  · exact ⟨_, _, dp_mono I.fh p1, dp_mono I.fh p2, q.1, q.2.1, k _ _ F H q.2.2 I (Go.refl) (.bl _)⟩
def flatD : D → Bool
  | .none => true
  | .bool _ => true
  | .int _ => true
  | .str _ => true
  | _ => false
def dEqF : D → D → Bool
  | .none, .none => true
  | .bool a, .bool b => a == b
  | .bool a, .int b => (if a then 1 else 0) == b
  | .int a, .bool b => a == (if b then 1 else 0)
  | .int a, .int b => a == b
  | .str a, .str b => a == b
  | _, _ => false
theorem flat_of {K : PySem.W.Frag} {d : D} (h : Dp K H v d) (f : flatD d = true) : flatV v = true := by cases h <;> first | rfl | cases f
theorem eqV_of {K : PySem.W.Frag} {v1 v2 : V} {d e : D} (h : Dp K H v1 d) (h2 : Dp K H v2 e) (f : flatD d = true) (f2 : flatD e = true) : eqV v1 v2 = dEqF d e := by
  cases h <;> cases h2 <;> first | rfl | cases f | cases f2
theorem inV_of {K : PySem.W.Frag} {v1 : V} {d : D} (h : Dp K H v1 d) (f : flatD d = true) : ∀ {xs : List V} {l : List D}, DpAll K H xs l → l.all flatD = true → xs.all flatV = true ∧ inV v1 xs = l.any (fun y => dEqF y d)
  | _, _, .nil, _ => ⟨rfl, rfl⟩
  | _, _, .cons a t, g => by
    rw [List.all_cons, Bool.and_eq_true] at g
    obtain ⟨h1, h2⟩ := inV_of h f t g.2
    refine ⟨by rw [List.all_cons, flat_of a g.1, h1]; rfl, ?_⟩
    unfold inV at h2 ⊢
    rw [List.any_cons, List.any_cons, h2, eqV_of a h g.1 f]
def fIn (neg : Bool) : F2 := fun x y Q => match y with
  | .list l => flatD x = true ∧ l.all flatD = true ∧ Q (.val (.bool (if neg then !(l.any fun y => dEqF y x) else l.any fun y => dEqF y x)))
  | .tuple l => flatD x = true ∧ l.all flatD = true ∧ Q (.val (.bool (if neg then !(l.any fun y => dEqF y x) else l.any fun y => dEqF y x)))
  | _ => False
theorem ops_in {neg : Bool} : OpS c (rIn c.K neg) (fIn neg) := by
  intro F H σ ρ v1 v2 x y Qd Q I p1 p2 q k
  unfold fIn at q
  split at q
  · obtain ⟨a, xs, rfl, s, d⟩ := dp_lst p2
    obtain ⟨h1, h2⟩ := inV_of p1 q.1 d q.2.1
    refine ⟨a, xs, rfl, .inl (ex_l I.fh s), flat_of p1 q.1, h1, ?_⟩
    rw [h2]
    exact k _ _ F H q.2.2 I (Go.refl) (.bl _)
  · obtain ⟨a, xs, rfl, s, d⟩ := dp_tup p2
    obtain ⟨h1, h2⟩ := inV_of p1 q.1 d q.2.1
    refine ⟨a, xs, rfl, .inr (ex_t I.fh s), flat_of p1 q.1, h1, ?_⟩
    rw [h2]
    exact k _ _ F H q.2.2 I (Go.refl) (.bl _)
  · exact q.elim
def fIsN (neg : Bool) : F2 := fun x y Q => match y, x with
  | .none, .none => Q (.val (.bool (!neg)))
  | .none, _ => Q (.val (.bool neg))
  | _, _ => False
theorem ops_isN : OpS c (fun x y H Q => y = .non ∧ Q (.bl (decide (x = .non))) H) (fIsN false) := by
  intro F H σ ρ v1 v2 x y Qd Q I p1 p2 q k
  unfold fIsN at q
  split at q
  · cases p1; cases p2
    exact ⟨rfl, k _ _ F H q I (Go.refl) (.bl _)⟩
  · cases p2
    refine ⟨rfl, ?_⟩
    have e : decide (v1 = V.non) = false := decide_eq_false fun z => by
      subst z
      cases p1
      rename_i hx
      exact hx rfl
    rw [e]
    exact k _ _ F H q I (Go.refl) (.bl _)
  · exact q.elim
theorem ops_notN : OpS c (fun x y H Q => y = .non ∧ Q (.bl (!decide (x = .non))) H) (fIsN true) := by
  intro F H σ ρ v1 v2 x y Qd Q I p1 p2 q k
  unfold fIsN at q
  split at q
  · cases p1; cases p2
    exact ⟨rfl, k _ _ F H q I (Go.refl) (.bl _)⟩
  · cases p2
    refine ⟨rfl, ?_⟩
    have e : decide (v1 = V.non) = false := decide_eq_false fun z => by
      subst z
      cases p1
      rename_i hx
      exact hx rfl
    rw [e]
    exact k _ _ F H q I (Go.refl) (.bl _)
  · exact q.elim
/-- a comparison: its operator's rule and what it computes -/
def CmpS (c : Cc) (X : Cx) (op : CmpOp) (f : F2) : Prop := ∃ r, OpR X (compareOp op) r ∧ OpS c r f
theorem cs_lt : CmpS c X .Lt fLt := ⟨_, op_lt, ops_I0 fun _ _ _ _ => .bl _⟩
theorem cs_le : CmpS c X .LtE fLe := ⟨_, op_le, ops_I0 fun _ _ _ _ => .bl _⟩
theorem cs_gt : CmpS c X .Gt fGt := ⟨_, op_gt, ops_I0 fun _ _ _ _ => .bl _⟩
theorem cs_ge : CmpS c X .GtE fGe := ⟨_, op_ge, ops_I0 fun _ _ _ _ => .bl _⟩
theorem cs_eq {k : Nat} (hr : Room k X.A) (hk : X.K = c.K := by rfl) : CmpS c X .Eq fEq := ⟨_, hk ▸ op_eqD hr.units, ops_eq⟩
theorem cs_ne {k : Nat} (hr : Room k X.A) (hk : X.K = c.K := by rfl) : CmpS c X .NotEq fNe := ⟨_, hk ▸ op_neD hr.units, ops_ne⟩
theorem cs_in (hk : X.K = c.K := by rfl) : CmpS c X .In (fIn false) := ⟨_, hk ▸ op_in_seq, ops_in⟩
theorem cs_notin (hk : X.K = c.K := by rfl) : CmpS c X .NotIn (fIn true) := ⟨_, hk ▸ op_notIn_seq, ops_in⟩
theorem cs_is : CmpS c X .Is (fIsN false) := ⟨_, op_isN, ops_isN⟩
theorem cs_isnot : CmpS c X .IsNot (fIsN true) := ⟨_, op_notN, ops_notN⟩
/-- a comparison as a value, as a test -/
theorem de_cmp1 {op : CmpOp} {f : F2} (h : CmpS c X op f) (ha : DE c X a wa) (hb : DE c X b wb) (hm : behindInMarks op b = false := by first | exact nomark _ | rfl) : DE c X (.Compare a [op] [b] pos) (dOp f wa wb) :=
  let ⟨_, h1, h2⟩ := h
  de_cmp h1 h2 hm ha hb
def dTest (w : DT) : DB := fun ρ Q => w ρ fun r ρ1 => match r with
  | .val (.bool b) => Q b ρ1
  | _ => False
theorem lift_test {w : DT} (σ : L2.St) (H : Hp) (Q : Bool → Hp → Prop) (q : liftB c (dTest w) σ H Q) : lift c w σ H fun x H' => ∃ k, x = .bl k ∧ Q k H' := by
  obtain ⟨F, ρ, Qd, I, h1, k⟩ := q
  refine ⟨F, ρ, _, I, h1, fun r1 ρ1 v1 F1 H1 q1 I1 e1 p1 => ?_⟩
  split at q1
  · exact ⟨_, dp_bl p1, k _ _ F1 H1 q1 I1 e1⟩
  · exact q1.elim
theorem dt_cmp1 {op : CmpOp} {f : F2} (h : CmpS c X op f) (ha : DE c X a wa) (hb : DE c X b wb) (hm : behindInMarks op b = false := by first | exact nomark _ | rfl) : DTe c X (.Compare a [op] [b] pos) (dTest (dOp f wa wb)) :=
  let ⟨_, h1, h2⟩ := h
  ptto (pt_cmpR h1 ha hb hm) fun σ H Q q => by
    obtain ⟨F, ρ, Qd, I, h3, k⟩ := q
    refine lift_op h2 σ H _ (?_ : lift c (dOp f wa wb) σ H _)
    exact lift_test σ H Q ⟨F, ρ, Qd, I, h3, k⟩
theorem dt_val (h : DE c X e wa) (he : ∀ whole, isTrue e X.env whole = (do let v ← whole; standAt e.pos; holding [v] (truthy v)) := by intro _; rfl) : DTe c X e (dTest wa) := ptto (pt_val h he) fun σ H Q q => lift_test σ H Q q
/-- a op b op' c -/
def dChain (f f' : F2) (wa wb wc : DT) : DT := fun ρ Q => wa ρ fun r1 ρ1 => dF r1 fun x => wb ρ1 fun r2 ρ2 => dF r2 fun y => f x y fun z => match z with
  | .val (.bool true) => wc ρ2 fun r3 ρ3 => dF r3 fun u => f' y u fun z => Q z ρ3
  | .val (.bool false) => Q (.val (.bool false)) ρ2
  | _ => False
theorem lift_chain {r r' : R2} {f f' : F2} (h : OpS c r f) (h' : OpS c r' f') (σ : L2.St) (H : Hp) (Q : VK) (q : lift c (dChain f f' wa wb wc) σ H Q) : tChain r r' (lift c wa) (lift c wb) (lift c wc) σ H Q := by
  obtain ⟨F, ρ, Qd, I, h1, k⟩ := q
  refine ⟨F, ρ, _, I, h1, fun r1 ρ1 v1 F1 H1 q1 I1 e1 p1 => ?_⟩
  obtain ⟨F1', x, I1', e1', p1', q1⟩ := dF_go I1 q1 p1
  refine ⟨F1', ρ1, _, I1', q1, fun r2 ρ2 v2 F2 H2 q2 I2 e2 p2 => ?_⟩
  obtain ⟨F2', y, I2', e2', p2', q2⟩ := dF_go I2 q2 p2
  refine h F2' H2 σ ρ2 v1 v2 x y _ _ I2' (dp_mono (e2.trans e2').f p1') p2' q2 fun z v F3 H3 hz I3 e3 p3 => ?_
  split at hz
  · refine ⟨true, dp_bl p3, ?_⟩
    refine ⟨F3, ρ2, _, I3, hz, fun r3 ρ3 v3 F4 H4 q4 I4 e4 p4 => ?_⟩
    obtain ⟨F5, u, I5, e5, p5, q5⟩ := dF_go I4 q4 p4
    exact h' F5 H4 σ ρ3 v2 v3 y u _ Q I5 (dp_mono ((e3.trans e4).trans e5).f p2') p5 q5 fun z v F6 H6 hz I6 e6 p6 => k z ρ3 v F6 H6 hz I6 ((((e1.trans e1').trans (e2.trans e2')).trans (e3.trans e4)).trans (e5.trans e6)) p6
  · refine ⟨false, dp_bl p3, ?_⟩
    exact k _ _ _ F3 H3 hz I3 (((e1.trans e1').trans (e2.trans e2')).trans e3) (.bl false)
  · exact hz.elim
theorem de_chain {op op' : CmpOp} {f f' : F2} {d : Expr} (h : CmpS c X op f) (h' : CmpS c X op' f') (ha : DE c X a wa) (hb : DE c X b wb) (hc : DE c X d wc) (hm : lastMarks [op, op'] [b, d] = false := by with_unfolding_all rfl) : DE c X (.Compare a [op, op'] [b, d] pos) (dChain f f' wa wb wc) :=
  let ⟨_, h1, h2⟩ := h
  let ⟨_, h3, h4⟩ := h'
  peto (pe_chain h1 h3 ha hb hc hm) (lift_chain h2 h4)
theorem dt_chain {op op' : CmpOp} {f f' : F2} {d : Expr} (h : CmpS c X op f) (h' : CmpS c X op' f') (ha : DE c X a wa) (hb : DE c X b wb) (hc : DE c X d wc) (hm : lastMarks [op, op'] [b, d] = false := by with_unfolding_all rfl) : DTe c X (.Compare a [op, op'] [b, d] pos) (dTest (dChain f f' wa wb wc)) :=
  let ⟨_, h1, h2⟩ := h
  let ⟨_, h3, h4⟩ := h'
  ptto (pt_chain h1 h3 ha hb hc hm) fun σ H Q q => lift_chain h2 h4 σ H _ (lift_test σ H Q q)

/-! ### tests -/
def dAnd (t u : DB) : DB := fun ρ Q => t ρ fun b ρ1 => match b with
  | true => u ρ1 Q
  | false => Q false ρ1
def dOr (t u : DB) : DB := fun ρ Q => t ρ fun b ρ1 => match b with
  | true => Q true ρ1
  | false => u ρ1 Q
def dNot (t : DB) : DB := fun ρ Q => t ρ fun b ρ1 => Q (!b) ρ1
variable {t u : DB} {rest : List Expr}
abbrev DW (c : Cc) (X : Cx) (e : Expr) (w : DB) : Prop := PW X e (liftB c w)
theorem lift_and (σ : L2.St) (H : Hp) (Q : Bool → Hp → Prop) (q : liftB c (dAnd t u) σ H Q) : tAnd (liftB c t) (liftB c u) σ H Q := by
  obtain ⟨F, ρ, Qd, I, h1, k⟩ := q
  refine ⟨F, ρ, _, I, h1, fun b ρ1 F1 H1 q1 I1 e1 => ?_⟩
  cases b with
  | true =>
    rw [if_pos rfl]
    exact ⟨F1, ρ1, Qd, I1, q1, fun b ρ2 F2 H2 q2 I2 e2 => k b ρ2 F2 H2 q2 I2 (e1.trans e2)⟩
  | false =>
    rw [if_neg (by decide)]
    exact k _ _ F1 H1 q1 I1 e1
theorem lift_or (σ : L2.St) (H : Hp) (Q : Bool → Hp → Prop) (q : liftB c (dOr t u) σ H Q) : tOr (liftB c t) (liftB c u) σ H Q := by
  obtain ⟨F, ρ, Qd, I, h1, k⟩ := q
  refine ⟨F, ρ, _, I, h1, fun b ρ1 F1 H1 q1 I1 e1 => ?_⟩
  cases b with
  | true =>
    rw [if_pos rfl]
    exact k _ _ F1 H1 q1 I1 e1
  | false =>
    rw [if_neg (by decide)]
    exact ⟨F1, ρ1, Qd, I1, q1, fun b ρ2 F2 H2 q2 I2 e2 => k b ρ2 F2 H2 q2 I2 (e1.trans e2)⟩
theorem dw_and (ha : DTe c X a t) (hb : DW c X (.BoolOp .And (b :: rest) pos) u) : DW c X (.BoolOp .And (a :: b :: rest) pos) (dAnd t u) := pwto (pw_and ha hb) lift_and
theorem dw_and1 (ha : DTe c X a t) : DW c X (.BoolOp .And [a] pos) t := pw_and1 ha
theorem dw_or (ha : DTe c X a t) (hb : DW c X (.BoolOp .Or (b :: rest) pos) u) : DW c X (.BoolOp .Or (a :: b :: rest) pos) (dOr t u) := pwto (pw_or ha hb) lift_or
theorem dw_or1 (ha : DTe c X a t) : DW c X (.BoolOp .Or [a] pos) t := pw_or1 ha
theorem dt_not (ha : DTe c X a t) : DTe c X (.UnaryOp .Not a pos) (dNot t) := ptto (pt_not ha) fun σ H Q ⟨F, ρ, Qd, I, h, k⟩ => ⟨F, ρ, _, I, h, fun b ρ1 F1 H1 q1 I1 e1 => k _ ρ1 F1 H1 q1 I1 e1⟩
/-- and, or, not of truth values as values -/
def dAndV (wa wb : DT) : DT := fun ρ Q => wa ρ fun r ρ1 => match r with
  | .val (.bool true) => wb ρ1 Q
  | .val (.bool false) => Q (.val (.bool false)) ρ1
  | _ => False
def dOrV (wa wb : DT) : DT := fun ρ Q => wa ρ fun r ρ1 => match r with
  | .val (.bool true) => Q (.val (.bool true)) ρ1
  | .val (.bool false) => wb ρ1 Q
  | _ => False
def dNotV (wa : DT) : DT := fun ρ Q => wa ρ fun r ρ1 => match r with
  | .val (.bool b) => Q (.val (.bool (!b))) ρ1
  | _ => False
theorem de_and (ha : DE c X a wa) (hb : DE c X (.BoolOp .And (b :: rest) pos) wb) : DE c X (.BoolOp .And (a :: b :: rest) pos) (dAndV wa wb) := peto (pe_and ha hb) fun σ H Q ⟨F, ρ, Qd, I, h, k⟩ => by
  refine ⟨F, ρ, _, I, h, fun r ρ1 v F1 H1 q1 I1 e1 p1 => ?_⟩
  split at q1
  · refine ⟨true, dp_bl p1, ?_⟩
    rw [if_pos rfl]
    exact ⟨F1, ρ1, Qd, I1, q1, fun b ρ2 v F2 H2 q2 I2 e2 p2 => k b ρ2 v F2 H2 q2 I2 (e1.trans e2) p2⟩
  · refine ⟨false, dp_bl p1, ?_⟩
    rw [if_neg (by decide)]
    exact k _ _ _ F1 H1 q1 I1 e1 (.bl false)
  · exact q1.elim
theorem de_and1 (ha : DE c X a wa) : DE c X (.BoolOp .And [a] pos) wa := pe_one ha
theorem de_or (ha : DE c X a wa) (hb : DE c X (.BoolOp .Or (b :: rest) pos) wb) : DE c X (.BoolOp .Or (a :: b :: rest) pos) (dOrV wa wb) := peto (pe_or ha hb) fun σ H Q ⟨F, ρ, Qd, I, h, k⟩ => by
  refine ⟨F, ρ, _, I, h, fun r ρ1 v F1 H1 q1 I1 e1 p1 => ?_⟩
  split at q1
  · refine ⟨true, dp_bl p1, ?_⟩
    rw [if_pos rfl]
    exact k _ _ _ F1 H1 q1 I1 e1 (.bl true)
  · refine ⟨false, dp_bl p1, ?_⟩
    rw [if_neg (by decide)]
    exact ⟨F1, ρ1, Qd, I1, q1, fun b ρ2 v F2 H2 q2 I2 e2 p2 => k b ρ2 v F2 H2 q2 I2 (e1.trans e2) p2⟩
  · exact q1.elim
theorem de_or1 (ha : DE c X a wa) : DE c X (.BoolOp .Or [a] pos) wa := pe_one ha
theorem de_not (ha : DE c X a wa) : DE c X (.UnaryOp .Not a pos) (dNotV wa) := peto (pe_not ha) fun σ H Q ⟨F, ρ, Qd, I, h, k⟩ => by
  refine ⟨F, ρ, _, I, h, fun r ρ1 v F1 H1 q1 I1 e1 p1 => ?_⟩
  split at q1
  · exact ⟨_, dp_bl p1, k _ _ _ F1 H1 q1 I1 e1 (.bl _)⟩
  · exact q1.elim
def dIte (t : DB) (wa wb : DT) : DT := fun ρ Q => t ρ fun b ρ1 => match b with
  | true => wa ρ1 Q
  | false => wb ρ1 Q
theorem de_ite {d : Expr} (hc : DTe c X d t) (ha : DE c X a wa) (hb : DE c X b wb) : DE c X (.IfExp d a b pos) (dIte t wa wb) := peto (pe_ifExp hc ha hb) fun σ H Q ⟨F, ρ, Qd, I, h, k⟩ => by
  refine ⟨F, ρ, _, I, h, fun b ρ1 F1 H1 q1 I1 e1 => ?_⟩
  cases b with
  | true =>
    rw [if_pos rfl]
    exact ⟨F1, ρ1, Qd, I1, q1, fun b ρ2 v F2 H2 q2 I2 e2 p2 => k b ρ2 v F2 H2 q2 I2 (e1.trans e2) p2⟩
  | false =>
    rw [if_neg (by decide)]
    exact ⟨F1, ρ1, Qd, I1, q1, fun b ρ2 v F2 H2 q2 I2 e2 p2 => k b ρ2 v F2 H2 q2 I2 (e1.trans e2) p2⟩
end
end DL

namespace DL
open PySem PySem.Spec PyProof.Rows L2
open Evl (Ex ex_l ex_t)

section
variable {c : Cc} {X : Cx} {F F' H H' : Hp} {σ σ' : L2.St} {ρ ρ' : En} {v : V} {r : Sl} {wa wb wc w : DT} {wA : DA} {a b e : Expr} {es : List Expr} {pos : Pos} {i : Nat}

/-! ### arguments, displays -/
def dANil : DA := fun ρ Q => Q [] ρ
def dACons (w : DT) (wA : DA) : DA := fun ρ Q => w ρ fun r ρ1 => dF r fun x => wA ρ1 fun as ρ2 => Q (.d x :: as) ρ2
/-- the list at slot i is handed over to be changed -/
def dAAt (i : Nat) (wA : DA) : DA := fun ρ Q => match ρ[i]? with
  | some (.mu _ _) => wA ρ fun as ρ2 => match ρ2[i]? with
    | some (.mu _ _) => Q (.sl i :: as) ρ2
    | _ => False
  | _ => False
theorem da_nil : DAs c X [] dANil := pato pa_nil fun σ H Q ⟨F, ρ, Qd, I, h, k⟩ => k [] ρ [] F H h I (Go.refl) trivial
theorem agOk_mono {ρ1 ρ2 : En} (e : Ex F F') (hm : ∀ (i : Nat) b t, ρ1[i]? = some (.mu b t) → ∃ b t, ρ2[i]? = some (.mu b t)) : ∀ {a : Ag}, AgOk c σ ρ1 F v a → AgOk c σ ρ2 F' v a
  | .d x, h => dp_mono e h
  | .sl i, h => ⟨h.1, by
    obtain ⟨b, t, q⟩ := h.2
    exact hm i b t q⟩
theorem da_cons (ha : DE c X e w) (hr : DAs c X es wA) (hs : starEach (e :: es) X.env = (false, eval e X.env) :: starEach es X.env := by rfl) : DAs c X (e :: es) (dACons w wA) := pato (pa_cons ha hr hs) fun σ H Q ⟨F, ρ, Qd, I, h, k⟩ => by
  refine ⟨F, ρ, _, I, h, fun r1 ρ1 v1 F1 H1 q1 I1 e1 p1 => ?_⟩
  obtain ⟨F1', x, I1', e1', p1', q1⟩ := dF_go I1 q1 p1
  refine ⟨F1', ρ1, _, I1', q1, fun as ρ2 vs F2 H2 q2 I2 e2 p2 => ?_⟩
  exact k _ ρ2 _ F2 H2 q2 I2 ((e1.trans e1').trans e2) ⟨dp_mono e2.f p1', p2⟩
theorem da_at (i : Nat) {x : Str} (ha : PE X e (tVar i)) (hr : DAs c X es wA) (hs : starEach (e :: es) X.env = (false, eval e X.env) :: starEach es X.env := by rfl) : DAs c X (e :: es) (dAAt i wA) := pato (pa_cons ha hr hs) fun σ H Q ⟨F, ρ, Qd, I, h, k⟩ => by
  unfold dAAt at h
  split at h
  · rename_i b t e
    obtain ⟨p, o, h1, _⟩ := I.mu i b t e
    refine ⟨_, h1, F, ρ, _, I, h, fun as ρ2 vs F2 H2 q2 I2 e2 p2 => ?_⟩
    split at q2
    · rename_i b2 t2 e2'
      exact k _ ρ2 _ F2 H2 q2 I2 e2 ⟨⟨h1, b2, t2, e2'⟩, p2⟩
    · exact q2.elim
  · exact h.elim
/-- arguments that are all data -/
def agD : List Ag → (List D → Prop) → Prop
  | [], Q => Q []
  | .d x :: r, Q => agD r fun l => Q (x :: l)
  | .sl _ :: _, _ => False
theorem agD_go : ∀ {vs : List V} {as : List Ag} {Q : List D → Prop}, AgsOk c σ ρ F vs as → agD as Q → ∃ l, DpAll c.K F vs l ∧ Q l
  | [], [], Q, _, q => ⟨[], .nil, q⟩
  | v :: vs, .d x :: as, Q, h, q => by
    obtain ⟨l, h1, h2⟩ := agD_go h.2 q
    exact ⟨x :: l, .cons h.1 h1, h2⟩
  | _ :: _, .sl _ :: _, _, _, q => q.elim
  | [], _ :: _, _, h, _ => h.elim
  | _ :: _, [], _, h, _ => h.elim
def dTup (wA : DA) : DT := fun ρ Q => wA ρ fun as ρ1 => agD as fun l => l.length ≤ lim ∧ Q (.val (.tuple l)) ρ1
def dLst (wA : DA) : DT := fun ρ Q => wA ρ fun as ρ1 => agD as fun l => l.length ≤ lim ∧ Q (.mu true (.lst l)) ρ1
theorem de_tup {x1} (h : DAs c X es wA) : DE c X (.Tuple es x1 pos) (dTup wA) := peto (pe_tup h) fun σ H Q ⟨F, ρ, Qd, I, h, k⟩ => by
  refine ⟨F, ρ, _, I, h, fun as ρ1 vs F1 H1 q1 I1 e1 p1 => ?_⟩
  obtain ⟨l, h1, h2, h3⟩ := agD_go p1 q1
  refine ⟨lim_le (by rw [dps_len h1]; exact h2), fun p hp => ?_⟩
  exact new_tup (Qd := fun z => Qd z ρ1) I1 h1 h3 (fun z v F' H' hz I' e' p' => k z ρ1 v F' H' hz I' (e1.trans e') p') p hp
theorem de_lst (h : DAs c X es wA) : DE c X (.List es pos) (dLst wA) := peto (pe_lst h) fun σ H Q ⟨F, ρ, Qd, I, h, k⟩ => by
  refine ⟨F, ρ, _, I, h, fun as ρ1 vs F1 H1 q1 I1 e1 p1 => ?_⟩
  obtain ⟨l, h1, h2, h3⟩ := agD_go p1 q1
  refine ⟨lim_le (by rw [dps_len h1]; exact h2), fun p hp => ?_⟩
  exact new_lst (Qd := fun z => Qd z ρ1) I1 h1 h3 (fun z v F' H' hz I' e' p' => k z ρ1 v F' H' hz I' (e1.trans e') p') p hp

/-! ### built-ins called by name -/
abbrev FA := List D → (Sl → Prop) → Prop
def CallS (c : Cc) (r : List V → Hp → VK → Prop) (f : FA) : Prop := ∀ (F H : Hp) (σ : L2.St) (ρ : En) (vs : List V) (l : List D) (Qd : Sl → Prop) (Q : VK), Ok c F H σ ρ → DpAll c.K F vs l → f l Qd →
  (∀ z v F' H', Qd z → Ok c F' H' σ ρ → Go c F H F' H' → RepR c σ ρ F' H' v z → Q v H') → r vs H Q
def dCB (f : FA) (wA : DA) : DT := fun ρ Q => wA ρ fun as ρ1 => agD as fun l => f l fun z => Q z ρ1
theorem lift_cb {r : List V → Hp → VK → Prop} {f : FA} (h : CallS c r f) (σ : L2.St) (H : Hp) (Q : VK) (q : lift c (dCB f wA) σ H Q) : tCB r (liftA c wA) σ H Q := by
  obtain ⟨F, ρ, Qd, I, h1, k⟩ := q
  refine ⟨F, ρ, _, I, h1, fun as ρ1 vs F1 H1 q1 I1 e1 p1 => ?_⟩
  obtain ⟨l, h2, h3⟩ := agD_go p1 q1
  exact h F1 H1 σ ρ1 vs l _ Q I1 h2 h3 fun z v F' H' hz I' e' p' => k z ρ1 v F' H' hz I' (e1.trans e') p'
/-- a built-in and what it computes -/
def CbS (c : Cc) (X : Cx) (id : Value) (f : FA) : Prop := ∃ r, CallR X id r ∧ CallS c r f
theorem de_cb {x : Str} {id : String} {f : FA} {p : Pos} (hc : CbS c X (.builtin id) f) (hm : X.mg x = none) (hv : bootBuiltins x = some (.builtin id)) (ha : DAs c X (e :: es) wA) (hg : Gl X x := by rfl) (hn : x ≠ "__name__" := by decide) (hdb : (x == ("__debug__" : Str)) = false := by decide)
    (he : starEach (e :: es) X.env = (false, eval e X.env) :: starEach es X.env := by rfl) (hpl : (backTo pos (starEach es X.env)).any (·.1) = false := by rfl) : DE c X (.Call (.Name x p) (e :: es) [] pos) (dCB f wA) :=
  let ⟨_, h1, h2⟩ := hc
  peto (pe_callB h1 hg hm hv ha hn hdb he hpl) (lift_cb h2)
theorem de_ct {x : Str} {id : String} {f : FA} {p : Pos} (hc : CbS c X (.type id) f) (hm : X.mg x = none) (hv : bootBuiltins x = some (.type id)) (ha : DAs c X (e :: es) wA) (hg : Gl X x := by rfl) (hn : x ≠ "__name__" := by decide) (hdb : (x == ("__debug__" : Str)) = false := by decide)
    (he : starEach (e :: es) X.env = (false, eval e X.env) :: starEach es X.env := by rfl) (hpl : (backTo pos (starEach es X.env)).any (·.1) = false := by rfl) : DE c X (.Call (.Name x p) (e :: es) [] pos) (dCB f wA) :=
  let ⟨_, h1, h2⟩ := hc
  peto (pe_callTy h1 hg hm hv ha hn hdb he hpl) (lift_cb h2)
def fAbs : FA := fun l Q => match l with
  | [.int i] => Q (.val (.int (if i < 0 then -i else i)))
  | _ => False
def fMax2 : FA := fun l Q => match l with
  | [.int i, .int j] => Q (.val (.int (if j > i then j else i)))
  | _ => False
def fMin2 : FA := fun l Q => match l with
  | [.int i, .int j] => Q (.val (.int (if j < i then j else i)))
  | _ => False
def fLen : FA := fun l Q => match l with
  | [.list xs] => Q (.val (.int xs.length))
  | [.tuple xs] => Q (.val (.int xs.length))
  | _ => False
/-- of a list: what is asked is that it is made of ints -/
def fSum : FA := fun l Q => match l with
  | [.list xs] => ∃ ns : List Int, xs = ns.map PyData.int ∧ Q (.val (.int ns.sum))
  | _ => False
def fAll : FA := fun l Q => match l with
  | [.list xs] => ∃ bs : List Bool, xs = bs.map PyData.bool ∧ Q (.val (.bool (bs.all id)))
  | _ => False
def fAny : FA := fun l Q => match l with
  | [.list xs] => ∃ bs : List Bool, xs = bs.map PyData.bool ∧ Q (.val (.bool (bs.any id)))
  | _ => False
def fList : FA := fun l Q => match l with
  | [.list xs] => Q (.mu true (.lst xs))
  | [.tuple xs] => Q (.mu true (.lst xs))
  | _ => False
def fTuple : FA := fun l Q => match l with
  | [.list xs] => Q (.val (.tuple xs))
  | [.tuple xs] => Q (.val (.tuple xs))
  | _ => False
theorem cb_abs : CbS c X (.builtin "abs") fAbs := ⟨_, call_abs, fun F H σ ρ vs l Qd Q I p q k => by
  unfold fAbs at q
  split at q
  · cases p with | cons p1 p2 => cases p2; cases p1; exact ⟨_, rfl, k _ _ F H q I (Go.refl) (.int _)⟩
  · exact q.elim⟩
theorem cb_max2 (hc : X.calm = true := by rfl) : CbS c X (.builtin "max") fMax2 := ⟨_, call_max2 hc, fun F H σ ρ vs l Qd Q I p q k => by
  unfold fMax2 at q
  split at q
  · cases p with | cons p1 p2 => cases p2 with | cons p2 p3 => cases p3; cases p1; cases p2; exact ⟨_, _, rfl, k _ _ F H q I (Go.refl) (.int _)⟩
  · exact q.elim⟩
theorem cb_min2 (hc : X.calm = true := by rfl) : CbS c X (.builtin "min") fMin2 := ⟨_, call_min2 hc, fun F H σ ρ vs l Qd Q I p q k => by
  unfold fMin2 at q
  split at q
  · cases p with | cons p1 p2 => cases p2 with | cons p2 p3 => cases p3; cases p1; cases p2; exact ⟨_, _, rfl, k _ _ F H q I (Go.refl) (.int _)⟩
  · exact q.elim⟩
theorem cb_len (hk : X.K = c.K := by rfl) : CbS c X (.builtin "len") fLen := ⟨_, hk ▸ call_len_seq, fun F H σ ρ vs l Qd Q I p q k => by
  unfold fLen at q
  split at q
  · cases p with | cons p1 p2 => ?_
    cases p2
    obtain ⟨a, xs, rfl, s, d⟩ := dp_lst p1
    refine ⟨a, xs, rfl, .inl (ex_l I.fh s), ?_⟩
    rw [dps_len d]
    exact k _ _ F H q I (Go.refl) (.int _)
  · cases p with | cons p1 p2 => ?_
    cases p2
    obtain ⟨a, xs, rfl, s, d⟩ := dp_tup p1
    refine ⟨a, xs, rfl, .inr (ex_t I.fh s), ?_⟩
    rw [dps_len d]
    exact k _ _ F H q I (Go.refl) (.int _)
  · exact q.elim⟩
theorem cb_sum (hc : X.calm = true := by rfl) (hk : X.K = c.K := by rfl) : CbS c X (.builtin "sum") fSum := ⟨_, hk ▸ cr_sum hc, fun F H σ ρ vs l Qd Q I p q k => by
  unfold fSum at q
  split at q
  · cases p with | cons p1 p2 => ?_
    cases p2
    obtain ⟨ns, rfl, q⟩ := q
    obtain ⟨a, xs, rfl, s, d⟩ := dp_lst p1
    have e := dps_ints d
    subst e
    exact ⟨a, ns, rfl, ex_l I.fh s, k _ _ F H q I (Go.refl) (.int _)⟩
  · exact q.elim⟩
theorem cb_all (hc : X.calm = true := by rfl) (hk : X.K = c.K := by rfl) : CbS c X (.builtin "all") fAll := ⟨_, hk ▸ cr_all hc, fun F H σ ρ vs l Qd Q I p q k => by
  unfold fAll at q
  split at q
  · cases p with | cons p1 p2 => ?_
    cases p2
    obtain ⟨ns, rfl, q⟩ := q
    obtain ⟨a, xs, rfl, s, d⟩ := dp_lst p1
    have e := dps_bls d
    subst e
    exact ⟨a, ns, rfl, ex_l I.fh s, k _ _ F H q I (Go.refl) (.bl _)⟩
  · exact q.elim⟩
theorem cb_any (hc : X.calm = true := by rfl) (hk : X.K = c.K := by rfl) : CbS c X (.builtin "any") fAny := ⟨_, hk ▸ cr_any hc, fun F H σ ρ vs l Qd Q I p q k => by
  unfold fAny at q
  split at q
  · cases p with | cons p1 p2 => ?_
    cases p2
    obtain ⟨ns, rfl, q⟩ := q
    obtain ⟨a, xs, rfl, s, d⟩ := dp_lst p1
    have e := dps_bls d
    subst e
    exact ⟨a, ns, rfl, ex_l I.fh s, k _ _ F H q I (Go.refl) (.bl _)⟩
  · exact q.elim⟩
theorem cb_list (hk : X.K = c.K := by rfl) : CbS c X (.type "list") fList := ⟨_, hk ▸ call_list_of, fun F H σ ρ vs l Qd Q I p q k => by
  unfold fList at q
  split at q
  · cases p with | cons p1 p2 => ?_
    cases p2
    obtain ⟨a, xs, rfl, s, d⟩ := dp_lst p1
    exact ⟨a, xs, rfl, .inl (ex_l I.fh s), new_lst I d q k⟩
  · cases p with | cons p1 p2 => ?_
    cases p2
    obtain ⟨a, xs, rfl, s, d⟩ := dp_tup p1
    exact ⟨a, xs, rfl, .inr (ex_t I.fh s), new_lst I d q k⟩
  · exact q.elim⟩
theorem cb_tuple (hk : X.K = c.K := by rfl) : CbS c X (.type "tuple") fTuple := ⟨_, hk ▸ call_tuple_of, fun F H σ ρ vs l Qd Q I p q k => by
  unfold fTuple at q
  split at q
  · cases p with | cons p1 p2 => ?_
    cases p2
    obtain ⟨a, xs, rfl, s, d⟩ := dp_lst p1
    exact ⟨a, xs, rfl, .inl ⟨ex_l I.fh s, new_tup I d q k⟩⟩
  · cases p with | cons p1 p2 => ?_
    cases p2
    have p1' := p1
    obtain ⟨a, xs, rfl, s, d⟩ := dp_tup p1
    exact ⟨a, xs, rfl, .inr ⟨ex_t I.fh s, k _ _ F H q I (Go.refl) p1'⟩⟩
  · exact q.elim⟩

/-! ### isinstance -/
def isT : String → D → Option Bool
  | "int", .int _ => some true
  | "int", .bool _ => some true
  | "bool", .bool _ => some true
  | "str", .str _ => some true
  | "list", .list _ => some true
  | "tuple", .tuple _ => some true
  | _, .dict _ => none
  | "int", _ => some false
  | "bool", _ => some false
  | "str", _ => some false
  | "list", _ => some false
  | "tuple", _ => some false
  | _, _ => none
def dIsi (T : String) (w : DT) : DT := fun ρ Q => w ρ fun r ρ1 => dF r fun x => match isT T x with
  | some b => Q (.val (.bool b)) ρ1
  | none => False
def dTy : D → String
  | .none => "NoneType"
  | .bool _ => "bool"
  | .int _ => "int"
  | .str _ => "str"
  | .list _ => "list"
  | .tuple _ => "tuple"
  | .dict _ => "dict"
theorem tyX_of {K : PySem.W.Frag} {d : D} (h : Dp K H v d) : TyX K H v (.type (dTy d)) := by
  cases h with
  | non => exact .base .non
  | bl b => exact .base (.bl b)
  | int i => exact .base (.int i)
  | str x => exact .base (.str x)
  | lst s _ =>
    rcases s with (s | ⟨o, s⟩) | ⟨o, its, n, s, cl, _⟩
    · exact .base (.lst s)
    · exact .base (.frz s)
    · exact .kList s cl
  | tup s _ =>
    rcases s with (s | ⟨o, s⟩) | ⟨o, its, n, s, cl, _⟩
    · exact .base (.tup s)
    · exact .fTuple s
    · exact .kTuple s cl
def kitTab : Bool := ["NoneType", "bool", "int", "str", "list", "tuple"].all fun a => ["int", "bool", "str", "list", "tuple"].all fun b => kitB a b == some (a == b || (a == "bool" && b == "int"))
theorem kitTab_ok : kitTab = true := by decide +kernel
theorem kit_of' {a b : String} (ha : a ∈ ["NoneType", "bool", "int", "str", "list", "tuple"]) (hb : b ∈ ["int", "bool", "str", "list", "tuple"]) : kitB a b = some (a == b || (a == "bool" && b == "int")) := by
  have h := kitTab_ok
  unfold kitTab at h
  rw [List.all_eq_true] at h
  have h1 := h a ha
  rw [List.all_eq_true] at h1
  exact eq_of_beq (h1 b hb)
theorem isT_kit {K : PySem.W.Frag} {T : String} {x : D} {bb : Bool} (h : isT T x = some bb) : PySem.W.kitOne K (.type (dTy x)) (.type T) = some bb := by
  have hT : T ∈ ["int", "bool", "str", "list", "tuple"] := by
    unfold isT at h
    split at h <;> first | (simp; done) | cases h
  refine kit_ty ?_
  have hx : dTy x ∈ ["NoneType", "bool", "int", "str", "list", "tuple"] := by
    cases x <;> first | (simp [dTy]; done) | (unfold isT at h; split at h <;> simp_all)
  rw [kit_of' hx hT, ← h]
  simp only [List.mem_cons, List.not_mem_nil, or_false] at hT
  rcases hT with rfl | rfl | rfl | rfl | rfl <;> cases x <;> first | rfl | (simp [dTy] at hx; done) | (exfalso; revert h; simp [isT]; done) | decide
end
end DL

namespace DL
open PySem PySem.Spec PyProof.Rows L2
open Evl (Ex ex_l ex_t)

section
variable {c : Cc} {X : Cx} {F F' H H' : Hp} {σ σ' : L2.St} {ρ ρ' : En} {v : V} {r : Sl} {wa wb wc w : DT} {wA : DA} {a b e : Expr} {es : List Expr} {pos : Pos} {i : Nat}

/-! ### isinstance(e, T), isinstance(e, (T, U)) -/
theorem de_isi {T : Str} {t : String} {p p' : Pos} (ha : DE c X e w) (hm : X.mg "isinstance" = none) (hmT : X.mg T = none) (hvT : bootBuiltins T = some (.type t)) (hk : X.K = c.K := by rfl) (hg : Gl X "isinstance" := by rfl) (hgT : Gl X T := by rfl)
    (hn : T ≠ "__name__" := by decide) (hdb : (T == ("__debug__" : Str)) = false := by decide)
    (he : starEach [e, .Name T p'] X.env = (false, eval e X.env) :: starEach [.Name T p'] X.env := by rfl) (hpl : (backTo pos (starEach [.Name T p'] X.env)).any (·.1) = false := by rfl)
    (hs2 : starEach [.Name T p'] X.env = (false, eval (.Name T p') X.env) :: starEach [] X.env := by rfl) :
    DE c X (.Call (.Name "isinstance" p) [e, .Name T p'] [] pos) (dIsi t w) :=
  peto (pe_callB (r := rIsi X.K) (call_isi (X := X)) hg hm PyProof.Rows.boot_isinstance (pa_cons ha (pa_cons (pe_bltn (v := .ty t) hgT hmT hvT rfl hn hdb) pa_nil hs2) he) (he := he) (hpl := hpl)) fun σ H Q ⟨F, ρ, Qd, I, h, k⟩ => by
    refine ⟨F, ρ, _, I, h, fun r1 ρ1 v1 F1 H1 q1 I1 e1 p1 => ?_⟩
    obtain ⟨F1', x, I1', e1', p1', q1⟩ := dF_go I1 q1 p1
    split at q1
    · rename_i bb hb
      have hkk := isT_kit (K := X.K) hb
      refine ⟨v1, .ty t, _, _, bb, rfl, .ty t, hk ▸ tyX_of (dp_mono I1'.fh p1'), hkk, ?_⟩
      exact k _ _ _ F1' H1 q1 I1' (e1.trans e1') (.bl bb)
    · exact q1.elim
def dIsi2 (T U : String) (w : DT) : DT := fun ρ Q => w ρ fun r ρ1 => dF r fun x => match isT T x, isT U x with
  | some b, some b' => Q (.val (.bool (b || b'))) ρ1
  | _, _ => False
theorem de_isi2 {T U : Str} {t u : String} {p p' p'' pt : Pos} {kk} (ha : DE c X e w) (hm : X.mg "isinstance" = none) (hmT : X.mg T = none) (hvT : bootBuiltins T = some (.type t)) (hmU : X.mg U = none) (hvU : bootBuiltins U = some (.type u)) (hk : X.K = c.K := by rfl) (hg : Gl X "isinstance" := by rfl) (hgT : Gl X T := by rfl) (hgU : Gl X U := by rfl)
    (hn : T ≠ "__name__" := by decide) (hdb : (T == ("__debug__" : Str)) = false := by decide) (hnU : U ≠ "__name__" := by decide) (hdbU : (U == ("__debug__" : Str)) = false := by decide)
    (he : starEach [e, .Tuple [.Name T p', .Name U p''] kk pt] X.env = (false, eval e X.env) :: starEach [.Tuple [.Name T p', .Name U p''] kk pt] X.env := by rfl) (hpl : (backTo pos (starEach [.Tuple [.Name T p', .Name U p''] kk pt] X.env)).any (·.1) = false := by rfl)
    (hs2 : starEach [.Tuple [.Name T p', .Name U p''] kk pt] X.env = (false, eval (.Tuple [.Name T p', .Name U p''] kk pt) X.env) :: starEach [] X.env := by rfl)
    (hs3 : starEach [.Name T p', .Name U p''] X.env = (false, eval (.Name T p') X.env) :: starEach [.Name U p''] X.env := by rfl) (hs4 : starEach [.Name U p''] X.env = (false, eval (.Name U p'') X.env) :: starEach [] X.env := by rfl) :
    DE c X (.Call (.Name "isinstance" p) [e, .Tuple [.Name T p', .Name U p''] kk pt] [] pos) (dIsi2 t u w) :=
  peto (pe_callB (r := rIsiT X.K) (call_isiT (X := X)) hg hm PyProof.Rows.boot_isinstance (pa_cons ha (pa_cons (pe_tup (pa_cons (pe_bltn (v := .ty t) hgT hmT hvT rfl hn hdb) (pa_cons (pe_bltn (v := .ty u) hgU hmU hvU rfl hnU hdbU) pa_nil hs4) hs3)) pa_nil hs2) he) (he := he) (hpl := hpl)) fun σ H Q ⟨F, ρ, Qd, I, h, k⟩ => by
    refine ⟨F, ρ, _, I, h, fun r1 ρ1 v1 F1 H1 q1 I1 e1 p1 => ?_⟩
    obtain ⟨F1', x, I1', e1', p1', q1⟩ := dF_go I1 q1 p1
    split at q1
    · rename_i b1 b2 hb1 hb2
      refine ⟨by show 2 ≤ sizeLine; decide, fun tp htp => ?_⟩
      obtain ⟨I2, e2, s2⟩ := I1'.new (o := .tup [.ty t, .ty u]) htp
      have p2 := dp_mono I2.fh (dp_mono e2.f p1')
      refine ⟨v1, tp, [.ty t, .ty u], _, [.type t, .type u], b1 || b2, rfl, upd_same, .cons (.ty t) (.cons (.ty u) .nil), hk ▸ tyX_of p2, kitAny_cons (isT_kit hb1) (fun hf => kitAny_cons (isT_kit hb2) (fun hf2 => by rw [hf, hf2]; exact kitAny_nil) (fun ht => by rw [ht]; simp)) (fun ht => by rw [ht]; rfl), ?_⟩
      exact k _ _ _ _ _ q1 I2 ((e1.trans e1').trans e2) (.bl _)
    · exact q1.elim

/-! ### subscripts, slices -/
def fIx : F2 := fun x y Q => match x, y with
  | .list l, .int i => match atI l i with
    | some d => Q (.val d)
    | none => False
  | .tuple l, .int i => match atI l i with
    | some d => Q (.val d)
    | none => False
  | _, _ => False
theorem atI_dp {K : PySem.W.Frag} {xs : List V} {l : List D} {d : D} {i : Int} (h : DpAll K H xs l) (e : atI l i = some d) : ∃ v, atI xs i = some v ∧ Dp K H v d := by
  unfold atI at e ⊢
  rw [dps_len h]
  cases q : ixN l.length i with
  | none => rw [q] at e; cases e
  | some j =>
    rw [q] at e
    exact dps_get h e
theorem ops_ix : OpS c (rIx c.K) fIx := by
  intro F H σ ρ v1 v2 x y Qd Q I p1 p2 q k
  unfold fIx at q
  split at q
  · obtain ⟨a, xs, rfl, s, d⟩ := dp_lst p1
    cases p2
    split at q
    · rename_i dd hd
      obtain ⟨v, h1, h2⟩ := atI_dp d hd
      exact .inl ⟨a, xs, _, v, rfl, rfl, ex_l I.fh s, h1, k _ _ F H q I (Go.refl) h2⟩
    · exact q.elim
  · obtain ⟨a, xs, rfl, s, d⟩ := dp_tup p1
    cases p2
    split at q
    · rename_i dd hd
      obtain ⟨v, h1, h2⟩ := atI_dp d hd
      exact .inr (.inl ⟨a, xs, _, v, rfl, rfl, ex_t I.fh s, h1, k _ _ F H q I (Go.refl) h2⟩)
    · exact q.elim
  · exact q.elim
theorem de_ix (ha : DE c X a wa) (hb : DE c X b wb) (hs : PlainIx b := by exact fun _ _ => rfl) (hk : X.K = c.K := by rfl) : DE c X (.Subscript a b pos) (dOp fIx wa wb) := peto (pe_ix (r := rIx c.K) (hk ▸ ix_seq) ha hb hs) (lift_op ops_ix)
/-- x[i], x a name that holds a list of its own -/
def dIxM (i : Nat) (wb : DT) : DT := fun ρ Q => match ρ[i]? with
  | some (.mu _ (.lst _)) => wb ρ fun r ρ1 => dF r fun y => match ρ1[i]?, y with
    | some (.mu _ (.lst l)), .int j => match atI l j with
      | some d => Q (.val d) ρ1
      | none => False
    | _, _ => False
  | _ => False
theorem de_ixM (i : Nat) (ha : PE X a (tVar i)) (hb : DE c X b wb) (hs : PlainIx b := by exact fun _ _ => rfl) (hk : X.K = c.K := by rfl) : DE c X (.Subscript a b pos) (dIxM i wb) := peto (pe_ix (r := rIx c.K) (hk ▸ ix_seq) ha hb hs) fun σ H Q ⟨F, ρ, Qd, I, h, k⟩ => by
  unfold dIxM at h
  split at h
  · rename_i b0 l0 e0
    obtain ⟨p, o, h1, _⟩ := I.mu i _ _ e0
    refine ⟨_, h1, F, ρ, _, I, h, fun r1 ρ1 v1 F1 H1 q1 I1 e1 p1 => ?_⟩
    obtain ⟨F1', y, I1', e1', p1', q1⟩ := dF_go I1 q1 p1
    split at q1
    · rename_i bb l j hl
      obtain ⟨p', o', h1', h2, h3, h4, _⟩ := I1'.mu i _ _ hl
      rw [h1] at h1'
      injection h1' with h1'; injection h1' with h1'; injection h1' with h1'
      subst h1'
      cases o' with
      | lst vs =>
        split at q1
        · rename_i d hd
          obtain ⟨v, g1, g2⟩ := atI_dp h4 hd
          exact .inl ⟨p, vs, j, v, rfl, dp_int p1', .inl (.inl h3), g1, k _ _ _ F1' H1 q1 I1' (e1.trans e1') g2⟩
        · exact q1.elim
      | _ => cases h4
    · exact q1.elim
  · exact h.elim
/-- a part of a slice -/
abbrev DO := En → (Option Int → En → Prop) → Prop
def liftO (c : Cc) (w : DO) : TO := fun σ H Q => ∃ F ρ Qd, Ok c F H σ ρ ∧ w ρ Qd ∧ ∀ o ρ' F' H', Qd o ρ' → Ok c F' H' σ ρ' → Go c F H F' H' → Q o H'
def dONone : DO := fun ρ Q => Q none ρ
def dOSome (w : DT) : DO := fun ρ Q => w ρ fun r ρ1 => dF r fun x => match x with
  | .int i => Q (some i) ρ1
  | _ => False
abbrev DOp (c : Cc) (X : Cx) (e : Option Expr) (w : DO) : Prop := PO X e (liftO c w)
theorem poto {X : Cx} {e : Option Expr} {t t' : TO} (h : PO X e t) (k : ∀ σ H Q, t' σ H Q → t σ H Q) : PO X e t' := ⟨fun pins s σ H Q I q => h.run pins s σ H Q I (k σ H Q q)⟩
theorem do_none : DOp c X none dONone := poto po_none fun σ H Q ⟨F, ρ, Qd, I, h, k⟩ => k _ ρ F H h I (Go.refl)
theorem do_some (h : DE c X e w) : DOp c X (some e) (dOSome w) := poto (po_some h) fun σ H Q ⟨F, ρ, Qd, I, h, k⟩ => by
  refine ⟨F, ρ, _, I, h, fun r1 ρ1 v1 F1 H1 q1 I1 e1 p1 => ?_⟩
  obtain ⟨F1', y, I1', e1', p1', q1⟩ := dF_go I1 q1 p1
  split at q1
  · exact ⟨_, dp_int p1', k _ _ F1' H1 q1 I1' (e1.trans e1')⟩
  · exact q1.elim
/-- the items of a slice -/
def cutD (l : List D) (lo hi : Option Int) : List D := (l.drop (HT.sIx l.length 0 lo)).take (HT.sIx l.length l.length hi - HT.sIx l.length 0 lo)
theorem dps_cut {K : PySem.W.Frag} {xs : List V} {l : List D} {lo hi : Option Int} (h : DpAll K H xs l) : DpAll K H (cutV xs lo hi) (cutD l lo hi) := by
  unfold cutV cutD
  rw [dps_len h]
  exact dps_take _ (dps_drop _ h)
def fSl (x : D) (lo hi : Option Int) (Q : Sl → Prop) : Prop := match x with
  | .list l => Q (.mu true (.lst (cutD l lo hi)))
  | .tuple l => Q (.val (.tuple (cutD l lo hi)))
  | _ => False
def dSl (w : DT) (wl wu : DO) : DT := fun ρ Q => w ρ fun r ρ1 => dF r fun x => wl ρ1 fun lo ρ2 => wu ρ2 fun hi ρ3 => fSl x lo hi fun z => Q z ρ3
def rSlB (K : PySem.W.Frag) : V → Option Int → Option Int → Hp → VK → Prop := fun x lo hi H Q => rSlL K x lo hi H Q ∨ rSlA K x lo hi H Q
theorem sl_both : SlR X (rSlB X.K) := by
  intro pins s σ H x v vl vu lo hi sl Q I rx hs pl pu h
  rcases h with h | h
  · exact sl_list pins s σ H x v vl vu lo hi sl Q I rx hs pl pu h
  · exact sl_tupA pins s σ H x v vl vu lo hi sl Q I rx hs pl pu h
theorem lift_slB {K : PySem.W.Frag} {x : D} {lo hi : Option Int} {Qd : Sl → Prop} {Q : VK} (hK : K = c.K) (I : Ok c F H σ ρ) (p : Dp c.K F v x) (q : fSl x lo hi Qd) (k : ∀ z v F' H', Qd z → Ok c F' H' σ ρ → Go c F H F' H' → RepR c σ ρ F' H' v z → Q v H') : rSlB K v lo hi H Q := by
  subst hK
  unfold fSl at q
  split at q
  · obtain ⟨a, xs, rfl, s, d⟩ := dp_lst p
    exact .inl ⟨a, xs, rfl, ex_l I.fh s, new_lst I (dps_cut d) q k⟩
  · have p' := p
    obtain ⟨a, xs, rfl, s, d⟩ := dp_tup p
    refine .inr ⟨a, xs, rfl, ex_t I.fh s, fun ⟨e1, e2⟩ => ?_, fun _ => new_tup I (dps_cut d) q k⟩
    refine k _ _ F H q I (Go.refl) ?_
    have hl := dps_len d
    rw [hl] at e1 e2
    unfold cutD
    rw [e1, e2, List.drop_zero, Nat.sub_zero, List.take_length]
    exact p'
  · exact q.elim
theorem de_slice {lo hi : Option Expr} {wl wu : DO} {p2 : Pos} (ha : DE c X a wa) (hl : DOp c X lo wl) (hu : DOp c X hi wu) (hk : X.K = c.K := by rfl) : DE c X (.Subscript a (.Slice lo hi none p2) pos) (dSl wa wl wu) := peto (pe_slice sl_both ha hl hu) fun σ H Q ⟨F, ρ, Qd, I, h, k⟩ => by
  refine ⟨F, ρ, _, I, h, fun r1 ρ1 v1 F1 H1 q1 I1 e1 p1 => ?_⟩
  obtain ⟨F1', x, I1', e1', p1', q1⟩ := dF_go I1 q1 p1
  refine ⟨F1', ρ1, _, I1', q1, fun lo ρ2 F2 H2 q2 I2 e2 => ⟨F2, ρ2, _, I2, q2, fun hi ρ3 F3 H3 q3 I3 e3 => ?_⟩⟩
  exact lift_slB (Qd := fun z => Qd z ρ3) hk I3 (dp_mono (e2.trans e3).f p1') q3 fun z v F' H' hz I' e' p' => k z ρ3 v F' H' hz I' ((((e1.trans e1').trans e2).trans e3).trans e') p'
/-- xs[::-1] of a list -/
def dRev (w : DT) : DT := fun ρ Q => w ρ fun r ρ1 => dF r fun x => match x with
  | .list l => Q (.mu true (.lst l.reverse)) ρ1
  | _ => False
theorem de_rev {k : Nat} {p1 p2 p3 : Pos} (ha : DE c X a wa) (hk : X.K = c.K := by rfl) : DE c X (.Subscript a (.Slice none none (some (.UnaryOp .USub (.Constant (.int 1) k p1) p2)) p3) pos) (dRev wa) := peto (pe_revL ha) fun σ H Q ⟨F, ρ, Qd, I, h, k⟩ => by
  refine ⟨F, ρ, _, I, h, fun r1 ρ1 v1 F1 H1 q1 I1 e1 p1 => ?_⟩
  obtain ⟨F1', x, I1', e1', p1', q1⟩ := dF_go I1 q1 p1
  split at q1
  · obtain ⟨a, xs, rfl, s, d⟩ := dp_lst p1'
    exact ⟨a, xs, rfl, hk ▸ ex_l I1'.fh s, new_lst (Qd := fun z => Qd z ρ1) I1' (dps_rev d) q1 fun z v F' H' hz I' e' p' => k z ρ1 v F' H' hz I' ((e1.trans e1').trans e') p'⟩
  · exact q1.elim

/-! ### reading lists of one's own on the way to a flat answer: the lists are as they were behind it -/
def frz : Sl → Sl
  | .mu true (.lst l) => .val (.list l)
  | s => s
def frzAt (ρ : En) : List Nat → En
  | [] => ρ
  | i :: is => (frzAt ρ is).set i (frz ((frzAt ρ is)[i]?.getD .no))
def flatS : Sl → Bool
  | .val d => flatD d
  | _ => false
theorem Ok.frz1 (I : Ok c F H σ ρ) (i : Nat) : ∃ F', Ok c F' H σ (ρ.set i (frz (ρ[i]?.getD .no))) ∧ Ex F F' := by
  cases q : ρ[i]? with
  | none =>
    refine ⟨F, ?_, Evl.Ex.refl F⟩
    rw [List.set_eq_of_length_le (by simpa using q)]
    exact I
  | some s =>
    have same : ρ.set i s = ρ := by
      rw [List.set_eq_take_append_cons_drop]
      have := lt_len q
      rw [if_pos this]
      have h2 : ρ[i] = s := by
        have := List.getElem?_eq_getElem this
        rw [q] at this
        exact (Option.some.inj this).symm
      rw [← h2]
      simp
    simp only [Option.getD_some]
    cases s with
    | no => exact ⟨F, by rw [show frz .no = .no from rfl, same]; exact I, Evl.Ex.refl F⟩
    | val d => exact ⟨F, by rw [show frz (.val d) = .val d from rfl, same]; exact I, Evl.Ex.refl F⟩
    | mu b t =>
      cases b with
      | false => exact ⟨F, by rw [show frz (.mu false t) = .mu false t from rfl, same]; exact I, Evl.Ex.refl F⟩
      | true =>
        cases t with
        | dct kvs => exact ⟨F, by rw [show frz (.mu true (.dct kvs)) = .mu true (.dct kvs) from rfl, same]; exact I, Evl.Ex.refl F⟩
        | lst l =>
          obtain ⟨p, h1, I', h2⟩ := I.take q
          obtain ⟨F', I2, e2, h3⟩ := I'.freeze h2
          have I3 := I2.putVal (i := i) h1 h3
          rw [List.set_set] at I3
          exact ⟨F', I3, e2.f⟩
theorem Ok.frzAt (I : Ok c F H σ ρ) : ∀ is : List Nat, ∃ F', Ok c F' H σ (frzAt ρ is) ∧ Ex F F'
  | [] => ⟨F, I, Evl.Ex.refl F⟩
  | i :: is => by
    obtain ⟨F1, I1, e1⟩ := I.frzAt is
    obtain ⟨F2, I2, e2⟩ := I1.frz1 i
    exact ⟨F2, I2, e1.trans e2⟩
def dBor (is : List Nat) (w : DT) : DT := fun ρ Q => w (frzAt ρ is) fun r _ => flatS r = true ∧ Q r ρ
def dBorB (is : List Nat) (w : DB) : DB := fun ρ Q => w (frzAt ρ is) fun b _ => Q b ρ
/-- the same where nothing may be changed -/
abbrev Cc.still (c : Cc) : Cc := { c with pu := true }
theorem Ok.still (I : Ok c F H σ ρ) : Ok c.still F H σ ρ := ⟨I.mg, I.f0, I.fh, I.old, I.mem, I.oldF, I.len, I.val, I.mu, I.dis⟩
theorem Ok.unstill (I : Ok c.still F H σ ρ) : Ok c F H σ ρ := ⟨I.mg, I.f0, I.fh, I.old, I.mem, I.oldF, I.len, I.val, I.mu, I.dis⟩
theorem flat_rep (h : RepR c σ ρ F H v r) (f : flatS r = true) : RepR c σ' ρ' F' H' v r := by
  cases r with
  | val d =>
    have h' : Dp c.K F v d := h
    have f' : flatD d = true := f
    show Dp c.K F' v d
    cases h' <;> first | (constructor; done) | cases f'
  | _ => cases f
theorem de_bor (is : List Nat) (h : DE c.still X e w) : DE c X e (dBor is w) := peto h fun σ H Q ⟨F, ρ, Qd, I, h, k⟩ => by
  obtain ⟨F1, I1, e1⟩ := I.frzAt is
  refine ⟨F1, _, _, I1.still, h, fun r ρ' v F' H' q I' g p => ?_⟩
  have eh : Ex H H' := g.h rfl
  exact k r ρ v F H' q.2 (I.hm (I.fh.trans eh) eh) ⟨Evl.Ex.refl F, fun _ => eh⟩ (flat_rep (c := c) (σ := σ) (ρ := ρ') (H := H') (F := F') (by
    have f := q.1
    cases r with
    | val d => exact p
    | _ => cases f) q.1)
theorem dt_bor (is : List Nat) {w : DB} (h : DTe c.still X e w) : DTe c X e (dBorB is w) := ptto h fun σ H Q ⟨F, ρ, Qd, I, h, k⟩ => by
  obtain ⟨F1, I1, e1⟩ := I.frzAt is
  refine ⟨F1, _, _, I1.still, h, fun r ρ' F' H' q I' g => ?_⟩
  have eh : Ex H H' := g.h rfl
  exact k r ρ F H' q (I.hm (I.fh.trans eh) eh) ⟨Evl.Ex.refl F, fun _ => eh⟩
end
end DL

namespace DL
open PySem PySem.Spec PyProof.Rows L2
open Evl (Ex ex_l ex_t)

section
variable {c : Cc} {X : Cx} {F F' H H' : Hp} {σ σ' : L2.St} {ρ ρ' : En} {v : V} {r : Sl} {wa wb wc w : DT} {wA : DA} {t u : DB} {a b e : Expr} {es : List Expr} {pos : Pos} {i : Nat} {st : Stmt} {sts rest : List Stmt}

/-! ### storing into a slot -/
theorem Ok.setVal (I : Ok c F H σ ρ) {d : D} (hd : Dp c.K F v d) (i : Nat) : Ok c F H (σ.set i (some v)) (ρ.set i (.val d)) := by
  refine ⟨I.mg, I.f0, I.fh, I.old, I.mem, I.oldF, by rw [List.length_set, List.length_set]; exact I.len, fun j d' h' => ?_, fun j b t h => ?_, fun j k b t b' t' p ne h1 h2 h3 h4 => ?_⟩
  · by_cases e : i = j
    · subst e
      have hl := lt_len h'
      rw [List.length_set] at hl
      rw [List.getElem?_set_self hl] at h'
      injection h' with h'; injection h' with h'
      subst h'
      exact ⟨v, List.getElem?_set_self (by rw [I.len]; exact hl), hd⟩
    · rw [List.getElem?_set_ne e] at h' ⊢
      exact I.val j d' h'
  · by_cases e : i = j
    · subst e
      have hl := lt_len h
      rw [List.length_set] at hl
      rw [List.getElem?_set_self hl] at h
      cases h
    · rw [List.getElem?_set_ne e] at h ⊢
      exact I.mu j b t h
  · have e1 : i ≠ j := fun e => by
      subst e
      have hl := lt_len h1
      rw [List.length_set] at hl
      rw [List.getElem?_set_self hl] at h1
      cases h1
    have e2 : i ≠ k := fun e => by
      subst e
      have hl := lt_len h2
      rw [List.length_set] at hl
      rw [List.getElem?_set_self hl] at h2
      cases h2
    rw [List.getElem?_set_ne e1] at h1 h3
    rw [List.getElem?_set_ne e2] at h2 h4
    exact I.dis j k b t b' t' p ne h1 h2 h3 h4
theorem Ok.setOwn (I : Ok c F H σ ρ) {t : Ct} (h : RepR c σ ρ F H v (.mu true t)) (i : Nat) : Ok c F H (σ.set i (some v)) (ρ.set i (.mu true t)) := by
  obtain ⟨_, p, o, rfl, gp, fp, hp, ct, ap⟩ := h
  have two : ∀ {j : Nat} {b : Bool} {t' : Ct}, (ρ.set i (.mu true t))[j]? = some (.mu b t') → (i = j ∧ (σ.set i (some (.ref p)))[j]? = some (some (.ref p)) ∧ b = true ∧ t' = t) ∨ (i ≠ j ∧ ρ[j]? = some (.mu b t') ∧ (σ.set i (some (V.ref p)))[j]? = σ[j]?) := fun {j b t'} h => by
    by_cases e : i = j
    · subst e
      have hl := lt_len h
      rw [List.length_set] at hl
      rw [List.getElem?_set_self hl] at h
      injection h with h; injection h with h1 h2
      exact .inl ⟨rfl, List.getElem?_set_self (by rw [I.len]; exact hl), h1.symm, h2.symm⟩
    · rw [List.getElem?_set_ne e] at h
      exact .inr ⟨e, h, List.getElem?_set_ne e⟩
  refine ⟨I.mg, I.f0, I.fh, I.old, I.mem, I.oldF, by rw [List.length_set, List.length_set]; exact I.len, fun j d' h' => ?_, fun j b t' h => ?_, fun j k b t1 b' t2 q ne h1 h2 h3 h4 => ?_⟩
  · by_cases e : i = j
    · subst e
      have hl := lt_len h'
      rw [List.length_set] at hl
      rw [List.getElem?_set_self hl] at h'
      cases h'
    · rw [List.getElem?_set_ne e] at h' ⊢
      exact I.val j d' h'
  · rcases two h with ⟨rfl, h1, rfl, rfl⟩ | ⟨ne, h1, h2⟩
    · exact ⟨p, o, h1, fp, hp, ct, fun _ => gp, fun z => nomatch z⟩
    · rw [h2]; exact I.mu j b t' h1
  · rcases two h1 with ⟨rfl, g1, _⟩ | ⟨n1, g1, e1⟩
    · rcases two h2 with ⟨rfl, _⟩ | ⟨n2, g2, e2⟩
      · exact ne rfl
      · rw [g1] at h3
        injection h3 with h3; injection h3 with h3; injection h3 with h3
        subst h3
        rw [e2] at h4
        exact ap k b' t2 g2 h4
    · rcases two h2 with ⟨rfl, g2, _⟩ | ⟨n2, g2, e2⟩
      · rw [g2] at h4
        injection h4 with h4; injection h4 with h4; injection h4 with h4
        subst h4
        rw [e1] at h3
        exact ap j b t1 g1 h3
      · rw [e1] at h3
        rw [e2] at h4
        exact I.dis j k b t1 b' t2 q ne g1 g2 h3 h4
theorem Ok.setR (I : Ok c F H σ ρ) (h : RepR c σ ρ F H v r) (i : Nat) : Ok c F H (σ.set i (some v)) (ρ.set i r) := by
  cases r with
  | no => exact h.elim
  | val d => exact I.setVal h i
  | mu b t =>
    have hb := h.1
    subst hb
    exact I.setOwn h i
/-- the list at slot i changes -/
theorem Ok.change (I : Ok c F H σ ρ) {i : Nat} {b : Bool} {t0 t : Ct} {p : Addr} {o : HO} (hi : ρ[i]? = some (.mu b t0)) (hp : σ[i]? = some (some (.ref p))) (ht : CtOk c.K F o t) : Ok c F (upd H p o) σ (ρ.set i (.mu b t)) := by
  obtain ⟨p', o', h1, h2, h3, h4, h5, h6⟩ := I.mu i b t0 hi
  rw [hp] at h1
  injection h1 with h1; injection h1 with h1; injection h1 with h1
  subst h1
  have hl := lt_len hi
  have two : ∀ {j : Nat} {b' : Bool} {t' : Ct}, (ρ.set i (.mu b t))[j]? = some (.mu b' t') → (i = j ∧ b' = b ∧ t' = t) ∨ (i ≠ j ∧ ρ[j]? = some (.mu b' t')) := fun {j b' t'} h => by
    by_cases e : i = j
    · subst e
      rw [List.getElem?_set_self hl] at h
      injection h with h; injection h with q1 q2
      exact .inl ⟨rfl, q1.symm, q2.symm⟩
    · rw [List.getElem?_set_ne e] at h
      exact .inr ⟨e, h⟩
  refine ⟨I.mg, I.f0, fun a u h => ?_, fun a u h m => ?_, fun a m z => ?_, I.oldF, by rw [List.length_set]; exact I.len, fun j d' h' => ?_, fun j b' t' h => ?_, fun j k b1 t1 b2 t2 q ne g1 g2 g3 g4 => ?_⟩
  · have ne : a ≠ p := fun e => by subst e; rw [h2] at h; cases h
    rw [upd_ne ne]; exact I.fh a u h
  · have ne : a ≠ p := fun e => by
      subst e
      cases b with
      | true => rw [h5 rfl] at h; cases h
      | false => exact m (h6 rfl)
    rw [upd_ne ne]; exact I.old a u h m
  · by_cases e : a = p
    · subst e; rw [upd_same] at z; cases z
    · rw [upd_ne e] at z; exact I.mem a m z
  · by_cases e : i = j
    · subst e
      rw [List.getElem?_set_self hl] at h'
      cases h'
    · rw [List.getElem?_set_ne e] at h'
      exact I.val j d' h'
  · rcases two h with ⟨rfl, rfl, rfl⟩ | ⟨ne, g⟩
    · exact ⟨p, o, hp, h2, upd_same, ht, h5, h6⟩
    · obtain ⟨q, u, q1, q2, q3, q4⟩ := I.mu j b' t' g
      have nq : q ≠ p := fun e => by
        subst e
        exact I.dis i j b t0 b' t' q ne hi g hp q1
      exact ⟨q, u, q1, q2, by rw [upd_ne nq]; exact q3, q4⟩
  · rcases two g1 with ⟨rfl, rfl, rfl⟩ | ⟨n1, f1⟩
    · rcases two g2 with ⟨rfl, _⟩ | ⟨n2, f2⟩
      · exact ne rfl
      · exact I.dis i k b1 t0 b2 t2 q ne hi f2 g3 g4
    · rcases two g2 with ⟨rfl, rfl, rfl⟩ | ⟨n2, f2⟩
      · exact I.dis j i b1 t1 b2 t0 q ne f1 hi g3 g4
      · exact I.dis j k b1 t1 b2 t2 q ne f1 f2 g3 g4

/-! ### statements -/
structure De where
  nx : En → Prop
  rt : Sl → En → Prop
  bk : En → Prop := fun _ => False
  ct : En → Prop := fun _ => False
structure EndsOk (c : Cc) (F : Hp) (E : De) (D : Ends) : Prop where
  nx : ∀ σ F' H ρ, Ok c F' H σ ρ → Ex F F' → E.nx ρ → D.nx σ H
  rt : ∀ r v σ F' H ρ, Ok c F' H σ ρ → Ex F F' → RepR c σ ρ F' H v r → E.rt r ρ → D.rt v H
  bk : ∀ σ F' H ρ, Ok c F' H σ ρ → Ex F F' → E.bk ρ → D.bk σ H
  ct : ∀ σ F' H ρ, Ok c F' H σ ρ → Ex F F' → E.ct ρ → D.ct σ H
theorem EndsOk.mono {E : De} {D : Ends} (k : EndsOk c F E D) (e : Ex F F') : EndsOk c F' E D :=
  ⟨fun σ F' H ρ I e' => k.nx σ F' H ρ I (e.trans e'), fun r v σ F' H ρ I e' => k.rt r v σ F' H ρ I (e.trans e'), fun σ F' H ρ I e' => k.bk σ F' H ρ I (e.trans e'), fun σ F' H ρ I e' => k.ct σ F' H ρ I (e.trans e')⟩
abbrev DS := De → En → Prop
def liftS (c : Cc) (w : DS) : TS := fun D σ H => ∃ F ρ E, Ok c F H σ ρ ∧ EndsOk c F E D ∧ w E ρ
abbrev DSt (c : Cc) (X : Cx) (st : Stmt) (w : DS) : Prop := PS X st (liftS c w)
abbrev DSs (c : Cc) (X : Cx) (sts : List Stmt) (w : DS) : Prop := PSs X sts (liftS c w)
variable {s1 s2 : DS}
def dSeq (s1 s2 : DS) : DS := fun E ρ => s1 { E with nx := s2 E } ρ
def dNext : DS := fun E ρ => E.nx ρ
theorem dss_cons (h1 : DSt c X st s1) (h2 : DSs c X rest s2) : DSs c X (st :: rest) (dSeq s1 s2) := pssto (pss_cons h1 h2) fun D σ H ⟨F, ρ, E, I, k, h⟩ =>
  ⟨F, ρ, { E with nx := s2 E }, I, ⟨fun σ F' H ρ I' e q => ⟨F', ρ, E, I', k.mono e, q⟩, k.rt, k.bk, k.ct⟩, h⟩
theorem dss_one (h1 : DSt c X st s1) : DSs c X [st] s1 := pssto (pss_one h1) fun D σ H h => h
theorem dss_nil : DSs c X [] dNext := pssto pss_nil fun D σ H ⟨F, ρ, E, I, k, h⟩ => k.nx σ F H ρ I (Evl.Ex.refl F) h
def dSet (i : Nat) (w : DT) : DS := fun E ρ => w ρ fun r ρ1 => E.nx (ρ1.set i r)
theorem set_lift {i : Nat} (D : Ends) (σ : L2.St) (H : Hp) (h : liftS c (dSet i w) D σ H) : tAsg (lift c w) (gName i) D σ H := by
  obtain ⟨F, ρ, E, I, k, h⟩ := h
  exact ⟨F, ρ, _, I, h, fun r ρ1 v F1 H1 q I1 g p => k.nx _ F1 H1 _ (I1.setR p i) g.f q⟩
theorem dst_set {i : Nat} {x : Str} {pos' : Pos} (hN : X.N.Nodup) (he : DE c X e w) (hi : X.N[i]? = some x := by rfl) (hx : Loc X.env.scope x := by first | exact .inl rfl | exact .inr rfl) (hs : swapsWith e (some (.Name x pos')) pos.line X.env = pure false := by rfl) (hf : X.fn x = true ∨ X.env.scope.names.lookup x = some .local := by first | exact .inl rfl | exact .inr rfl | assumption) :
    DSt c X (.Assign [.Name x pos'] e pos) (dSet i w) := psto (ps_set hN hi hx he hs hf) set_lift
def dRet (w : DT) : DS := fun E ρ => w ρ E.rt
theorem dst_ret (he : DE c X e w) : DSt c X (.Return (some e) pos) (dRet w) := psto (ps_ret he) fun D σ H ⟨F, ρ, E, I, k, h⟩ => ⟨F, ρ, _, I, h, fun r ρ1 v F1 H1 q I1 g p => k.rt r v σ F1 H1 ρ1 I1 g.f p q⟩
def dRetN : DS := fun E ρ => E.rt (.val .none) ρ
theorem dst_retN : DSt c X (.Return none pos) dRetN := psto ps_retN fun D σ H ⟨F, ρ, E, I, k, h⟩ => k.rt (.val .none) .non σ F H ρ I (Evl.Ex.refl F) (Dp.non : Dp c.K F .non .none) h
def dExpr (w : DT) : DS := fun E ρ => w ρ fun _ ρ1 => E.nx ρ1
theorem dst_expr (he : DE c X e w) (hs : swapsWith e none pos.line X.env = pure false := by rfl) : DSt c X (.Expr e pos) (dExpr w) := psto (ps_expr he hs) fun D σ H ⟨F, ρ, E, I, k, h⟩ => ⟨F, ρ, _, I, h, fun r ρ1 v F1 H1 q I1 g p => k.nx σ F1 H1 ρ1 I1 g.f q⟩
def dIf (t : DB) (s1 s2 : DS) : DS := fun E ρ => t ρ fun b ρ1 => match b with
  | true => s1 E ρ1
  | false => s2 E ρ1
theorem dst_if (hc : DTe c X e t) (ha : DSs c X sts s1) (hb : DSs c X rest s2) : DSt c X (.If e sts rest pos) (dIf t s1 s2) := psto (ps_if hc ha hb) fun D σ H ⟨F, ρ, E, I, k, h⟩ => by
  refine ⟨F, ρ, _, I, h, fun b ρ1 F1 H1 q I1 g => ?_⟩
  cases b with
  | true => rw [if_pos rfl]; exact ⟨F1, ρ1, E, I1, k.mono g.f, q⟩
  | false => rw [if_neg (by decide)]; exact ⟨F1, ρ1, E, I1, k.mono g.f, q⟩
def dBreak : DS := fun E ρ => E.bk ρ
def dCont : DS := fun E ρ => E.ct ρ
theorem dst_break : DSt c X (.Break pos) dBreak := psto ps_break fun D σ H ⟨F, ρ, E, I, k, h⟩ => k.bk σ F H ρ I (Evl.Ex.refl F) h
theorem dst_cont : DSt c X (.Continue pos) dCont := psto ps_continue fun D σ H ⟨F, ρ, E, I, k, h⟩ => k.ct σ F H ρ I (Evl.Ex.refl F) h
theorem dst_pass : DSt c X (.Pass pos) dNext := psto ps_pass fun D σ H ⟨F, ρ, E, I, k, h⟩ => k.nx σ F H ρ I (Evl.Ex.refl F) h
def dNever : DS := fun _ _ => False
theorem dst_never : DSt c X st dNever := psto ps_never fun D σ H ⟨_, _, _, _, _, h⟩ => h.elim
/-- a, b = e1, e2 -/
def dPar (i j : Nat) (wA : DA) : DS := fun E ρ => wA ρ fun as ρ1 => agD as fun l => match l with
  | [x, y] => E.nx ((ρ1.set i (.val x)).set j (.val y))
  | _ => False
theorem dst_par {i j : Nat} {x y : Str} {px py pt : Pos} {kt k2 pt2} (hN : X.N.Nodup) (ha : DAs c X [a, b] wA) (hc : X.calm = true := by rfl) (hi : X.N[i]? = some x := by rfl) (hj : X.N[j]? = some y := by rfl) (hij : i ≠ j := by decide)
    (hx : X.env.scope.names.lookup x = some .local := by rfl) (hy : X.env.scope.names.lookup y = some .local := by rfl)
    (hw : swappedStores [.Tuple [.Name x px, .Name y py] kt pt] (.Tuple [a, b] k2 pt2) X.env = pure (some [x, y]) := by rfl)
    (hs : swapsWithSole [.Tuple [.Name x px, .Name y py] kt pt] (.Tuple [a, b] k2 pt2) pos.line X.env = pure false := by rfl) :
    DSt c X (.Assign [.Tuple [.Name x px, .Name y py] kt pt] (.Tuple [a, b] k2 pt2) pos) (dPar i j wA) := psto (ps_par hc hN hi hj hij hx hy ha hw hs) fun D σ H ⟨F, ρ, E, I, k, h⟩ => by
  refine ⟨F, ρ, _, I, h, fun as ρ1 vs F1 H1 q I1 g p => ?_⟩
  obtain ⟨l, p1, q1⟩ := agD_go p q
  split at q1
  · cases p1 with | cons a1 p1 => ?_
    cases p1 with | cons a2 p2 => ?_
    cases p2
    exact ⟨_, _, rfl, k.nx _ F1 H1 _ ((I1.setVal a1 i).setVal a2 j) g.f q1⟩
  · exact q1.elim
def dPar3 (i j l : Nat) (wA : DA) : DS := fun E ρ => wA ρ fun as ρ1 => agD as fun ds => match ds with
  | [x, y, z] => E.nx (((ρ1.set i (.val x)).set j (.val y)).set l (.val z))
  | _ => False
theorem dst_par3 {i j l : Nat} {x y z : Str} {a b d : Expr} {px py pz pt : Pos} {kt k2 pt2} (hN : X.N.Nodup) (ha : DAs c X [a, b, d] wA) (hc : X.calm = true := by rfl) (hi : X.N[i]? = some x := by rfl) (hj : X.N[j]? = some y := by rfl) (hl : X.N[l]? = some z := by rfl) (hij : i ≠ j := by decide) (hil : i ≠ l := by decide) (hjl : j ≠ l := by decide)
    (hx : X.env.scope.names.lookup x = some .local := by rfl) (hy : X.env.scope.names.lookup y = some .local := by rfl) (hz : X.env.scope.names.lookup z = some .local := by rfl)
    (hw : swappedStores [.Tuple [.Name x px, .Name y py, .Name z pz] kt pt] (.Tuple [a, b, d] k2 pt2) X.env = pure (some [x, y, z]) := by rfl)
    (hs : swapsWithSole [.Tuple [.Name x px, .Name y py, .Name z pz] kt pt] (.Tuple [a, b, d] k2 pt2) pos.line X.env = pure false := by rfl) :
    DSt c X (.Assign [.Tuple [.Name x px, .Name y py, .Name z pz] kt pt] (.Tuple [a, b, d] k2 pt2) pos) (dPar3 i j l wA) := psto (ps_par3 hc hN hi hj hl hij hil hjl hx hy hz ha hw hs) fun D σ H ⟨F, ρ, E, I, k, h⟩ => by
  refine ⟨F, ρ, _, I, h, fun as ρ1 vs F1 H1 q I1 g p => ?_⟩
  obtain ⟨ds, p1, q1⟩ := agD_go p q
  split at q1
  · cases p1 with | cons a1 p1 => ?_
    cases p1 with | cons a2 p2 => ?_
    cases p2 with | cons a3 p3 => ?_
    cases p3
    exact ⟨_, _, _, rfl, k.nx _ F1 H1 _ (((I1.setVal a1 i).setVal a2 j).setVal a3 l) g.f q1⟩
  · exact q1.elim

/-! ### targets -/
abbrev DG := D → En → (En → Prop) → Prop
/-- slots other than is are as they were -/
def SetIn (is : List Nat) (σ σ' : L2.St) : Prop := σ'.length = σ.length ∧ ∀ j, j ∉ is → σ'[j]? = σ[j]?
def liftG (c : Cc) (is : List Nat) (wg : DG) : TG := fun v σ H Q => ∃ F ρ d Qd, Ok c F H σ ρ ∧ Dp c.K F v d ∧ wg d ρ Qd ∧ ∀ ρ' σ', Qd ρ' → Ok c F H σ' ρ' → SetIn is σ σ' → Q σ' H
abbrev DTg (c : Cc) (X : Cx) (tg : Expr) (is : List Nat) (wg : DG) : Prop := PG X tg (liftG c is wg)
theorem pgto {X : Cx} {e : Expr} {t t' : TG} (h : PG X e t) (k : ∀ v σ H Q, t' v σ H Q → t v σ H Q) : PG X e t' := ⟨fun pins s σ H v u Q I r q => h.run pins s σ H v u Q I r (k v σ H Q q)⟩
def gdName (i : Nat) : DG := fun d ρ Q => Q (ρ.set i (.val d))
theorem dg_name (i : Nat) {x : Str} (hN : X.N.Nodup) (hi : X.N[i]? = some x := by rfl) (hx : Loc X.env.scope x := by first | exact .inl rfl | exact .inr rfl) (hf : X.fn x = true ∨ X.env.scope.names.lookup x = some .local := by first | exact .inl rfl | exact .inr rfl | assumption) :
    DTg c X (.Name x pos) [i] (gdName i) := pgto (pg_name hN hi hx hf) fun v σ H Q ⟨F, ρ, d, Qd, I, p, h, k⟩ => k _ _ h (I.setVal p i) ⟨List.length_set, fun j hj => List.getElem?_set_ne (fun e => hj (by simp [e]))⟩
abbrev DGs := List D → En → (En → Prop) → Prop
def liftGs (c : Cc) (is : List Nat) (wg : DGs) : TGs := fun vs σ H Q => ∃ F ρ l Qd, Ok c F H σ ρ ∧ DpAll c.K F vs l ∧ wg l ρ Qd ∧ ∀ ρ' σ', Qd ρ' → Ok c F H σ' ρ' → SetIn is σ σ' → Q σ' H
abbrev DTgs (c : Cc) (X : Cx) (tgs : List Expr) (is : List Nat) (wg : DGs) : Prop := PGs X tgs (liftGs c is wg)
theorem pgsto {X : Cx} {e : List Expr} {t t' : TGs} (h : PGs X e t) (k : ∀ v σ H Q, t' v σ H Q → t v σ H Q) : PGs X e t' := ⟨fun pins s σ H v u Q I r q => h.run pins s σ H v u Q I r (k v σ H Q q)⟩
def gdNil : DGs := fun l ρ Q => match l with
  | [] => Q ρ
  | _ => False
def gdCons (g : DG) (gs : DGs) : DGs := fun l ρ Q => match l with
  | d :: r => g d ρ fun ρ1 => gs r ρ1 Q
  | _ => False
theorem dgs_nil : DTgs c X [] [] gdNil := pgsto pgs_nil fun v σ H Q ⟨F, ρ, l, Qd, I, p, h, k⟩ => by
  unfold gdNil at h
  split at h
  · cases p
    exact ⟨rfl, k _ _ h I ⟨rfl, fun _ _ => rfl⟩⟩
  · exact h.elim
theorem dgs_cons {is js : List Nat} {g : DG} {gs : DGs} (h1 : DTg c X e is g) (h2 : DTgs c X es js gs) (hs : (assignEach (e :: es) X.env).map (·.2) = assign e X.env :: (assignEach es X.env).map (·.2) := by rfl) : DTgs c X (e :: es) (is ++ js) (gdCons g gs) := pgsto (pgs_cons h1 h2 hs) fun v σ H Q ⟨F, ρ, l, Qd, I, p, h, k⟩ => by
  unfold gdCons at h
  split at h
  · cases p with | cons a1 p1 => ?_
    refine ⟨_, _, rfl, F, ρ, _, _, I, a1, h, fun ρ1 σ1 q1 I1 s1 => ⟨F, ρ1, _, _, I1, p1, q1, fun ρ2 σ2 q2 I2 s2 => k ρ2 σ2 q2 I2 ⟨s2.1.trans s1.1, fun j hj => ?_⟩⟩⟩
    rw [List.mem_append, not_or] at hj
    exact (s2.2 j hj.2).trans (s1.2 j hj.1)
  · exact h.elim
def gdTupN (n : Nat) (gs : DGs) : DG := fun d ρ Q => match d with
  | .tuple l => l.length = n ∧ gs l ρ Q
  | _ => False
theorem dg_tup {is : List Nat} {gs : DGs} {n k : Nat} (h : DTgs c X es is gs) (hc : X.calm = true := by rfl) (hn : (assignEach es X.env).length = n := by rfl) (hst : (assignEach es X.env).findIdx? (·.1) = none := by rfl) (hk : X.K = c.K := by rfl) : DTg c X (.Tuple es k pos) is (gdTupN n gs) := pgto (pg_tup hc h hn hst) fun v σ H Q ⟨F, ρ, d, Qd, I, p, h, k⟩ => by
  unfold gdTupN at h
  split at h
  · obtain ⟨a, xs, rfl, s, d⟩ := dp_tup p
    exact ⟨a, xs, rfl, hk ▸ ex_t I.fh s, by rw [dps_len d]; exact h.1, F, ρ, _, _, I, d, h.2, k⟩
  · exact h.elim
def dAsg (w : DT) (g : DG) : DS := fun E ρ => w ρ fun r ρ1 => dF r fun d => g d ρ1 E.nx
theorem dst_asg {tg : Expr} {is : List Nat} {g : DG} (he : DE c X e w) (hg : DTg c X tg is g) (hs : swapsWithSole [tg] e pos.line X.env = pure false := by rfl) (hw : swappedStores [tg] e X.env = pure none := by rfl)
    (h1 : (assignEach [tg] X.env).map (·.2) = [assign tg X.env] := by rfl) : DSt c X (.Assign [tg] e pos) (dAsg w g) := psto (ps_asg he hg hs hw h1) fun D σ H ⟨F, ρ, E, I, k, h⟩ => by
  refine ⟨F, ρ, _, I, h, fun r ρ1 v F1 H1 q I1 g p => ?_⟩
  obtain ⟨F2, d, I2, g2, p2, q2⟩ := dF_go I1 q p
  exact ⟨F2, ρ1, d, _, I2, p2, q2, fun ρ' σ' q' I' _ => k.nx σ' F2 H1 ρ' I' (g.trans g2).f q'⟩
end
end DL

namespace DL
open PySem PySem.Spec PyProof.Rows L2
open Evl (Ex ex_l ex_t)

section
variable {c : Cc} {X : Cx} {F F' H H' : Hp} {σ σ' : L2.St} {ρ ρ' : En} {v : V} {r : Sl} {wa wb wc w : DT} {wA : DA} {t u : DB} {a b e : Expr} {es : List Expr} {pos : Pos} {i : Nat} {st : Stmt} {sts rest : List Stmt}

/-! ### a def's promise, a call -/
abbrev Spec := En → (Sl → Option Ct → Prop) → Prop
def Res (K : PySem.W.Frag) (H F' H' : Hp) (v : V) : Sl → Prop
  | .val d => Dp K F' v d
  | .mu b t => b = true ∧ ∃ p o, v = .ref p ∧ H p = none ∧ F' p = none ∧ H' p = some o ∧ CtOk K F' o t
  | .no => False
def spOf (K : PySem.W.Frag) (n : Nat) (sp : Spec) : L2.Sp := fun vs H Q _ => vs.length = n ∧ ∃ F M ρ Qd, Ok ⟨K, F, H, M, false⟩ F H (vs.map some) ρ ∧ M.length ≤ 1 ∧ sp ρ Qd ∧
  ∀ r t v F' H', Qd r t → Ex F F' → Ex F' H' → (∀ a o, H a = some o → a ∉ M → H' a = some o) → (∀ a, H a ≠ none → F a = none → F' a = none) → Res K H F' H' v r → (∀ p ∈ M, ∀ t', t = some t' → ∃ o, H' p = some o ∧ CtOk K F' o t') → Q v H'
def agSl (ρ : En) : Ag → Sl
  | .d x => .val x
  | .sl i => match ρ[i]? with
    | some (.mu _ t) => .mu false t
    | _ => .no
def agAt : List Ag → Option Nat
  | [] => none
  | .sl i :: _ => some i
  | .d _ :: r => agAt r
def agAll : List Ag → Bool
  | [] => true
  | .d _ :: r => agAll r
  | .sl _ :: _ => false
/-- at most one list is handed over -/
def agOne : List Ag → Bool
  | [] => true
  | .d _ :: r => agOne r
  | .sl _ :: r => agAll r
/-- where the list handed over stands behind the call -/
def dBack (ρ : En) : Option Nat → Option Ct → (En → Prop) → Prop
  | none, _, Q => Q ρ
  | some i, some t, Q => match ρ[i]? with
    | some (.mu b _) => Q (ρ.set i (.mu b t))
    | _ => False
  | some _, none, _ => False
def dCall (pu : Bool) (sp : Spec) (wA : DA) : DT := fun ρ Q => wA ρ fun as ρ1 => agOne as = true ∧ (pu = true → agAll as = true) ∧ sp (as.map (agSl ρ1)) fun r t => dBack ρ1 (agAt as) t fun ρ2 => Q r ρ2

theorem Ok.g_none (I : Ok c F H σ ρ) {p : Addr} (hp : H p = none) : c.G p = none := by
  cases q : c.G p with
  | none => rfl
  | some u =>
    by_cases m : p ∈ c.M
    · exact absurd hp (I.mem p m)
    · rw [I.old p u q m] at hp; cases hp
theorem agAll_none : ∀ {as : List Ag}, agAll as = true → agAt as = none
  | [], _ => rfl
  | .d _ :: r, h => agAll_none (as := r) h
  | .sl _ :: _, h => by cases h
theorem ag_get : ∀ {vs : List V} {as : List Ag} {j : Nat} {a : Ag}, AgsOk c σ ρ F vs as → as[j]? = some a → ∃ v, vs[j]? = some v ∧ AgOk c σ ρ F v a
  | [], [], _, _, _, h => by simp at h
  | v :: vs, x :: as, 0, a, h, e => by simp at e; subst e; exact ⟨v, rfl, h.1⟩
  | v :: vs, x :: as, j + 1, a, h, e => by
    obtain ⟨u, h1, h2⟩ := ag_get (j := j) h.2 (by simpa using e)
    exact ⟨u, by simpa using h1, h2⟩
  | [], _ :: _, _, _, h, _ => h.elim
  | _ :: _, [], _, _, h, _ => h.elim
theorem ags_len : ∀ {vs : List V} {as : List Ag}, AgsOk c σ ρ F vs as → vs.length = as.length
  | [], [], _ => rfl
  | _ :: vs, _ :: as, h => by rw [List.length_cons, List.length_cons, ags_len h.2]
  | [], _ :: _, h => h.elim
  | _ :: _, [], h => h.elim
theorem at_of_one : ∀ {as : List Ag} {j i : Nat}, agOne as = true → as[j]? = some (.sl i) → agAt as = some i ∧ ∀ k i', as[k]? = some (.sl i') → k = j
  | [], _, _, _, h => by simp at h
  | .d x :: r, 0, _, _, h => by simp at h
  | .d x :: r, j + 1, i, h1, h => by
    obtain ⟨g1, g2⟩ := at_of_one (as := r) (j := j) (i := i) h1 (by simpa using h)
    refine ⟨g1, fun k i' hk => ?_⟩
    cases k with
    | zero => simp at hk
    | succ k => rw [g2 k i' (by simpa using hk)]
  | .sl x :: r, 0, i, h1, h => by
    have e : x = i := by simpa using h
    subst e
    refine ⟨rfl, fun k i' hk => ?_⟩
    cases k with
    | zero => rfl
    | succ k =>
      exfalso
      have hk' : r[k]? = some (.sl i') := by simpa using hk
      have ha : agAll r = true := h1
      clear h hk h1
      induction r generalizing k with
      | nil => simp at hk'
      | cons y r ih =>
        cases y with
        | sl _ => cases ha
        | d _ =>
          cases k with
          | zero => simp at hk'
          | succ k => exact ih k (by simpa using hk') ha
  | .sl x :: r, j + 1, i, h1, h => by
    exfalso
    have hk' : r[j]? = some (.sl i) := by simpa using h
    have ha : agAll r = true := h1
    clear h h1
    revert j
    induction r with
    | nil => intro j hk'; simp at hk'
    | cons y r ih =>
      intro j hk'
      cases y with
      | sl _ => cases ha
      | d _ =>
        cases j with
        | zero => simp at hk'
        | succ j => exact ih ha j (by simpa using hk')
theorem agAt_some : ∀ {as : List Ag} {i : Nat}, agAt as = some i → ∃ j : Nat, as[j]? = some (.sl i)
  | [], _, h => by cases h
  | .d _ :: r, i, h => by
    obtain ⟨j, hj⟩ := agAt_some (as := r) (i := i) h
    exact ⟨j + 1, by simpa using hj⟩
  | .sl x :: r, i, h => ⟨0, by simpa [agAt] using h⟩

theorem lift_call {n : Nat} {sp : Spec} {E : XK} (σ : L2.St) (H : Hp) (Q : VK) (hn : ∀ ρ Qd, sp ρ Qd → ρ.length = n) (q : lift c (dCall c.pu sp wA) σ H Q) : tCall (spOf c.K n sp) [] E (liftA c wA) σ H Q := by
  obtain ⟨F, ρ, Qd, I, h1, k⟩ := q
  refine ⟨F, ρ, _, I, h1, fun as ρ1 vs F1 H1 q1 I1 g1 p1 => ?_⟩
  obtain ⟨one, still, hsp⟩ := q1
  rw [List.append_nil]
  -- the address handed over
  have hM : ∃ M : List Addr, M.length ≤ 1 ∧ (∀ i, agAt as = some i → ∃ p, M = [p] ∧ σ[i]? = some (some (.ref p))) ∧ (agAt as = none → M = []) := by
    cases hA : agAt as with
    | none => exact ⟨[], by simp, fun i z => (nomatch z), fun _ => rfl⟩
    | some i =>
      obtain ⟨j, hj⟩ := agAt_some hA
      obtain ⟨v, hv, h2, b, t, h3⟩ := ag_get p1 hj
      obtain ⟨p, o, h4, _⟩ := I1.mu i b t h3
      exact ⟨[p], by simp, fun i' z => ⟨p, rfl, by cases z; exact h4⟩, fun z => (nomatch z)⟩
  obtain ⟨M, hM1, hM2, hM3⟩ := hM
  have memM : ∀ {p : Addr}, p ∈ M → ∃ i, agAt as = some i ∧ σ[i]? = some (some (.ref p)) := fun {p} hp => by
    cases hA : agAt as with
    | none => rw [hM3 hA] at hp; cases hp
    | some i =>
      obtain ⟨p', e, h⟩ := hM2 i hA
      rw [e] at hp
      have e2 : p = p' := by simpa using hp
      subst e2
      exact ⟨i, rfl, h⟩
  have slot : ∀ {i : Nat}, agAt as = some i → ∃ b t p o, ρ1[i]? = some (.mu b t) ∧ σ[i]? = some (some (.ref p)) ∧ M = [p] ∧ F1 p = none ∧ H1 p = some o ∧ CtOk c.K F1 o t ∧ (b = true → c.G p = none) ∧ (b = false → p ∈ c.M) := fun {i} hA => by
    obtain ⟨j, hj⟩ := agAt_some hA
    obtain ⟨v, hv, h2, b, t, h3⟩ := ag_get p1 hj
    obtain ⟨p, o, h4, h5⟩ := I1.mu i b t h3
    obtain ⟨p', e, h6⟩ := hM2 i hA
    rw [h4] at h6
    injection h6 with h6; injection h6 with h6; injection h6 with h6
    subst h6
    exact ⟨b, t, p, o, h3, h4, e, h5⟩
  have args : ∀ {j : Nat} {s : Sl}, (as.map (agSl ρ1))[j]? = some s → ∃ a, as[j]? = some a ∧ agSl ρ1 a = s := fun {j s} h => by
    rw [List.getElem?_map] at h
    cases q : as[j]? with
    | none => rw [q] at h; cases h
    | some a => rw [q] at h; exact ⟨a, rfl, Option.some.inj h⟩
  have okA : Ok ⟨c.K, F1, H1, M, false⟩ F1 H1 (vs.map some) (as.map (agSl ρ1)) := by
    have memA : ∀ a ∈ M, H1 a ≠ none := fun a m z => by
      obtain ⟨i, hA, hi⟩ := memM m
      obtain ⟨b, t, p, o, _, h4, e, _, h5, _⟩ := slot hA
      rw [hi] at h4
      injection h4 with h4; injection h4 with h4; injection h4 with h4
      subst h4
      rw [h5] at z; cases z
    refine ⟨memA, Evl.Ex.refl F1, I1.fh, fun a o h _ => h, memA, fun a _ h => h, by rw [List.length_map, List.length_map]; exact ags_len p1, fun j d h => ?_, fun j b t h => ?_, fun j l b t b' t' p ne h h' => ?_⟩
    · obtain ⟨x, hx, e⟩ := args h
      obtain ⟨v, hv, p⟩ := ag_get p1 hx
      cases x with
      | d y =>
        cases e
        exact ⟨v, by rw [List.getElem?_map, hv]; rfl, p⟩
      | sl i =>
        change (match ρ1[i]? with
          | some (.mu _ t) => Sl.mu false t
          | _ => .no) = _ at e
        split at e <;> cases e
    · obtain ⟨x, hx, e⟩ := args h
      obtain ⟨v, hv, p⟩ := ag_get p1 hx
      cases x with
      | d y => cases e
      | sl i =>
        obtain ⟨hA, _⟩ := at_of_one one hx
        obtain ⟨b', t', p', o, h3, h4, eM, h5, h6, h7, h8⟩ := slot hA
        change (match ρ1[i]? with
          | some (.mu _ t) => Sl.mu false t
          | _ => .no) = _ at e
        rw [h3] at e
        cases e
        obtain ⟨hσ, _⟩ := p
        rw [h4] at hσ
        cases hσ
        exact ⟨p', o, by rw [List.getElem?_map, hv]; rfl, h5, h6, h7, fun z => (nomatch z), fun _ => by show p' ∈ M; rw [eM]; simp⟩
    · obtain ⟨x, hx, e⟩ := args h
      obtain ⟨y, hy, e'⟩ := args h'
      cases x with
      | d _ => cases e
      | sl i =>
        cases y with
        | d _ => cases e'
        | sl i' => exact absurd ((at_of_one one hx).2 l i' hy).symm ne
  refine ⟨?_, F1, M, as.map (agSl ρ1), _, okA, hM1, hsp, fun r t v F2 H2 hq eF eFH hk hf hres hio => ?_⟩
  · have := hn _ _ hsp
    rw [List.length_map] at this
    rw [ags_len p1]; exact this
  · -- behind the call
    have liveH : ∀ {a : Addr} {o : HO}, H1 a = some o → a ∉ M → H2 a = some o := fun h m => hk _ _ h m
    have kF : ∀ {a : Addr}, H1 a ≠ none → F1 a = none → F2 a = none := fun h f => hf _ h f
    have gM : ∀ {a : Addr}, c.G a ≠ none → H1 a ≠ none := fun {a} h z => h (I1.g_none z)
    have goF : Go c F1 H1 F2 H2 := ⟨eF, fun z => by
      have hA := agAll_none (still z)
      intro a o h
      exact hk a o h (by rw [hM3 hA]; simp)⟩
    -- the slots, but for the one handed over
    have base : ∀ ρ2 : En, ρ2.length = ρ1.length → (∀ (j : Nat) d, ρ2[j]? = some (.val d) → ρ1[j]? = some (.val d)) →
        (∀ (j : Nat) b t, ρ2[j]? = some (.mu b t) → (∃ t0, ρ1[j]? = some (.mu b t0)) ∧ ((agAt as = some j ∧ (∀ p ∈ M, ∃ o, H2 p = some o ∧ CtOk c.K F2 o t)) ∨ (agAt as ≠ some j ∧ ρ1[j]? = some (.mu b t)))) → Ok c F2 H2 σ ρ2 := fun ρ2 hl hv hm => by
      have sep : ∀ {j : Nat} {b : Bool} {t : Ct} {p : Addr}, agAt as ≠ some j → ρ1[j]? = some (.mu b t) → σ[j]? = some (some (.ref p)) → p ∉ M := fun {j b t p} nj h h' m => by
        obtain ⟨i, hA, hi⟩ := memM m
        obtain ⟨b2, t2, p2, o2, g1, g2, _⟩ := slot hA
        have nij : i ≠ j := fun z => nj (by rw [← z]; exact hA)
        exact I1.dis i j b2 t2 b t p nij g1 h hi h'
      refine ⟨I1.mg, fun a o h => eF a o (I1.f0 a o h), eFH, fun a o h m => ?_, fun a m z => ?_, fun a g f => kF (gM g) (I1.oldF a g f), by rw [hl]; exact I1.len, fun j d h => ?_, fun j b t h => ?_, fun j l b t b' t' p ne h h' => ?_⟩
      · refine liveH (I1.old a o h m) fun z => ?_
        obtain ⟨i, hA, hi⟩ := memM z
        obtain ⟨b2, t2, p2, o2, g1, g2, g3, g4, g5, g6, g7, g8⟩ := slot hA
        rw [hi] at g2
        injection g2 with g2; injection g2 with g2; injection g2 with g2
        subst g2
        cases b2 with
        | true => rw [g7 rfl] at h; cases h
        | false => exact m (g8 rfl)
      · cases q : H1 a with
        | none => exact I1.mem a m q
        | some o =>
          by_cases hz : a ∈ M
          · obtain ⟨i, hA, hi⟩ := memM hz
            by_cases hj : ∃ b t, ρ2[i]? = some (.mu b t)
            · obtain ⟨b, t, hj⟩ := hj
              obtain ⟨_, h2⟩ := hm i b t hj
              rcases h2 with ⟨_, h2⟩ | ⟨h2, _⟩
              · obtain ⟨o', h3, _⟩ := h2 a hz
                rw [h3] at z; cases z
              · exact h2 hA
            · have := hio a hz
              obtain ⟨b2, t2, p2, o2, g1, g2, g3, g4⟩ := slot hA
              exact absurd z (fun z => by
                have hd := hq
                rw [hA] at hd
                cases t with
                | none => exact hd.elim
                | some tt =>
                  obtain ⟨o', h3, _⟩ := hio a hz tt rfl
                  rw [h3] at z; cases z)
          · rw [liveH q hz] at z; cases z
      · obtain ⟨v, h1, h2⟩ := I1.val j d (hv j d h)
        exact ⟨v, h1, dp_mono eF h2⟩
      · obtain ⟨⟨t0, h1⟩, h2⟩ := hm j b t h
        obtain ⟨p, o, g1, g2, g3, g4, g5⟩ := I1.mu j b t0 h1
        have hn1 : H1 p ≠ none := fun z => by rw [z] at g3; cases g3
        rcases h2 with ⟨hA, h2⟩ | ⟨nA, h2⟩
        · obtain ⟨p', e, h6⟩ := hM2 j hA
          rw [g1] at h6
          injection h6 with h6; injection h6 with h6; injection h6 with h6
          subst h6
          obtain ⟨o', h3, h4⟩ := h2 p (by rw [e]; simp)
          exact ⟨p, o', g1, kF hn1 g2, h3, h4, g5⟩
        · rw [h1] at h2
          injection h2 with h2; injection h2 with _ h2
          subst h2
          exact ⟨p, o, g1, kF hn1 g2, liveH g3 (sep nA h1 g1), ctOk_mono eF g4, g5⟩
      · obtain ⟨⟨t0, h1⟩, _⟩ := hm j b t h
        obtain ⟨⟨t0', h1'⟩, _⟩ := hm l b' t' h'
        exact I1.dis j l b t0 b' t0' p ne h1 h1'
    have resR : ∀ ρ2 : En, (∀ (j : Nat) b t, ρ2[j]? = some (.mu b t) → ∃ t0, ρ1[j]? = some (.mu b t0)) → RepR c σ ρ2 F2 H2 v r := fun ρ2 hm => by
      cases r with
      | no => exact hres
      | val d => exact hres
      | mu b t =>
        obtain ⟨hb, p, o, e, hp, fp, h2, ct⟩ := hres
        refine ⟨hb, p, o, e, I1.g_none hp, fp, h2, ct, fun j b t h z => ?_⟩
        obtain ⟨t0, h1⟩ := hm j b t h
        obtain ⟨p', o', g1, g2, g3, _⟩ := I1.mu j b t0 h1
        rw [z] at g1
        injection g1 with g1; injection g1 with g1; injection g1 with g1
        subst g1
        rw [hp] at g3; cases g3
    cases hA : agAt as with
    | none =>
      have hq' : Qd r ρ1 := by rw [hA] at hq; exact hq
      exact k r ρ1 v F2 H2 hq' (base ρ1 rfl (fun _ _ h => h) fun j b t h => ⟨⟨t, h⟩, .inr ⟨by rw [hA]; simp, h⟩⟩) (g1.trans goF) (resR ρ1 fun j b t h => ⟨t, h⟩)
    | some i =>
      obtain ⟨b, t0, p, o, g2, g3, eM, _⟩ := slot hA
      rw [hA] at hq
      cases t with
      | none => exact hq.elim
      | some tt =>
        change (match ρ1[i]? with
          | some (.mu b _) => Qd r (ρ1.set i (.mu b tt))
          | _ => False) at hq
        rw [g2] at hq
        have hl := lt_len g2
        have two : ∀ {j : Nat} {s : Sl}, (ρ1.set i (.mu b tt))[j]? = some s → (i = j ∧ s = .mu b tt) ∨ (i ≠ j ∧ ρ1[j]? = some s) := fun {j s} h => by
          by_cases e : i = j
          · subst e
            rw [List.getElem?_set_self hl] at h
            exact .inl ⟨rfl, (Option.some.inj h).symm⟩
          · rw [List.getElem?_set_ne e] at h
            exact .inr ⟨e, h⟩
        refine k r _ v F2 H2 hq (base _ List.length_set (fun j d h => ?_) fun j b' t' h => ?_) (g1.trans goF) (resR _ fun j b' t' h => ?_)
        · rcases two h with ⟨_, z⟩ | ⟨_, z⟩
          · cases z
          · exact z
        · rcases two h with ⟨rfl, z⟩ | ⟨ne, z⟩
          · cases z
            exact ⟨⟨t0, g2⟩, .inl ⟨hA, fun p hp => hio p hp _ rfl⟩⟩
          · exact ⟨⟨t', z⟩, .inr ⟨fun q => ne (by rw [hA] at q; exact Option.some.inj q), z⟩⟩
        · rcases two h with ⟨rfl, z⟩ | ⟨ne, z⟩
          · cases z; exact ⟨t0, g2⟩
          · exact ⟨t', z⟩
end
end DL

namespace DL
open PySem PySem.Spec PyProof.Rows L2
open Evl (Ex ex_l ex_t)

section
variable {c : Cc} {X : Cx} {F F' H H' : Hp} {σ σ' : L2.St} {ρ ρ' : En} {v : V} {r : Sl} {wa wb wc w : DT} {wA : DA} {t u : DB} {a b e : Expr} {es : List Expr} {pos : Pos} {i : Nat} {st : Stmt} {sts rest : List Stmt} {s1 s2 : DS}

theorem de_call {x : Str} {f : Addr} {fd : FuncData} {ps : List Str} {sp : Spec} {k : Nat} {p : Pos} (G : FnOk X.prog X.w X.K X.mg X.base CX0 k f fd ps (spOf c.K ps.length sp)) (hr : Room k X.A) (hn : ∀ ρ Qd, sp ρ Qd → ρ.length = ps.length) (hm : X.mg x = some (.ref f)) (hk : PySem.W.keepIn X.K (.ref f) = true) (hb : Binds X.K fd ps []) (ha : DAs c X (e :: es) wA)
    (hg : Gl X x := by rfl) (hdb : (x == ("__debug__" : Str)) = false := by decide) (he : starEach (e :: es) X.env = (false, eval e X.env) :: starEach es X.env := by rfl) (hpl : (backTo pos (starEach es X.env)).any (·.1) = false := by rfl) :
    DE c X (.Call (.Name x p) (e :: es) [] pos) (dCall c.pu sp wA) := peto (pe_call (E := E0) G hr hg hm hk hb .nil pass0 ha hdb he hpl) fun σ H Q q => lift_call σ H Q hn q

/-! ### the def's rule -/
def ioOf : En → Option Ct
  | [] => none
  | .mu false t :: _ => some t
  | _ :: r => ioOf r
theorem ioOf_get : ∀ {ρ : En} {t : Ct}, ioOf ρ = some t → ∃ i : Nat, ρ[i]? = some (.mu false t)
  | [], _, h => by cases h
  | .mu false t' :: _, t, h => ⟨0, by cases h; rfl⟩
  | .no :: r, t, h => by
    obtain ⟨i, hi⟩ := ioOf_get (ρ := r) h
    exact ⟨i + 1, by simpa using hi⟩
  | .val _ :: r, t, h => by
    obtain ⟨i, hi⟩ := ioOf_get (ρ := r) h
    exact ⟨i + 1, by simpa using hi⟩
  | .mu true _ :: r, t, h => by
    obtain ⟨i, hi⟩ := ioOf_get (ρ := r) h
    exact ⟨i + 1, by simpa using hi⟩
def nos (n : Nat) : En := List.replicate n .no
theorem Ok.pad (I : Ok c F H σ ρ) (n : Nat) : Ok c F H (σ ++ List.replicate n none) (ρ ++ nos n) := by
  have g : ∀ {j : Nat} {s : Sl}, (ρ ++ nos n)[j]? = some s → s ≠ .no → ρ[j]? = some s ∧ (σ ++ List.replicate n none)[j]? = σ[j]? := fun {j s} h ns => by
    by_cases hj : j < ρ.length
    · rw [List.getElem?_append_left hj] at h
      exact ⟨h, List.getElem?_append_left (by rw [I.len]; exact hj)⟩
    · rw [List.getElem?_append_right (by omega)] at h
      exact absurd ((List.mem_replicate.mp (List.mem_of_getElem? h)).2) ns
  refine ⟨I.mg, I.f0, I.fh, I.old, I.mem, I.oldF, by unfold nos; rw [List.length_append, List.length_append, List.length_replicate, List.length_replicate, I.len], fun j d h => ?_, fun j b t h => ?_, fun j k b t b' t' p ne h h' h3 h4 => ?_⟩
  · obtain ⟨g1, g2⟩ := g h (by simp)
    rw [g2]; exact I.val j d g1
  · obtain ⟨g1, g2⟩ := g h (by simp)
    rw [g2]; exact I.mu j b t g1
  · obtain ⟨g1, g2⟩ := g h (by simp)
    obtain ⟨g3, g4⟩ := g h' (by simp)
    rw [g2] at h3
    rw [g4] at h4
    exact I.dis j k b t b' t' p ne g1 g3 h3 h4
theorem one_mem {M : List Addr} {p q : Addr} (h : M.length ≤ 1) (hp : p ∈ M) (hq : q ∈ M) : p = q := by
  match M, h with
  | [], _ => cases hp
  | [x], _ =>
    have e1 : p = x := by simpa using hp
    have e2 : q = x := by simpa using hq
    rw [e1, e2]
end
section
variable {P : Program} {w : World} {K : PySem.W.Frag} {mg : Str → Option Value} {base : Heap}
/-- a def keeps its promise: its body as a term of rules, and what that computes on data -/
theorem okD {x qual : Str} {st : Stmt} {f : Addr} {fd : FuncData} {N ps : List Str} {k : Nat} {sp : Spec} (Fn : Fun K x qual st f fd) (S : FnScope N ps (defScope st)) (hn : ∀ ρ Qd, sp ρ Qd → ρ.length = ps.length)
    (hbody : ∀ (cdv : Value) (A : Around) (outer : List PySem.Env) (s : Shared) (H : Hp) (E : XK) (F0 : Hp) (M : List Addr), Room k (A.deeper (envOfC qual (defScope st) s.heap.objs.size f cdv)) →
      ∃ w : DS, DSs ⟨K, F0, H, M, false⟩ (cxOf CX0 P ‹World› K mg base N qual (defScope st) f cdv A outer s H E).nox (defBody st) w ∧
        ∀ ρ Qd, sp ρ Qd → w { nx := fun ρ' => Qd (.val .none) (ioOf ρ'), rt := fun r ρ' => Qd r (ioOf ρ') } (ρ ++ nos (N.length - ps.length))) :
    FnOk P ‹World› K mg base CX0 (k + 1) f fd ps (spOf K ps.length sp) := by
  refine Fn.ok S (fun vs H Q E h => h.1) (fun cdv A outer s H vs Q E hr h => ?_)
  obtain ⟨hl, F0, M, ρ, Qd, I, hM, hsp, kk⟩ := h
  obtain ⟨w, h1, h2⟩ := hbody cdv A outer s H E F0 M hr
  have io : ∀ {σ' F' H'} {ρ' : En}, Ok ⟨K, F0, H, M, false⟩ F' H' σ' ρ' → ∀ p ∈ M, ∀ t', ioOf ρ' = some t' → ∃ o, H' p = some o ∧ CtOk K F' o t' := fun I' p hp t' ht => by
    obtain ⟨i, hi⟩ := ioOf_get ht
    obtain ⟨q, o, q1, q2, q3, q4, q5, q6⟩ := I'.mu i _ _ hi
    have e := one_mem hM hp (q6 rfl)
    subst e
    exact ⟨o, q3, q4⟩
  refine ⟨_, h1, F0, _, _, ?_, ?_, h2 ρ Qd hsp⟩
  · have J := I.pad (N.length - ps.length)
    unfold L2.start
    rw [hl]
    exact J
  · refine ⟨fun σ' F' H' ρ' I' _ q => ?_, fun r v σ' F' H' ρ' I' _ p q => ?_, fun _ _ _ _ _ _ z => z.elim, fun _ _ _ _ _ _ z => z.elim⟩
    · exact kk _ _ _ F' H' q I'.f0 I'.fh I'.old I'.oldF (show Dp K F' .non .none from .non) (io I')
    · refine kk r _ v F' H' q I'.f0 I'.fh I'.old I'.oldF ?_ (io I')
      cases r with
      | no => exact p
      | val d => exact p
      | mu b t =>
        obtain ⟨p1, q, o, q1, q2, q3, q4, q5, _⟩ := p
        exact ⟨p1, q, o, q1, q2, q3, q4, q5⟩
end

section
variable {c : Cc} {X : Cx} {F F' H H' : Hp} {σ σ' : L2.St} {ρ ρ' : En} {v : V} {r : Sl} {wa wb wc w : DT} {wA : DA} {t u : DB} {a b e : Expr} {es : List Expr} {pos : Pos} {i : Nat} {st : Stmt} {sts rest : List Stmt} {s1 s2 : DS}
/-! ### lists changed -/
/-- x.append(e) -/
def dApp (i : Nat) (w : DT) : DS := fun E ρ => match ρ[i]? with
  | some (.mu _ (.lst _)) => w ρ fun r ρ1 => dF r fun d => match ρ1[i]? with
    | some (.mu b (.lst l)) => l.length < lim ∧ E.nx (ρ1.set i (.mu b (.lst (l ++ [d]))))
    | _ => False
  | _ => False
theorem mu_lst {b : Bool} {l : List D} (I : Ok c F H σ ρ) (h : ρ[i]? = some (.mu b (.lst l))) : ∃ p vs, σ[i]? = some (some (.ref p)) ∧ H p = some (.lst vs) ∧ DpAll c.K F vs l := by
  obtain ⟨p, o, h1, h2, h3, h4, _⟩ := I.mu i _ _ h
  cases o with
  | lst vs => exact ⟨p, vs, h1, h3, h4⟩
  | _ => cases h4
theorem dst_app (i : Nat) (hk : X.K = c.K) (h : PS X st (tDrop (tBM X.K "list" rAppend (tVar i) (tCons (lift c w) tNil)))) : DSt c X st (dApp i w) := psto h fun D σ H ⟨F, ρ, E, I, k, h⟩ => by
    unfold dApp at h
    split at h
    · rename_i b0 l0 e0
      obtain ⟨p, vs, h1, h2, h3⟩ := mu_lst I e0
      refine ⟨_, h1, .inl ⟨rfl, vs, hk ▸ .inl (.inl h2)⟩, F, ρ, _, I, h, fun r1 ρ1 v1 F1 H1 q1 I1 g1 p1 => ?_⟩
      obtain ⟨F2, d, I2, g2, p2, q2⟩ := dF_go I1 q1 p1
      split at q2
      · rename_i bb l e1
        obtain ⟨p', vs', h1', h2', h3'⟩ := mu_lst I2 e1
        rw [h1] at h1'
        injection h1' with h1'; injection h1' with h1'; injection h1' with h1'
        subst h1'
        exact ⟨p, vs', v1, rfl, rfl, h2', lim_lt (by rw [dps_len h3']; exact q2.1), k.nx _ F2 _ _ (I2.change e1 h1 (o := .lst (vs' ++ [v1])) (t := .lst (l ++ [d])) (dps_app h3' (.cons p2 .nil))) (g1.trans g2).f q2.2⟩
      · exact q2.elim
    · exact h.elim
/-- x.insert(at, e) -/
def dIns (i : Nat) (wi w : DT) : DS := fun E ρ => match ρ[i]? with
  | some (.mu _ (.lst _)) => wi ρ fun r ρ1 => dF r fun j => w ρ1 fun r ρ2 => dF r fun d => match ρ2[i]?, j with
    | some (.mu b (.lst l)), .int j => (l.length < lim ∧ 0 ≤ j ∧ j < 2 ^ 63) ∧ E.nx (ρ2.set i (.mu b (.lst (l.take j.toNat ++ [d] ++ l.drop j.toNat))))
    | _, _ => False
  | _ => False
theorem dst_ins (i : Nat) {wi : DT} (hk : X.K = c.K) (h : PS X st (tDrop (tBM X.K "list" (fun x vs H Q => ∃ (l : Addr) (xs : List V) (i : Int) (y : V), x = .ref l ∧ vs = [.int i, y] ∧ H l = some (.lst xs) ∧ xs.length < sizeLine ∧ 0 ≤ i ∧ i < 2 ^ 63 ∧
    Q .non (upd H l (.lst (xs.take i.toNat ++ [y] ++ xs.drop i.toNat)))) (tVar i) (tCons (lift c wi) (tCons (lift c w) tNil))))) : DSt c X st (dIns i wi w) := psto h fun D σ H ⟨F, ρ, E, I, k, h⟩ => by
    unfold dIns at h
    split at h
    · rename_i b0 l0 e0
      obtain ⟨p, vs, h1, h2, h3⟩ := mu_lst I e0
      refine ⟨_, h1, .inl ⟨rfl, vs, hk ▸ .inl (.inl h2)⟩, F, ρ, _, I, h, fun r1 ρ1 v1 F1 H1 q1 I1 g1 p1 => ?_⟩
      obtain ⟨F2, j, I2, g2, p2, q2⟩ := dF_go I1 q1 p1
      refine ⟨F2, ρ1, _, I2, q2, fun r3 ρ3 v3 F3 H3 q3 I3 g3 p3 => ?_⟩
      obtain ⟨F4, d, I4, g4, p4, q4⟩ := dF_go I3 q3 p3
      split at q4
      · rename_i bb l j e1
        obtain ⟨p', vs', h1', h2', h3'⟩ := mu_lst I4 e1
        rw [h1] at h1'
        injection h1' with h1'; injection h1' with h1'; injection h1' with h1'
        subst h1'
        have ej := dp_int p2
        subst ej
        exact ⟨p, vs', j, v3, rfl, rfl, h2', lim_lt (by rw [dps_len h3']; exact q4.1.1), q4.1.2.1, q4.1.2.2, k.nx _ F4 _ _ (I4.change e1 h1 (o := .lst (vs'.take j.toNat ++ [v3] ++ vs'.drop j.toNat)) (t := .lst (l.take j.toNat ++ [d] ++ l.drop j.toNat)) (dps_app (dps_app (dps_take _ h3') (.cons p4 .nil)) (dps_drop _ h3'))) (((g1.trans g2).trans g3).trans g4).f q4.2⟩
      · exact q4.elim
    · exact h.elim
/-- x[j] = e -/
def dSetI (i : Nat) (wj w : DT) : DS := fun E ρ => w ρ fun r ρ1 => dF r fun d => match ρ1[i]? with
  | some (.mu _ (.lst _)) => wj ρ1 fun r ρ2 => dF r fun j => match ρ2[i]?, j with
    | some (.mu b (.lst l)), .int j => match ixN l.length j with
      | some n => E.nx (ρ2.set i (.mu b (.lst (l.set n d))))
      | none => False
    | _, _ => False
  | _ => False
theorem dst_setI (i : Nat) {wj : DT} (hs : PS X st (tAsg (lift c w) (gSub (tVar i) (lift c wj) rSetL))) : DSt c X st (dSetI i wj w) :=
  psto hs fun D σ H ⟨F, ρ, E, I, k, h⟩ => by
    refine ⟨F, ρ, _, I, h, fun r1 ρ1 v1 F1 H1 q1 I1 g1 p1 => ?_⟩
    obtain ⟨F2, d, I2, g2, p2, q2⟩ := dF_go I1 q1 p1
    split at q2
    · rename_i b0 l0 e0
      obtain ⟨p, vs, h1, h2, h3⟩ := mu_lst I2 e0
      refine ⟨_, h1, F2, ρ1, _, I2, q2, fun r3 ρ3 v3 F3 H3 q3 I3 g3 p3 => ?_⟩
      obtain ⟨F4, j, I4, g4, p4, q4⟩ := dF_go I3 q3 p3
      split at q4
      · rename_i bb l j e1
        split at q4
        · rename_i n hn
          obtain ⟨p', vs', h1', h2', h3'⟩ := mu_lst I4 e1
          rw [h1] at h1'
          injection h1' with h1'; injection h1' with h1'; injection h1' with h1'
          subst h1'
          have ej := dp_int p4
          subst ej
          exact ⟨p, vs', j, n, rfl, rfl, h2', by rw [dps_len h3']; exact hn, k.nx _ F4 _ _ (I4.change e1 h1 (o := .lst (vs'.set n v1)) (t := .lst (l.set n d)) (dps_set n h3' (dp_mono (g3.trans g4).f p2))) (((g1.trans g2).trans g3).trans g4).f q4⟩
        · exact q4.elim
      · exact q4.elim
    · exact q2.elim
/-- x += e: ints; a list of one's own -/
def dAug (i : Nat) (g : Int → Int → Int) (w : DT) : DS := fun E ρ => match ρ[i]? with
  | some (.val (.int n)) => w ρ fun r ρ1 => dF r fun d => match d with
    | .int m => E.nx (ρ1.set i (.val (.int (g n m))))
    | _ => False
  | _ => False
theorem dst_aug (i : Nat) {x : Str} {pos' : Pos} {op : Operator} {g : Int → Int → Int} (hN : X.N.Nodup) (he : DE c X e w) (ho : PIp X op (ipI g)) (hi : X.N[i]? = some x := by rfl) (hx : Loc X.env.scope x := by first | exact .inl rfl | exact .inr rfl) (hf : X.fn x = true ∨ X.env.scope.names.lookup x = some .local := by first | exact .inl rfl | exact .inr rfl | assumption) :
    DSt c X (.AugAssign (.Name x pos') op e pos) (dAug i g w) := psto (ps_aug hN hi hx he ho hf) fun D σ H ⟨F, ρ, E, I, k, h⟩ => by
  unfold dAug at h
  split at h
  · rename_i n e0
    obtain ⟨v, h1, h2⟩ := I.val i _ e0
    have ev := dp_int h2
    subst ev
    refine ⟨_, h1, F, ρ, _, I, h, fun r1 ρ1 v1 F1 H1 q1 I1 g1 p1 => ?_⟩
    obtain ⟨F2, d, I2, g2, p2, q2⟩ := dF_go I1 q1 p1
    split at q2
    · rename_i m
      exact ⟨n, m, rfl, dp_int p2, k.nx _ F2 H1 _ (I2.setVal (.int _) i) (g1.trans g2).f q2⟩
    · exact q2.elim
  · exact h.elim
/-- x += e: a list of one's own, e a new list -/
def dAugL (i : Nat) (w : DT) : DS := fun E ρ => match ρ[i]? with
  | some (.mu true (.lst _)) => w ρ fun r ρ1 => match ρ1[i]?, r with
    | some (.mu true (.lst l)), .mu true (.lst m) => l.length + m.length ≤ lim ∧ E.nx (ρ1.set i (.mu true (.lst (l ++ m))))
    | _, _ => False
  | _ => False
theorem dst_augL (i : Nat) (h : PS X st (tAug i (lift c w) rExt2)) : DSt c X st (dAugL i w) := psto h fun D σ H ⟨F, ρ, E, I, k, h⟩ => by
  unfold dAugL at h
  split at h
  · rename_i l0 e0
    obtain ⟨p, vs, h1, h2, h3⟩ := mu_lst I e0
    refine ⟨_, h1, F, ρ, _, I, h, fun r1 ρ1 v1 F1 H1 q1 I1 g1 p1 => ?_⟩
    split at q1
    · rename_i l m e1
      obtain ⟨p', vs', h1', h2', h3'⟩ := mu_lst I1 e1
      rw [h1] at h1'
      injection h1' with h1'; injection h1' with h1'; injection h1' with h1'
      subst h1'
      obtain ⟨_, q, o, rfl, q2, q3, q4, q5, q6⟩ := p1
      cases o with
      | lst zs =>
        refine ⟨p, q, vs', zs, rfl, rfl, h2', q4, lim_le (by rw [dps_len h3', dps_len q5]; exact q1.1), ?_⟩
        refine k.nx _ F1 _ _ ?_ g1.f q1.2
        have J := I1.change e1 h1 (o := .lst (vs' ++ zs)) (t := .lst (l ++ m)) (dps_app h3' q5)
        have e : σ.set i (some (V.ref p)) = σ := by
          rw [List.set_eq_take_append_cons_drop, if_pos (lt_len h1)]
          have h5 := List.getElem?_eq_getElem (lt_len h1)
          rw [h1] at h5
          rw [Option.some.inj h5]
          simp
        rw [e]
        exact J
      | _ => cases q5
    · exact q1.elim
  · exact h.elim
end
end DL

namespace DL
open PySem PySem.Spec PyProof.Rows L2
open Evl (Ex ex_l ex_t)
open RZ

section
variable {c : Cc} {X : Cx} {F F' H H' : Hp} {σ σ' : L2.St} {ρ ρ' : En} {v : V} {r : Sl} {wa wb wc w : DT} {wA : DA} {t u : DB} {a b e : Expr} {es : List Expr} {pos : Pos} {i : Nat} {st : Stmt} {sts rest : List Stmt} {s1 s2 : DS}

/-! ### what is walked: the items, known ahead -/
def Walks (K : PySem.W.Frag) (J : It) (l : List D) (F : Hp) : Prop := ∀ (c : Cc), c.K = K → ∀ (i : Nat) F' H σ ρ, Ok c F' H σ ρ → Ex F F' →
  (∀ d, l[i]? = some d → J.go i H ∧ ∀ x H', J.yld i H x H' → ∃ F'', Ok c F'' H' σ ρ ∧ Go c F' H F'' H' ∧ Dp c.K F'' x d) ∧ (i = l.length → J.stop i H)
abbrev DI := En → (List D → En → Prop) → Prop
def liftI (c : Cc) (wi : DI) : TI := fun σ H R => ∃ F ρ Ql, Ok c F H σ ρ ∧ wi ρ Ql ∧ ∀ l ρ' J F' H', Ql l ρ' → Ok c F' H' σ ρ' → Go c F H F' H' → Walks c.K J l F' → R J H'
theorem pito {X : Cx} {tg e : Expr} {t t' : TI} (h : PI X tg e t) (k : ∀ σ H Q, t' σ H Q → t σ H Q) : PI X tg e t' := ⟨fun pins s σ H R I q => h.run pins s σ H R I (k σ H R q)⟩
abbrev DIt (c : Cc) (X : Cx) (tg e : Expr) (wi : DI) : Prop := PI X tg e (liftI c wi)
def diSeq (w : DT) : DI := fun ρ Q => w ρ fun r ρ1 => dF r fun x => match x with
  | .list l => Q l ρ1
  | .tuple l => Q l ρ1
  | _ => False
def iBoth (K : PySem.W.Frag) (tl : TE) : TI := fun σ H R => tl σ H fun x H1 => ∃ a, x = .ref a ∧ (((∃ xs, SqL K H1 a xs) ∧ R (Itl K a) H1) ∨ ((∃ xs, SqT K H1 a xs) ∧ R (Itt K a) H1))
theorem pi_both {tg l : Expr} {tl : TE} (hl : PE X l tl) : PI X tg l (iBoth X.K tl) := by
  refine ⟨fun pins s σ H R I h => ?_⟩
  refine thn (hl.run pins s σ H _ I h) fun v s1 ⟨x, H1, I1, r1, q1⟩ => ?_
  obtain ⟨a, e, q⟩ := q1
  subst e
  cases r1
  have fp : ∀ b ∈ [s1.heap.objs.size], FpOk X pins H1 b := fun b hb => by
    have e : b = s1.heap.objs.size := by simpa using hb
    subst e
    exact I1.fpOk (Nat.le_refl _) (I1.hok.fresh (Nat.le_refl _))
  rcases q with ⟨⟨xs, hq⟩, q⟩ | ⟨⟨xs, hq⟩, q⟩
  · obtain ⟨its, rv, p, hz⟩ := I1.list hq
    refine wpAny_pyIter_list p.isList ?_
    exact ⟨s1.heap.objs.size, [s1.heap.objs.size], _, _, H1, rfl, I1.kept (t' := s1.toks) fun b o e => Heap.get?_push_of_some _ e, turn_list a _, ⟨_, Heap.get?_push_size _ rfl, rfl, rfl⟩, fp, q⟩
  · obtain ⟨its, rv, p, hz⟩ := I1.tuple hq
    refine wpAny_pyIter_tuple (show s1.heap.IsTuple a its.toArray from p) ?_
    exact ⟨s1.heap.objs.size, [s1.heap.objs.size], _, _, H1, rfl, I1.kept (t' := s1.toks) fun b o e => Heap.get?_push_of_some _ e, turn_tuple a _, ⟨_, Heap.get?_push_size _ rfl, rfl, rfl⟩, fp, q⟩
theorem walks_l {K : PySem.W.Frag} {a : Addr} {xs : List V} {l : List D} (s : SqL K F a xs) (d : DpAll K F xs l) : Walks K (Itl K a) l F := fun c' hK i F' H σ ρ I e => by
  subst hK
  have s' := ex_l I.fh (ex_l e s)
  have n := dps_len d
  refine ⟨fun x hx => ?_, fun h => ⟨xs, s', by omega⟩⟩
  obtain ⟨v, hv, p⟩ := dps_get d hx
  refine ⟨⟨xs, v, s', hv⟩, fun y H' hy => ?_⟩
  obtain ⟨rfl, hy⟩ := hy
  have e2 := (hy xs s').symm.trans hv
  cases e2
  exact ⟨F', I, Go.refl, dp_mono e p⟩
theorem walks_t {K : PySem.W.Frag} {a : Addr} {xs : List V} {l : List D} (s : SqT K F a xs) (d : DpAll K F xs l) : Walks K (Itt K a) l F := fun c' hK i F' H σ ρ I e => by
  subst hK
  have s' := ex_t I.fh (ex_t e s)
  have n := dps_len d
  refine ⟨fun x hx => ?_, fun h => ⟨xs, s', by omega⟩⟩
  obtain ⟨v, hv, p⟩ := dps_get d hx
  refine ⟨⟨xs, v, s', hv⟩, fun y H' hy => ?_⟩
  obtain ⟨rfl, hy⟩ := hy
  have e2 := (hy xs s').symm.trans hv
  cases e2
  exact ⟨F', I, Go.refl, dp_mono e p⟩
theorem di_seq {tg : Expr} (h : DE c X e w) (hk : X.K = c.K := by rfl) : DIt c X tg e (diSeq w) := pito (pi_both h) fun σ H R ⟨F, ρ, Ql, I, h, k⟩ => by
  refine ⟨F, ρ, _, I, h, fun r1 ρ1 v1 F1 H1 q1 I1 g1 p1 => ?_⟩
  obtain ⟨F2, d, I2, g2, p2, q2⟩ := dF_go I1 q1 p1
  rw [hk]
  split at q2
  · obtain ⟨a, xs, rfl, s, d⟩ := dp_lst p2
    exact ⟨a, rfl, .inl ⟨⟨xs, ex_l I2.fh s⟩, k _ ρ1 _ F2 H1 q2 I2 (g1.trans g2) (walks_l s d)⟩⟩
  · obtain ⟨a, xs, rfl, s, d⟩ := dp_tup p2
    exact ⟨a, rfl, .inr ⟨⟨xs, ex_t I2.fh s⟩, k _ ρ1 _ F2 H1 q2 I2 (g1.trans g2) (walks_t s d)⟩⟩
  · exact q2.elim
/-- the ints from lo on, n of them -/
def rngD (lo : Int) (n : Nat) : List D := (List.range n).map fun i => .int (lo + (i : Nat))
theorem rng_get {lo : Int} {n i : Nat} {d : D} (h : (rngD lo n)[i]? = some d) : i < n ∧ d = .int (lo + (i : Nat)) := by
  unfold rngD at h
  rw [List.getElem?_map] at h
  cases q : (List.range n)[i]? with
  | none => rw [q] at h; cases h
  | some j =>
    obtain ⟨h1, h2⟩ := List.getElem?_eq_some_iff.mp q
    rw [q] at h
    rw [List.length_range] at h1
    rw [List.getElem_range] at h2
    subst h2
    exact ⟨h1, (Option.some.inj h).symm⟩
theorem rng_len {lo : Int} {n : Nat} : (rngD lo n).length = n := by unfold rngD; rw [List.length_map, List.length_range]
theorem walks_r {K : PySem.W.Frag} {lo : Int} {n : Nat} : Walks K (Itr lo n) (rngD lo n) F := fun c' hK i F' H σ ρ I e => by
  subst hK
  refine ⟨fun x hx => ?_, fun h => by rw [rng_len] at h; exact Nat.le_of_eq h.symm⟩
  obtain ⟨h1, rfl⟩ := rng_get hx
  refine ⟨h1, fun y H' hy => ?_⟩
  obtain ⟨rfl, rfl⟩ := hy
  exact ⟨F', I, Go.refl, .int _⟩
def big62 (j : Int) : Prop := -(2 ^ 62) ≤ j ∧ j < 2 ^ 62
def diR1 (wA : DA) : DI := fun ρ Q => wA ρ fun as ρ1 => agD as fun l => match l with
  | [.int j] => big62 j ∧ Q (rngD 0 j.toNat) ρ1
  | _ => False
def diR2 (wA : DA) : DI := fun ρ Q => wA ρ fun as ρ1 => agD as fun l => match l with
  | [.int i, .int j] => (big62 i ∧ big62 j) ∧ Q (rngD i (j - i).toNat) ρ1
  | _ => False
theorem di_r1 {tg : Expr} {p : Pos} (hm : X.mg "range" = none) (ha : DAs c X [a] wA) (hg : Gl X "range" := by rfl) (hs : starEach [a] X.env = [(false, eval a X.env)] := by rfl) : DIt c X tg (.Call (.Name "range" p) [a] [] pos) (diR1 wA) := pito (pi_range1 hg hm ha hs) fun σ H R ⟨F, ρ, Ql, I, h, k⟩ => by
  refine ⟨F, ρ, _, I, h, fun as ρ1 vs F1 H1 q1 I1 g1 p1 => ?_⟩
  obtain ⟨l, p2, q2⟩ := agD_go p1 q1
  split at q2
  · cases p2 with | cons a1 p2 => ?_
    cases p2
    cases a1
    exact ⟨_, rfl, q2.1.1, q2.1.2, k _ ρ1 _ F1 H1 q2.2 I1 g1 walks_r⟩
  · exact q2.elim
theorem di_r2 {tg : Expr} {p : Pos} (hm : X.mg "range" = none) (ha : DAs c X [a, b] wA) (hg : Gl X "range" := by rfl) (hs : starEach [a, b] X.env = [(false, eval a X.env), (false, eval b X.env)] := by rfl) (hs2 : starEach [b] X.env = [(false, eval b X.env)] := by rfl) : DIt c X tg (.Call (.Name "range" p) [a, b] [] pos) (diR2 wA) := pito (pi_range2 hg hm ha hs hs2) fun σ H R ⟨F, ρ, Ql, I, h, k⟩ => by
  refine ⟨F, ρ, _, I, h, fun as ρ1 vs F1 H1 q1 I1 g1 p1 => ?_⟩
  obtain ⟨l, p2, q2⟩ := agD_go p1 q1
  split at q2
  · cases p2 with | cons a1 p2 => ?_
    cases p2 with | cons a2 p2 => ?_
    cases p2
    cases a1
    cases a2
    exact ⟨_, _, rfl, ⟨q2.1.1.1, q2.1.1.2, q2.1.2.1, q2.1.2.2⟩, k _ ρ1 _ F1 H1 q2.2 I1 g1 walks_r⟩
  · exact q2.elim
/-- pairs of a new tuple each -/
theorem new_pair {x y : V} {d1 d2 : D} {T : Addr} (I : Ok c F H σ ρ) (hT : H T = none) (p1 : Dp c.K F x d1) (p2 : Dp c.K F y d2) : ∃ F'', Ok c F'' (upd H T (.tup [x, y])) σ ρ ∧ Go c F H F'' (upd H T (.tup [x, y])) ∧ Dp c.K F'' (.ref T) (.tuple [d1, d2]) := by
  obtain ⟨I', g, s⟩ := I.new (o := .tup [x, y]) hT
  exact ⟨_, I', g, .tup (.inl (.inl s)) (.cons (dp_mono g.f p1) (.cons (dp_mono g.f p2) .nil))⟩
def enumD (i : Nat) : List D → List D
  | [] => []
  | d :: r => .tuple [.int (i : Nat), d] :: enumD (i + 1) r
theorem enum_get : ∀ {l : List D} {n i : Nat} {d : D}, (enumD n l)[i]? = some d → ∃ x, l[i]? = some x ∧ d = .tuple [.int ((n + i : Nat) : Int), x]
  | [], _, _, _, h => by simp [enumD] at h
  | x :: r, n, 0, d, h => by
    simp [enumD] at h
    exact ⟨x, rfl, by rw [← h, Nat.add_zero]⟩
  | x :: r, n, i + 1, d, h => by
    obtain ⟨y, h1, h2⟩ := enum_get (l := r) (n := n + 1) (i := i) (by simpa [enumD] using h)
    refine ⟨y, by simpa using h1, ?_⟩
    rw [h2, show n + 1 + i = n + (i + 1) by omega]
theorem enum_len : ∀ {l : List D} {n : Nat}, (enumD n l).length = l.length
  | [], _ => rfl
  | _ :: r, n => by simp [enumD, enum_len (l := r)]
theorem walks_e {K : PySem.W.Frag} {a : Addr} {xs : List V} {l : List D} (s : SqL K F a xs) (d : DpAll K F xs l) : Walks K (Ite K a) (enumD 0 l) F := fun c' hK i F' H σ ρ I e => by
  subst hK
  have s' := ex_l I.fh (ex_l e s)
  have n := dps_len d
  refine ⟨fun x hx => ?_, fun h => ⟨xs, s', by rw [enum_len] at h; omega⟩⟩
  obtain ⟨y, hy, rfl⟩ := enum_get hx
  obtain ⟨v, hv, p⟩ := dps_get d hy
  refine ⟨⟨xs, v, s', hv⟩, fun z H' hz => ?_⟩
  obtain ⟨T, x', rfl, hT, rfl, hx'⟩ := hz
  have e2 := (hx' xs s').symm.trans hv
  cases e2
  rw [Nat.zero_add]
  exact new_pair I hT (.int _) (dp_mono e p)
def diEnum (wA : DA) : DI := fun ρ Q => wA ρ fun as ρ1 => agD as fun l => match l with
  | [.list l] => Q (enumD 0 l) ρ1
  | _ => False
theorem di_enum {p tpos : Pos} {elts : List Expr} {kk : Nat} (hm : X.mg "enumerate" = none) (ha : DAs c X [e] wA) (hk : X.K = c.K := by rfl) (hg : Gl X "enumerate" := by rfl) (hs : starEach [e] X.env = [(false, eval e X.env)] := by rfl) : DIt c X (.Tuple elts kk tpos) (.Call (.Name "enumerate" p) [e] [] pos) (diEnum wA) := pito (pi_enum hg hm ha hs) fun σ H R ⟨F, ρ, Ql, I, h, k⟩ => by
  refine ⟨F, ρ, _, I, h, fun as ρ1 vs F1 H1 q1 I1 g1 p1 => ?_⟩
  obtain ⟨l, p2, q2⟩ := agD_go p1 q1
  rw [hk]
  split at q2
  · cases p2 with | cons a1 p2 => ?_
    cases p2
    obtain ⟨a, xs, rfl, s, d⟩ := dp_lst a1
    exact ⟨a, xs, rfl, ex_l I1.fh s, k _ ρ1 _ F1 H1 q2 I1 g1 (walks_e s d)⟩
  · exact q2.elim
def zipD : List D → List D → List D
  | x :: r, y :: s => .tuple [x, y] :: zipD r s
  | _, _ => []
theorem zip_get : ∀ {l m : List D} {i : Nat} {d : D}, (zipD l m)[i]? = some d → ∃ x y, l[i]? = some x ∧ m[i]? = some y ∧ d = .tuple [x, y]
  | [], _, _, _, h => by simp [zipD] at h
  | _ :: _, [], _, _, h => by simp [zipD] at h
  | x :: r, y :: s, 0, d, h => by
    simp [zipD] at h
    exact ⟨x, y, rfl, rfl, h.symm⟩
  | x :: r, y :: s, i + 1, d, h => by
    obtain ⟨x', y', h1, h2, h3⟩ := zip_get (l := r) (m := s) (i := i) (by simpa [zipD] using h)
    exact ⟨x', y', by simpa using h1, by simpa using h2, h3⟩
theorem zip_len : ∀ {l m : List D}, (zipD l m).length = min l.length m.length
  | [], _ => by simp [zipD]
  | _ :: _, [] => by simp [zipD]
  | _ :: r, _ :: s => by simp only [zipD, List.length_cons, zip_len (l := r) (m := s)]; omega
theorem walks_z {K : PySem.W.Frag} {a b : Addr} {xs ys : List V} {l m : List D} (s : SqL K F a xs) (d : DpAll K F xs l) (s2 : SqL K F b ys) (d2 : DpAll K F ys m) : Walks K (Itz K a b) (zipD l m) F := fun c' hK i F' H σ ρ I e => by
  subst hK
  have s' := ex_l I.fh (ex_l e s)
  have s2' := ex_l I.fh (ex_l e s2)
  have n := dps_len d
  have n2 := dps_len d2
  refine ⟨fun x hx => ?_, fun h => ⟨xs, ys, s', s2', by rw [zip_len] at h; omega⟩⟩
  obtain ⟨x1, y1, h1, h2, rfl⟩ := zip_get hx
  obtain ⟨v, hv, p⟩ := dps_get d h1
  obtain ⟨v2, hv2, p2⟩ := dps_get d2 h2
  refine ⟨⟨xs, ys, v, v2, s', s2', hv, hv2⟩, fun z H' hz => ?_⟩
  obtain ⟨T, x', y', rfl, hT, rfl, hx', hy'⟩ := hz
  have e2 := (hx' xs s').symm.trans hv
  cases e2
  have e3 := (hy' ys s2').symm.trans hv2
  cases e3
  exact new_pair I hT (dp_mono e p) (dp_mono e p2)
theorem walks_zT {K : PySem.W.Frag} {a b : Addr} {xs ys : List V} {l m : List D} (s : SqT K F a xs) (d : DpAll K F xs l) (s2 : SqT K F b ys) (d2 : DpAll K F ys m) : Walks K (ItzT K a b) (zipD l m) F := fun c' hK i F' H σ ρ I e => by
  subst hK
  have s' := ex_t I.fh (ex_t e s)
  have s2' := ex_t I.fh (ex_t e s2)
  have n := dps_len d
  have n2 := dps_len d2
  refine ⟨fun x hx => ?_, fun h => ⟨xs, ys, s', s2', by rw [zip_len] at h; omega⟩⟩
  obtain ⟨x1, y1, h1, h2, rfl⟩ := zip_get hx
  obtain ⟨v, hv, p⟩ := dps_get d h1
  obtain ⟨v2, hv2, p2⟩ := dps_get d2 h2
  refine ⟨⟨xs, ys, v, v2, s', s2', hv, hv2⟩, fun z H' hz => ?_⟩
  obtain ⟨T, x', y', rfl, hT, rfl, hx', hy'⟩ := hz
  have e2 := (hx' xs s').symm.trans hv
  cases e2
  have e3 := (hy' ys s2').symm.trans hv2
  cases e3
  exact new_pair I hT (dp_mono e p) (dp_mono e p2)
def diZip (wA : DA) : DI := fun ρ Q => wA ρ fun as ρ1 => agD as fun l => match l with
  | [.list l, .list m] => Q (zipD l m) ρ1
  | [.tuple l, .tuple m] => Q (zipD l m) ρ1
  | _ => False
theorem di_zip {p tpos : Pos} {elts : List Expr} {kk : Nat} (hm : X.mg "zip" = none) (ha : DAs c X [a, b] wA) (hk : X.K = c.K := by rfl) (hg : Gl X "zip" := by rfl)
    (hs : starEach [a, b] X.env = (false, eval a X.env) :: starEach [b] X.env := by rfl) (hpl : (backTo pos (starEach [b] X.env)).any (·.1) = false := by rfl) : DIt c X (.Tuple elts kk tpos) (.Call (.Name "zip" p) [a, b] [] pos) (diZip wA) := pito (pi_zipA hg hm ha hs hpl) fun σ H R ⟨F, ρ, Ql, I, h, k⟩ => by
  refine ⟨F, ρ, _, I, h, fun as ρ1 vs F1 H1 q1 I1 g1 p1 => ?_⟩
  obtain ⟨l, p2, q2⟩ := agD_go p1 q1
  rw [hk]
  split at q2
  · cases p2 with | cons a1 p2 => ?_
    cases p2 with | cons a2 p2 => ?_
    cases p2
    obtain ⟨a, xs, rfl, s, d⟩ := dp_lst a1
    obtain ⟨a', xs', rfl, s', d'⟩ := dp_lst a2
    exact ⟨a, a', xs, xs', rfl, .inl ⟨ex_l I1.fh s, ex_l I1.fh s', k _ ρ1 _ F1 H1 q2 I1 g1 (walks_z s d s' d')⟩⟩
  · cases p2 with | cons a1 p2 => ?_
    cases p2 with | cons a2 p2 => ?_
    cases p2
    obtain ⟨a, xs, rfl, s, d⟩ := dp_tup a1
    obtain ⟨a', xs', rfl, s', d'⟩ := dp_tup a2
    exact ⟨a, a', xs, xs', rfl, .inr ⟨ex_t I1.fh s, ex_t I1.fh s', k _ ρ1 _ F1 H1 q2 I1 g1 (walks_zT s d s' d')⟩⟩
  · exact q2.elim

/-! ### for -/
def dFor (wi : DI) (g : DG) (s : DS) : DS := fun E ρ => wi ρ fun l ρ1 => ∃ P : Nat → En → Prop, P 0 ρ1 ∧ (∀ i d ρ, l[i]? = some d → P i ρ → g d ρ fun ρ' => s { nx := P (i + 1), ct := P (i + 1), bk := E.nx, rt := E.rt } ρ') ∧ ∀ ρ, P l.length ρ → E.nx ρ
theorem dst_for {tg : Expr} {is : List Nat} {wi : DI} {g : DG} {s : DS} (hp : PassesOwn (model X.prog X.w) X.A X.env X.xe) (hi : DIt c X tg e wi) (hg : DTg c X tg is g) (hb : DSs c X sts s) (hc : X.calm = true := by rfl) (hs : ∀ x, foldedSetIterable e X.env x = pure x := by intro _; rfl) :
    DSt c X (.For tg e sts [] pos) (dFor wi g s) := psto (ps_for hp hc hi hg hb hs) fun D σ H ⟨F, ρ, E, I, k, h⟩ => by
  refine ⟨F, ρ, _, I, h, fun l ρ1 J F1 H1 q1 I1 g1 wk => ?_⟩
  obtain ⟨P, p0, pt, pe⟩ := q1
  refine ⟨fun i m σ' H' => m = l.length - i ∧ i ≤ l.length ∧ ∃ F' ρ', Ok c F' H' σ' ρ' ∧ Ex F1 F' ∧ P i ρ', ⟨l.length, by simp, Nat.zero_le _, F1, ρ1, I1, Evl.Ex.refl F1, p0⟩, ?_⟩
  rintro i m σ' H' ⟨rfl, hi, F', ρ', I', e', p'⟩
  obtain ⟨w1, w2⟩ := wk c rfl i F' H' σ' ρ' I' e'
  by_cases hlt : i < l.length
  · obtain ⟨hgo, hy⟩ := w1 _ (List.getElem?_eq_getElem hlt)
    refine .inr ⟨hgo, fun σ2 H2 => ∃ F2 ρ2, Ok c F2 H2 σ2 ρ2 ∧ Ex F1 F2 ∧ P (i + 1) ρ2, fun σ2 H2 ⟨F2, ρ2, I2, e2, p2⟩ => ⟨l.length - (i + 1), by omega, rfl, hlt, F2, ρ2, I2, e2, p2⟩, fun x H2 hx => ?_⟩
    obtain ⟨F2, I2, g2, d2⟩ := hy x H2 hx
    refine ⟨F2, ρ', _, _, I2, d2, pt i _ ρ' (List.getElem?_eq_getElem hlt) p', fun ρ3 σ3 q3 I3 _ => ?_⟩
    have e2 := e'.trans g2.f
    exact ⟨F2, ρ3, { nx := P (i + 1), ct := P (i + 1), bk := E.nx, rt := E.rt }, I3, ⟨fun σ4 F4 H4 ρ4 I4 e4 q4 => ⟨F4, ρ4, I4, e2.trans e4, q4⟩, fun r v σ4 F4 H4 ρ4 I4 e4 p4 q4 => k.rt r v σ4 F4 H4 ρ4 I4 (g1.f.trans (e2.trans e4)) p4 q4, fun σ4 F4 H4 ρ4 I4 e4 q4 => k.nx σ4 F4 H4 ρ4 I4 (g1.f.trans (e2.trans e4)) q4, fun σ4 F4 H4 ρ4 I4 e4 q4 => ⟨F4, ρ4, I4, e2.trans e4, q4⟩⟩, q3⟩
  · have e : i = l.length := by omega
    subst e
    exact .inl ⟨w2 rfl, k.nx _ F' _ _ I' (g1.f.trans e') (pe _ p')⟩
end
end DL

namespace DL
open PySem PySem.Spec PyProof.Rows L2
open Evl (Ex ex_l ex_t)

section
variable {c : Cc} {X : Cx} {F F' H H' : Hp} {σ σ' : L2.St} {ρ ρ' : En} {v : V} {r : Sl} {wa wb wc w : DT} {wA : DA} {t u : DB} {a b e : Expr} {es : List Expr} {pos : Pos} {i : Nat} {st : Stmt} {sts rest : List Stmt} {s1 s2 : DS}

/-! ### while -/
def dWhile (t : DB) (s : DS) : DS := fun E ρ => ∃ W : Nat → En → Prop, (∃ m, W m ρ) ∧ ∀ m ρ, W m ρ → t ρ fun b ρ1 => match b with
  | true => s { nx := fun ρ' => ∃ m', m' < m ∧ W m' ρ', ct := fun ρ' => ∃ m', m' < m ∧ W m' ρ', bk := E.nx, rt := E.rt } ρ1
  | false => E.nx ρ1
theorem dst_while {s : DS} (hp : PassesOwn (model X.prog X.w) X.A X.env X.xe) (hc : DTe c X e t) (hb : DSs c X sts s) : DSt c X (.While e sts [] pos) (dWhile t s) := psto (ps_while hp hc hb) fun D σ H ⟨F, ρ, E, I, k, h⟩ => by
  obtain ⟨W, ⟨m0, w0⟩, wt⟩ := h
  refine ⟨fun m σ' H' => ∃ F' ρ', Ok c F' H' σ' ρ' ∧ Ex F F' ∧ W m ρ', ⟨m0, F, ρ, I, Evl.Ex.refl F, w0⟩, ?_⟩
  rintro m σ' H' ⟨F', ρ', I', e', w'⟩
  refine ⟨F', ρ', _, I', wt m ρ' w', fun b ρ1 F1 H1 q1 I1 g1 => ?_⟩
  have e1 := e'.trans g1.f
  cases b with
  | true =>
    refine iteT ?_
    refine ⟨fun σ2 H2 => ∃ m', m' < m ∧ ∃ F2 ρ2, Ok c F2 H2 σ2 ρ2 ∧ Ex F F2 ∧ W m' ρ2, fun σ2 H2 ⟨m', hm, h2⟩ => ⟨m', hm, h2⟩, ?_⟩
    exact ⟨F1, ρ1, { nx := fun ρ' => ∃ m', m' < m ∧ W m' ρ', ct := fun ρ' => ∃ m', m' < m ∧ W m' ρ', bk := E.nx, rt := E.rt }, I1, ⟨fun σ4 F4 H4 ρ4 I4 e4 ⟨m', hm, q4⟩ => ⟨m', hm, F4, ρ4, I4, e1.trans e4, q4⟩, fun r v σ4 F4 H4 ρ4 I4 e4 p4 q4 => k.rt r v σ4 F4 H4 ρ4 I4 (e1.trans e4) p4 q4, fun σ4 F4 H4 ρ4 I4 e4 q4 => k.nx σ4 F4 H4 ρ4 I4 (e1.trans e4) q4, fun σ4 F4 H4 ρ4 I4 e4 ⟨m', hm, q4⟩ => ⟨m', hm, F4, ρ4, I4, e1.trans e4, q4⟩⟩, q1⟩
  | false =>
    exact iteF (k.nx _ F1 _ _ I1 e1 q1)

/-! ### list comprehensions -/
def dYes : DB := fun ρ Q => Q true ρ
abbrev DTs (c : Cc) (X : Cx) (ifs : List Expr) (w : DB) : Prop := PTs X ifs (liftB c w)
theorem dts_nil : DTs c X [] dYes := ⟨fun pins s σ H Q I ⟨F, ρ, Qd, I', h, k⟩ => pts_nil.run pins s σ H Q I (k true ρ F H h I' Go.refl)⟩
theorem dts_one {w : DB} (h : DTe c X e w) : DTs c X [e] w := pts_one h
theorem wipe_twice (σ : L2.St) (vs : List Nat) : L2.wipe (L2.wipe σ vs) vs = L2.wipe σ vs := by
  have key : ∀ (us vs : List Nat), (∀ j ∈ us, j ∈ vs) → L2.wipe (L2.wipe σ vs) us = L2.wipe σ vs := by
    intro us vs
    induction us with
    | nil => intro _; rfl
    | cons u us ih =>
      intro h
      show (L2.wipe (L2.wipe σ vs) us).set u none = _
      rw [ih fun j hj => h j (List.mem_cons_of_mem _ hj)]
      have hu := h u (List.mem_cons_self ..)
      clear ih h
      induction vs with
      | nil => cases hu
      | cons v vs ih2 =>
        show ((L2.wipe σ vs).set v none).set u none = (L2.wipe σ vs).set v none
        by_cases e : v = u
        · subst e; rw [List.set_set]
        · rw [List.set_comm _ _ e]
          rw [ih2 (by
            rcases List.mem_cons.mp hu with z | z
            · exact absurd z.symm e
            · exact z)]
  exact key vs vs fun _ h => h
/-- the slots of a comprehension's own names forgotten -/
def wipeD (ρ : En) : List Nat → En
  | [] => ρ
  | i :: is => (wipeD ρ is).set i .no
/-- [e for g in l if t] -/
def dLc (wi : DI) (g : DG) (t : DB) (w : DT) (vs : List Nat) : DT := fun ρ Q => wi ρ fun l ρ1 => ∃ P : Nat → List D → En → Prop, P 0 [] (wipeD ρ1 vs) ∧
  (∀ i acc d ρ, l[i]? = some d → P i acc ρ → g d ρ fun ρ2 => t ρ2 fun b ρ3 => match b with
    | true => w ρ3 fun r ρ4 => dF r fun y => acc.length < lim ∧ P (i + 1) (acc ++ [y]) (wipeD ρ4 vs)
    | false => P (i + 1) acc (wipeD ρ3 vs)) ∧ ∀ acc ρ, P l.length acc ρ → Q (.mu true (.lst acc)) ρ
theorem wipe_get (σ : L2.St) (vs : List Nat) (j : Nat) : (j ∈ vs → ∀ x : V, (wipe σ vs)[j]? ≠ some (some x)) ∧ (j ∉ vs → (wipe σ vs)[j]? = σ[j]?) := by
  induction vs with
  | nil => exact ⟨fun h => (nomatch h), fun _ => rfl⟩
  | cons v vs ih =>
    refine ⟨fun hj x => ?_, fun hj => ?_⟩
    · unfold wipe
      by_cases e : v = j
      · subst e
        intro z
        have hl := lt_len z
        rw [List.length_set] at hl
        rw [List.getElem?_set_self hl] at z
        cases z
      · rw [List.getElem?_set_ne e]
        exact ih.1 (by
          rcases List.mem_cons.mp hj with z | z
          · exact absurd z.symm e
          · exact z) x
    · unfold wipe
      have e : v ≠ j := fun e => hj (by simp [e])
      rw [List.getElem?_set_ne e]
      exact ih.2 fun z => hj (by simp [z])
theorem wipeD_get (ρ : En) (vs : List Nat) (j : Nat) : (j ∈ vs → ∀ s : Sl, (wipeD ρ vs)[j]? = some s → s = .no) ∧ (j ∉ vs → (wipeD ρ vs)[j]? = ρ[j]?) := by
  induction vs with
  | nil => exact ⟨fun h => (nomatch h), fun _ => rfl⟩
  | cons v vs ih =>
    refine ⟨fun hj x => ?_, fun hj => ?_⟩
    · unfold wipeD
      by_cases e : v = j
      · subst e
        intro z
        have hl := lt_len z
        rw [List.length_set] at hl
        rw [List.getElem?_set_self hl] at z
        cases z
        rfl
      · rw [List.getElem?_set_ne e]
        exact ih.1 (by
          rcases List.mem_cons.mp hj with z | z
          · exact absurd z.symm e
          · exact z) x
    · unfold wipeD
      have e : v ≠ j := fun e => hj (by simp [e])
      rw [List.getElem?_set_ne e]
      exact ih.2 fun z => hj (by simp [z])
theorem wipeD_len (ρ : En) (vs : List Nat) : (wipeD ρ vs).length = ρ.length := by
  induction vs with
  | nil => rfl
  | cons v vs ih => unfold wipeD; rw [List.length_set, ih]
theorem wipe_ext {σ σ2 : L2.St} {is vs : List Nat} (h : SetIn is σ σ2) (hs : ∀ j ∈ is, j ∈ vs) : wipe σ2 vs = wipe σ vs := by
  have len : ∀ (τ : L2.St) (vs : List Nat), (wipe τ vs).length = τ.length := wipe_length
  induction vs generalizing is with
  | nil =>
    have hn : ∀ j, j ∉ is := fun j hj => (nomatch hs j hj)
    exact List.ext_getElem? fun j => h.2 j (hn j)
  | cons v vs ih =>
    show (wipe σ2 vs).set v none = (wipe σ vs).set v none
    apply List.ext_getElem?
    intro j
    by_cases e : v = j
    · subst e
      rw [List.getElem?_set_self', List.getElem?_set_self']
      have : (wipe σ2 vs)[v]?.isSome = (wipe σ vs)[v]?.isSome := by
        by_cases hl : v < σ.length
        · have h1 : v < (wipe σ vs).length := by rw [len]; exact hl
          have h2 : v < (wipe σ2 vs).length := by rw [len, h.1]; exact hl
          rw [List.getElem?_eq_getElem h1, List.getElem?_eq_getElem h2]; rfl
        · rw [List.getElem?_eq_none (by have := h.1; rw [len]; omega), List.getElem?_eq_none (by have := h.1; rw [len]; omega)]
      cases q1 : (wipe σ2 vs)[v]? <;> cases q2 : (wipe σ vs)[v]? <;> simp_all
    · rw [List.getElem?_set_ne e, List.getElem?_set_ne e]
      by_cases hj : j ∈ vs
      · have g1 := (wipe_get σ2 vs j).1 hj
        have g2 := (wipe_get σ vs j).1 hj
        by_cases hl : j < σ.length
        · have h1 : j < (wipe σ vs).length := by rw [len]; exact hl
          have h2 : j < (wipe σ2 vs).length := by rw [len, h.1]; exact hl
          rw [List.getElem?_eq_getElem h1] at g2 ⊢
          rw [List.getElem?_eq_getElem h2] at g1 ⊢
          cases q1 : (wipe σ vs)[j] with
          | some x => exact absurd (congrArg some q1) (g2 x)
          | none =>
            cases q2 : (wipe σ2 vs)[j] with
            | some x => exact absurd (congrArg some q2) (g1 x)
            | none => rfl
        · rw [List.getElem?_eq_none (by have := h.1; rw [len]; omega), List.getElem?_eq_none (by have := h.1; rw [len]; omega)]
      · rw [(wipe_get σ2 vs j).2 hj, (wipe_get σ vs j).2 hj]
        refine h.2 j fun z => ?_
        rcases List.mem_cons.mp (hs j z) with q | q
        · exact e q.symm
        · exact hj q
theorem wipeD_some {vs : List Nat} {j : Nat} {s : Sl} (h : (wipeD ρ vs)[j]? = some s) (hs : s ≠ .no) : j ∉ vs ∧ ρ[j]? = some s := by
  by_cases hj : j ∈ vs
  · exact absurd ((wipeD_get ρ vs j).1 hj s h) hs
  · exact ⟨hj, by rw [← (wipeD_get ρ vs j).2 hj]; exact h⟩
theorem Ok.wipe (I : Ok c F H σ ρ) (vs : List Nat) : Ok c F H (L2.wipe σ vs) (wipeD ρ vs) := by
  refine ⟨I.mg, I.f0, I.fh, I.old, I.mem, I.oldF, by rw [wipe_length, wipeD_len]; exact I.len, fun j d h => ?_, fun j b t h => ?_, fun j k b t b' t' p ne h h' h3 h4 => ?_⟩
  · obtain ⟨g1, g2⟩ := wipeD_some h (by simp)
    rw [(wipe_get σ vs j).2 g1]; exact I.val j d g2
  · obtain ⟨g1, g2⟩ := wipeD_some h (by simp)
    rw [(wipe_get σ vs j).2 g1]; exact I.mu j b t g2
  · obtain ⟨g1, g2⟩ := wipeD_some h (by simp)
    obtain ⟨g3, g4⟩ := wipeD_some h' (by simp)
    rw [(wipe_get σ vs j).2 g1] at h3
    rw [(wipe_get σ vs k).2 g3] at h4
    exact I.dis j k b t b' t' p ne g2 g4 h3 h4
theorem Ok.unwipe {vs : List Nat} (I : Ok c F H (L2.wipe σ vs) (wipeD ρ vs)) : Ok c F H σ (wipeD ρ vs) := by
  refine ⟨I.mg, I.f0, I.fh, I.old, I.mem, I.oldF, by have := I.len; rw [wipe_length] at this; exact this, fun j d h => ?_, fun j b t h => ?_, fun j k b t b' t' p ne h h' h3 h4 => ?_⟩
  · obtain ⟨g1, g2⟩ := wipeD_some h (by simp)
    have := I.val j d h
    rw [(wipe_get σ vs j).2 g1] at this; exact this
  · obtain ⟨g1, g2⟩ := wipeD_some h (by simp)
    have := I.mu j b t h
    rw [(wipe_get σ vs j).2 g1] at this; exact this
  · obtain ⟨g1, _⟩ := wipeD_some h (by simp)
    obtain ⟨g3, _⟩ := wipeD_some h' (by simp)
    exact I.dis j k b t b' t' p ne h h' (by rw [(wipe_get σ vs j).2 g1]; exact h3) (by rw [(wipe_get σ vs k).2 g3]; exact h4)
/-- a list in the making, kept as it is while its next item is reckoned -/
abbrev Cc.keep (c : Cc) (p : Addr) (o : HO) : Cc := { c with G := upd c.G p o }
theorem Ok.keep (I : Ok c F H σ ρ) {p : Addr} {o : HO} (hp : H p = some o) (fp : F p = none) (ap : Apart σ ρ p) : Ok (c.keep p o) F H σ ρ := by
  refine ⟨fun a m => by
    by_cases e : a = p
    · subst e; show upd c.G a o a ≠ none; rw [upd_same]; simp
    · show upd c.G p o a ≠ none; rw [upd_ne e]; exact I.mg a m, I.f0, I.fh, fun a u h m => ?_, I.mem, fun a g f => ?_, I.len, I.val, fun j b t h => ?_, I.dis⟩
  · by_cases e : a = p
    · subst e
      have h' : upd c.G a o a = some u := h
      rw [upd_same] at h'; rw [← h']; exact hp
    · have h' : upd c.G p o a = some u := h
      rw [upd_ne e] at h'; exact I.old a u h' m
  · by_cases e : a = p
    · subst e; exact fp
    · have g' : upd c.G p o a ≠ none := g
      rw [upd_ne e] at g'; exact I.oldF a g' f
  · obtain ⟨q, u, h1, h2, h3, h4, h5, h6⟩ := I.mu j b t h
    refine ⟨q, u, h1, h2, h3, h4, fun z => ?_, h6⟩
    have nq : q ≠ p := fun e => by subst e; exact ap j b t h h1
    show upd c.G p o q = none
    rw [upd_ne nq]; exact h5 z
theorem Ok.unkeep {p : Addr} {o : HO} (I : Ok (c.keep p o) F H σ ρ) (gp : c.G p = none) (mp : p ∉ c.M) (f0 : c.F0 p = none) : Ok c F H σ ρ ∧ H p = some o ∧ F p = none ∧ Apart σ ρ p := by
  have g : ∀ {a : Addr} {u : HO}, c.G a = some u → upd c.G p o a = some u := fun {a u} h => by
    have ne : a ≠ p := fun e => by subst e; rw [gp] at h; cases h
    rw [upd_ne ne]; exact h
  refine ⟨⟨fun a m => by
    have e : a ≠ p := fun e => by subst e; exact mp m
    have h : upd c.G p o a ≠ none := I.mg a m
    rw [upd_ne e] at h; exact h, I.f0, I.fh, fun a u h m => I.old a u (g h) m, I.mem, fun a h f => ?_, I.len, I.val, fun j b t h => ?_, I.dis⟩, I.old p o upd_same mp, I.oldF p (by show upd c.G p o p ≠ none; rw [upd_same]; simp) f0, fun j b t h z => ?_⟩
  · refine I.oldF a ?_ f
    cases q : c.G a with
    | none => exact absurd q h
    | some u => show upd c.G p o a ≠ none; rw [g q]; simp
  · obtain ⟨q, u, h1, h2, h3, h4, h5, h6⟩ := I.mu j b t h
    refine ⟨q, u, h1, h2, h3, h4, fun z => ?_, h6⟩
    have h7 : upd c.G p o q = none := h5 z
    by_cases e : q = p
    · subst e; rw [upd_same] at h7; cases h7
    · rw [upd_ne e] at h7; exact h7
  · obtain ⟨q, u, h1, h2, h3, h4, h5, h6⟩ := I.mu j b t h
    rw [z] at h1
    injection h1 with h1; injection h1 with h1; injection h1 with h1
    subst h1
    cases b with
    | true =>
      have h7 : upd c.G p o p = none := h5 rfl
      rw [upd_same] at h7; cases h7
    | false => exact mp (h6 rfl)
theorem Ok.grown (I : Ok c F H σ ρ) {p : Addr} {o : HO} (fp : F p = none) (gp : c.G p = none) (ap : Apart σ ρ p) : Ok c F (upd H p o) σ ρ := by
  refine ⟨I.mg, I.f0, fun a u h => ?_, fun a u h m => ?_, fun a m z => ?_, I.oldF, I.len, I.val, fun j b t h => ?_, I.dis⟩
  · have ne : a ≠ p := fun e => by subst e; rw [fp] at h; cases h
    rw [upd_ne ne]; exact I.fh a u h
  · have ne : a ≠ p := fun e => by subst e; rw [gp] at h; cases h
    rw [upd_ne ne]; exact I.old a u h m
  · by_cases e : a = p
    · subst e; rw [upd_same] at z; cases z
    · rw [upd_ne e] at z; exact I.mem a m z
  · obtain ⟨q, u, h1, h2, h3, h4⟩ := I.mu j b t h
    have nq : q ≠ p := fun e => by subst e; exact ap j b t h h1
    exact ⟨q, u, h1, h2, by rw [upd_ne nq]; exact h3, h4⟩
theorem lift_lc {wi : DI} {g : DG} {is vs : List Nat} (hs : ∀ j ∈ is, j ∈ vs) (σ : L2.St) (H : Hp) (Q : VK) (q : lift c (dLc wi g t w vs) σ H Q)
    {g' : TG} {t' : TT} {w' : TE} (hg : ∀ p o v σ H Q, liftG (c.keep p o) is g v σ H Q → g' v σ H Q) (ht : ∀ p o σ H Q, liftB (c.keep p o) t σ H Q → t' σ H Q) (hw : ∀ p o σ H Q, lift (c.keep p o) w σ H Q → w' σ H Q) :
    tLc (liftI c wi) g' t' w' vs σ H Q := by
  obtain ⟨F, ρ, Qd, I, h, k⟩ := q
  refine ⟨F, ρ, _, I, h, fun l ρ1 J F1 H1 q1 I1 g1 wk Dl hD => ?_⟩
  obtain ⟨P, p0, pt, pe⟩ := q1
  obtain ⟨I2, gg, _, pD, oD, eD, gD, fD, hDl, ctD, apD⟩ := I1.fresh (o := .lst []) (t := .lst []) hD .nil
  have mD : Dl ∉ c.M := fun z => I1.mem Dl z hD
  have f0D : c.F0 Dl = none := by
    cases z : c.F0 Dl with
    | none => rfl
    | some u => rw [I1.fh _ _ (I1.f0 _ _ z)] at hD; cases hD
  cases eD
  refine ⟨fun i m H' => m = l.length - i ∧ i ≤ l.length ∧ ∃ F' ρ' acc vacc, Ok c F' H' (L2.wipe σ vs) (wipeD ρ' vs) ∧ Go c F1 H1 F' H' ∧ F' Dl = none ∧ H' Dl = some (.lst vacc) ∧ DpAll c.K F' vacc acc ∧ Apart (L2.wipe σ vs) (wipeD ρ' vs) Dl ∧ P i acc (wipeD ρ' vs),
    ⟨l.length, by simp, Nat.zero_le _, F1, ρ1, [], [], I2.wipe vs, gg, fD, upd_same, .nil, fun j b t h z => ?_, p0⟩, ?_⟩
  · obtain ⟨h1, h2⟩ := wipeD_some h (by simp)
    rw [(wipe_get σ vs j).2 h1] at z
    exact apD j b t h2 z
  · rintro i m H' ⟨rfl, hi, F', ρ', acc, vacc, I', g', fD', hD', dacc, ap', p'⟩
    by_cases hlt : i < l.length
    · have K1 := I'.keep hD' fD' ap'
      obtain ⟨w1, w2⟩ := wk (c.keep Dl (.lst vacc)) rfl i F' H' _ _ K1 g'.f
      obtain ⟨hgo, hy⟩ := w1 _ (List.getElem?_eq_getElem hlt)
      refine .inr ⟨hgo, fun H2 => ∃ F' ρ' acc vacc, Ok c F' H2 (L2.wipe σ vs) (wipeD ρ' vs) ∧ Go c F1 H1 F' H2 ∧ F' Dl = none ∧ H2 Dl = some (.lst vacc) ∧ DpAll c.K F' vacc acc ∧ Apart (L2.wipe σ vs) (wipeD ρ' vs) Dl ∧ P (i + 1) acc (wipeD ρ' vs),
        fun H2 q => ⟨l.length - (i + 1), by omega, rfl, hlt, q⟩, fun x H2 hx => ?_⟩
      obtain ⟨F2, K2, g2, d2⟩ := hy x H2 hx
      refine hg Dl (.lst vacc) _ _ _ _ ⟨F2, _, _, _, K2, d2, pt i acc _ _ (List.getElem?_eq_getElem hlt) p', fun ρ3 σ3 q3 K3 s3 => ?_⟩
      have ew : L2.wipe σ3 vs = L2.wipe σ vs := by
        rw [wipe_ext s3 hs]
        exact wipe_twice σ vs
      refine ⟨ew, ht Dl (.lst vacc) _ _ _ ⟨F2, ρ3, _, K3, q3, fun b ρ4 F4 H4 q4 K4 g4 => ?_⟩⟩
      have gc : ∀ {A B A' B' : Hp}, Go (c.keep Dl (.lst vacc)) A B A' B' → Go c A B A' B' := fun g => ⟨g.f, g.h⟩
      cases b with
      | true =>
        refine iteT (hw Dl (.lst vacc) _ _ _ ⟨F4, ρ4, _, K4, q4, fun r ρ5 v F5 H5 q5 K5 g5 p5 => ?_⟩)
        obtain ⟨F6, y, K6, g6, p6, q6⟩ := dF_go K5 q5 p5
        obtain ⟨I6, h6, f6, a6⟩ := K6.unkeep gD mD f0D
        have d6 := dps_mono (g2.f.trans (g4.f.trans (g5.f.trans g6.f))) dacc
        refine ⟨vacc, h6, lim_lt (by rw [dps_len dacc]; exact q6.1), F6, ρ5, acc ++ [y], vacc ++ [v], ?_, ?_, f6, upd_same, dps_app d6 (.cons p6 .nil), ?_, q6.2⟩
        · have := (I6.grown (o := .lst (vacc ++ [v])) f6 gD a6).wipe vs
          rw [ew] at this
          exact this
        · refine ⟨g'.f.trans (g2.f.trans (g4.f.trans (g5.f.trans g6.f))), fun z => ?_⟩
          have gh := (g'.h z).trans ((g2.h z).trans ((g4.h z).trans ((g5.h z).trans (g6.h z))))
          intro a o ho
          have ne : a ≠ Dl := fun e => by subst e; rw [hD] at ho; cases ho
          rw [upd_ne ne]
          exact gh a o ho
        · intro j b t h z
          obtain ⟨h1, h2⟩ := wipeD_some h (by simp)
          rw [← ew, (wipe_get σ3 vs j).2 h1] at z
          exact a6 j b t h2 z
      | false =>
        refine iteF ?_
        obtain ⟨I6, h6, f6, a6⟩ := K4.unkeep gD mD f0D
        refine ⟨F4, ρ4, acc, vacc, ?_, g'.trans ((gc g2).trans (gc g4)), f6, h6, dps_mono (g2.f.trans g4.f) dacc, ?_, q4⟩
        · have := I6.wipe vs
          rw [ew] at this
          exact this
        · intro j b t h z
          obtain ⟨h1, h2⟩ := wipeD_some h (by simp)
          rw [← ew, (wipe_get σ3 vs j).2 h1] at z
          exact a6 j b t h2 z
    · have e : i = l.length := by omega
      subst e
      obtain ⟨w1, w2⟩ := wk c rfl l.length F' H' _ _ I' g'.f
      refine .inl ⟨w2 rfl, k _ _ _ F' H' (pe acc _ p') I'.unwipe (g1.trans g') ⟨rfl, Dl, .lst vacc, rfl, gD, fD', hD', dacc, fun j b t h z => ?_⟩⟩
      obtain ⟨h1, h2⟩ := wipeD_some h (by simp)
      exact ap' j b t h (by rw [(wipe_get σ vs j).2 h1]; exact z)
end
end DL

namespace DL
open PySem PySem.Spec PyProof.Rows L2
open Evl (Ex ex_l ex_t)
section
variable {c : Cc} {X : Cx} {F F' H H' : Hp} {σ σ' : L2.St} {ρ ρ' : En} {v : V} {r : Sl} {wa wb wc w : DT} {wA : DA} {t u : DB} {a b e : Expr} {es : List Expr} {pos : Pos} {i : Nat} {st : Stmt} {sts rest : List Stmt} {s1 s2 : DS}
def anyG (c : Cc) (is : List Nat) (g : DG) : TG := fun v σ H Q => ∃ p o, liftG (c.keep p o) is g v σ H Q
def anyB (c : Cc) (t : DB) : TT := fun σ H Q => ∃ p o, liftB (c.keep p o) t σ H Q
def anyE (c : Cc) (w : DT) : TE := fun σ H Q => ∃ p o, lift (c.keep p o) w σ H Q
theorem pg_any {X : Cx} {tg : Expr} {is : List Nat} {g : DG} (h : ∀ p o, DTg (c.keep p o) X tg is g) : PG X tg (anyG c is g) := ⟨fun pins s σ H v u Q I r ⟨p, o, q⟩ => (h p o).run pins s σ H v u Q I r q⟩
theorem pts_any {X : Cx} {ifs : List Expr} (h : ∀ p o, DTs (c.keep p o) X ifs t) : PTs X ifs (anyB c t) := ⟨fun pins s σ H Q I ⟨p, o, q⟩ => (h p o).run pins s σ H Q I q⟩
theorem pe_any {X : Cx} {e : Expr} (h : ∀ p o, DE (c.keep p o) X e w) : PE X e (anyE c w) := ⟨fun pins s σ H Q I ⟨p, o, q⟩ => (h p o).run pins s σ H Q I q⟩
variable {elt tg iter : Expr} {ifs : List Expr} {scope : Scope} {wi : DI} {g : DG} {is : List Nat}
theorem de_lc (own : List (Str × Nat)) (hN : X.N.Nodup) (ok : BlkOk X.N X.env.scope scope own) (hi : DIt c X tg iter wi)
    (hg : ∀ (s : Shared) (H : Hp) (C : Addr) (cl : List (Str × Addr)) (fp : List Addr) (p : Addr) (o : HO), DTg (c.keep p o) (X.blk s H scope (compEnvC scope cl C X.env) fp) tg is g)
    (ht : ∀ (s : Shared) (H : Hp) (C : Addr) (cl : List (Str × Addr)) (fp : List Addr) (p : Addr) (o : HO), DTs (c.keep p o) (X.blk s H scope (compEnvC scope cl C X.env) fp) ifs t)
    (he : ∀ (s : Shared) (H : Hp) (C : Addr) (cl : List (Str × Addr)) (fp : List Addr) (p : Addr) (o : HO), DE (c.keep p o) (X.blk s H scope (compEnvC scope cl C X.env) fp) elt w)
    (his : ∀ j ∈ is, j ∈ own.map (·.2) := by decide) (hc : X.calm = true := by rfl) (hs : ∀ x, foldedSetIterable iter X.env x = pure x := by intro _; rfl) :
    DE c X (.ListComp elt [⟨tg, iter, ifs, 0⟩] scope pos) (dLc wi g t w (own.map (·.2))) :=
  peto (pe_lc hc hN hi ok (fun s H C cl fp => pg_any (hg s H C cl fp)) (fun s H C cl fp => pts_any (ht s H C cl fp)) (fun s H C cl fp => pe_any (he s H C cl fp)) hs) fun σ H Q q =>
    lift_lc his σ H Q q (fun p o v σ H Q h => ⟨p, o, h⟩) (fun p o σ H Q h => ⟨p, o, h⟩) (fun p o σ H Q h => ⟨p, o, h⟩)
/-- x = [..] -/
theorem dst_setLc (i : Nat) {y : Str} {py spos : Pos} (own : List (Str × Nat)) (hN : X.N.Nodup) (ok : BlkOk X.N X.env.scope scope own) (hsw : swapsWith (.ListComp elt [⟨tg, iter, ifs, 0⟩] scope pos) (some (.Name y py)) spos.line X.env = pure true) (hi : DIt c X tg iter wi)
    (hg : ∀ (s : Shared) (H : Hp) (C : Addr) (cl : List (Str × Addr)) (fp : List Addr) (p : Addr) (o : HO), DTg (c.keep p o) (X.blk s H scope (compEnvC scope cl C X.env) fp) tg is g)
    (ht : ∀ (s : Shared) (H : Hp) (C : Addr) (cl : List (Str × Addr)) (fp : List Addr) (p : Addr) (o : HO), DTs (c.keep p o) (X.blk s H scope (compEnvC scope cl C X.env) fp) ifs t)
    (he : ∀ (s : Shared) (H : Hp) (C : Addr) (cl : List (Str × Addr)) (fp : List Addr) (p : Addr) (o : HO), DE (c.keep p o) (X.blk s H scope (compEnvC scope cl C X.env) fp) elt w)
    (his : ∀ j ∈ is, j ∈ own.map (·.2) := by decide) (hc : X.calm = true := by rfl) (hy : X.N[i]? = some y := by rfl) (hyl : X.env.scope.names.lookup y = some .local := by rfl) (hs : ∀ x, foldedSetIterable iter X.env x = pure x := by intro _; rfl) :
    DSt c X (.Assign [.Name y py] (.ListComp elt [⟨tg, iter, ifs, 0⟩] scope pos) spos) (dSet i (dLc wi g t w (own.map (·.2)))) :=
  psto (ps_setLc hc hN hy hyl hsw hi ok (fun s H C cl fp => pg_any (hg s H C cl fp)) (fun s H C cl fp => pts_any (ht s H C cl fp)) (fun s H C cl fp => pe_any (he s H C cl fp)) hs) fun D σ H q => by
    have h := set_lift D σ H q
    exact lift_lc his σ H _ h (fun p o v σ H Q h => ⟨p, o, h⟩) (fun p o σ H Q h => ⟨p, o, h⟩) (fun p o σ H Q h => ⟨p, o, h⟩)
/-- pure: each item kept or not, and what it gives -/
def lcP (l : List D) (k : D → Option D) (ρ0 : En) : Nat → List D → En → Prop := fun i acc ρ => acc = (l.take i).filterMap k ∧ ρ = ρ0
theorem lcP_0 {l : List D} {k : D → Option D} {ρ0 : En} : lcP l k ρ0 0 [] ρ0 := ⟨by simp, rfl⟩
theorem lcP_yes {l : List D} {k : D → Option D} {ρ0 ρ1 ρ2 : En} {i : Nat} {acc : List D} {d y : D} (hl : l.length ≤ lim) (hi : l[i]? = some d) (p : lcP l k ρ0 i acc ρ1) (hk : k d = some y) (hρ : ρ2 = ρ0) : acc.length < lim ∧ lcP l k ρ0 (i + 1) (acc ++ [y]) ρ2 := by
  obtain ⟨rfl, rfl⟩ := p
  have hlt := lt_len hi
  refine ⟨?_, ?_, hρ⟩
  · have h1 := List.length_filterMap_le k (l.take i)
    rw [List.length_take] at h1
    omega
  · rw [List.take_add_one, hi, List.filterMap_append]
    simp [hk]
theorem lcP_no {l : List D} {k : D → Option D} {ρ0 ρ1 ρ2 : En} {i : Nat} {acc : List D} {d : D} (hi : l[i]? = some d) (p : lcP l k ρ0 i acc ρ1) (hk : k d = none) (hρ : ρ2 = ρ0) : lcP l k ρ0 (i + 1) acc ρ2 := by
  obtain ⟨rfl, rfl⟩ := p
  refine ⟨?_, hρ⟩
  rw [List.take_add_one, hi, List.filterMap_append]
  simp [hk]
theorem lcP_end {l : List D} {k : D → Option D} {ρ0 ρ : En} {acc : List D} (p : lcP l k ρ0 l.length acc ρ) : acc = l.filterMap k ∧ ρ = ρ0 := by
  obtain ⟨h1, h2⟩ := p
  rw [List.take_length] at h1
  exact ⟨h1, h2⟩
end
end DL

namespace DL
open PySem PySem.Spec PyProof.Rows L2
/-! ### what a rule computes at known forms -/
section
variable {i j : Int} {b : Bool} {x y : D} {xs ys : List D} {Q : Sl → Prop}
theorem fAdd_ii : fAdd (.int i) (.int j) Q = Q (.val (.int (i + j))) := rfl
theorem fAdd_ll : fAdd (.list xs) (.list ys) Q = (xs.length + ys.length ≤ lim ∧ Q (.mu true (.lst (xs ++ ys)))) := rfl
theorem fAdd_tt : fAdd (.tuple xs) (.tuple ys) Q = (xs.length + ys.length ≤ lim ∧ Q (.val (.tuple (xs ++ ys)))) := rfl
theorem fI_ii {C : Int → Int → Prop} {g : Int → Int → D} : fI C g (.int i) (.int j) Q = (C i j ∧ Q (.val (g i j))) := rfl
theorem fI0_ii {g : Int → Int → D} : fI0 g (.int i) (.int j) Q = Q (.val (g i j)) := rfl
theorem fMul_ii : fMul (.int i) (.int j) Q = (CMulA i j ∧ Q (.val (.int (i * j)))) := rfl
theorem fMul_ti : fMul (.tuple xs) (.int i) Q = ((xs ≠ [] ∧ 2 ≤ i ∧ i ≤ 1000 ∧ xs.length ≤ 1000) ∧ Q (.val (.tuple (List.replicate i.toNat xs).flatten))) := rfl
theorem fNeg_i : fNeg (.int i) Q = Q (.val (.int (-i))) := rfl
theorem fEq_ii : fEq (.int i) (.int j) Q = Q (.val (.bool (decide (i = j)))) := rfl
theorem fNe_ii : fNe (.int i) (.int j) Q = Q (.val (.bool (!decide (i = j)))) := rfl
theorem fIsN_n {n : Bool} : fIsN n .none .none Q = Q (.val (.bool (!n))) := rfl
theorem fIsN_l {n : Bool} : fIsN n (.list xs) .none Q = Q (.val (.bool n)) := rfl
theorem fIsN_t {n : Bool} : fIsN n (.tuple xs) .none Q = Q (.val (.bool n)) := rfl
theorem fIsN_i {n : Bool} : fIsN n (.int i) .none Q = Q (.val (.bool n)) := rfl
theorem fIx_l : fIx (.list xs) (.int i) Q = (match atI xs i with
    | some d => Q (.val d)
    | none => False) := rfl
theorem fIx_t : fIx (.tuple xs) (.int i) Q = (match atI xs i with
    | some d => Q (.val d)
    | none => False) := rfl
theorem dF_v : dF (.val x) = fun Q => Q x := rfl
theorem dF_m : dF (.mu true (.lst xs)) = fun Q => Q (.list xs) := rfl
theorem fAbs_i : fAbs [.int i] Q = Q (.val (.int (if i < 0 then -i else i))) := rfl
theorem fMax2_ii : fMax2 [.int i, .int j] Q = Q (.val (.int (if j > i then j else i))) := rfl
theorem fMin2_ii : fMin2 [.int i, .int j] Q = Q (.val (.int (if j < i then j else i))) := rfl
theorem fLen_l : fLen [.list xs] Q = Q (.val (.int xs.length)) := rfl
theorem fLen_t : fLen [.tuple xs] Q = Q (.val (.int xs.length)) := rfl
theorem fList_l : fList [.list xs] Q = Q (.mu true (.lst xs)) := rfl
theorem fList_t : fList [.tuple xs] Q = Q (.mu true (.lst xs)) := rfl
theorem fTuple_l : fTuple [.list xs] Q = Q (.val (.tuple xs)) := rfl
theorem fTuple_t : fTuple [.tuple xs] Q = Q (.val (.tuple xs)) := rfl
theorem fSl_l {lo hi : Option Int} : fSl (.list xs) lo hi Q = Q (.mu true (.lst (cutD xs lo hi))) := rfl
theorem fSl_t {lo hi : Option Int} : fSl (.tuple xs) lo hi Q = Q (.val (.tuple (cutD xs lo hi))) := rfl
theorem fSum_l {ns : List Int} (h : Q (.val (.int ns.sum))) : fSum [.list (ns.map PyData.int)] Q := ⟨ns, rfl, h⟩
theorem fAll_l {bs : List Bool} (h : Q (.val (.bool (bs.all id)))) : fAll [.list (bs.map PyData.bool)] Q := ⟨bs, rfl, h⟩
theorem fAny_l {bs : List Bool} (h : Q (.val (.bool (bs.any id)))) : fAny [.list (bs.map PyData.bool)] Q := ⟨bs, rfl, h⟩
end
theorem atI_0 {α : Type} {a : α} {l : List α} : atI (a :: l) 0 = some a := atI_nat (j := 0) rfl
theorem atI_1 {α : Type} {a b : α} {l : List α} : atI (a :: b :: l) 1 = some b := atI_nat (j := 1) rfl
theorem atI_2 {α : Type} {a b c : α} {l : List α} : atI (a :: b :: c :: l) 2 = some c := atI_nat (j := 2) rfl
theorem atI_3 {α : Type} {a b c d : α} {l : List α} : atI (a :: b :: c :: d :: l) 3 = some d := atI_nat (j := 3) rfl
theorem atI_4 {α : Type} {a b c d e : α} {l : List α} : atI (a :: b :: c :: d :: e :: l) 4 = some e := atI_nat (j := 4) rfl
theorem atI_map {α β : Type} {f : α → β} {l : List α} {j : Nat} {x : α} (h : l[j]? = some x) : atI (l.map f) (j : Int) = some (f x) := atI_nat (by rw [List.getElem?_map, h]; rfl)
theorem ixN_30 : ixN 3 0 = some 0 := by decide
theorem ixN_31 : ixN 3 1 = some 1 := by decide
theorem ixN_32 : ixN 3 2 = some 2 := by decide
/-! forms that wait for what is known -/
def dVarS (o : Option Sl) (i : Nat) (ρ : En) (Q : Sl → En → Prop) : Prop := match o with
  | some (.val d) => Q (.val d) ρ
  | some (.mu true (.lst l)) => Q (.val (.list l)) (ρ.set i (.val (.list l)))
  | _ => False
def dMovS (o : Option Sl) (i : Nat) (ρ : En) (Q : Sl → En → Prop) : Prop := match o with
  | some (.mu true t) => Q (.mu true t) (ρ.set i .no)
  | _ => False
def sB (r : Sl) (Q : Bool → Prop) : Prop := match r with
  | .val (.bool b) => Q b
  | _ => False
def muL (o : Option Sl) (Q : Bool → List D → Prop) : Prop := match o with
  | some (.mu b (.lst l)) => Q b l
  | _ => False
def muT (o : Option Sl) (Q : Bool → Ct → Prop) : Prop := match o with
  | some (.mu b t) => Q b t
  | _ => False
def isI (d : D) (Q : Int → Prop) : Prop := match d with
  | .int i => Q i
  | _ => False
def vaI (o : Option Sl) (Q : Int → Prop) : Prop := match o with
  | some (.val (.int i)) => Q i
  | _ => False
section
variable {d : D} {l : List D} {t : Ct} {i : Nat} {ρ : En} {Q : Sl → En → Prop} {b : Bool} {w wb wi wj wa : DT} {E : De}
theorem dVar_S : dVar i ρ Q = dVarS ρ[i]? i ρ Q := rfl
theorem dMov_S : dMov i ρ Q = dMovS ρ[i]? i ρ Q := rfl
theorem dVarS_v : dVarS (some (.val d)) i ρ Q = Q (.val d) ρ := rfl
theorem dVarS_m : dVarS (some (.mu true (.lst l))) i ρ Q = Q (.val (.list l)) (ρ.set i (.val (.list l))) := rfl
theorem dMovS_m : dMovS (some (.mu true t)) i ρ Q = Q (.mu true t) (ρ.set i .no) := rfl
theorem sB_b {Q : Bool → Prop} : sB (.val (.bool b)) Q = Q b := rfl
theorem muL_l {Q : Bool → List D → Prop} : muL (some (.mu b (.lst l))) Q = Q b l := rfl
theorem muT_t {Q : Bool → Ct → Prop} : muT (some (.mu b t)) Q = Q b t := rfl
theorem isI_i {i : Int} {Q : Int → Prop} : isI (.int i) Q = Q i := rfl
theorem vaI_i {i : Int} {Q : Int → Prop} : vaI (some (.val (.int i))) Q = Q i := rfl
theorem dTest_S {Q : Bool → En → Prop} : dTest w ρ Q = w ρ fun r ρ1 => sB r fun b => Q b ρ1 := rfl
theorem dNotV_S : dNotV w ρ Q = w ρ fun r ρ1 => sB r fun b => Q (.val (.bool (!b))) ρ1 := rfl
theorem dAndV_S : dAndV wa wb ρ Q = wa ρ fun r ρ1 => sB r fun b => match b with
  | true => wb ρ1 Q
  | false => Q (.val (.bool false)) ρ1 := by
  unfold dAndV
  congr 1
  funext r ρ1
  unfold sB
  split <;> simp_all
theorem dOrV_S : dOrV wa wb ρ Q = wa ρ fun r ρ1 => sB r fun b => match b with
  | true => Q (.val (.bool true)) ρ1
  | false => wb ρ1 Q := by
  unfold dOrV
  congr 1
  funext r ρ1
  unfold sB
  split <;> simp_all
theorem dIxM_S : dIxM i wb ρ Q = muL ρ[i]? fun _ _ => wb ρ fun r ρ1 => dF r fun y => muL ρ1[i]? fun _ l => isI y fun j => match atI l j with
  | some d => Q (.val d) ρ1
  | none => False := by
  unfold dIxM muL isI
  generalize ρ[i]? = o
  rcases o with _ | _ | _ | ⟨b, _ | _⟩ <;> try rfl
  simp only
  congr 1
  funext r ρ1
  congr 1
  funext y
  generalize ρ1[i]? = o
  rcases o with _ | _ | _ | ⟨b, _ | _⟩ <;> cases y <;> rfl
theorem dApp_S : dApp i w E ρ = muL ρ[i]? fun _ _ => w ρ fun r ρ1 => dF r fun d => muL ρ1[i]? fun b l => l.length < lim ∧ E.nx (ρ1.set i (.mu b (.lst (l ++ [d])))) := rfl
theorem dIns_S : dIns i wi w E ρ = muL ρ[i]? fun _ _ => wi ρ fun r ρ1 => dF r fun j => w ρ1 fun r ρ2 => dF r fun d => muL ρ2[i]? fun b l => isI j fun j => (l.length < lim ∧ 0 ≤ j ∧ j < 2 ^ 63) ∧ E.nx (ρ2.set i (.mu b (.lst (l.take j.toNat ++ [d] ++ l.drop j.toNat)))) := by
  unfold dIns muL isI
  generalize ρ[i]? = o
  rcases o with _ | _ | _ | ⟨b, _ | _⟩ <;> try rfl
  simp only
  congr 1
  funext r ρ1
  congr 1
  funext j
  congr 1
  funext r ρ2
  congr 1
  funext d
  generalize ρ2[i]? = o
  rcases o with _ | _ | _ | ⟨b, _ | _⟩ <;> cases j <;> rfl
theorem dSetI_S : dSetI i wj w E ρ = w ρ fun r ρ1 => dF r fun d => muL ρ1[i]? fun _ _ => wj ρ1 fun r ρ2 => dF r fun j => muL ρ2[i]? fun b l => isI j fun j => match ixN l.length j with
  | some n => E.nx (ρ2.set i (.mu b (.lst (l.set n d))))
  | none => False := by
  unfold dSetI muL isI
  congr 1
  funext r ρ1
  congr 1
  funext d
  generalize ρ1[i]? = o
  rcases o with _ | _ | _ | ⟨b, _ | _⟩ <;> try rfl
  simp only
  congr 1
  funext r ρ2
  congr 1
  funext j
  generalize ρ2[i]? = o
  rcases o with _ | _ | _ | ⟨b, _ | _⟩ <;> cases j <;> rfl
theorem dAug_S {g : Int → Int → Int} : dAug i g w E ρ = vaI ρ[i]? fun n => w ρ fun r ρ1 => dF r fun d => isI d fun m => E.nx (ρ1.set i (.val (.int (g n m)))) := rfl
theorem dBack_n {t : Option Ct} {Q : En → Prop} : dBack ρ none t Q = Q ρ := rfl
theorem dBack_s {Q : En → Prop} : dBack ρ (some i) (some t) Q = muT ρ[i]? fun b _ => Q (ρ.set i (.mu b t)) := rfl
def agS (i : Nat) (o : Option Sl) : Sl := match o with
  | some (.mu _ t) => .mu false t
  | _ => .no
theorem agSl_d : agSl ρ (.d d) = .val d := rfl
theorem agSl_s : agSl ρ (.sl i) = agS i ρ[i]? := rfl
theorem agS_m : agS i (some (.mu b t)) = .mu false t := rfl
theorem dAAt_S {wA : DA} {Q : List Ag → En → Prop} : dAAt i wA ρ Q = muT ρ[i]? fun _ _ => wA ρ fun as ρ2 => muT ρ2[i]? fun _ _ => Q (.sl i :: as) ρ2 := rfl
def isiS (o : Option Bool) (Q : Bool → Prop) : Prop := match o with
  | some b => Q b
  | none => False
theorem isiS_s {Q : Bool → Prop} : isiS (some b) Q = Q b := rfl
theorem dIsi_S {T : String} : dIsi T w ρ Q = w ρ fun r ρ1 => dF r fun x => isiS (isT T x) fun b => Q (.val (.bool b)) ρ1 := rfl
theorem dIsi2_S {T U : String} : dIsi2 T U w ρ Q = w ρ fun r ρ1 => dF r fun x => isiS (isT T x) fun b => isiS (isT U x) fun b' => Q (.val (.bool (b || b'))) ρ1 := by
  unfold dIsi2 isiS
  congr 1
  funext r ρ1
  congr 1
  funext x
  generalize isT T x = o
  generalize isT U x = o'
  cases o <;> cases o' <;> rfl
theorem dAugL_S : dAugL i w E ρ = muL ρ[i]? fun b _ => b = true ∧ w ρ fun r ρ1 => muL ρ1[i]? fun b1 l => muL (some r) fun b2 m => (b1 = true ∧ b2 = true) ∧ (l.length + m.length ≤ lim ∧ E.nx (ρ1.set i (.mu true (.lst (l ++ m))))) := by
  unfold dAugL muL
  cases h : ρ[i]? with
  | none => rfl
  | some s =>
    cases s with
    | no => rfl
    | val _ => rfl
    | mu b t =>
      cases t with
      | dct _ => cases b <;> rfl
      | lst l0 =>
        cases b with
        | false => simp
        | true =>
          simp only [true_and]
          congr 1
          funext r ρ1
          cases h1 : ρ1[i]? with
          | none => rfl
          | some s1 =>
            cases s1 with
            | no => rfl
            | val _ => rfl
            | mu b1 t1 =>
              cases t1 with
              | dct _ => cases b1 <;> rfl
              | lst l1 =>
                cases r with
                | no => cases b1 <;> rfl
                | val _ => cases b1 <;> rfl
                | mu b2 t2 =>
                  cases t2 with
                  | dct _ => cases b1 <;> cases b2 <;> rfl
                  | lst l2 => cases b1 <;> cases b2 <;> simp
end
theorem mT {α : Type} {a b : α} : (match true with | true => a | false => b) = a := rfl
theorem mF {α : Type} {a b : α} : (match false with | true => a | false => b) = b := rfl

def mkSp {α : Type} (args : α → En) (post : α → (Sl → Option Ct → Prop) → Prop) : Spec := fun ρ Qd => ∃ x, ρ = args x ∧ post x Qd
theorem hn_mk {α : Type} {args : α → En} {post : α → (Sl → Option Ct → Prop) → Prop} {n : Nat} (h : ∀ x, (args x).length = n) : ∀ ρ Qd, mkSp args post ρ Qd → ρ.length = n := fun ρ Qd ⟨x, e, _⟩ => by rw [e]; exact h x
/-- a def's body does what is promised, on data: nothing handed over; a list handed over -/
def VC (sp : Spec) (w : DS) (k : Nat) : Prop := ∀ ρ Qd, sp ρ Qd → w { nx := fun _ => Qd (.val .none) none, rt := fun r _ => Qd r none } (ρ ++ nos k)
def VCio (sp : Spec) (w : DS) (k : Nat) : Prop := ∀ ρ Qd, sp ρ Qd → w { nx := fun ρ' => Qd (.val .none) (ioOf ρ'), rt := fun r ρ' => Qd r (ioOf ρ') } (ρ ++ nos k)
section
variable {P : Program} {w : World} {K : PySem.W.Frag} {mg : Str → Option Value} {base : Heap}
theorem okD0 {x qual : Str} {st : Stmt} {f : Addr} {fd : FuncData} {N ps : List Str} {k : Nat} {sp : Spec} (Fn : Fun K x qual st f fd) (S : FnScope N ps (defScope st)) (hn : ∀ ρ Qd, sp ρ Qd → ρ.length = ps.length)
    (hbody : ∀ (cdv : Value) (A : Around) (outer : List PySem.Env) (s : Shared) (H : Hp) (E : XK) (F0 : Hp) (M : List Addr), Room k (A.deeper (envOfC qual (defScope st) s.heap.objs.size f cdv)) →
      ∃ w' : DS, DSs ⟨K, F0, H, M, false⟩ (cxOf CX0 P w K mg base N qual (defScope st) f cdv A outer s H E).nox (defBody st) w' ∧ VC sp w' (N.length - ps.length)) :
    FnOk P w K mg base CX0 (k + 1) f fd ps (spOf K ps.length sp) := by
  refine Fn.ok S (fun vs H Q E h => h.1) (fun cdv A outer s H vs Q E hr h => ?_)
  obtain ⟨hl, F0, M, ρ, Qd, I, hM, hsp, kk⟩ := h
  obtain ⟨w', h1, h2⟩ := hbody cdv A outer s H E F0 M hr
  refine ⟨_, h1, F0, _, _, ?_, ?_, h2 ρ Qd hsp⟩
  · have J := I.pad (N.length - ps.length)
    unfold L2.start
    rw [hl]
    exact J
  · refine ⟨fun σ' F' H' ρ' I' _ q => ?_, fun r v σ' F' H' ρ' I' _ p q => ?_, fun _ _ _ _ _ _ z => z.elim, fun _ _ _ _ _ _ z => z.elim⟩
    · exact kk _ _ _ F' H' q I'.f0 I'.fh I'.old I'.oldF (show Dp K F' .non .none from .non) fun _ _ _ z => nomatch z
    · refine kk r _ v F' H' q I'.f0 I'.fh I'.old I'.oldF ?_ fun _ _ _ z => nomatch z
      cases r with
      | no => exact p
      | val d => exact p
      | mu b t =>
        obtain ⟨p1, q, o, q1, q2, q3, q4, q5, _⟩ := p
        exact ⟨p1, q, o, q1, q2, q3, q4, q5⟩
theorem okDio {x qual : Str} {st : Stmt} {f : Addr} {fd : FuncData} {N ps : List Str} {k : Nat} {sp : Spec} (Fn : Fun K x qual st f fd) (S : FnScope N ps (defScope st)) (hn : ∀ ρ Qd, sp ρ Qd → ρ.length = ps.length)
    (hbody : ∀ (cdv : Value) (A : Around) (outer : List PySem.Env) (s : Shared) (H : Hp) (E : XK) (F0 : Hp) (M : List Addr), Room k (A.deeper (envOfC qual (defScope st) s.heap.objs.size f cdv)) →
      ∃ w' : DS, DSs ⟨K, F0, H, M, false⟩ (cxOf CX0 P w K mg base N qual (defScope st) f cdv A outer s H E).nox (defBody st) w' ∧ VCio sp w' (N.length - ps.length)) :
    FnOk P w K mg base CX0 (k + 1) f fd ps (spOf K ps.length sp) := okD Fn S hn fun cdv A outer s H E F0 M hr => hbody cdv A outer s H E F0 M hr
/-- a def of the text, as its callers know it -/
structure Df (K : PySem.W.Frag) (mg : Str → Option Value) (x : Str) (st : Stmt) (ps : List Str) where
  f : Addr
  fd : FuncData
  F : Fun K x x st f fd
  b : Binds K fd ps []
  m : mg x = some (.ref f)
theorem de_globI' {c : Cc} {X : Cx} {x : Str} {i : Int} {pos : Pos} (hm : ∃ t, X.mg x = some (.int i t)) (hg : Gl X x := by rfl) (hd : (x == ("__debug__" : Str)) = false := by decide) : DE c X (.Name x pos) (dC (.int i)) :=
  let ⟨_, h⟩ := hm
  de_globI hg h hd
theorem bt_len : bootBuiltins "len" = some (.builtin "len") := PySem.boot_len
theorem bt_abs : bootBuiltins "abs" = some (.builtin "abs") := PyProof.Rows.boot_abs
theorem bt_sum : bootBuiltins "sum" = some (.builtin "sum") := by decide +kernel
theorem bt_all : bootBuiltins "all" = some (.builtin "all") := by decide +kernel
theorem bt_any : bootBuiltins "any" = some (.builtin "any") := by decide +kernel
theorem bt_max : bootBuiltins "max" = some (.builtin "max") := by decide +kernel
theorem bt_min : bootBuiltins "min" = some (.builtin "min") := by decide +kernel
theorem bt_list : bootBuiltins "list" = some (.type "list") := PyProof.Rows.boot_list
theorem bt_tuple : bootBuiltins "tuple" = some (.type "tuple") := PyProof.Rows.boot_tuple
theorem bt_int : bootBuiltins "int" = some (.type "int") := PyProof.Rows.boot_int
theorem bt_bool : bootBuiltins "bool" = some (.type "bool") := PyProof.Rows.boot_bool
theorem bt_str : bootBuiltins "str" = some (.type "str") := PyProof.Rows.boot_str
/-- the law -/
def spLaw (K : PySem.W.Frag) : L2.Sp := fun vs H Q _ => ∃ (a : Addr) (ns : List Int), vs = [.ref a] ∧ SqL K H a (ns.map V.int) ∧ ns.length ≤ 63 ∧ ∀ H', Q (.bl true) H'
def sp_law : Spec := mkSp (fun x : {ns : List Int // ns.length ≤ 63} => [.val (.list (x.1.map PyData.int))]) fun _ Q => Q (.val (.bool true)) none
theorem hn_law : ∀ ρ Qd, sp_law ρ Qd → ρ.length = 1 := hn_mk fun _ => rfl
theorem dps_of_ints {H : Hp} : ∀ ns : List Int, DpAll K H (ns.map V.int) (ns.map PyData.int)
  | [] => .nil
  | _ :: r => .cons (.int _) (dps_of_ints r)
theorem law_of {f : Addr} {fd : FuncData} {k : Nat} (h : FnOk P w K mg base CX0 k f fd ["script"] (spOf K 1 sp_law)) : FnOk P w K mg base CX0 k f fd ["script"] (spLaw K) := h.imp fun vs H Q E q => by
  obtain ⟨a, ns, rfl, s, hl, hq⟩ := q
  refine ⟨rfl, H, [], [.val (.list (ns.map PyData.int))], fun r _ => r = .val (.bool true), ?_, by simp, ⟨⟨ns, hl⟩, rfl, rfl⟩, fun r t v F' H' hr _ _ _ _ p _ => ?_⟩
  · refine ⟨(fun a m => by cases m), Evl.Ex.refl H, Evl.Ex.refl H, fun _ _ h _ => h, fun a m => (nomatch m), fun a _ f => f, rfl, fun i d h => ?_, fun i b t h => ?_, fun i j b t b' t' p ne h => ?_⟩
    · cases i with
      | zero =>
        cases h
        exact ⟨_, rfl, .lst s (dps_of_ints ns)⟩
      | succ i => simp at h
    · cases i with
      | zero => cases h
      | succ i => simp at h
    · cases i with
      | zero => cases h
      | succ i => simp at h
  · subst hr
    rw [dp_bl p]
    exact hq H'
end
end DL

namespace DL
open PySem PySem.Spec PyProof.Rows L2
open Evl (Ex ex_l ex_t)
/-! ### zip and enumerate over lists and tuples alike (q: a list) -/
def SqX (q : Bool) (K : PySem.W.Frag) (H : Hp) (a : Addr) (xs : List V) : Prop := match q with
  | true => SqL K H a xs
  | false => SqT K H a xs
def ItX (q : Bool) (h : Heap) (it a : Addr) (i : Nat) : Prop := match q with
  | true => h.IsListIter it a i
  | false => h.IsTupleIter it a i
def IsX (q : Bool) (h : Heap) (a : Addr) (its : Array Value) : Prop := match q with
  | true => h.IsList a its
  | false => h.IsTuple a its
def obX (q : Bool) (a : Addr) : Obj := match q with
  | true => { cls := .type "list_iterator", data := .fields #[.ref a, .int 0 0] }
  | false => { cls := .type "tuple_iterator", data := .fields #[.ref a, .int 0 0] }
section
variable {prog : Program} {w : World} {A : Around}
theorem drX (q : Bool) (hh : A.handled = none) (it l : Addr) (hne : l ≠ it) (items : Array Value) : Draws prog w A it [it, l] items.size (fun i v => items[i]? = some v) (fun i h => ItX q h it l i ∧ IsX q h l items) := match q with
  | true => Draws.list hh it l hne items
  | false => Draws.tuple hh it l hne items
theorem bgX (q : Bool) (l : Addr) (items : Array Value) : Begins (.ref l) (obX q l) fun h => IsX q h l items := match q with
  | true => begins_list l items
  | false => begins_tuple l items
theorem itX_obj {q : Bool} {h : Heap} {it a : Addr} {i : Nat} (x : ItX q h it a i) : ∃ o, h.get? it = some o ∧ ∀ v, o.data ≠ .cell v := by
  cases q with
  | true => obtain ⟨o, e, _, d⟩ := (show h.IsListIter it a i from x); exact ⟨o, e, fun v z => by rw [d] at z; cases z⟩
  | false => obtain ⟨o, e, _, d⟩ := (show h.IsTupleIter it a i from x); exact ⟨o, e, fun v z => by rw [d] at z; cases z⟩
theorem itX_at {q : Bool} {h h' : Heap} {it a : Addr} {i : Nat} (x : ItX q h it a i) (k : ∀ o, h.get? it = some o → h'.get? it = some o) : ItX q h' it a i := by
  cases q with
  | true => exact (show h.IsListIter it a i from x).at k
  | false => exact (show h.IsTupleIter it a i from x).at k
theorem itX_0 {q : Bool} {h : Heap} {it a : Addr} (e : h.get? it = some (obX q a)) : ItX q h it a 0 := by
  cases q with
  | true => exact ⟨_, e, rfl, rfl⟩
  | false => exact ⟨_, e, rfl, rfl⟩
end
section
variable {X : Cx} {pins : List (Addr × Obj)} {σ : L2.St} {H : Hp} {s : Shared} {a : Addr} {xs ys : List V}
theorem seqX {q : Bool} (I : Inv X pins σ H s) (h : SqX q X.K H a xs) : ∃ its : List Value, Vals xs its ∧ IsX q s.heap a its.toArray ∧ xs.length ≤ sizeLine := by
  cases q with
  | true => obtain ⟨its, r, p, z⟩ := I.list h; exact ⟨its, r, p.isList, z⟩
  | false => obtain ⟨its, r, p, z⟩ := I.tuple h; exact ⟨its, r, p, z⟩
theorem seqX_inj {q : Bool} (I : Inv X pins σ H s) (h : SqX q X.K H a xs) (h' : SqX q X.K H a ys) : xs = ys := by
  cases q with
  | true => exact I.list_inj h h'
  | false => exact I.tuple_inj h h'
theorem isX_lt {q : Bool} {h : Heap} {its : Array Value} (x : IsX q h a its) : a < h.objs.size := by
  cases q with
  | true => obtain ⟨o, e, _⟩ := (show h.IsList a its from x); exact Heap.lt_size e
  | false => obtain ⟨o, e, _⟩ := (show h.IsTuple a its from x); exact Heap.lt_size e
end
def ItzX (q1 q2 : Bool) (K : PySem.W.Frag) (a b : Addr) : It :=
  ⟨fun i H => ∃ (xs ys : List V) (x y : V), SqX q1 K H a xs ∧ SqX q2 K H b ys ∧ xs[i]? = some x ∧ ys[i]? = some y,
    fun i H v H' => ∃ T x y, v = .ref T ∧ H T = none ∧ H' = upd H T (.tup [x, y]) ∧ (∀ xs, SqX q1 K H a xs → xs[i]? = some x) ∧ ∀ ys, SqX q2 K H b ys → ys[i]? = some y,
    fun i H => ∃ xs ys : List V, SqX q1 K H a xs ∧ SqX q2 K H b ys ∧ i ≤ xs.length ∧ i ≤ ys.length ∧ (i = xs.length ∨ i = ys.length)⟩
theorem turn_zipX {P : Program} {w : World} {K : PySem.W.Frag} {elts : List Expr} {kk : Nat} {tpos : Pos} {q1 q2 : Bool} {a b z TI TO i1 i2 : Addr} (S : ZipSep2 z TI TO i1 i2 [i1, a] [i2, b]) (ai1 : a ≠ i1) (bi2 : b ≠ i2) :
    Turn P w K (.Tuple elts kk tpos) (ItzX q1 q2 K a b) [z, TI, TO, i1, i2] z (fun i h => IsZip h z TI TO .none ∧ IsTupOf2 h TI (.ref i1) (.ref i2) ∧ (∃ x y, IsTupOf2 h TO x y) ∧ ItX q1 h i1 a i ∧ ItX q2 h i2 b i) where
  mem := by simp
  obj := fun i h st c hc => by
    obtain ⟨hz, hTI, ⟨x, y, hTO⟩, h1, h2⟩ := st
    have e' : c = z ∨ c = TI ∨ c = TO ∨ c = i1 ∨ c = i2 := by simpa using hc
    rcases e' with q | q | q | q | q
    · rw [q]; exact ⟨_, hz, fun v q => nomatch q⟩
    · rw [q]; exact ⟨_, hTI, fun v q => nomatch q⟩
    · rw [q]; exact ⟨_, hTO, fun v q => nomatch q⟩
    · rw [q]; exact itX_obj h1
    · rw [q]; exact itX_obj h2
  keep := fun i h h' st k => by
    obtain ⟨hz, hTI, ⟨x, y, hTO⟩, h1, h2⟩ := st
    exact ⟨k z (by simp) _ hz, k TI (by simp) _ hTI, ⟨x, y, k TO (by simp) _ hTO⟩, itX_at h1 fun o q => k i1 (by simp) o q, itX_at h2 fun o q => k i2 (by simp) o q⟩
  item := by
    intro X hP hw hK hc i pins s σ H E I hf st hg
    subst hP hw hK
    obtain ⟨hz, hTI, ⟨x0, y0, hTO⟩, h1, h2⟩ := st
    obtain ⟨xs, ys, x, y, hqx, hqy, hx, hy⟩ := hg
    obtain ⟨its, rv, p, _⟩ := seqX I hqx
    obtain ⟨its2, rv2, p2, _⟩ := seqX I hqy
    obtain ⟨u, hu, ru⟩ := rv.get hx
    obtain ⟨u2, hu2, ru2⟩ := rv2.get hy
    have hzl : z < s.heap.objs.size := Heap.lt_size hz
    have hh : X.A.in1.handled = none := I.ok.hd hc
    refine wpAny_pyNext_zipD2_item S (drX q1 hh i1 a ai1 its.toArray) (drX q2 hh i2 b bi2 its2.toArray) hz hTI hTO ⟨h1, p⟩ ⟨h2, p2⟩ (by simpa using lt_len hu) (by simpa using lt_len hu2) fun x1 x2 h' tk e1 e2 z' TO' d1 d2 hT hsz hk => ?_
    have e1' : x1 = u := by
      rw [show its.toArray[i]? = some u by simpa using hu] at e1
      exact (Option.some.inj e1).symm
    have e2' : x2 = u2 := by
      rw [show its2.toArray[i]? = some u2 by simpa using hu2] at e2
      exact (Option.some.inj e2).symm
    subst e1' e2'
    refine ⟨_, rfl, wpAny_letOwnedTupleGo_zip (s := { s with heap := h', toks := tk }) z' fun h'' z'' sb => ?_⟩
    have hT2 : h''.get? s.heap.objs.size = some { cls := .type "tuple", data := .seq #[x1, x2] } := (sb.2 _ (Nat.ne_of_gt hzl)).trans hT
    have new : ObjOk X.prog X.w (upd H s.heap.objs.size (.tup [x, y])) h'' s.heap.objs.size (.tup [x, y]) :=
      ⟨by show 2 ≤ sizeLine; decide, [x1, x2], .cons ru (.cons ru2 .nil), ⟨_, hT2, rfl, _, rfl⟩⟩
    have I1 : Inv X pins σ (upd H s.heap.objs.size (.tup [x, y])) { s with heap := h'', toks := tk } :=
      I.turnedNew (t' := tk) (ch := [z, TI, TO, i1, i2]) (fun c o hb q => (sb.2 c (fun q' => hb (by simp [q']))).trans (hk c o (fun q' => hb (by simp [q'])) (fun q' => hb (by simp [q'])) (fun q' => hb (by simp [q'])) (fun q' => hb (by simp [q'])) q)) hf (Nat.le_refl _) new
    refine ⟨.ref s.heap.objs.size, _, I1, rfl, ⟨_, x, y, rfl, I.hok.fresh (Nat.le_refl _), rfl, fun l hl => by rw [seqX_inj I hl hqx]; exact hx, fun l hl => by rw [seqX_inj I hl hqy]; exact hy⟩, ⟨z'', ?_, ⟨x1, x2, ?_⟩, ?_, ?_⟩, fun c hcm => ?_⟩
    · exact (sb.2 _ S.TIz).trans (hk _ _ S.TIz S.TITO S.TIi1 S.TIi2 hTI)
    · exact (sb.2 _ S.TOz).trans TO'
    · exact itX_at d1.1 fun o q => (sb.2 _ S.zi1.symm).trans q
    · exact itX_at d2.1 fun o q => (sb.2 _ S.zi2.symm).trans q
    · have hlt : c < s.heap.objs.size := by
        have e' : c = z ∨ c = TI ∨ c = TO ∨ c = i1 ∨ c = i2 := by simpa using hcm
        rcases e' with q | q | q | q | q
        · rw [q]; exact hzl
        · rw [q]; exact Heap.lt_size hTI
        · rw [q]; exact Heap.lt_size hTO
        · rw [q]; obtain ⟨_, e1, _⟩ := itX_obj h1; exact Heap.lt_size e1
        · rw [q]; obtain ⟨_, e2, _⟩ := itX_obj h2; exact Heap.lt_size e2
      rw [upd_ne (Nat.ne_of_lt hlt)]
      exact (hf c hcm).1
  done := by
    intro X hP hw hK hc i pins s σ H E I hf st hg
    subst hP hw hK
    obtain ⟨hz, hTI, ⟨x0, y0, hTO⟩, h1, h2⟩ := st
    obtain ⟨xs, ys, hqx, hqy, l1, l2, hend⟩ := hg
    obtain ⟨its, rv, p, _⟩ := seqX I hqx
    obtain ⟨its2, rv2, p2, _⟩ := seqX I hqy
    have n1 := rv.length
    have n2 := rv2.length
    have hh : X.A.in1.handled = none := I.ok.hd hc
    refine wpAny_pyNext_zipD2_end (i := i) S (drX q1 hh i1 a ai1 its.toArray) (drX q2 hh i2 b bi2 its2.toArray) hz hTI hTO ⟨h1, p⟩ ⟨h2, p2⟩ (by simp; omega) (by simp; omega) (by simp; omega) fun h' tk hk => ⟨rfl, ?_⟩
    exact I.turnedL (t' := tk) (ch := [z, TI, TO, i1, i2]) (fun c o hb q =>
      hk c o (fun q' => hb (by simp [q'])) (fun q' => hb (by simp [q'])) (fun q' => hb (by simp [q'])) (fun q' => hb (by simp [q'])) q) hf
  self := fun A i s Q E st h => wpAny_pyIter_zip st.1 h
def ItzX3 (q1 q2 q3 : Bool) (K : PySem.W.Frag) (a b d : Addr) : It :=
  ⟨fun i H => ∃ (xs ys zs : List V) (x y z : V), SqX q1 K H a xs ∧ SqX q2 K H b ys ∧ SqX q3 K H d zs ∧ xs[i]? = some x ∧ ys[i]? = some y ∧ zs[i]? = some z,
    fun i H v H' => ∃ T x y z, v = .ref T ∧ H T = none ∧ H' = upd H T (.tup [x, y, z]) ∧ (∀ xs, SqX q1 K H a xs → xs[i]? = some x) ∧ (∀ ys, SqX q2 K H b ys → ys[i]? = some y) ∧ ∀ zs, SqX q3 K H d zs → zs[i]? = some z,
    fun i H => ∃ xs ys zs : List V, SqX q1 K H a xs ∧ SqX q2 K H b ys ∧ SqX q3 K H d zs ∧ i ≤ xs.length ∧ i ≤ ys.length ∧ i ≤ zs.length ∧ (i = xs.length ∨ i = ys.length ∨ i = zs.length)⟩
theorem turn_zipX3 {P : Program} {w : World} {K : PySem.W.Frag} {elts : List Expr} {kk : Nat} {tpos : Pos} {q1 q2 q3 : Bool} {a b d z TI TO i1 i2 i3 : Addr} (S : ZipSep3 z TI TO i1 i2 i3 [i1, a] [i2, b] [i3, d]) (ai1 : a ≠ i1) (bi2 : b ≠ i2) (di3 : d ≠ i3) :
    Turn P w K (.Tuple elts kk tpos) (ItzX3 q1 q2 q3 K a b d) [z, TI, TO, i1, i2, i3] z (fun i h => IsZip h z TI TO .none ∧ IsTupOf3 h TI (.ref i1) (.ref i2) (.ref i3) ∧ (∃ x y z, IsTupOf3 h TO x y z) ∧ ItX q1 h i1 a i ∧ ItX q2 h i2 b i ∧ ItX q3 h i3 d i) where
  mem := by simp
  obj := fun i h st c hc => by
    obtain ⟨hz, hTI, ⟨x, y, z', hTO⟩, h1, h2, h3⟩ := st
    have e' : c = z ∨ c = TI ∨ c = TO ∨ c = i1 ∨ c = i2 ∨ c = i3 := by simpa using hc
    rcases e' with q | q | q | q | q | q
    · rw [q]; exact ⟨_, hz, fun v q => nomatch q⟩
    · rw [q]; exact ⟨_, hTI, fun v q => nomatch q⟩
    · rw [q]; exact ⟨_, hTO, fun v q => nomatch q⟩
    · rw [q]; exact itX_obj h1
    · rw [q]; exact itX_obj h2
    · rw [q]; exact itX_obj h3
  keep := fun i h h' st k => by
    obtain ⟨hz, hTI, ⟨x, y, z', hTO⟩, h1, h2, h3⟩ := st
    exact ⟨k z (by simp) _ hz, k TI (by simp) _ hTI, ⟨x, y, z', k TO (by simp) _ hTO⟩, itX_at h1 fun o q => k i1 (by simp) o q, itX_at h2 fun o q => k i2 (by simp) o q, itX_at h3 fun o q => k i3 (by simp) o q⟩
  item := by
    intro X hP hw hK hc i pins s σ H E I hf st hg
    subst hP hw hK
    obtain ⟨hz, hTI, ⟨x0, y0, z0, hTO⟩, h1, h2, h3⟩ := st
    obtain ⟨xs, ys, zs, x, y, zz, hqx, hqy, hqz, hx, hy, hzz⟩ := hg
    obtain ⟨its, rv, p, _⟩ := seqX I hqx
    obtain ⟨its2, rv2, p2, _⟩ := seqX I hqy
    obtain ⟨its3, rv3, p3, _⟩ := seqX I hqz
    obtain ⟨u, hu, ru⟩ := rv.get hx
    obtain ⟨u2, hu2, ru2⟩ := rv2.get hy
    obtain ⟨u3, hu3, ru3⟩ := rv3.get hzz
    have hzl : z < s.heap.objs.size := Heap.lt_size hz
    have hh : X.A.in1.handled = none := I.ok.hd hc
    refine wpAny_pyNext_zipD3_item S (drX q1 hh i1 a ai1 its.toArray) (drX q2 hh i2 b bi2 its2.toArray) (drX q3 hh i3 d di3 its3.toArray) hz hTI hTO ⟨h1, p⟩ ⟨h2, p2⟩ ⟨h3, p3⟩ (by simpa using lt_len hu) (by simpa using lt_len hu2) (by simpa using lt_len hu3) fun x1 x2 x3 h' tk e1 e2 e3 z' TO' d1 d2 d3 hT hsz hk => ?_
    have e1' : x1 = u := by
      rw [show its.toArray[i]? = some u by simpa using hu] at e1
      exact (Option.some.inj e1).symm
    have e2' : x2 = u2 := by
      rw [show its2.toArray[i]? = some u2 by simpa using hu2] at e2
      exact (Option.some.inj e2).symm
    have e3' : x3 = u3 := by
      rw [show its3.toArray[i]? = some u3 by simpa using hu3] at e3
      exact (Option.some.inj e3).symm
    subst e1' e2' e3'
    refine ⟨_, rfl, wpAny_letOwnedTupleGo_zip (s := { s with heap := h', toks := tk }) z' fun h'' z'' sb => ?_⟩
    have hT2 : h''.get? s.heap.objs.size = some { cls := .type "tuple", data := .seq #[x1, x2, x3] } := (sb.2 _ (Nat.ne_of_gt hzl)).trans hT
    have new : ObjOk X.prog X.w (upd H s.heap.objs.size (.tup [x, y, zz])) h'' s.heap.objs.size (.tup [x, y, zz]) :=
      ⟨by show 3 ≤ sizeLine; decide, [x1, x2, x3], .cons ru (.cons ru2 (.cons ru3 .nil)), ⟨_, hT2, rfl, _, rfl⟩⟩
    have I1 : Inv X pins σ (upd H s.heap.objs.size (.tup [x, y, zz])) { s with heap := h'', toks := tk } :=
      I.turnedNew (t' := tk) (ch := [z, TI, TO, i1, i2, i3]) (fun c o hb q => (sb.2 c (fun q' => hb (by simp [q']))).trans (hk c o (fun q' => hb (by simp [q'])) (fun q' => hb (by simp [q'])) (fun q' => hb (by simp [q'])) (fun q' => hb (by simp [q'])) (fun q' => hb (by simp [q'])) q)) hf (Nat.le_refl _) new
    refine ⟨.ref s.heap.objs.size, _, I1, rfl, ⟨_, x, y, zz, rfl, I.hok.fresh (Nat.le_refl _), rfl, fun l hl => by rw [seqX_inj I hl hqx]; exact hx, fun l hl => by rw [seqX_inj I hl hqy]; exact hy, fun l hl => by rw [seqX_inj I hl hqz]; exact hzz⟩, ⟨z'', ?_, ⟨x1, x2, x3, ?_⟩, ?_, ?_, ?_⟩, fun c hcm => ?_⟩
    · exact (sb.2 _ S.TIz).trans (hk _ _ S.TIz S.TITO S.TIi1 S.TIi2 S.TIi3 hTI)
    · exact (sb.2 _ S.TOz).trans TO'
    · exact itX_at d1.1 fun o q => (sb.2 _ S.zi1.symm).trans q
    · exact itX_at d2.1 fun o q => (sb.2 _ S.zi2.symm).trans q
    · exact itX_at d3.1 fun o q => (sb.2 _ S.zi3.symm).trans q
    · have hlt : c < s.heap.objs.size := by
        have e' : c = z ∨ c = TI ∨ c = TO ∨ c = i1 ∨ c = i2 ∨ c = i3 := by simpa using hcm
        rcases e' with q | q | q | q | q | q
        · rw [q]; exact hzl
        · rw [q]; exact Heap.lt_size hTI
        · rw [q]; exact Heap.lt_size hTO
        · rw [q]; obtain ⟨_, e1, _⟩ := itX_obj h1; exact Heap.lt_size e1
        · rw [q]; obtain ⟨_, e2, _⟩ := itX_obj h2; exact Heap.lt_size e2
        · rw [q]; obtain ⟨_, e2, _⟩ := itX_obj h3; exact Heap.lt_size e2
      rw [upd_ne (Nat.ne_of_lt hlt)]
      exact (hf c hcm).1
  done := by
    intro X hP hw hK hc i pins s σ H E I hf st hg
    subst hP hw hK
    obtain ⟨hz, hTI, ⟨x0, y0, z0, hTO⟩, h1, h2, h3⟩ := st
    obtain ⟨xs, ys, zs, hqx, hqy, hqz, l1, l2, l3, hend⟩ := hg
    obtain ⟨its, rv, p, _⟩ := seqX I hqx
    obtain ⟨its2, rv2, p2, _⟩ := seqX I hqy
    obtain ⟨its3, rv3, p3, _⟩ := seqX I hqz
    have n1 := rv.length
    have n2 := rv2.length
    have n3 := rv3.length
    have hh : X.A.in1.handled = none := I.ok.hd hc
    refine wpAny_pyNext_zipD3_end (i := i) S (drX q1 hh i1 a ai1 its.toArray) (drX q2 hh i2 b bi2 its2.toArray) (drX q3 hh i3 d di3 its3.toArray) hz hTI hTO ⟨h1, p⟩ ⟨h2, p2⟩ ⟨h3, p3⟩ (by simp; omega) (by simp; omega) (by simp; omega) (by simp; omega) fun h' tk hk => ⟨rfl, ?_⟩
    exact I.turnedL (t' := tk) (ch := [z, TI, TO, i1, i2, i3]) (fun c o hb q =>
      hk c o (fun q' => hb (by simp [q'])) (fun q' => hb (by simp [q'])) (fun q' => hb (by simp [q'])) (fun q' => hb (by simp [q'])) (fun q' => hb (by simp [q'])) q) hf
  self := fun A i s Q E st h => wpAny_pyIter_zip st.1 h

/-! enumerate -/
def IteX (q : Bool) (K : PySem.W.Frag) (a : Addr) : It :=
  ⟨fun i H => ∃ (xs : List V) (x : V), SqX q K H a xs ∧ xs[i]? = some x, fun i H v H' => ∃ T x, v = .ref T ∧ H T = none ∧ H' = upd H T (.tup [.int (i : Nat), x]) ∧ ∀ xs, SqX q K H a xs → xs[i]? = some x, fun i H => ∃ xs : List V, SqX q K H a xs ∧ i = xs.length⟩
theorem turn_enumX {P : Program} {w : World} {K : PySem.W.Frag} {elts : List Expr} {kk : Nat} {tpos : Pos} {q : Bool} {a e it : Addr} (ai : a ≠ it) (ei : e ≠ it) (ea : e ≠ a) :
    Turn P w K (.Tuple elts kk tpos) (IteX q K a) [e, it] e (fun i h => (∃ old, IsEnum h e it ((i : Nat) : Int) old) ∧ ItX q h it a i) where
  mem := by simp
  obj := fun i h st b hb => by
    obtain ⟨⟨old, he⟩, hi⟩ := st
    have e' : b = e ∨ b = it := by simpa using hb
    rcases e' with z | z
    · rw [z]; exact ⟨_, he, fun v q => nomatch q⟩
    · rw [z]; exact itX_obj hi
  keep := fun i h h' st k => let ⟨⟨old, he⟩, hi⟩ := st; ⟨⟨old, k e (by simp) _ he⟩, itX_at hi fun o q => k it (by simp) o q⟩
  item := by
    intro X hP hw hK hc i pins s σ H E I hf st hg
    subst hP hw hK
    obtain ⟨⟨old, he⟩, hit⟩ := st
    obtain ⟨xs, x, hq, hx⟩ := hg
    obtain ⟨its, rv, p, hz⟩ := seqX I hq
    obtain ⟨u, hu, ru⟩ := rv.get hx
    have hel : e < s.heap.objs.size := Heap.lt_size he
    have hh : X.A.in1.handled = none := I.ok.hd hc
    refine wpAny_pyNext_enum_itemD (drX q hh it a ai its.toArray) he ⟨hit, p⟩ (by simpa using lt_len hu) ei (by simp [ei, ea]) fun x1 h' tk e1 ho d1 hT hsz hk => ?_
    have e1' : x1 = u := by
      rw [show its.toArray[i]? = some u by simpa using hu] at e1
      exact (Option.some.inj e1).symm
    subst e1'
    refine ⟨_, rfl, wpAny_letOwnedTupleGo_enum (s := { s with heap := h', toks := tk + 1 }) ho fun h'' he' sb => ?_⟩
    have hT2 : h''.get? s.heap.objs.size = some { cls := .type "tuple", data := .seq #[.int i tk, x1] } := (sb.2 _ (Nat.ne_of_gt hel)).trans hT
    have new : ObjOk X.prog X.w (upd H s.heap.objs.size (.tup [.int (i : Nat), x])) h'' s.heap.objs.size (.tup [.int (i : Nat), x]) :=
      ⟨by show 2 ≤ sizeLine; decide, [.int i tk, x1], .cons ⟨_, rfl⟩ (.cons ru .nil), ⟨_, hT2, rfl, _, rfl⟩⟩
    have I1 : Inv X pins σ (upd H s.heap.objs.size (.tup [.int (i : Nat), x])) { s with heap := h'', toks := tk + 1 } :=
      I.turnedNew (t' := tk + 1) (ch := [e, it]) (fun b ob hb q => (sb.2 b (fun z => hb (by simp [z]))).trans (hk b ob (fun z => hb (by simp [z])) (fun z => hb (by simp [z])) q)) hf (Nat.le_refl _) new
    refine ⟨.ref s.heap.objs.size, _, I1, rfl, ⟨_, x, rfl, I.hok.fresh (Nat.le_refl _), rfl, fun ys hy => by rw [seqX_inj I hy hq]; exact hx⟩, ⟨⟨x1, ?_⟩, itX_at d1.1 fun o q => (sb.2 it (Ne.symm ei)).trans q⟩, fun b hb => ?_⟩
    · have e1 : ((i + 1 : Nat) : Int) = (i : Int) + 1 := by omega
      rw [e1]; exact he'
    · have hb' : b < s.heap.objs.size := by
        have e' : b = e ∨ b = it := by simpa using hb
        rcases e' with z | z
        · rw [z]; exact hel
        · rw [z]; obtain ⟨_, e2, _⟩ := itX_obj hit; exact Heap.lt_size e2
      rw [upd_ne (Nat.ne_of_lt hb')]
      exact (hf b hb).1
  done := by
    intro X hP hw hK hc i pins s σ H E I hf st hg
    subst hP hw hK
    obtain ⟨⟨old, he⟩, hit⟩ := st
    obtain ⟨xs, hq, hx⟩ := hg
    obtain ⟨its, rv, p, hz⟩ := seqX I hq
    obtain ⟨f0, f1, f2, f3, f4, f5⟩ := hf it (by simp)
    have hl := rv.length
    have hh : X.A.in1.handled = none := I.ok.hd hc
    have ei' : i = its.toArray.size := by rw [List.size_toArray]; omega
    subst ei'
    exact wpAny_pyNext_enum_endD (drX q hh it a ai its.toArray) he ⟨hit, p⟩ fun h' eb => ⟨rfl, I.turned (t' := s.toks) (fun b o hb q => eb b o hb q) f0 f1 f3 f4 f5⟩
  self := fun A i s Q E st h => let ⟨⟨_, he⟩, _⟩ := st; wpAny_pyIter_enum he h
/-! they begin -/
theorem meets_enum1 {v : Value} {o : Obj} {H : Heap → Prop} (B : Begins v o H) :
    Meets (Builtin.«enumerate.__new__» ⟨[.type "enumerate", v], []⟩) (fun _ R s => H s.heap ∧
      R (.ok (.ret (.ref (s.heap.push o).objs.size))) { s with heap := (s.heap.push o).push { cls := .type "enumerate", data := .fields #[.none, .bool false, .ref s.heap.objs.size, rawInt 0, .none, .none] } }) :=
  .of_wp fun prog w A R s h => by
    obtain ⟨hp, g, d, tk, os⟩ := s; obtain ⟨h1, h⟩ := h
    have hsub := sub_enumerate
    have q1 : ∀ {A' : Around} {E : Value → Shared → Prop} {Q : Value → Shared → Prop}, Q (.ref hp.objs.size) ⟨hp.push o, g, d, tk, os⟩ → wpAny (model prog w) A' (pyIter v) Q E ⟨hp, g, d, tk, os⟩ :=
      fun q => B.iter prog w _ _ ⟨hp, g, d, tk, os⟩ _ h1 q
    wp_walk using q1
    refine wpAny_stack_any fun st => wpAny_pure ?_
    split
    · rename_i c _ _ _ _ _
      cases (c == Value.type "enumerate")
      · wp_walk using q1
        exact ⟨_, rfl, h⟩
      · wp_walk using q1
        exact ⟨_, rfl, h⟩
    · wp_walk using q1
      exact ⟨_, rfl, h⟩
theorem enum1_begins {prog : Program} {w : World} {A : Around} {E : Value → Shared → Prop} {s : Shared} {v : Value} {o : Obj} {H : Heap → Prop} {Q : Value → Shared → Prop} (B : Begins v o H) (h1 : H s.heap)
    (h : ∀ h', IsEnum h' (s.heap.objs.size + 1) s.heap.objs.size 0 .none → h'.get? s.heap.objs.size = some o → h'.objs.size = s.heap.objs.size + 2 →
      (∀ b o, s.heap.get? b = some o → h'.get? b = some o) → Q (.ref (s.heap.objs.size + 1)) { s with heap := h' }) :
    wpAny (model prog w) A (call (.type "enumerate") [v]) Q E s := by
  refine callType_new F.called_enumerate (by decide) (F.typeCall_enumerate_1 _) (F.newCall_enumerate_1 _) (fun obj => F.args_object_init_2 obj _) F.entry_enumerate_new
    (meets_enum1 B) ⟨h1, ?_⟩
  have hz : (s.heap.push o).objs.size = s.heap.objs.size + 1 := Heap.size_push ..
  show _ ∧ _
  rw [hz]
  have he : IsEnum ((s.heap.push o).push { cls := .type "enumerate", data := .fields #[.none, .bool false, .ref s.heap.objs.size, rawInt 0, .none, .none] }) (s.heap.objs.size + 1) s.heap.objs.size 0 .none := by
    have := Heap.get?_push_size (s.heap.push o) (o := { cls := .type "enumerate", data := .fields #[.none, .bool false, .ref s.heap.objs.size, rawInt 0, .none, .none] }) rfl
    rw [hz] at this; exact this
  refine ⟨⟨_, he, rfl⟩, h _ he (Heap.get?_push_of_some _ (Heap.get?_push_size _ B.free)) (by rw [Heap.size_push, hz]) fun b o x => Heap.get?_push_of_some _ (Heap.get?_push_of_some _ x)⟩
section
variable {X : Cx}
def iEnumX (K : PySem.W.Frag) (ta : TA) : TI := fun σ H R => ta σ H fun vs H1 => ∃ q a xs, vs = [.ref a] ∧ SqX q K H1 a xs ∧ R (IteX q K a) H1
theorem pi_enumX {e : Expr} {ta : TA} {p pos tpos : Pos} {elts : List Expr} {kk : Nat} (hg : Gl X "enumerate") (hm : X.mg "enumerate" = none) (ha : PA X [e] ta) (hs : starEach [e] X.env = [(false, eval e X.env)] := by rfl) :
    PI X (.Tuple elts kk tpos) (.Call (.Name "enumerate" p) [e] [] pos) (iEnumX X.K ta) := by
  refine ⟨fun pins s σ H R I h => ?_⟩
  refine Call_ (ld_blt I hg hm boot_enumerate (PyProof.Rows.callWith_type1 (thn (ha.run pos pins s σ H _ I h) fun us s1 ⟨vs, H1, I1, r1, q1⟩ => ?_) hs rfl))
  obtain ⟨q, a, xs, ex, hq, qq⟩ := q1
  subst ex
  cases r1 with
  | cons r rr =>
    cases rr
    cases r
    obtain ⟨its, rv, p', hz⟩ := seqX I1 hq
    have la := isX_lt p'
    refine enum1_begins (bgX q a its.toArray) p' fun h' he hit hsz hk => wpAny_pyIter_enum he ?_
    have I2 : Inv X pins σ H1 { s1 with heap := h' } := I1.kept (t' := s1.toks) hk
    refine ⟨s1.heap.objs.size + 1, [s1.heap.objs.size + 1, s1.heap.objs.size], _, _, H1, rfl, I2, turn_enumX (q := q) (a := a) (Nat.ne_of_lt la) (Nat.succ_ne_self _) (Nat.ne_of_gt (Nat.lt_succ_of_lt la)), ⟨⟨.none, he⟩, itX_0 hit⟩, fun b hb => ?_, qq⟩
    have e' : b = s1.heap.objs.size + 1 ∨ b = s1.heap.objs.size := by simpa using hb
    have hle : s1.heap.objs.size ≤ b := by
      rcases e' with z | z
      · rw [z]; exact Nat.le_add_right _ _
      · rw [z]; exact Nat.le_refl _
    exact I1.fpOk hle (I1.hok.fresh hle)
def iZipX (K : PySem.W.Frag) (ta : TA) : TI := fun σ H R => ta σ H fun vs H1 => ∃ q1 q2 a b xs ys, vs = [.ref a, .ref b] ∧ SqX q1 K H1 a xs ∧ SqX q2 K H1 b ys ∧ R (ItzX q1 q2 K a b) H1
theorem pi_zipX {e e2 : Expr} {ta : TA} {p pos tpos : Pos} {elts : List Expr} {kk : Nat} (hg : Gl X "zip") (hm : X.mg "zip" = none) (ha : PA X [e, e2] ta)
    (hs : starEach [e, e2] X.env = (false, eval e X.env) :: starEach [e2] X.env := by rfl) (hpl : (backTo pos (starEach [e2] X.env)).any (·.1) = false := by rfl) :
    PI X (.Tuple elts kk tpos) (.Call (.Name "zip" p) [e, e2] [] pos) (iZipX X.K ta) := by
  refine ⟨fun pins s σ H R I h => ?_⟩
  refine Call_ (ld_blt I hg hm PyProof.Rows.boot_zip (PyProof.Rows.callWith_type1 (thn (ha.run pos pins s σ H _ I h) fun us s1 ⟨vs, H1, I1, r1, q1⟩ => ?_) hs hpl))
  obtain ⟨q1, q2, a, b, xs, ys, ex, hqx, hqy, q⟩ := q1
  subst ex
  cases r1 with
  | cons r rr =>
    cases rr with
    | cons r' rr =>
      cases rr
      cases r
      cases r'
      obtain ⟨its, rv, p1, _⟩ := seqX I1 hqx
      obtain ⟨its2, rv2, p2, _⟩ := seqX I1 hqy
      have la := isX_lt p1
      have lb := isX_lt p2
      refine zip_begins2 (bgX q1 a its.toArray) (bgX q2 b its2.toArray) p1 p2 fun h' hz hTI hTO h1 h2 hsz hk => wpAny_pyIter_zip hz ?_
      have I2 : Inv X pins σ H1 { s1 with heap := h' } := I1.kept (t' := s1.toks) hk
      refine ⟨s1.heap.objs.size + 4, [s1.heap.objs.size + 4, s1.heap.objs.size + 2, s1.heap.objs.size + 3, s1.heap.objs.size, s1.heap.objs.size + 1], _, _, H1, rfl, I2,
        turn_zipX (q1 := q1) (q2 := q2) (a := a) (b := b) (zip_sep2 (fp1 := [a]) (fp2 := [b]) (by simpa using la) (by simpa using lb)) (Nat.ne_of_lt la) (Nat.ne_of_lt (Nat.lt_succ_of_lt lb)), ⟨hz, hTI, ⟨_, _, hTO⟩, itX_0 h1, itX_0 h2⟩, fun c hcm => ?_, q⟩
      have hle : s1.heap.objs.size ≤ c := by
        simp only [List.mem_cons, List.not_mem_nil, or_false] at hcm
        rcases hcm with rfl | rfl | rfl | rfl | rfl <;> first | exact Nat.le_add_right _ _ | exact Nat.le_refl _
      exact I1.fpOk hle (I1.hok.fresh hle)
def iZipX3 (K : PySem.W.Frag) (ta : TA) : TI := fun σ H R => ta σ H fun vs H1 => ∃ q1 q2 q3 a b d xs ys zs, vs = [.ref a, .ref b, .ref d] ∧ SqX q1 K H1 a xs ∧ SqX q2 K H1 b ys ∧ SqX q3 K H1 d zs ∧ R (ItzX3 q1 q2 q3 K a b d) H1
theorem pi_zipX3 {e e2 e3 : Expr} {ta : TA} {p pos tpos : Pos} {elts : List Expr} {kk : Nat} (hg : Gl X "zip") (hm : X.mg "zip" = none) (ha : PA X [e, e2, e3] ta)
    (hs : starEach [e, e2, e3] X.env = (false, eval e X.env) :: starEach [e2, e3] X.env := by rfl) (hpl : (backTo pos (starEach [e2, e3] X.env)).any (·.1) = false := by rfl) :
    PI X (.Tuple elts kk tpos) (.Call (.Name "zip" p) [e, e2, e3] [] pos) (iZipX3 X.K ta) := by
  refine ⟨fun pins s σ H R I h => ?_⟩
  refine Call_ (ld_blt I hg hm PyProof.Rows.boot_zip (PyProof.Rows.callWith_type1 (thn (ha.run pos pins s σ H _ I h) fun us s1 ⟨vs, H1, I1, r1, q1⟩ => ?_) hs hpl))
  obtain ⟨q1, q2, q3, a, b, d, xs, ys, zs, ex, hqx, hqy, hqz, q⟩ := q1
  subst ex
  cases r1 with
  | cons r rr =>
    cases rr with
    | cons r' rr =>
      cases rr with
      | cons r'' rr =>
        cases rr
        cases r
        cases r'
        cases r''
        obtain ⟨its, rv, p1, _⟩ := seqX I1 hqx
        obtain ⟨its2, rv2, p2, _⟩ := seqX I1 hqy
        obtain ⟨its3, rv3, p3, _⟩ := seqX I1 hqz
        have la := isX_lt p1
        have lb := isX_lt p2
        have ld := isX_lt p3
        refine zip_begins3 (bgX q1 a its.toArray) (bgX q2 b its2.toArray) (bgX q3 d its3.toArray) p1 p2 p3 fun h' hz hTI hTO h1 h2 h3 hsz hk => wpAny_pyIter_zip hz ?_
        have I2 : Inv X pins σ H1 { s1 with heap := h' } := I1.kept (t' := s1.toks) hk
        refine ⟨s1.heap.objs.size + 5, [s1.heap.objs.size + 5, s1.heap.objs.size + 3, s1.heap.objs.size + 4, s1.heap.objs.size, s1.heap.objs.size + 1, s1.heap.objs.size + 2], _, _, H1, rfl, I2,
          turn_zipX3 (q1 := q1) (q2 := q2) (q3 := q3) (a := a) (b := b) (d := d) (zip_sep3 (fp1 := [a]) (fp2 := [b]) (fp3 := [d]) (by simpa using la) (by simpa using lb) (by simpa using ld)) (Nat.ne_of_lt la) (Nat.ne_of_lt (Nat.lt_succ_of_lt lb)) (Nat.ne_of_lt (Nat.lt_succ_of_lt (Nat.lt_succ_of_lt ld))), ⟨hz, hTI, ⟨_, _, _, hTO⟩, itX_0 h1, itX_0 h2, itX_0 h3⟩, fun c hcm => ?_, q⟩
        have hle : s1.heap.objs.size ≤ c := by
          simp only [List.mem_cons, List.not_mem_nil, or_false] at hcm
          rcases hcm with rfl | rfl | rfl | rfl | rfl | rfl <;> first | exact Nat.le_add_right _ _ | exact Nat.le_refl _
        exact I1.fpOk hle (I1.hok.fresh hle)
end
end DL

namespace DL
open PySem PySem.Spec PyProof.Rows L2
open Evl (Ex ex_l ex_t)
/-- the items of a list or tuple -/
def seqS (d : D) (Q : List D → Prop) : Prop := match d with
  | .list l => Q l
  | .tuple l => Q l
  | _ => False
theorem seqS_l {l : List D} {Q : List D → Prop} : seqS (.list l) Q = Q l := rfl
theorem seqS_t {l : List D} {Q : List D → Prop} : seqS (.tuple l) Q = Q l := rfl
section
variable {c : Cc} {X : Cx} {F H : Hp} {σ : L2.St} {ρ : En} {v : V} {wA : DA} {a b e : Expr} {pos : Pos}
theorem seqS_go {d : D} {Q : List D → Prop} (h : seqS d Q) (p : Dp c.K F v d) : ∃ q a xs l, v = .ref a ∧ SqX q c.K F a xs ∧ DpAll c.K F xs l ∧ Q l := by
  unfold seqS at h
  split at h
  · obtain ⟨a, xs, e, s, d⟩ := dp_lst p; exact ⟨true, a, xs, _, e, s, d, h⟩
  · obtain ⟨a, xs, e, s, d⟩ := dp_tup p; exact ⟨false, a, xs, _, e, s, d, h⟩
  · exact h.elim
theorem ex_X {q : Bool} {K : PySem.W.Frag} {H H' : Hp} {a : Addr} {xs : List V} (e : Ex H H') (h : SqX q K H a xs) : SqX q K H' a xs := match q, h with
  | true, h => ex_l e h
  | false, h => ex_t e h
theorem walks_eX {K : PySem.W.Frag} {q : Bool} {a : Addr} {xs : List V} {l : List D} (s : SqX q K F a xs) (d : DpAll K F xs l) : Walks K (IteX q K a) (enumD 0 l) F := fun c' hK i F' H σ ρ I e => by
  subst hK
  have s' := ex_X I.fh (ex_X e s)
  have n := dps_len d
  refine ⟨fun x hx => ?_, fun h => ?_⟩
  · obtain ⟨y, hy, rfl⟩ := enum_get hx
    obtain ⟨v, hv, p⟩ := dps_get d hy
    refine ⟨⟨xs, v, s', hv⟩, fun z H' hz => ?_⟩
    obtain ⟨T, x', rfl, hT, rfl, hx'⟩ := hz
    have e2 := (hx' xs s').symm.trans hv
    cases e2
    rw [Nat.zero_add]
    exact new_pair I hT (.int _) (dp_mono e p)
  · rw [enum_len] at h
    exact ⟨xs, s', by omega⟩
theorem walks_zX {K : PySem.W.Frag} {q1 q2 : Bool} {a b : Addr} {xs ys : List V} {l m : List D} (s : SqX q1 K F a xs) (d : DpAll K F xs l) (s2 : SqX q2 K F b ys) (d2 : DpAll K F ys m) : Walks K (ItzX q1 q2 K a b) (zipD l m) F := fun c' hK i F' H σ ρ I e => by
  subst hK
  have s' := ex_X I.fh (ex_X e s)
  have s2' := ex_X I.fh (ex_X e s2)
  have n := dps_len d
  have n2 := dps_len d2
  refine ⟨fun x hx => ?_, fun h => ⟨xs, ys, s', s2', by rw [zip_len] at h; omega, by rw [zip_len] at h; omega, by rw [zip_len] at h; omega⟩⟩
  obtain ⟨x1, y1, h1, h2, rfl⟩ := zip_get hx
  obtain ⟨v, hv, p⟩ := dps_get d h1
  obtain ⟨v2, hv2, p2⟩ := dps_get d2 h2
  refine ⟨⟨xs, ys, v, v2, s', s2', hv, hv2⟩, fun z H' hz => ?_⟩
  obtain ⟨T, x', y', rfl, hT, rfl, hx', hy'⟩ := hz
  have e2 := (hx' xs s').symm.trans hv
  cases e2
  have e3 := (hy' ys s2').symm.trans hv2
  cases e3
  exact new_pair I hT (dp_mono e p) (dp_mono e p2)
def zip3D : List D → List D → List D → List D
  | x :: r, y :: s, z :: t => .tuple [x, y, z] :: zip3D r s t
  | _, _, _ => []
theorem zip3_get : ∀ {l m n : List D} {i : Nat} {d : D}, (zip3D l m n)[i]? = some d → ∃ x y z, l[i]? = some x ∧ m[i]? = some y ∧ n[i]? = some z ∧ d = .tuple [x, y, z]
  | [], _, _, _, _, h => by simp [zip3D] at h
  | _ :: _, [], _, _, _, h => by simp [zip3D] at h
  | _ :: _, _ :: _, [], _, _, h => by simp [zip3D] at h
  | x :: r, y :: s, z :: t, 0, d, h => by
    simp [zip3D] at h
    exact ⟨x, y, z, rfl, rfl, rfl, h.symm⟩
  | x :: r, y :: s, z :: t, i + 1, d, h => by
    obtain ⟨x', y', z', h1, h2, h3, h4⟩ := zip3_get (l := r) (m := s) (n := t) (i := i) (by simpa [zip3D] using h)
    exact ⟨x', y', z', by simpa using h1, by simpa using h2, by simpa using h3, h4⟩
theorem zip3_len : ∀ {l m n : List D}, (zip3D l m n).length = min l.length (min m.length n.length)
  | [], _, _ => by simp [zip3D]
  | _ :: _, [], _ => by simp [zip3D]
  | _ :: _, _ :: _, [] => by simp [zip3D]
  | _ :: r, _ :: s, _ :: t => by simp only [zip3D, List.length_cons, zip3_len (l := r) (m := s) (n := t)]; omega
theorem walks_z3 {K : PySem.W.Frag} {q1 q2 q3 : Bool} {a b b2 : Addr} {xs ys zs : List V} {l m n : List D} (s : SqX q1 K F a xs) (d : DpAll K F xs l) (s2 : SqX q2 K F b ys) (d2 : DpAll K F ys m) (s3 : SqX q3 K F b2 zs) (d3 : DpAll K F zs n) : Walks K (ItzX3 q1 q2 q3 K a b b2) (zip3D l m n) F := fun c' hK i F' H σ ρ I e => by
  subst hK
  have s' := ex_X I.fh (ex_X e s)
  have s2' := ex_X I.fh (ex_X e s2)
  have s3' := ex_X I.fh (ex_X e s3)
  have n1 := dps_len d
  have n2 := dps_len d2
  have n3 := dps_len d3
  refine ⟨fun x hx => ?_, fun h => ⟨xs, ys, zs, s', s2', s3', by rw [zip3_len] at h; omega, by rw [zip3_len] at h; omega, by rw [zip3_len] at h; omega, by rw [zip3_len] at h; omega⟩⟩
  obtain ⟨x1, y1, z1, h1, h2, h3, rfl⟩ := zip3_get hx
  obtain ⟨v, hv, p⟩ := dps_get d h1
  obtain ⟨v2, hv2, p2⟩ := dps_get d2 h2
  obtain ⟨v3, hv3, p3⟩ := dps_get d3 h3
  refine ⟨⟨xs, ys, zs, v, v2, v3, s', s2', s3', hv, hv2, hv3⟩, fun z H' hz => ?_⟩
  obtain ⟨T, x', y', z', rfl, hT, rfl, hx', hy', hz'⟩ := hz
  have e2 := (hx' xs s').symm.trans hv
  cases e2
  have e3 := (hy' ys s2').symm.trans hv2
  cases e3
  have e4 := (hz' zs s3').symm.trans hv3
  cases e4
  obtain ⟨I', g, sT⟩ := I.new (o := .tup [v, v2, v3]) hT
  exact ⟨_, I', g, .tup (.inl (.inl sT)) (.cons (dp_mono g.f (dp_mono e p)) (.cons (dp_mono g.f (dp_mono e p2)) (.cons (dp_mono g.f (dp_mono e p3)) .nil)))⟩
def diEnumX (wA : DA) : DI := fun ρ Q => wA ρ fun as ρ1 => agD as fun l => match l with
  | [x] => seqS x fun l => Q (enumD 0 l) ρ1
  | _ => False
def diZipX (wA : DA) : DI := fun ρ Q => wA ρ fun as ρ1 => agD as fun l => match l with
  | [x, y] => seqS x fun l => seqS y fun m => Q (zipD l m) ρ1
  | _ => False
def diZip3 (wA : DA) : DI := fun ρ Q => wA ρ fun as ρ1 => agD as fun l => match l with
  | [x, y, z] => seqS x fun l => seqS y fun m => seqS z fun n => Q (zip3D l m n) ρ1
  | _ => False
theorem di_enumx {p tpos : Pos} {elts : List Expr} {kk : Nat} (hm : X.mg "enumerate" = none) (ha : DAs c X [e] wA) (hk : X.K = c.K := by rfl) (hg : Gl X "enumerate" := by rfl) (hs : starEach [e] X.env = [(false, eval e X.env)] := by rfl) : DIt c X (.Tuple elts kk tpos) (.Call (.Name "enumerate" p) [e] [] pos) (diEnumX wA) := pito (pi_enumX hg hm ha hs) fun σ H R ⟨F, ρ, Ql, I, h, k⟩ => by
  refine ⟨F, ρ, _, I, h, fun as ρ1 vs F1 H1 q1 I1 g1 p1 => ?_⟩
  obtain ⟨l, p2, q2⟩ := agD_go p1 q1
  rw [hk]
  split at q2
  · cases p2 with | cons a1 p2 => ?_
    cases p2
    obtain ⟨q, a, xs, l, rfl, s, d, q3⟩ := seqS_go q2 a1
    exact ⟨q, a, xs, rfl, ex_X I1.fh s, k _ ρ1 _ F1 H1 q3 I1 g1 (walks_eX s d)⟩
  · exact q2.elim
theorem di_zipx {p tpos : Pos} {elts : List Expr} {kk : Nat} (hm : X.mg "zip" = none) (ha : DAs c X [a, b] wA) (hk : X.K = c.K := by rfl) (hg : Gl X "zip" := by rfl)
    (hs : starEach [a, b] X.env = (false, eval a X.env) :: starEach [b] X.env := by rfl) (hpl : (backTo pos (starEach [b] X.env)).any (·.1) = false := by rfl) : DIt c X (.Tuple elts kk tpos) (.Call (.Name "zip" p) [a, b] [] pos) (diZipX wA) := pito (pi_zipX hg hm ha hs hpl) fun σ H R ⟨F, ρ, Ql, I, h, k⟩ => by
  refine ⟨F, ρ, _, I, h, fun as ρ1 vs F1 H1 q1 I1 g1 p1 => ?_⟩
  obtain ⟨l, p2, q2⟩ := agD_go p1 q1
  rw [hk]
  split at q2
  · cases p2 with | cons a1 p2 => ?_
    cases p2 with | cons a2 p2 => ?_
    cases p2
    obtain ⟨q, a, xs, l, rfl, s, d, q3⟩ := seqS_go q2 a1
    obtain ⟨q', a', xs', m, rfl, s', d', q4⟩ := seqS_go q3 a2
    exact ⟨q, q', a, a', xs, xs', rfl, ex_X I1.fh s, ex_X I1.fh s', k _ ρ1 _ F1 H1 q4 I1 g1 (walks_zX s d s' d')⟩
  · exact q2.elim
theorem di_zip3 {b2 : Expr} {p tpos : Pos} {elts : List Expr} {kk : Nat} (hm : X.mg "zip" = none) (ha : DAs c X [a, b, b2] wA) (hk : X.K = c.K := by rfl) (hg : Gl X "zip" := by rfl)
    (hs : starEach [a, b, b2] X.env = (false, eval a X.env) :: starEach [b, b2] X.env := by rfl) (hpl : (backTo pos (starEach [b, b2] X.env)).any (·.1) = false := by rfl) : DIt c X (.Tuple elts kk tpos) (.Call (.Name "zip" p) [a, b, b2] [] pos) (diZip3 wA) := pito (pi_zipX3 hg hm ha hs hpl) fun σ H R ⟨F, ρ, Ql, I, h, k⟩ => by
  refine ⟨F, ρ, _, I, h, fun as ρ1 vs F1 H1 q1 I1 g1 p1 => ?_⟩
  obtain ⟨l, p2, q2⟩ := agD_go p1 q1
  rw [hk]
  split at q2
  · cases p2 with | cons a1 p2 => ?_
    cases p2 with | cons a2 p2 => ?_
    cases p2 with | cons a3 p2 => ?_
    cases p2
    obtain ⟨q, a, xs, l, rfl, s, d, q3⟩ := seqS_go q2 a1
    obtain ⟨q', a', xs', m, rfl, s', d', q4⟩ := seqS_go q3 a2
    obtain ⟨q'', a'', xs'', n, rfl, s'', d'', q5⟩ := seqS_go q4 a3
    exact ⟨q, q', q'', a, a', a'', xs, xs', xs'', rfl, ex_X I1.fh s, ex_X I1.fh s', ex_X I1.fh s'', k _ ρ1 _ F1 H1 q5 I1 g1 (walks_z3 s d s' d' s'' d'')⟩
  · exact q2.elim
end
end DL

namespace DL
open PySem PySem.Spec PyProof.Rows L2
section
variable {c : Cc} {X : Cx}
/-! ### in, for items of any depth -/
def negB (neg b : Bool) : Bool := if neg then !b else b
/-- among the items of a list of data -/
def fInD (neg : Bool) : F2 := fun x y Q => match y with
  | .list l => SeqAt.shaped x = true ∧ SeqAt.shaped (.list l) = true ∧ Q (.val (.bool (negB neg (l.any fun z => PyData.eqv z x))))
  | _ => False
def fInX (neg : Bool) : F2 := fun x y Q => fIn neg x y Q ∨ fInD neg x y Q
theorem opr_or {m : Value → Value → Sem Value} {r r' : R2} (h : OpR X m r) (h' : OpR X m r') : OpR X m (fun x y H Q => r x y H Q ∨ r' x y H Q) := fun pins s σ H x y v u Q I rx ry q => q.elim (h pins s σ H x y v u Q I rx ry) (h' pins s σ H x y v u Q I rx ry)
theorem ops_or {r r' : R2} {f f' : F2} (h : OpS c r f) (h' : OpS c r' f') : OpS c (fun x y H Q => r x y H Q ∨ r' x y H Q) (fun x y Q => f x y Q ∨ f' x y Q) := by
  intro F H σ ρ v1 v2 x y Qd Q I p1 p2 q k
  rcases q with q | q
  · exact .inl (h F H σ ρ v1 v2 x y Qd Q I p1 p2 q k)
  · exact .inr (h' F H σ ρ v1 v2 x y Qd Q I p1 p2 q k)
theorem ops_inD : OpS c (rInD c.K) (fInD false) := by
  intro F H σ ρ v1 v2 x y Qd Q I p1 p2 q k
  unfold fInD at q
  split at q
  · exact ⟨_, _, dp_mono I.fh p1, dp_mono I.fh p2, q.1, q.2.1, k _ _ F H q.2.2 I (Go.refl) (.bl _)⟩
  · exact q.elim
theorem ops_notInD : OpS c (rNotInD c.K) (fInD true) := by
  intro F H σ ρ v1 v2 x y Qd Q I p1 p2 q k
  unfold fInD at q
  split at q
  · exact ⟨_, _, dp_mono I.fh p1, dp_mono I.fh p2, q.1, q.2.1, k _ _ F H q.2.2 I (Go.refl) (.bl _)⟩
  · exact q.elim
theorem cs_inX {k : Nat} (hr : Room k X.A) (hk : X.K = c.K := by rfl) : CmpS c X .In (fInX false) := ⟨_, opr_or (hk ▸ op_in_seq) (hk ▸ op_inD (by have := hr.un; omega)), ops_or ops_in ops_inD⟩
theorem cs_notinX {k : Nat} (hr : Room k X.A) (hk : X.K = c.K := by rfl) : CmpS c X .NotIn (fInX true) := ⟨_, opr_or (hk ▸ op_notIn_seq) (hk ▸ op_notInD (by have := hr.un; omega)), ops_or ops_in ops_notInD⟩
end
end DL

namespace DL
open PySem PySem.Spec PyProof.Rows L2
open Evl (Ex ex_l ex_t)
section
variable {c : Cc} {X : Cx} {F F' H H' : Hp} {σ σ' : L2.St} {ρ ρ' : En} {v : V} {r : Sl} {e : Expr} {w : DT}
/-! ### reading lists of one's own on the way to a new list of flat things -/
def flatL : Sl → Bool
  | .val d => flatD d
  | .mu true (.lst l) => l.all flatD
  | _ => false
def isMu : Sl → Bool
  | .mu _ _ => true
  | _ => false
/-- what may change may still change -/
def muKeep : En → En → Prop
  | x :: l, y :: m => (x = y ∨ isMu y = true ∨ isMu x = false) ∧ muKeep l m
  | [], [] => True
  | _, _ => False
theorem muKeep_get : ∀ {l m : En} {i : Nat} {b : Bool} {t : Ct}, muKeep l m → l[i]? = some (.mu b t) → ∃ b t, m[i]? = some (.mu b t)
  | [], _, i, b, t, _, h => by simp at h
  | x :: l, [], i, b, t, k, h => k.elim
  | x :: l, y :: m, 0, b, t, k, h => by
    simp only [List.getElem?_cons_zero, Option.some.injEq] at h
    subst h
    rcases k.1 with rfl | h2 | h2
    · exact ⟨b, t, rfl⟩
    · cases y with
      | mu b t => exact ⟨b, t, rfl⟩
      | _ => cases h2
    · cases h2
  | x :: l, y :: m, i + 1, b, t, k, h => by
    simp only [List.getElem?_cons_succ] at h ⊢
    exact muKeep_get k.2 h
def dBorL (is : List Nat) (w : DT) : DT := fun ρ Q => w (frzAt ρ is) fun r ρ' => flatL r = true ∧ muKeep (frzAt ρ is) ρ' ∧ Q r ρ
theorem flats_dp {K : PySem.W.Frag} : ∀ {vs : List V} {l : List D}, DpAll K F' vs l → l.all flatD = true → DpAll K F vs l
  | _, _, .nil, _ => .nil
  | _, _, .cons a t, g => by
    rw [List.all_cons, Bool.and_eq_true] at g
    refine .cons ?_ (flats_dp t g.2)
    have g1 := g.1
    cases a <;> first | (constructor; done) | cases g1
theorem frz_get (ρ : En) (is : List Nat) (i : Nat) : (frzAt ρ is)[i]? = ρ[i]? ∨ (frzAt ρ is)[i]? = (ρ[i]?).map frz := by
  induction is with
  | nil => exact .inl rfl
  | cons j is ih =>
    unfold frzAt
    by_cases e : j = i
    · subst e
      rw [List.getElem?_set_self']
      have f2 : ∀ s, frz (frz s) = frz s := fun s => by
        cases s with
        | mu b t => cases b <;> cases t <;> rfl
        | _ => rfl
      cases q : ρ[j]? with
      | none =>
        rw [q] at ih
        rcases ih with ih | ih <;> rw [ih] <;> exact .inl rfl
      | some s =>
        rw [q] at ih
        rcases ih with ih | ih <;> rw [ih] <;> refine .inr ?_
        · rfl
        · show some (frz (frz s)) = some (frz s)
          rw [f2]
    · rw [List.getElem?_set_ne e]
      exact ih
theorem Ok.freeze2 (I : Ok c F H σ ρ) {l : List D} (h : RepR c σ ρ F H v (.mu true (.lst l))) : ∃ F', Ok c F' H σ ρ ∧ Go c F H F' H ∧ Dp c.K F' v (.list l) ∧ ∀ p, v = .ref p → F' p ≠ none := by
  obtain ⟨_, p, o, rfl, gp, fp, hp, ct, ap⟩ := h
  cases o with
  | lst vs =>
    have eF : Ex F (upd F p (.lst vs)) := Evl.Ex.new fp
    refine ⟨upd F p (.lst vs), ⟨I.mg, fun a u h => eF a u (I.f0 a u h), fun a u h => ?_, I.old, I.mem, fun a g f => ?_, I.len, fun i d h => ?_, fun i b t h => ?_, I.dis⟩, ⟨eF, fun _ => Evl.Ex.refl H⟩, .lst (.inl (.inl upd_same)) (dps_mono eF ct), fun q hq => ?_⟩
    · by_cases e : a = p
      · subst e; rw [upd_same] at h; rw [← h]; exact hp
      · rw [upd_ne e] at h; exact I.fh a u h
    · have ha : a ≠ p := fun e => by subst e; exact g gp
      rw [upd_ne ha]; exact I.oldF a g f
    · obtain ⟨v, h1, h2⟩ := I.val i d h
      exact ⟨v, h1, dp_mono eF h2⟩
    · obtain ⟨q, u, h1, h2, h3, h4, h5⟩ := I.mu i b t h
      have hq : q ≠ p := fun e => by subst e; exact ap i b t h h1
      exact ⟨q, u, h1, by rw [upd_ne hq]; exact h2, h3, ctOk_mono eF h4, h5⟩
    · injection hq with hq
      subst hq
      rw [upd_same]
      exact fun z => nomatch z
  | _ => cases ct
theorem set_self {i : Nat} {s : Sl} (q : ρ[i]? = some s) : ρ.set i s = ρ := by
  rw [List.set_eq_take_append_cons_drop]
  have := lt_len q
  rw [if_pos this]
  have h2 : ρ[i] = s := by
    have := List.getElem?_eq_getElem this
    rw [q] at this
    exact (Option.some.inj this).symm
  rw [← h2]
  simp
theorem Ok.frz1' (I : Ok c F H σ ρ) (i : Nat) : ∃ F', Ok c F' H σ (ρ.set i (frz (ρ[i]?.getD .no))) ∧ Ex F F' ∧ ∀ (l : List D) (p : Addr), ρ[i]? = some (.mu true (.lst l)) → σ[i]? = some (some (.ref p)) → F' p ≠ none := by
  by_cases hx : ∃ l, ρ[i]? = some (.mu true (.lst l))
  · obtain ⟨l, q⟩ := hx
    rw [q, Option.getD_some]
    obtain ⟨p, h1, I', h2⟩ := I.take q
    obtain ⟨F', I2, e2, h3, h4⟩ := I'.freeze2 h2
    have I3 := I2.putVal (i := i) h1 h3
    rw [List.set_set] at I3
    refine ⟨F', I3, e2.f, fun l' p' _ hp => ?_⟩
    rw [h1] at hp
    injection hp with hp; injection hp with hp; injection hp with hp
    subst hp
    exact h4 _ rfl
  · obtain ⟨F', I', e'⟩ := I.frz1 i
    exact ⟨F', I', e', fun l p h => absurd ⟨l, h⟩ hx⟩
theorem frz_mu {ρ : En} {is : List Nat} {i : Nat} {l : List D} (h : ρ[i]? = some (.mu true (.lst l))) : (frzAt ρ is)[i]? = some (.mu true (.lst l)) ∨ (frzAt ρ is)[i]? = some (.val (.list l)) := by
  rcases frz_get ρ is i with z | z
  · rw [h] at z; exact .inl z
  · rw [h] at z; exact .inr z
theorem Ok.frzAt' (I : Ok c F H σ ρ) : ∀ is : List Nat, ∃ F', Ok c F' H σ (DL.frzAt ρ is) ∧ Ex F F' ∧ ∀ (i : Nat) (l : List D) (p : Addr), ρ[i]? = some (.mu true (.lst l)) → (DL.frzAt ρ is)[i]? = some (.val (.list l)) → σ[i]? = some (some (.ref p)) → F' p ≠ none
  | [] => ⟨F, I, Evl.Ex.refl F, fun i l p h1 h2 => by
    have h2 : ρ[i]? = some (.val (.list l)) := h2
    rw [h1] at h2; cases h2⟩
  | i :: is => by
    obtain ⟨F1, I1, e1, k1⟩ := I.frzAt' is
    obtain ⟨F2, I2, e2, k2⟩ := I1.frz1' i
    refine ⟨F2, I2, e1.trans e2, fun j l p h1 h2 h3 => ?_⟩
    rcases frz_mu (is := is) h1 with z | z
    · by_cases e : i = j
      · subst e
        exact k2 l p z h3
      · have h2 : ((DL.frzAt ρ is).set i (frz ((DL.frzAt ρ is)[i]?.getD .no)))[j]? = _ := h2
        rw [List.getElem?_set_ne e, z] at h2
        cases h2
    · have := k1 j l p h1 z h3
      cases q : F1 p with
      | none => exact absurd q this
      | some u => rw [e2 p u q]; exact fun z => nomatch z
theorem de_borL (is : List Nat) (h : DE c.still X e w) : DE c X e (dBorL is w) := peto h fun σ H Q ⟨F, ρ, Qd, I, h, k⟩ => by
  obtain ⟨F1, I1, e1, kf⟩ := I.frzAt' is
  refine ⟨F1, _, _, I1.still, h, fun r ρ' v F' H' q I' g p => ?_⟩
  obtain ⟨q1, q2, q3⟩ := q
  have eh : Ex H H' := g.h rfl
  have I2 : Ok c F H' σ ρ := I.hm (I.fh.trans eh) eh
  refine k r ρ v F H' q3 I2 ⟨Evl.Ex.refl F, fun _ => eh⟩ ?_
  cases r with
  | no => cases q1
  | val d => exact flat_rep (c := c) (σ := σ) (ρ := ρ') (H := H') (F := F') p q1
  | mu b t =>
    cases b with
    | false => cases q1
    | true =>
      cases t with
      | dct _ => cases q1
      | lst l =>
        obtain ⟨_, a, o, rfl, ga, fa, ha, ct, ap⟩ := p
        have fa0 : F a = none := by
          cases z : F a with
          | none => rfl
          | some u => rw [g.f a u (e1 a u z)] at fa; cases fa
        refine ⟨rfl, a, o, rfl, ga, fa0, ha, ?_, fun i b t hi hs => ?_⟩
        · cases o with
          | lst vs => exact flats_dp ct q1
          | _ => cases ct
        · rcases frz_get ρ is i with z | z
          · rw [hi] at z
            obtain ⟨b2, t2, h2⟩ := muKeep_get q2 z
            exact ap i b2 t2 h2 hs
          · rw [hi] at z
            cases b with
            | false =>
              obtain ⟨b2, t2, h2⟩ := muKeep_get q2 z
              exact ap i b2 t2 h2 hs
            | true =>
              cases t with
              | dct _ =>
                obtain ⟨b2, t2, h2⟩ := muKeep_get q2 z
                exact ap i b2 t2 h2 hs
              | lst l2 =>
                have := kf i l2 a hi z hs
                cases q : F1 a with
                | none => exact absurd q this
                | some u => rw [g.f a u q] at fa; cases fa
end
end DL

namespace DL
open PySem PySem.Spec PyProof.Rows L2
open Evl (Ex ex_l ex_t)
section
variable {c : Cc} {X : Cx} {F F' H H' : Hp} {σ σ' : L2.St} {ρ ρ' : En} {v : V} {r : Sl} {e a b : Expr} {w : DT} {es : List Expr} {pos : Pos}
/-! ### several results at once, each of which may be a list of one's own -/
def RepsR (c : Cc) (σ : L2.St) (ρ : En) (F H : Hp) : List V → List Sl → Prop
  | [], [] => True
  | v :: vs, r :: rs => RepR c σ ρ F H v r ∧ (∀ p, isMu r = true → v = .ref p → ∀ (j : Nat) r2, rs[j]? = some r2 → isMu r2 = true → vs[j]? ≠ some (.ref p)) ∧ RepsR c σ ρ F H vs rs
  | _, _ => False
abbrev DA2 := En → (List Sl → En → Prop) → Prop
def liftA2 (c : Cc) (w : DA2) : TA := fun σ H Q => ∃ F ρ Qd, Ok c F H σ ρ ∧ w ρ Qd ∧ ∀ rs ρ' vs F' H', Qd rs ρ' → Ok c F' H' σ ρ' → Go c F H F' H' → RepsR c σ ρ' F' H' vs rs → Q vs H'
abbrev DAs2 (c : Cc) (X : Cx) (es : List Expr) (w : DA2) : Prop := PA X es (liftA2 c w)
def dbNil : DA2 := fun ρ Q => Q [] ρ
def dbCons (w : DT) (wA : DA2) : DA2 := fun ρ Q => w ρ fun r ρ1 => wA ρ1 fun rs ρ2 => Q (r :: rs) ρ2
theorem db_nil : DAs2 c X [] dbNil := pato pa_nil fun σ H Q ⟨F, ρ, Qd, I, h, k⟩ => k [] ρ [] F H h I Go.refl trivial
def anyA (c : Cc) (w : DA2) : TA := fun σ H Q => liftA2 c w σ H Q ∨ ∃ p o, liftA2 (c.keep p o) w σ H Q
theorem pa_any {w : DA2} (h0 : DAs2 c X es w) (h : ∀ p o, DAs2 (c.keep p o) X es w) : PA X es (anyA c w) := ⟨fun pos pins s σ H Q I q => q.elim (fun q => h0.run pos pins s σ H Q I q) fun ⟨p, o, q⟩ => (h p o).run pos pins s σ H Q I q⟩
theorem reps_mono {p : Addr} {o : HO} : ∀ {vs : List V} {rs : List Sl}, RepsR (c.keep p o) σ ρ F H vs rs → RepsR c σ ρ F H vs rs ∧ ∀ (j : Nat) r2, rs[j]? = some r2 → isMu r2 = true → vs[j]? ≠ some (.ref p)
  | [], [], _ => ⟨trivial, fun j r2 h => by simp at h⟩
  | [], _ :: _, h => h.elim
  | _ :: _, [], h => h.elim
  | v :: vs, r :: rs, ⟨h1, h2, h3⟩ => by
    obtain ⟨i1, i2⟩ := reps_mono h3
    have key : RepR c σ ρ F H v r ∧ (isMu r = true → v ≠ .ref p) := by
      cases r with
      | no => exact h1.elim
      | val d => exact ⟨h1, fun z => nomatch z⟩
      | mu b t =>
        obtain ⟨e, q, o', rfl, gq, fq, hq, ct, ap⟩ := h1
        have hne : q ≠ p := fun z => by
          subst z
          have : upd c.G q o q = none := gq
          rw [upd_same] at this
          cases this
        have gq2 : c.G q = none := by
          have : upd c.G p o q = none := gq
          rw [upd_ne hne] at this
          exact this
        exact ⟨⟨e, q, o', rfl, gq2, fq, hq, ct, ap⟩, fun _ z => by injection z with z; exact hne z⟩
    refine ⟨⟨key.1, h2, i1⟩, fun j r2 hj hm => ?_⟩
    cases j with
    | zero =>
      simp only [List.getElem?_cons_zero, Option.some.injEq] at hj ⊢
      subst hj
      exact fun z => key.2 hm (Option.some.inj z)
    | succ j => exact i2 j r2 hj hm
theorem db_cons {wA : DA2} (ha : DE c X e w) (hs0 : DAs2 c X es wA) (hs : ∀ p o, DAs2 (c.keep p o) X es wA) (hp : starEach (e :: es) X.env = (false, eval e X.env) :: starEach es X.env := by rfl) : DAs2 c X (e :: es) (dbCons w wA) := pato (pa_cons ha (pa_any hs0 hs) hp) fun σ H Q ⟨F, ρ, Qd, I, h, k⟩ => by
  refine ⟨F, ρ, _, I, h, fun r ρ1 v F1 H1 q1 I1 g1 p1 => ?_⟩
  cases r with
  | no => exact p1.elim
  | val d =>
    refine .inl ⟨F1, ρ1, _, I1, q1, fun rs ρ2 vs F2 H2 q2 I2 g2 p2 => k _ ρ2 _ F2 H2 q2 I2 (g1.trans g2) ⟨dp_mono g2.f p1, (fun p z => by cases z), p2⟩⟩
  | mu b t =>
    obtain ⟨e, p, o, rfl, gp, fp, hp, ct, ap⟩ := p1
    have mp : p ∉ c.M := fun z => I1.mg p z gp
    have f0 : c.F0 p = none := by
      cases z : c.F0 p with
      | none => rfl
      | some u => rw [I1.f0 _ _ z] at fp; cases fp
    have K1 := I1.keep hp fp ap
    refine .inr ⟨p, o, F1, ρ1, _, K1, q1, fun rs ρ2 vs F2 H2 q2 K2 g2 p2 => ?_⟩
    obtain ⟨I2, h2, f2, a2⟩ := K2.unkeep gp mp f0
    obtain ⟨p3, d3⟩ := reps_mono p2
    have g2' : Go c F1 H1 F2 H2 := ⟨g2.f, g2.h⟩
    refine k _ ρ2 _ F2 H2 q2 I2 (g1.trans g2') ⟨⟨e, p, o, rfl, gp, f2, h2, ctOk_mono g2.f ct, a2⟩, fun p' _ z => ?_, p3⟩
    injection z with z
    subst z
    exact d3
theorem repR_set (h : RepR c σ ρ F H v r) {u : V} {s : Sl} {i : Nat} (hd : ∀ p, isMu s = true → u = .ref p → isMu r = true → v ≠ .ref p) : RepR c (σ.set i (some u)) (ρ.set i s) F H v r := by
  cases r with
  | no => exact h
  | val d => exact h
  | mu b t =>
    obtain ⟨e, q, o, rfl, gq, fq, hq, ct, ap⟩ := h
    refine ⟨e, q, o, rfl, gq, fq, hq, ct, fun j b2 t2 hj hs => ?_⟩
    by_cases ij : i = j
    · subst ij
      have hl := lt_len hj
      rw [List.length_set] at hl
      rw [List.getElem?_set_self hl] at hj
      injection hj with hj
      subst hj
      have hl2 := lt_len hs
      rw [List.length_set] at hl2
      rw [List.getElem?_set_self hl2] at hs
      injection hs with hs; injection hs with hs
      exact hd q rfl hs rfl rfl
    · rw [List.getElem?_set_ne ij] at hj hs
      exact ap j b2 t2 hj hs
theorem Ok.setRs (I : Ok c F H σ ρ) : ∀ {vs : List V} {rs : List Sl} (is : List Nat), RepsR c σ ρ F H vs rs → Ok c F H ((is.zip vs).foldl (fun σ z => σ.set z.1 (some z.2)) σ) ((is.zip rs).foldl (fun ρ z => ρ.set z.1 z.2) ρ) := by
  intro vs
  induction vs generalizing σ ρ with
  | nil =>
    intro rs is h
    cases rs with
    | nil => cases is <;> exact I
    | cons _ _ => exact h.elim
  | cons v vs ih =>
    intro rs is h
    cases rs with
    | nil => exact h.elim
    | cons r rs =>
      cases is with
      | nil => exact I
      | cons i is =>
        obtain ⟨h1, h2, h3⟩ := h
        refine ih (I.setR h1 i) is ?_
        have step : ∀ {vs : List V} {rs : List Sl}, RepsR c σ ρ F H vs rs → (∀ p, isMu r = true → v = .ref p → ∀ (j : Nat) r2, rs[j]? = some r2 → isMu r2 = true → vs[j]? ≠ some (.ref p)) → RepsR c (σ.set i (some v)) (ρ.set i r) F H vs rs := by
          intro vs
          induction vs with
          | nil =>
            intro rs h _
            cases rs with
            | nil => trivial
            | cons _ _ => exact h.elim
          | cons w vs ih2 =>
            intro rs h hd
            cases rs with
            | nil => exact h.elim
            | cons s rs =>
              obtain ⟨k1, k2, k3⟩ := h
              refine ⟨repR_set k1 fun p hm hv hm2 hw => hd p hm hv 0 s rfl hm2 (by rw [hw]; rfl), k2, ih2 k3 fun p hm hv j r2 hj => hd p hm hv (j + 1) r2 hj⟩
        exact step h3 h2
/-- a, b = e1, e2 -/
def dParX (is : List Nat) (wA : DA2) : DS := fun E ρ => wA ρ fun rs ρ1 => rs.length = is.length ∧ E.nx ((is.zip rs).foldl (fun ρ z => ρ.set z.1 z.2) ρ1)
theorem reps_len : ∀ {vs : List V} {rs : List Sl}, RepsR c σ ρ F H vs rs → vs.length = rs.length
  | [], [], _ => rfl
  | [], _ :: _, h => h.elim
  | _ :: _, [], h => h.elim
  | _ :: _, _ :: _, h => congrArg (· + 1) (reps_len h.2.2)
theorem dst_parX {i j : Nat} {x y : Str} {px py pt : Pos} {kt k2 pt2} {wA : DA2} (hN : X.N.Nodup) (ha : DAs2 c X [a, b] wA) (hc : X.calm = true := by rfl) (hi : X.N[i]? = some x := by rfl) (hj : X.N[j]? = some y := by rfl) (hij : i ≠ j := by decide)
    (hx : X.env.scope.names.lookup x = some .local := by rfl) (hy : X.env.scope.names.lookup y = some .local := by rfl)
    (hw : swappedStores [.Tuple [.Name x px, .Name y py] kt pt] (.Tuple [a, b] k2 pt2) X.env = pure (some [x, y]) := by rfl)
    (hs : swapsWithSole [.Tuple [.Name x px, .Name y py] kt pt] (.Tuple [a, b] k2 pt2) pos.line X.env = pure false := by rfl) :
    DSt c X (.Assign [.Tuple [.Name x px, .Name y py] kt pt] (.Tuple [a, b] k2 pt2) pos) (dParX [i, j] wA) := psto (ps_par hc hN hi hj hij hx hy ha hw hs) fun D σ H ⟨F, ρ, E, I, k, h⟩ => by
  refine ⟨F, ρ, _, I, h, fun rs ρ1 vs F1 H1 q I1 g p => ?_⟩
  have hl := reps_len p
  obtain ⟨q1, q2⟩ := q
  rw [q1] at hl
  match vs, hl with
  | [u, w], _ => exact ⟨u, w, rfl, k.nx _ F1 H1 _ (I1.setRs [i, j] p) g.f q2⟩
theorem dst_par3X {i j l : Nat} {x y z : Str} {a b d : Expr} {px py pz pt : Pos} {kt k2 pt2} {wA : DA2} (hN : X.N.Nodup) (ha : DAs2 c X [a, b, d] wA) (hc : X.calm = true := by rfl) (hi : X.N[i]? = some x := by rfl) (hj : X.N[j]? = some y := by rfl) (hl : X.N[l]? = some z := by rfl) (hij : i ≠ j := by decide) (hil : i ≠ l := by decide) (hjl : j ≠ l := by decide)
    (hx : X.env.scope.names.lookup x = some .local := by rfl) (hy : X.env.scope.names.lookup y = some .local := by rfl) (hz : X.env.scope.names.lookup z = some .local := by rfl)
    (hw : swappedStores [.Tuple [.Name x px, .Name y py, .Name z pz] kt pt] (.Tuple [a, b, d] k2 pt2) X.env = pure (some [x, y, z]) := by rfl)
    (hs : swapsWithSole [.Tuple [.Name x px, .Name y py, .Name z pz] kt pt] (.Tuple [a, b, d] k2 pt2) pos.line X.env = pure false := by rfl) :
    DSt c X (.Assign [.Tuple [.Name x px, .Name y py, .Name z pz] kt pt] (.Tuple [a, b, d] k2 pt2) pos) (dParX [i, j, l] wA) := psto (ps_par3 hc hN hi hj hl hij hil hjl hx hy hz ha hw hs) fun D σ H ⟨F, ρ, E, I, k, h⟩ => by
  refine ⟨F, ρ, _, I, h, fun rs ρ1 vs F1 H1 q I1 g p => ?_⟩
  have hl := reps_len p
  obtain ⟨q1, q2⟩ := q
  rw [q1] at hl
  match vs, hl with
  | [u, w, t], _ => exact ⟨u, w, t, rfl, k.nx _ F1 H1 _ (I1.setRs [i, j, l] p) g.f q2⟩
/-! ### int(i), max, min, sorted of ints -/
def fInt : FA := fun l Q => match l with
  | [.int i] => Q (.val (.int i))
  | [.bool k] => Q (.val (.int (if k then 1 else 0)))
  | _ => False
theorem fInt_i {i : Int} {Q : Sl → Prop} : fInt [.int i] Q = Q (.val (.int i)) := rfl
theorem cb_int : CbS c X (.type "int") fInt := ⟨_, call_int1, fun F H σ ρ vs l Qd Q I p q k => by
  unfold fInt at q
  split at q
  · cases p with | cons a p => ?_
    cases p
    cases a
    exact .inl ⟨_, rfl, k _ _ F H q I Go.refl (.int _)⟩
  · cases p with | cons a p => ?_
    cases p
    cases a
    exact .inr ⟨_, rfl, k _ _ F H q I Go.refl (.int _)⟩
  · exact q.elim⟩
/-- of a list of ints -/
def fMax1 : FA := fun l Q => match l with
  | [.list xs] => ∃ ns : List Int, xs = ns.map PyData.int ∧ 0 < ns.length ∧ ∀ m, m ∈ ns → (∀ y ∈ ns, y ≤ m) → Q (.val (.int m))
  | _ => False
def fMin1 : FA := fun l Q => match l with
  | [.list xs] => ∃ ns : List Int, xs = ns.map PyData.int ∧ 0 < ns.length ∧ ∀ m, m ∈ ns → (∀ y ∈ ns, m ≤ y) → Q (.val (.int m))
  | _ => False
def fSorted : FA := fun l Q => match l with
  | [.list xs] => ∃ ns : List Int, xs = ns.map PyData.int ∧ ∀ ns' : List Int, ns'.Perm ns → ns'.Pairwise (· ≤ ·) → Q (.mu true (.lst (ns'.map PyData.int)))
  | _ => False
theorem cb_max1 (hc : X.calm = true := by rfl) (hk : X.K = c.K := by rfl) : CbS c X (.builtin "max") fMax1 := ⟨_, hk ▸ cr_max hc, fun F H σ ρ vs l Qd Q I p q k => by
  unfold fMax1 at q
  split at q
  · obtain ⟨ns, rfl, q1, q2⟩ := q
    cases p with | cons a p => ?_
    cases p
    obtain ⟨b, xs, rfl, s, d⟩ := dp_lst a
    have e := dps_ints d
    subst e
    exact ⟨b, ns, rfl, ex_l I.fh s, q1, fun m hm hy => k _ _ F H (q2 m hm hy) I Go.refl (.int _)⟩
  · exact q.elim⟩
theorem cb_min1 (hc : X.calm = true := by rfl) (hk : X.K = c.K := by rfl) : CbS c X (.builtin "min") fMin1 := ⟨_, hk ▸ cr_min hc, fun F H σ ρ vs l Qd Q I p q k => by
  unfold fMin1 at q
  split at q
  · obtain ⟨ns, rfl, q1, q2⟩ := q
    cases p with | cons a p => ?_
    cases p
    obtain ⟨b, xs, rfl, s, d⟩ := dp_lst a
    have e := dps_ints d
    subst e
    exact ⟨b, ns, rfl, ex_l I.fh s, q1, fun m hm hy => k _ _ F H (q2 m hm hy) I Go.refl (.int _)⟩
  · exact q.elim⟩
theorem dps_intsV {K : PySem.W.Frag} : ∀ ns : List Int, DpAll K H (ns.map V.int) (ns.map PyData.int)
  | [] => .nil
  | _ :: ns => .cons (.int _) (dps_intsV ns)
theorem cb_sorted (hk : X.K = c.K := by rfl) : CbS c X (.builtin "sorted") fSorted := ⟨_, hk ▸ cr_sortedI, fun F H σ ρ vs l Qd Q I p q k => by
  unfold fSorted at q
  split at q
  · obtain ⟨ns, rfl, q2⟩ := q
    cases p with | cons a p => ?_
    cases p
    obtain ⟨b, xs, rfl, s, d⟩ := dp_lst a
    have e := dps_ints d
    subst e
    exact ⟨b, ns, rfl, ex_l I.fh s, fun ns' p hp hs hn => new_lst I (dps_intsV ns') (q2 ns' hp hs) (fun z v F' H' hz I' e' p' => k z v F' H' hz I' e' p') p hn⟩
  · exact q.elim⟩
theorem dParX_2 {i j : Nat} {w1 w2 : DT} {E : De} : dParX [i, j] (dbCons w1 (dbCons w2 dbNil)) E ρ = (w1 ρ fun r1 ρ1 => w2 ρ1 fun r2 ρ2 => E.nx ((ρ2.set i r1).set j r2)) := by
  show (w1 ρ fun r1 ρ1 => w2 ρ1 fun r2 ρ2 => [r1, r2].length = [i, j].length ∧ E.nx ((ρ2.set i r1).set j r2)) = _
  simp only [List.length_cons, List.length_nil, true_and]
theorem dParX_3 {i j l : Nat} {w1 w2 w3 : DT} {E : De} : dParX [i, j, l] (dbCons w1 (dbCons w2 (dbCons w3 dbNil))) E ρ = (w1 ρ fun r1 ρ1 => w2 ρ1 fun r2 ρ2 => w3 ρ2 fun r3 ρ3 => E.nx (((ρ3.set i r1).set j r2).set l r3)) := by
  show (w1 ρ fun r1 ρ1 => w2 ρ1 fun r2 ρ2 => w3 ρ2 fun r3 ρ3 => [r1, r2, r3].length = [i, j, l].length ∧ E.nx (((ρ3.set i r1).set j r2).set l r3)) = _
  simp only [List.length_cons, List.length_nil, true_and]
/-- x = e, kept as a datum -/
def dSetV (i : Nat) (w : DT) : DS := fun E ρ => w ρ fun r ρ1 => dF r fun d => E.nx (ρ1.set i (.val d))
theorem setV_lift {i : Nat} (D : Ends) (σ : L2.St) (H : Hp) (h : liftS c (dSetV i w) D σ H) : tAsg (lift c w) (gName i) D σ H := by
  obtain ⟨F, ρ, E, I, k, h⟩ := h
  refine ⟨F, ρ, _, I, h, fun r ρ1 v F1 H1 q I1 g p => ?_⟩
  obtain ⟨F2, d, I2, g2, p2, q2⟩ := dF_go I1 q p
  exact k.nx _ F2 H1 _ (I2.setVal p2 i) (g.f.trans g2.f) q2
theorem dst_setV {i : Nat} {x : Str} {pos' : Pos} (hN : X.N.Nodup) (he : DE c X e w) (hi : X.N[i]? = some x := by rfl) (hx : Loc X.env.scope x := by first | exact .inl rfl | exact .inr rfl) (hs : swapsWith e (some (.Name x pos')) pos.line X.env = pure false := by rfl) (hf : X.fn x = true ∨ X.env.scope.names.lookup x = some .local := by first | exact .inl rfl | exact .inr rfl | assumption) :
    DSt c X (.Assign [.Name x pos'] e pos) (dSetV i w) := psto (ps_set hN hi hx he hs hf) setV_lift
end
section
variable {c : Cc} {X : Cx} {F F' H H' : Hp} {σ σ' : L2.St} {ρ ρ' : En} {v : V} {r : Sl} {wa wb wc w : DT} {wA : DA} {t u : DB} {a b e : Expr} {es : List Expr} {pos : Pos} {i : Nat} {st : Stmt} {sts rest : List Stmt} {s1 s2 : DS}
variable {elt tg iter : Expr} {ifs : List Expr} {scope : Scope} {wi : DI} {g : DG} {is : List Nat}
theorem dst_setVLc (i : Nat) {y : Str} {py spos : Pos} (own : List (Str × Nat)) (hN : X.N.Nodup) (ok : BlkOk X.N X.env.scope scope own) (hsw : swapsWith (.ListComp elt [⟨tg, iter, ifs, 0⟩] scope pos) (some (.Name y py)) spos.line X.env = pure true) (hi : DIt c X tg iter wi)
    (hg : ∀ (s : Shared) (H : Hp) (C : Addr) (cl : List (Str × Addr)) (fp : List Addr) (p : Addr) (o : HO), DTg (c.keep p o) (X.blk s H scope (compEnvC scope cl C X.env) fp) tg is g)
    (ht : ∀ (s : Shared) (H : Hp) (C : Addr) (cl : List (Str × Addr)) (fp : List Addr) (p : Addr) (o : HO), DTs (c.keep p o) (X.blk s H scope (compEnvC scope cl C X.env) fp) ifs t)
    (he : ∀ (s : Shared) (H : Hp) (C : Addr) (cl : List (Str × Addr)) (fp : List Addr) (p : Addr) (o : HO), DE (c.keep p o) (X.blk s H scope (compEnvC scope cl C X.env) fp) elt w)
    (his : ∀ j ∈ is, j ∈ own.map (·.2) := by decide) (hc : X.calm = true := by rfl) (hy : X.N[i]? = some y := by rfl) (hyl : X.env.scope.names.lookup y = some .local := by rfl) (hs : ∀ x, foldedSetIterable iter X.env x = pure x := by intro _; rfl) :
    DSt c X (.Assign [.Name y py] (.ListComp elt [⟨tg, iter, ifs, 0⟩] scope pos) spos) (dSetV i (dLc wi g t w (own.map (·.2)))) :=
  psto (ps_setLc hc hN hy hyl hsw hi ok (fun s H C cl fp => pg_any (hg s H C cl fp)) (fun s H C cl fp => pts_any (ht s H C cl fp)) (fun s H C cl fp => pe_any (he s H C cl fp)) hs) fun D σ H q => by
    have h := setV_lift D σ H q
    exact lift_lc his σ H _ h (fun p o v σ H Q h => ⟨p, o, h⟩) (fun p o σ H Q h => ⟨p, o, h⟩) (fun p o σ H Q h => ⟨p, o, h⟩)
end
end DL

namespace DL
open PySem PySem.Spec PyProof.Rows L2
open Evl (Ex ex_l ex_t)
section
variable {c : Cc} {X : Cx} {F F' H H' : Hp} {σ σ' : L2.St} {ρ ρ' : En} {v : V} {r : Sl} {e a b : Expr} {w : DT} {wa wb : DT} {es : List Expr} {pos : Pos} {st : Stmt} {s1 : DS}
/-- lists of one's own that are data from here on -/
def dFrzS (is : List Nat) (s : DS) : DS := fun E ρ => s E (frzAt ρ is)
theorem dst_frz (is : List Nat) (h : DSt c X st s1) : DSt c X st (dFrzS is s1) := psto h fun D σ H ⟨F, ρ, E, I, k, q⟩ => by
  obtain ⟨F1, I1, e1⟩ := I.frzAt is
  exact ⟨F1, _, E, I1, k.mono e1, q⟩
/-! ### t * 1 of a tuple: the tuple itself -/
theorem tuple_mul1 (l : Addr) (items : Array Value) (n : Nat) (dd : Option Addr) (sl : Array (Option Value)) (x : Int) (u : Tok) (c0 : (decide (x < -(2 ^ 63)) || decide (x ≥ 2 ^ 63)) = false) (c1 : (items.isEmpty || x == 1) = true) :
    Meets (Builtin.«tuple.__mul__» ⟨[.ref l, .int x u], []⟩) (fun _ R s => s.heap.get? l = some { cls := .type "tuple", dict := dd, data := .seq items n, slots := sl } ∧
      R (.ok (.ret (Value.ref l))) s) :=
  .of_wp fun prog w A R s h => by
    obtain ⟨hp, g, d, tk, os⟩ := s
    obtain ⟨hl, h⟩ := h
    have f1 := AutoSeq1.idx_int
    wp_walk using wpAny_loadPart' hl
    repeat (first
      | (refine wpAny_ite_false (decide_eq_false (by rw [c0]; exact Bool.false_ne_true)) ?_; wp_walk using wpAny_loadPart' hl)
      | (refine wpAny_ite_true (decide_eq_true (by rw [c1])) ?_; wp_walk using wpAny_loadPart' hl))
    exact ⟨_, rfl, h⟩
def rRep1 (K : PySem.W.Frag) : R2 := fun x y H Q => ∃ l xs, x = .ref l ∧ y = .int 1 ∧ SqT K H l xs ∧ Q (.ref l) H
theorem op_rep1 : OpR X (binaryOp .Mult) (rRep1 X.K) := by
  intro pins s σ H x y v u Q I rx ry h
  obtain ⟨l, xs, rfl, rfl, hT, q⟩ := h
  cases rx
  obtain ⟨t, rfl⟩ := ry
  obtain ⟨its, r, ⟨⟨cls, dd, data, sl⟩, ho, hc, n, hd⟩, hs⟩ := I.tuple hT
  simp only at hc hd
  subst hc hd
  have c0 : (decide ((1 : Int) < -(2 ^ 63)) || decide ((1 : Int) ≥ 2 ^ 63)) = false := by decide
  have c1 : (its.toArray.isEmpty || (1 : Int) == 1) = true := by simp
  refine wpAny_binaryOp_repeat_ref (T := "tuple") (U := "int") (by decide) ⟨_, ho, rfl⟩ (fun s' => typeIs_int s' 1 t) noFill_tuple_mul F.fills_int_mul F.slot_int_rmul repeat_tuple F.slot_int_index.lookup
    (call_meets F.slot_int_rmul (typeIs_int s 1 t) F.entry_int_rmul (F.args_int_rmul_2 _ _) (int_rmul_tuple 1 t l its.toArray n dd sl)
      ⟨ho, rfl, ⟨_, ho, rfl⟩, call_meets F.slot_tuple_mul ⟨_, ho, rfl⟩ F.entry_tuple_mul (F.args_tuple_mul_2 _ _) (tuple_mul1 l its.toArray n dd sl 1 t c0 c1) ⟨ho, ?_⟩⟩)
  exact ⟨.ref l, H, I, rfl, q⟩
def fMul1 : F2 := fun x y Q => match x, y with
  | .tuple xs, .int 1 => Q (.val (.tuple xs))
  | _, _ => False
theorem ops_mul1 : OpS c (rRep1 c.K) fMul1 := by
  intro F H σ ρ v1 v2 x y Qd Q I p1 p2 q k
  unfold fMul1 at q
  split at q
  · have p1' := p1
    obtain ⟨a, xs, rfl, s, d⟩ := dp_tup p1'
    cases p2
    exact ⟨a, xs, rfl, rfl, ex_t I.fh s, k _ _ F H q I Go.refl p1⟩
  · exact q.elim
def fMulX : F2 := fun x y Q => fMul x y Q ∨ fMul1 x y Q
theorem de_mulX (ha : DE c X a wa) (hb : DE c X b wb) (hk : X.K = c.K := by rfl) : DE c X (.BinOp a .Mult b pos) (dOp fMulX wa wb) := de_op (opr_or (hk ▸ op_mul') (hk ▸ op_rep1)) (ops_or ops_mul ops_mul1) ha hb
end
end DL

namespace DL
open PySem PySem.Spec PyProof.Rows L2
open Evl (Ex ex_l ex_t)
/-! ### set of a list of ints, sorted again -/
abbrev bareSet (w : World) : Obj := { cls := .type "set", dict := none, data := .set #[] 0 (.fresh 0 0 (!w.params.followText "set-order")) }
section
variable {P : Program} {w : World} {A : Around} {E : Value → Shared → Prop} {s : Shared}
theorem set_of_list {l : Addr} {its : Array Value} (ns : List Int) {Q : Value → Shared → Prop} (hh : A.handled = none) (hl : s.heap.IsList l its) (hi : IntsAre its.toList ns) (hb : ns.length + 1 < scanBound)
    (k : ∀ (g : Heap) (tk c : Nat), SetR w g s.heap.objs.size (fun j => decide (j ∈ ns)) c → c ≤ ns.length → (∀ b o, s.heap.get? b = some o → g.get? b = some o) → Q (.ref s.heap.objs.size) { s with heap := g, toks := tk }) :
    wpAny (model P w) A (call (.type "set") [.ref l]) Q E s := by
  have len : its.size = ns.length := (Array.length_toList).symm.trans (IntsAre.length hi)
  obtain ⟨_, _, h0⟩ := F.called_set.mro
  have h1 := F.called_set.made; have h2 := F.called_set.sub; have h3 := F.called_set.notType; have h4 := F.called_set.canCreate; have h5 := F.typeCall_set_1 (.ref l)
  refine wpAny_call (codeAny_of_tree (?_ : wpAny _ _ (callAny (.type "set") _) _ _ _))
  refine wpAny_pure ⟨Code.quiet_builtin _ (by decide +kernel), codeAny_builtin F.entry_type_call (?_)⟩
  rw [Around.under_plain (weight_type_call_type "set" [.ref l] []) rfl]
  repeat (any_goals (first | assumption | wp_step))
  refine codeAny_mono (code_set_led1 (.ref l) (E := E) (Q₁ := fun v s1 => v = .ref s.heap.objs.size ∧ s1 = { s with heap := s.heap.push (bareSet w) }) ⟨rfl, rfl⟩) fun r s1 hr => ?_
  match r, hr with
  | .error e, hr => exact hr
  | .ok (.ret v), ⟨e1, e2⟩ =>
    subst e1 e2
    have new : (s.heap.push (bareSet w)).get? s.heap.objs.size = some (bareSet w) := Heap.get?_push_size _ rfl
    have isS : Shared.TypeIs { s with heap := s.heap.push (bareSet w) } (.ref s.heap.objs.size) "set" := ⟨_, new, rfl⟩
    have i1 := F.called_set.init.lookup; have i2 := F.called_set.init.bind (.ref s.heap.objs.size)
    repeat (any_goals (first | assumption | wp_step))
    refine codeAny_mono (codeAny_call_builtin (R := wants (fun r z => r = .none ∧ ∃ g tk c, z = { s with heap := g, toks := tk } ∧ SetR w g s.heap.objs.size (fun j => decide (j ∈ ns)) c ∧ c ≤ ns.length ∧ ∀ b o, s.heap.get? b = some o → g.get? b = some o) E) F.called_set.init.plain F.entry_set_init (check_set_init_1 isS ?init)) fun r2 s2 hr2 => ?fin
    case fin =>
      match r2, hr2 with
      | .error e, hr2 => exact hr2
      | .ok (.ret v), ⟨e1, g, tk, c, e2, z1, z2, z3⟩ =>
        subst e1 e2
        repeat (any_goals (first | assumption | wp_step))
        exact k _ _ _ z1 z2 z3
    case init =>
      obtain ⟨⟨a1, a2, a3, a4⟩, at0, hc, an, hd⟩ := hl
      simp only at hc hd
      subst hc; subst hd
      have at1 : (s.heap.push (bareSet w)).get? l = some ⟨.type "list", a2, .seq its an, a4⟩ := Heap.get?_push_of_some _ at0
      have f1 := F.sub_list_set; have f2 := F.sub_list_frozenset
      have f3 : (Value.type "list" == Value.type "dict") = false := by decide
      have isL : (s.heap.push (bareSet w)).IsList l its := ⟨_, at1, rfl, an, rfl⟩
      unfold Builtin.«set.__init__» noKeywords Builtin.Frozenset.updateFrom
      generalize hIt : pyIter = IT
      wp_walk
      subst hIt
      refine wpAny_pyIter_list isL (wpAny_bind (wpAny_runValue ?_))
      have big : (s.heap.push (bareSet w)).objs.size = s.heap.objs.size + 1 := Heap.size_push ..
      have l0 : l < s.heap.objs.size := Heap.lt_size at0
      have apart : l ≠ (s.heap.push (bareSet w)).objs.size := by rw [big]; exact Nat.ne_of_lt (Nat.lt_succ_of_lt l0)
      have hS : s.heap.objs.size ∉ [(s.heap.push (bareSet w)).objs.size, l] := by
        simp only [List.mem_cons, List.not_mem_nil, or_false, not_or]
        exact ⟨by rw [big]; exact Nat.ne_of_lt (Nat.lt_succ_self _), Nat.ne_of_gt l0⟩
      have item : ∀ (i : Nat) (v : Value), its[i]? = some v → ∃ n tk, ns[i]? = some n ∧ v = .int n tk := fun i v hv => by
        have hlt : i < ns.length := len ▸ (Array.getElem?_eq_some_iff.mp hv).1
        obtain ⟨tk, e⟩ := PyProof.Rows.IntsAre.int_at hi i v ((Array.getElem?_toList ..).trans hv)
        rw [List.getD_eq_getElem?_getD, List.getElem?_eq_getElem hlt] at e
        exact ⟨_, tk, List.getElem?_eq_getElem hlt, e⟩
      have hA : A.in1.in1.in1.handled = none := by simp [hh]
      have keep : ∀ {b o} (v : Obj), (s.heap.push (bareSet w)).get? b = some o → ((s.heap.push (bareSet w)).push v).get? b = some o := fun v e => Heap.get?_push_of_some _ e
      refine set_update_ints ((Walks.list hA _ l apart its).toS) s.heap.objs.size hS ns len hb item (its.size - 0) 0 _ (by omega) (Nat.zero_le _) ⟨⟨_, Heap.get?_push_size _ rfl, rfl, rfl⟩, isL.push _⟩ ⟨0, Nat.le_refl 0, setR_new_at (keep _ new)⟩ fun s3 c hm hc hS3 => ?_
      obtain ⟨g, gens, drawn, tk, os⟩ := s3
      obtain rfl : gens = s.gens := hm.gens
      obtain rfl : drawn = s.drawn := hm.drawn
      obtain rfl : os = s.os := hm.os
      refine wpAny_pure (wpAny_pure ⟨rfl, g, tk, c, rfl, hS3, by omega, fun b o e => ?_⟩)
      have b0 := Heap.lt_size e
      refine hm.heap b o ?_ (keep _ (Heap.get?_push_of_some _ e))
      simp only [List.mem_cons, List.not_mem_nil, or_false, not_or]
      exact ⟨Nat.ne_of_lt b0, by rw [big]; exact Nat.ne_of_lt (Nat.lt_succ_of_lt b0)⟩
section
variable {X : Cx}
def rSetI (K : PySem.W.Frag) (w : World) : List V → Hp → VK → Prop := fun vs H Q => ∃ (l : Addr) (ns : List Int), vs = [.ref l] ∧ SqL K H l (ns.map V.int) ∧ ns.length < 64 ∧ ∀ p c, c ≤ ns.length → H p = none → Q (.ref p) (upd H p (SetO w p (fun j => decide (j ∈ ns)) c))
theorem cr_setI (hc : X.calm = true) : CallR X (.type "set") (rSetI X.K X.w) := by
  intro pins s σ H vs us Q I r h
  obtain ⟨l, ns, rfl, hl, h64, q⟩ := h
  rw [Vals.ref1 r]
  obtain ⟨its, rv, pl, hz⟩ := I.list hl
  refine set_of_list ns (I.ok.hd hc) pl.isList (by simpa using ints_of_vals rv) (by unfold scanBound; omega) fun g tk c z1 z2 z3 => ?_
  exact ⟨.ref s.heap.objs.size, _, I.laid (t' := tk) z3 (Nat.le_refl _) (setO_new z1), rfl, q _ c z2 (I.hok.fresh (Nat.le_refl _))⟩
end
end
end DL

namespace DL
open PySem PySem.Spec PyProof.Rows L2
open Evl (Ex ex_l ex_t)
section
variable {c : Cc} {X : Cx} {F F' H H' : Hp} {σ σ' : L2.St} {ρ ρ' : En} {v : V} {r : Sl} {e a b : Expr} {w : DT} {wa wb : DT} {wA : DA} {es : List Expr} {pos : Pos} {st : Stmt} {s1 : DS}
/-- sorted(set(l)) of a list of ints -/
def fSSet : FA := fun l Q => match l with
  | [.list xs] => ∃ ns : List Int, xs = ns.map PyData.int ∧ ns.length < 64 ∧ ∀ ns' : List Int, ns'.Pairwise (· < ·) → (∀ k, k ∈ ns' ↔ k ∈ ns) → ns'.length ≤ ns.length → Q (.mu true (.lst (ns'.map PyData.int)))
  | _ => False
theorem bt_set : bootBuiltins "set" = some (.type "set") := PyProof.Rows.boot_set
theorem bt_sorted : bootBuiltins "sorted" = some (.builtin "sorted") := by decide +kernel
theorem de_sset {p p2 q : Pos} (hm : X.mg "sorted" = none) (hm2 : X.mg "set" = none) (ha : DAs c X [e] wA) (hc : X.calm = true := by rfl) (hk : X.K = c.K := by rfl) (hg : Gl X "sorted" := by rfl) (hg2 : Gl X "set" := by rfl)
    (he : starEach [e] X.env = (false, eval e X.env) :: starEach [] X.env := by rfl) (hpl : (backTo q (starEach [] X.env)).any (·.1) = false := by rfl)
    (he2 : starEach [.Call (.Name "set" p2) [e] [] q] X.env = (false, eval (.Call (.Name "set" p2) [e] [] q) X.env) :: starEach [] X.env := by rfl) (hpl2 : (backTo pos (starEach [] X.env)).any (·.1) = false := by rfl) :
    DE c X (.Call (.Name "sorted" p) [.Call (.Name "set" p2) [e] [] q] [] pos) (dCB fSSet wA) :=
  peto (pe_callB (cr_sortedSet hc) hg hm bt_sorted (pa_cons (pe_callTy (cr_setI hc) hg2 hm2 bt_set ha (by decide) (by decide) he hpl) pa_nil he2) (by decide) (by decide) he2 hpl2) fun σ H Q q => by
    obtain ⟨F, ρ, Qd, I, h1, k⟩ := q
    refine ⟨F, ρ, _, I, h1, fun as ρ1 vs F1 H1 q1 I1 e1 p1 => ?_⟩
    obtain ⟨l, h2, h3⟩ := agD_go p1 q1
    unfold fSSet at h3
    split at h3
    · obtain ⟨ns, rfl, h64, hq⟩ := h3
      cases h2 with | cons a h2 => ?_
      cases h2
      obtain ⟨b, xs, rfl, s, d⟩ := dp_lst a
      have ee := dps_ints d
      subst ee
      refine ⟨b, ns, rfl, hk ▸ ex_l I1.fh s, h64, fun p n hn hp => ?_⟩
      refine ⟨p, _, n, rfl, upd_same, by omega, fun ns' p' hs hm hl hp' => ?_⟩
      have eH : Ex H1 (upd H1 p (SetO X.w p (fun j => decide (j ∈ ns)) n)) := Evl.Ex.new hp
      have I2 : Ok c F1 (upd H1 p (SetO X.w p (fun j => decide (j ∈ ns)) n)) σ ρ1 := I1.hm (I1.fh.trans eH) eH
      refine new_lst (Qd := fun z => Qd z ρ1) I2 (dps_intsV ns') (hq ns' hs (fun k => by rw [hm]; simp) (by omega)) (fun z v F' H' hz I' e' p' => k z ρ1 v F' H' hz I' ?_ p') p' hp'
      exact ⟨e1.f.trans e'.f, fun z => (e1.h z).trans (eH.trans (e'.h z))⟩
    · exact h3.elim
end
end DL

namespace DL
open PySem PySem.Spec PyProof.Rows L2
open Evl (Ex ex_l ex_t)
/-! ### t[::-1] of a tuple -/
section
variable {prog : Program} {w : World} {A : Around} {E : Value → Shared → Prop} {s : Shared}
theorem back_ends (n : Nat) : Builtin.Slice.sliceAdjust none none (-1) (n : Int) = ((n : Int) - 1, -1) := rfl
theorem back_many (n : Nat) : Builtin.Slice.slicePlaces ((n : Int) - 1) (-1) (-1) = n := by
  rcases Nat.eq_zero_or_pos n with rfl | hn
  · rfl
  · have a : ¬ ((-1 : Int) > 0) := by decide
    have b : ((n : Int) - 1) > -1 := by omega
    have d : ((n : Int) - 1 - -1 - 1) / (- -1) + 1 = n := by
      rw [show (- -1 : Int) = 1 from rfl, Int.ediv_one]; omega
    simp only [Builtin.Slice.slicePlaces, a, b, if_false, if_true, d, Int.toNat_natCast]
theorem back_items (xs : Array Value) : (List.range xs.size).filterMap (fun (k : Nat) => xs[(((xs.size : Int) - 1) + (k : Int) * (-1)).toNat]?) = xs.toList.reverse := by
  apply List.ext_getElem?
  intro i
  have hall : ∀ n, n ≤ xs.size → (List.range n).filterMap (fun (k : Nat) => xs[(((xs.size : Int) - 1) + (k : Int) * (-1)).toNat]?) = xs.toList.reverse.take n := by
    intro n
    induction n with
    | zero => intro _; simp
    | succ m ih =>
      intro h
      rw [List.range_succ, List.filterMap_append, ih (by omega)]
      have hj : (((xs.size : Int) - 1) + (m : Int) * (-1)).toNat = xs.size - 1 - m := by omega
      have hlt : xs.size - 1 - m < xs.size := by omega
      rw [List.take_add_one]
      congr 1
      rw [List.getElem?_reverse (by rw [Array.length_toList]; omega)]
      simp only [List.filterMap_cons, List.filterMap_nil, hj, Array.length_toList, Array.getElem?_toList]
      rw [Array.getElem?_eq_getElem hlt]
      rfl
  rw [hall _ (Nat.le_refl _), List.take_of_length_le (by simp)]
theorem back_applied {sl : Addr} {lo up by_ : Value} {n : Nat} {Q : Int × Int × Nat → Shared → Prop} (hs : s.heap.IsSliceOf sl lo up by_) (pl : IsPart lo none) (pu : IsPart up none) (ps : IsPart by_ (some (-1)))
    (h : Q ((n : Int) - 1, -1, n) s) : wpAny (model prog w) A (Builtin.Slice.sliceApplied (.ref sl) (pure (n : Int))) Q E s := by
  cases pl
  cases pu
  obtain ⟨o, ho, _, hf⟩ := id hs
  unfold Builtin.Slice.sliceApplied Builtin.Slice.sliceFields
  have third : wpAny (model prog w) A (Builtin.Slice.slicePartIndex by_) (fun r s' => r = some (-1) ∧ s' = s) E s := HT.slicePart_ ps ⟨rfl, rfl⟩
  refine wpAny_bind (wpAny_bind (wpAny_field ho hf (x := .none) rfl (wpAny_bind (wpAny_field ho hf (x := .none) rfl (wpAny_bind (wpAny_field ho hf (x := by_) rfl (wpAny_pure (wpAny_bind (thn third fun r s' ⟨e1, e2⟩ => ?_)))))))))
  subst e1 e2
  show wpAny _ _ (if ((-1 : Int) == 0) = true then _ else _) _ _ s'
  rw [if_neg (by decide)]
  refine wpAny_bind (slicePart_none (wpAny_bind (slicePart_none (wpAny_bind (wpAny_pure ?_)))))
  show wpAny _ _ (pure ((n : Int) - 1, (-1 : Int), Builtin.Slice.slicePlaces ((n : Int) - 1) (-1) (-1))) _ _ s'
  rw [back_many]
  exact wpAny_pure h
theorem back_tuple {t sl : Addr} {xs : Array Value} {lo up by_ : Value} {Q : Value → Shared → Prop} (ht : IsTup s.heap t xs) (hs : s.heap.IsSliceOf sl lo up by_) (pl : IsPart lo none) (pu : IsPart up none) (ps : IsPart by_ (some (-1)))
    (hz : xs.size ≤ sizeLine) (h : Q (.ref s.heap.objs.size) { s with heap := s.heap.push { cls := .type "tuple", data := .seq xs.toList.reverse.toArray } }) : wpAny (model prog w) A (getItem (.ref t) (.ref sl)) Q E s := by
  have fits : sizeOk (.seq xs.toList.reverse.toArray) := by
    show xs.toList.reverse.toArray.size ≤ sizeLine
    simpa using hz
  obtain ⟨o, ho, hcl, _⟩ := id hs
  have isSl : s.TypeIs (.ref sl) "slice" := ⟨o, ho, hcl⟩
  unfold getItem
  try with_reducible refine wpAny_holding ?_
  first | refine wpAny_bind (wpAny_pure ?_) | skip
  refine wpAny_bind (wpAny_sequenceKey ht.typeIs (by decide) ?_)
  refine wpAny_bind (wpAny_callSpecial?_slot (name := Str.ofString "__getitem__") ht.typeIs PyProof.Rows.slot_tuple_getitem (wpAny_call_entry PyProof.Rows.slot_tuple_getitem ht.typeIs entry_tuple_getitem ?_ (args_tuple_getitem _ _)))
  show wpAny _ _ (Builtin.Tuple.tupleItemsOf (.ref t) >>= _) _ _ s
  refine wpAny_bind (tupleItemsOf_ ht (wpAny_bind (wpAny_typeOf isSl ?_)))
  rw [if_pos (by decide)]
  refine wpAny_bind (back_applied hs pl pu ps ?_)
  have notAll : ¬ ((((xs.size : Int) - 1) == 0 && (-1 : Int) == 1 && xs.size == xs.size) = true) := by
    rw [show ((-1 : Int) == 1) = false from rfl]; simp
  show wpAny _ _ (if (((xs.size : Int) - 1) == 0 && (-1 : Int) == 1 && xs.size == xs.size) = true then _ else _) _ _ s
  rw [if_neg notAll, back_items]
  first
    | exact wpAny_bind (m := Builtin.Tuple.tupleExact _) (wpAny_newObj_type (wpAny_pure ⟨_, rfl, wpAny_pure h⟩) fits)
    | exact wpAny_bind (m := Builtin.Tuple.tupleExact _) (wpAny_newObj_type (wpAny_bind (wpAny_pure (wpAny_pure ⟨_, rfl, wpAny_pure h⟩))) fits)
    | exact wpAny_bind (wpAny_bind (m := Builtin.Tuple.tupleExact _) (wpAny_newObj_type (wpAny_pure (wpAny_pure ⟨_, rfl, wpAny_pure h⟩)) fits))
    | exact wpAny_bind (wpAny_bind (m := Builtin.Tuple.tupleExact _) (wpAny_newObj_type (wpAny_pure ⟨_, rfl, wpAny_pure h⟩) fits))
end
section
variable {c : Cc} {X : Cx} {F F' H H' : Hp} {σ σ' : L2.St} {ρ ρ' : En} {v : V} {r : Sl} {e a b : Expr} {w : DT} {wa wb : DT} {wA : DA} {es : List Expr} {pos : Pos} {st : Stmt} {s1 : DS}
def tRevT (K : PySem.W.Frag) (te : TE) : TE := fun σ H Q => te σ H fun x G => ∃ a xs, x = .ref a ∧ SqT K G a xs ∧ ∀ p, G p = none → Q (.ref p) (upd G p (.tup xs.reverse))
theorem pe_revT {te : TE} {k : Nat} {p1 p2 p3 : Pos} (he : PE X e te) : PE X (.Subscript e (.Slice none none (some (.UnaryOp .USub (.Constant (.int 1) k p1) p2)) p3) pos) (tRevT X.K te) := ⟨fun pins s σ H Q I h => by
  have step : PO X (some (.UnaryOp .USub (.Constant (.int 1) k p1) p2)) (tPart (tUn (rU fun i => .int (-i)) (tC (.int 1)))) := po_some (pe_un un_neg pe_int)
  refine Subscript_ (thn (he.run pins s σ H _ I h) fun v t1 ⟨x, G, J1, rr, a, xs, ex, hx, q⟩ => ?_)
  subst ex
  cases rr
  refine wpAny_Slice (thn (po_none.run pins t1 σ G (fun o G2 => o = none ∧ G2 = G) J1 ⟨rfl, rfl⟩) fun lo t2 ⟨_, _, J2, pl, e1, e2⟩ => thn (po_none.run pins t2 σ _ (fun o G3 => o = none ∧ G3 = _) J2 ⟨rfl, rfl⟩) fun up t3 ⟨_, _, J3, pu, e3, e4⟩ => ?_)
  subst e1 e2 e3 e4
  refine thn (step.run pins t3 σ _ (fun o G4 => o = some (-1) ∧ G4 = _) J3 ⟨1, rfl, -1, rfl, rfl, rfl⟩) fun by_ t4 ⟨_, _, J4, ps, e5, e6⟩ => ?_
  subst e5 e6
  have J5 : Inv X pins σ _ { t4 with heap := t4.heap.push { cls := .type "slice", data := .fields #[lo, up, by_] } } := J4.kept (t' := t4.toks) fun b ob q => Heap.get?_push_of_some _ q
  obtain ⟨its, r, ht, hz⟩ := J5.tuple hx
  have hn := r.length
  refine tail_any (ops := [.ref a, .ref t4.heap.objs.size]) ht.typeIs (PyProof.Rows.slot_tuple_getitem.lookup) ?_ (by with_unfolding_all rfl)
  refine back_tuple ht (Heap.IsSliceOf.new _ lo up by_) pl pu ps (by rw [List.size_toArray]; omega) ?_
  refine ⟨.ref _, _, J5.laid (t' := t4.toks) (o := .tup xs.reverse) (fun b ob q => Heap.get?_push_of_some _ q) (Nat.le_refl _) ?_, rfl, q _ (J5.hok.fresh (Nat.le_refl _))⟩
  exact ⟨by rw [List.length_reverse]; exact hz, _, r.reverse, IsTup.new _ _⟩⟩
/-- t[::-1] of a tuple -/
def dRevT (w : DT) : DT := fun ρ Q => w ρ fun r ρ1 => dF r fun x => match x with
  | .tuple l => Q (.val (.tuple l.reverse)) ρ1
  | _ => False
theorem de_revT {k : Nat} {p1 p2 p3 : Pos} (ha : DE c X a wa) (hk : X.K = c.K := by rfl) : DE c X (.Subscript a (.Slice none none (some (.UnaryOp .USub (.Constant (.int 1) k p1) p2)) p3) pos) (dRevT wa) := peto (pe_revT ha) fun σ H Q ⟨F, ρ, Qd, I, h, k⟩ => by
  refine ⟨F, ρ, _, I, h, fun r1 ρ1 v1 F1 H1 q1 I1 e1 p1 => ?_⟩
  obtain ⟨F1', x, I1', e1', p1', q1⟩ := dF_go I1 q1 p1
  split at q1
  · obtain ⟨a, xs, rfl, s, d⟩ := dp_tup p1'
    exact ⟨a, xs, rfl, hk ▸ ex_t I1'.fh s, new_tup (Qd := fun z => Qd z ρ1) I1' (dps_rev d) q1 fun z v F' H' hz I' e' p' => k z ρ1 v F' H' hz I' ((e1.trans e1').trans e') p'⟩
  · exact q1.elim
end
end DL

namespace DL
open PySem PySem.Spec PyProof.Rows L2
open Evl (Ex ex_l ex_t)
section
variable {c : Cc} {X : Cx} {F F' H H' : Hp} {σ σ' : L2.St} {ρ ρ' : En} {v : V} {r : Sl} {e a b : Expr} {w : DT} {wa wb : DT} {wA : DA} {es : List Expr} {pos : Pos} {st : Stmt} {s1 : DS}
/-! ### a loop that only looks: lists of one's own are as they were behind it -/
theorem Ok.hide (I : Ok c F H σ ρ) (e : Ex H H') {gs : List Nat} (ss : SetIn gs σ σ') : Ok c F H' σ' (wipeD ρ gs) := by
  have J := I.hm (I.fh.trans e) e
  have same : ∀ {j : Nat} {s : Sl}, (wipeD ρ gs)[j]? = some s → s ≠ .no → ρ[j]? = some s ∧ σ'[j]? = σ[j]? := fun h n => by
    obtain ⟨k1, k2⟩ := wipeD_some h n
    exact ⟨k2, ss.2 _ k1⟩
  refine ⟨J.mg, J.f0, J.fh, J.old, J.mem, J.oldF, by rw [wipeD_len, ss.1]; exact J.len, fun j d h => ?_, fun j b t h => ?_, fun j k b t b' t' p ne h h' h3 h4 => ?_⟩
  · obtain ⟨k1, k2⟩ := same h (by simp)
    obtain ⟨v, h1, h2⟩ := J.val j d k1
    exact ⟨v, by rw [k2]; exact h1, h2⟩
  · obtain ⟨k1, k2⟩ := same h (by simp)
    obtain ⟨p, o, h1, h2⟩ := J.mu j b t k1
    exact ⟨p, o, by rw [k2]; exact h1, h2⟩
  · obtain ⟨k1, k2⟩ := same h (by simp)
    obtain ⟨k3, k4⟩ := same h' (by simp)
    rw [k2] at h3
    rw [k4] at h4
    exact J.dis j k b t b' t' p ne k1 k3 h3 h4
def dForB (is gs : List Nat) (wi : DI) (g : DG) (t : DB) : DS := fun E ρ => wi (frzAt ρ is) fun l ρ1 => ∃ P : Nat → En → Prop, P 0 ρ1 ∧ (∀ i d ρ', l[i]? = some d → P i ρ' → g d ρ' fun ρ2 => t ρ2 fun b ρ3 => b = false ∧ P (i + 1) ρ3) ∧ ∀ ρ', P l.length ρ' → E.nx (wipeD ρ gs)
theorem dst_forB (is : List Nat) {tg te : Expr} {sts : List Stmt} {p2 : Pos} {gs : List Nat} {wi : DI} {g : DG} {t : DB} (hp : PassesOwn (model X.prog X.w) X.A X.env X.xe) (hi : DIt c.still X tg e wi) (hg : DTg c.still X tg gs g) (ht : DTe c.still X te t) (hc : X.calm = true := by rfl) (hs : ∀ x, foldedSetIterable e X.env x = pure x := by intro _; rfl) :
    DSt c X (.For tg e [.If te sts [] p2] [] pos) (dForB is gs wi g t) :=
  psto (ps_for hp hc hi hg (pss_one (ps_if (t := fun _ _ _ => False) ht ⟨fun _ _ _ _ _ _ h => h.elim⟩ pss_nil)) hs) fun D σ H ⟨F, ρ, E, I, k, h⟩ => by
  obtain ⟨F1, I1, e1⟩ := I.frzAt is
  refine ⟨F1, _, _, I1.still, h, fun l ρ1 J F2 H2 q1 I2 g2 wk => ?_⟩
  obtain ⟨P, p0, pt, pe⟩ := q1
  refine ⟨fun i m σ' H' => m = l.length - i ∧ i ≤ l.length ∧ Ex H H' ∧ SetIn gs σ σ' ∧ ∃ F' ρ', Ok c.still F' H' σ' ρ' ∧ Ex F2 F' ∧ P i ρ', ⟨l.length, by simp, Nat.zero_le _, g2.h rfl, ⟨rfl, fun _ _ => rfl⟩, F2, ρ1, I2, Evl.Ex.refl F2, p0⟩, ?_⟩
  rintro i m σ' H' ⟨rfl, hi, eh, ss, F', ρ', I', e', p'⟩
  obtain ⟨w1, w2⟩ := wk c.still rfl i F' H' σ' ρ' I' e'
  by_cases hlt : i < l.length
  · obtain ⟨hgo, hy⟩ := w1 _ (List.getElem?_eq_getElem hlt)
    refine .inr ⟨hgo, fun σ2 H2 => Ex H H2 ∧ SetIn gs σ σ2 ∧ ∃ F3 ρ3, Ok c.still F3 H2 σ2 ρ3 ∧ Ex F2 F3 ∧ P (i + 1) ρ3, fun σ2 H2 ⟨a1, a2, F3, ρ3, a3, a4, a5⟩ => ⟨l.length - (i + 1), by omega, rfl, hlt, a1, a2, F3, ρ3, a3, a4, a5⟩, fun x H3 hx => ?_⟩
    obtain ⟨F3, I3, g3, d3⟩ := hy x H3 hx
    refine ⟨F3, ρ', _, _, I3, d3, pt i _ ρ' (List.getElem?_eq_getElem hlt) p', fun ρ4 σ4 q4 I4 s4 => ?_⟩
    refine ⟨F3, ρ4, _, I4, q4, fun b ρ5 F5 H5 q5 I5 g5 => ?_⟩
    obtain ⟨rfl, q5⟩ := q5
    rw [if_neg (by decide)]
    exact ⟨(eh.trans (g3.h rfl)).trans (g5.h rfl), ⟨s4.1.trans ss.1, fun j hj => (s4.2 j hj).trans (ss.2 j hj)⟩, F5, ρ5, I5, (e'.trans g3.f).trans g5.f, q5⟩
  · have e0 : i = l.length := by omega
    subst e0
    exact .inl ⟨w2 rfl, k.nx σ' F H' (wipeD ρ gs) (I.hide eh ss) (Evl.Ex.refl F) (pe _ p')⟩
end
end DL

namespace DL
open PySem PySem.Spec PyProof.Rows L2
open Evl (Ex ex_l ex_t)
section
variable {c : Cc} {X : Cx} {F F' H H' : Hp} {σ σ' : L2.St} {ρ ρ' : En} {v : V} {r : Sl} {e a b : Expr} {w : DT} {wa wb : DT} {wA : DA} {es : List Expr} {pos : Pos} {st : Stmt} {s1 : DS}
/-! ### True + 1, True - 1 -/
def rBI (g : Int → Int → Int) : R2 := fun x y H Q => ∃ (b : Bool) (i : Int), x = .bl b ∧ y = .int i ∧ Q (.int (g (if b = true then 1 else 0) i)) H
theorem op_addBI : OpR X (binaryOp .Add) (rBI fun i j => i + j) := by
  intro pins s σ H x y v u Q I rx ry ⟨b, i, e1, e2, q⟩
  subst e1 e2
  cases rx
  obtain ⟨t, rfl⟩ := ry
  exact PySem.IntBool.add_bool_int ⟨.int _, H, I.tok _, ⟨_, rfl⟩, q⟩
theorem op_subBI : OpR X (binaryOp .Sub) (rBI fun i j => i - j) := by
  intro pins s σ H x y v u Q I rx ry ⟨b, i, e1, e2, q⟩
  subst e1 e2
  cases rx
  obtain ⟨t, rfl⟩ := ry
  exact PySem.IntBool.sub_bool_int ⟨.int _, H, I.tok _, ⟨_, rfl⟩, q⟩
def fBI (g : Int → Int → Int) : F2 := fun x y Q => match x, y with
  | .bool b, .int i => Q (.val (.int (g (if b = true then 1 else 0) i)))
  | _, _ => False
theorem ops_BI {g : Int → Int → Int} : OpS c (rBI g) (fBI g) := by
  intro F H σ ρ v1 v2 x y Qd Q I p1 p2 q k
  unfold fBI at q
  split at q
  · cases p1; cases p2
    exact ⟨_, _, rfl, rfl, k _ _ F H q I Go.refl (.int _)⟩
  · exact q.elim
def fAddX : F2 := fun x y Q => fAdd x y Q ∨ fBI (fun i j => i + j) x y Q
def fSubX : F2 := fun x y Q => fSub x y Q ∨ fBI (fun i j => i - j) x y Q
theorem de_addX (ha : DE c X a wa) (hb : DE c X b wb) (hk : X.K = c.K := by rfl) : DE c X (.BinOp a .Add b pos) (dOp fAddX wa wb) := de_op (opr_or (hk ▸ op_addA) op_addBI) (ops_or ops_add ops_BI) ha hb
theorem de_subX (ha : DE c X a wa) (hb : DE c X b wb) : DE c X (.BinOp a .Sub b pos) (dOp fSubX wa wb) := de_op (opr_or op_sub op_subBI) (ops_or (ops_I0 fun _ _ i j => .int _) ops_BI) ha hb
/-! ### str of an int, of a bool -/
def fStr : FA := fun l Q => match l with
  | [.int i] => i.natAbs.log2 < 1920 ∧ Q (.val (.str (toString i)))
  | [.bool b] => Q (.val (.str (if b = true then "True" else "False")))
  | _ => False
theorem call_strIB : CallR X (.type "str") (fun xs H Q => (∃ i, xs = [.int i] ∧ i.natAbs.log2 < 1920 ∧ Q (.str (toString i)) H) ∨ ∃ b : Bool, xs = [.bl b] ∧ Q (.str (if b = true then "True" else "False")) H) := by
  intro pins s σ H xs us Q I r h
  rcases h with h | ⟨b, e, q⟩
  · exact call_str_int pins s σ H xs us Q I r h
  · subst e
    obtain ⟨u, rfl, r1⟩ := vals1 r
    cases r1
    exact PySem.P.str_of_bool ⟨.str _, H, I.tok _, ⟨_, rfl⟩, q⟩
theorem cb_str : CbS c X (.type "str") fStr := ⟨_, call_strIB, fun F H σ ρ vs l Qd Q I p q k => by
  unfold fStr at q
  split at q
  · cases p with | cons a p => ?_
    cases p
    cases a
    exact .inl ⟨_, rfl, q.1, k _ _ F H q.2 I Go.refl (.str _)⟩
  · cases p with | cons a p => ?_
    cases p
    cases a
    exact .inr ⟨_, rfl, k _ _ F H q I Go.refl (.str _)⟩
  · exact q.elim⟩
/-! ### xs[::-1] of a list or a tuple -/
def tRevX (K : PySem.W.Frag) (te : TE) : TE := fun σ H Q => te σ H fun x G => ∃ a xs, x = .ref a ∧ ((SqT K G a xs ∧ ∀ p, G p = none → Q (.ref p) (upd G p (.tup xs.reverse))) ∨ (SqL K G a xs ∧ ∀ p, G p = none → Q (.ref p) (upd G p (.lst xs.reverse))))
theorem pe_revX {te : TE} {k : Nat} {p1 p2 p3 : Pos} (he : PE X e te) : PE X (.Subscript e (.Slice none none (some (.UnaryOp .USub (.Constant (.int 1) k p1) p2)) p3) pos) (tRevX X.K te) := ⟨fun pins s σ H Q I h => by
  have step : PO X (some (.UnaryOp .USub (.Constant (.int 1) k p1) p2)) (tPart (tUn (rU fun i => .int (-i)) (tC (.int 1)))) := po_some (pe_un un_neg pe_int)
  refine Subscript_ (thn (he.run pins s σ H _ I h) fun v t1 ⟨x, G, J1, rr, a, xs, ex, hq⟩ => ?_)
  subst ex
  cases rr
  refine wpAny_Slice (thn (po_none.run pins t1 σ G (fun o G2 => o = none ∧ G2 = G) J1 ⟨rfl, rfl⟩) fun lo t2 ⟨_, _, J2, pl, e1, e2⟩ => thn (po_none.run pins t2 σ _ (fun o G3 => o = none ∧ G3 = _) J2 ⟨rfl, rfl⟩) fun up t3 ⟨_, _, J3, pu, e3, e4⟩ => ?_)
  subst e1 e2 e3 e4
  refine thn (step.run pins t3 σ _ (fun o G4 => o = some (-1) ∧ G4 = _) J3 ⟨1, rfl, -1, rfl, rfl, rfl⟩) fun by_ t4 ⟨_, _, J4, ps, e5, e6⟩ => ?_
  subst e5 e6
  have J5 : Inv X pins σ _ { t4 with heap := t4.heap.push { cls := .type "slice", data := .fields #[lo, up, by_] } } := J4.kept (t' := t4.toks) fun b ob q => Heap.get?_push_of_some _ q
  rcases hq with ⟨hx, q⟩ | ⟨hx, q⟩
  · obtain ⟨its, r, ht, hz⟩ := J5.tuple hx
    have hn := r.length
    refine tail_any (ops := [.ref a, .ref t4.heap.objs.size]) ht.typeIs (PyProof.Rows.slot_tuple_getitem.lookup) ?_ (by with_unfolding_all rfl)
    refine back_tuple ht (Heap.IsSliceOf.new _ lo up by_) pl pu ps (by rw [List.size_toArray]; omega) ?_
    refine ⟨.ref _, _, J5.laid (t' := t4.toks) (o := .tup xs.reverse) (fun b ob q => Heap.get?_push_of_some _ q) (Nat.le_refl _) ?_, rfl, q _ (J5.hok.fresh (Nat.le_refl _))⟩
    exact ⟨by rw [List.length_reverse]; exact hz, _, r.reverse, IsTup.new _ _⟩
  · obtain ⟨its, r, ht, hz⟩ := J5.list hx
    have hn := r.length
    refine tail_any (ops := [.ref a, .ref t4.heap.objs.size]) ht.isList.typeIs (PySem.slot_list_getitem.lookup) ?_ (by with_unfolding_all rfl)
    refine wpAny_getItem_list_slice ht.isList (Heap.IsSliceOf.new _ lo up by_) pl pu ps (by decide) ?_ (by rw [List.size_toArray]; omega)
    rw [PySem.W.krv_pick]
    refine ⟨.ref _, _, J5.laid (t' := t4.toks) (o := .lst xs.reverse) (fun b ob q => Heap.get?_push_of_some _ q) (Nat.le_refl _) ?_, rfl, q _ (J5.hok.fresh (Nat.le_refl _))⟩
    exact ⟨by rw [List.length_reverse]; exact hz, _, 0, r.reverse, Heap.get?_push_size _ rfl⟩⟩
def dRevX (w : DT) : DT := fun ρ Q => w ρ fun r ρ1 => dF r fun x => match x with
  | .tuple l => Q (.val (.tuple l.reverse)) ρ1
  | .list l => Q (.mu true (.lst l.reverse)) ρ1
  | _ => False
theorem de_revX {k : Nat} {p1 p2 p3 : Pos} (ha : DE c X a wa) (hk : X.K = c.K := by rfl) : DE c X (.Subscript a (.Slice none none (some (.UnaryOp .USub (.Constant (.int 1) k p1) p2)) p3) pos) (dRevX wa) := peto (pe_revX ha) fun σ H Q ⟨F, ρ, Qd, I, h, k⟩ => by
  refine ⟨F, ρ, _, I, h, fun r1 ρ1 v1 F1 H1 q1 I1 e1 p1 => ?_⟩
  obtain ⟨F1', x, I1', e1', p1', q1⟩ := dF_go I1 q1 p1
  split at q1
  · obtain ⟨a, xs, rfl, s, d⟩ := dp_tup p1'
    exact ⟨a, xs, rfl, .inl ⟨hk ▸ ex_t I1'.fh s, new_tup (Qd := fun z => Qd z ρ1) I1' (dps_rev d) q1 fun z v F' H' hz I' e' p' => k z ρ1 v F' H' hz I' ((e1.trans e1').trans e') p'⟩⟩
  · obtain ⟨a, xs, rfl, s, d⟩ := dp_lst p1'
    exact ⟨a, xs, rfl, .inr ⟨hk ▸ ex_l I1'.fh s, new_lst (Qd := fun z => Qd z ρ1) I1' (dps_rev d) q1 fun z v F' H' hz I' e' p' => k z ρ1 v F' H' hz I' ((e1.trans e1').trans e') p'⟩⟩
  · exact q1.elim
end
end DL

namespace DL
open PySem PySem.Spec PyProof.Rows L2
/-! ### a module's tuple -/
theorem rv_ref (a : Addr) : L2.RelV (.ref a) (.ref a) := rfl
theorem rv_int (i : Int) (t : Tok) : L2.RelV (.int i) (.int i t) := ⟨t, rfl⟩
theorem rv_str (x : Str) (t : Tok) : L2.RelV (.str x) (.str x t) := ⟨t, rfl⟩
theorem de_globD {c : Cc} {X : Cx} {x : Str} {d : D} {pos : Pos} (hm : ∃ a : Addr, X.mg x = some (.ref a) ∧ ∀ H, Dp c.K H (.ref a) d) (hg : Gl X x := by rfl) (hd : (x == ("__debug__" : Str)) = false := by decide) : DE c X (.Name x pos) (dC d) :=
  let ⟨a, h1, h2⟩ := hm
  peto (pe_glob (v := .ref a) hg h1 rfl hd) fun σ H Q ⟨F, ρ, Qd, I, h, k⟩ => k _ _ _ F H h I Go.refl (h2 F)
end DL

namespace DL
open PySem PySem.Spec PyProof.Rows L2
open Evl (Ex ex_l ex_t)
section
variable {c : Cc} {X : Cx}
/-! ### is True, is not False -/
def rIsBl (neg : Bool) : R2 := fun x y H Q => ∃ a b : Bool, x = .bl a ∧ y = .bl b ∧ Q (.bl (if neg = true then !(a == b) else a == b)) H
theorem op_isBl : OpR X (compareOp .Is) (rIsBl false) := by
  intro pins s σ H x y v u Q I rx ry ⟨a, b, e1, e2, q⟩
  subst e1 e2
  cases rx; cases ry
  show wpAny _ _ ((pure (Value.bool a == Value.bool b) : Sem Bool) >>= fun z => pure (Value.bool z)) _ _ s
  refine wpAny_bind (wpAny_pure (wpAny_pure (fin_bl I q ?_)))
  cases a <;> cases b <;> rfl
theorem op_notBl : OpR X (compareOp .IsNot) (rIsBl true) := by
  intro pins s σ H x y v u Q I rx ry ⟨a, b, e1, e2, q⟩
  subst e1 e2
  cases rx; cases ry
  show wpAny _ _ ((pure (Value.bool a == Value.bool b) : Sem Bool) >>= fun z => pure (Value.bool (!z))) _ _ s
  refine wpAny_bind (wpAny_pure (wpAny_pure (fin_bl I q ?_)))
  cases a <;> cases b <;> rfl
def fIsB (neg : Bool) : F2 := fun x y Q => match x, y with
  | .bool a, .bool b => Q (.val (.bool (if neg = true then !(a == b) else a == b)))
  | _, _ => False
theorem ops_isB {neg : Bool} : OpS c (rIsBl neg) (fIsB neg) := by
  intro F H σ ρ v1 v2 x y Qd Q I p1 p2 q k
  unfold fIsB at q
  split at q
  · cases p1; cases p2
    exact ⟨_, _, rfl, rfl, k _ _ F H q I Go.refl (.bl _)⟩
  · exact q.elim
theorem cs_isB : CmpS c X .Is (fIsB false) := ⟨_, op_isBl, ops_isB⟩
theorem cs_isnotB : CmpS c X .IsNot (fIsB true) := ⟨_, op_notBl, ops_isB⟩
theorem fIsB_bb {neg a b : Bool} {Q : Sl → Prop} : fIsB neg (.bool a) (.bool b) Q = Q (.val (.bool (if neg = true then !(a == b) else a == b))) := rfl
end
end DL

namespace DL
open PySem PySem.Spec PyProof.Rows L2
local macro_rules | `(tactic| walk_at "dl") => `(tactic| try simp only [dSeq, dNext, dSet, dSetV, dRet, dRetN, dExpr, dBreak, dCont, dPar, dPar3, dAsg, dTest_S, dNot, dNotV_S, dOp, dUn, dC, dVar_S, dVarS_v, dVarS_m, dMov_S, dMovS_m, sB_b, muL_l, muT_t, isI_i, vaI_i, dF_v, dF_m, dChain, fAdd_ii, fAdd_ll, fAdd_tt, fI_ii, fI0_ii, fMul_ii, fMul_ti, fNeg_i, fEq_ii, fNe_ii, fIsN_n, fIsN_l, fIsN_t, fIsN_i, fIx_l, fIx_t, dANil, dACons, dAAt_S, agD, dTup, dLst, dCB, fAbs_i, fMax2_ii, fMin2_ii, fLen_l, fLen_t, fList_l, fInt_i, dParX_2, dParX_3, fList_t, fTuple_l, fTuple_t, dSl, dONone, dOSome, fSl_l, fSl_t, dIsi_S, dIsi2_S, isiS_s, dCall, agOne, agAll, agAt, agSl_d, agSl_s, agS_m, dBack_n, dBack_s, seqS_l, seqS_t, nos, List.replicate, List.append, List.map, List.cons_append, List.nil_append, List.getElem?_cons_zero, List.getElem?_cons_succ, List.set_cons_zero, List.set_cons_succ, ioOf, List.length_cons, List.length_nil, dYes, gdName, gdTupN, gdCons, gdNil, frzAt, frz, dBor, dBorB, flatS, flatD, Option.getD_some, wipeD, dAug_S, dApp_S, dIns_S, dSetI_S, dIxM_S, dAugL_S, ixN_30, ixN_31, ixN_32, atI_0, atI_1, atI_2, atI_3, atI_4, true_and, reduceCtorEq, false_implies, implies_true, forall_const, Bool.not_true, Bool.not_false, Nat.reduceAdd, decide_true, decide_false, Int.reduceLT, Int.reduceLE, Int.reduceEq])
local macro_rules | `(tactic| walk_at "dt") => `(tactic| (walk_at "dl"; (try simp only [dAnd, dOr, dAndV_S, dOrV_S]); walk_at "dl"))
local macro_rules | `(tactic| walk_at "di") => `(tactic| (walk_at "dl"; (try simp only [dIf, dIte]); walk_at "dl"))
local macro_rules | `(tactic| walk_at "ds") => `(tactic| (walk_at "di"; walk_at "dt"; walk_at "di"))

theorem lim2 : 0 + 1 + 1 ≤ lim := by decide
/-- a fraction in lowest terms -/
def fr (q : Rat) : D := .tuple [.int q.num, .int q.den]
/-- how large a number's parts are, in bits -/
def Sz (n : Nat) (q : Rat) : Prop := q.num.natAbs < 2 ^ n ∧ q.den < 2 ^ n
theorem Sz.mono {n m : Nat} {q : Rat} (h : Sz n q) (hm : n ≤ m) : Sz m q := ⟨Nat.lt_of_lt_of_le h.1 (Nat.pow_le_pow_right (by decide) hm), Nat.lt_of_lt_of_le h.2 (Nat.pow_le_pow_right (by decide) hm)⟩
theorem mul_ok {i j : Int} {a b : Nat} (ha : i.natAbs < 2 ^ a) (hb : j.natAbs < 2 ^ b) (h : a + b ≤ 999990) : CMulA i j := by
  refine .inr (wide_mul (a := a + 1) (b := b + 1) (Nat.lt_of_lt_of_le ha (Nat.pow_le_pow_right (by decide) (by omega))) (Nat.lt_of_lt_of_le hb (Nat.pow_le_pow_right (by decide) (by omega))) (by omega) (by omega) (by omega))
theorem div_ok {i j : Int} {b : Nat} (h : 0 < j) (hb : j.natAbs < 2 ^ b) (h9 : b ≤ 8999) : CDivW i j := wide_div (b := b + 1) h (Nat.lt_of_lt_of_le hb (Nat.pow_le_pow_right (by decide) (by omega))) (by omega) (by omega)
theorem mulL {i j : Int} (h : -(2 ^ 64) < i ∧ i < 2 ^ 64) : CMulA i j := .inl (.inl h)
theorem mulR {i j : Int} (h : -(2 ^ 64) < j ∧ j < 2 ^ 64) : CMulA i j := .inl (.inr h)
theorem int_num (i : Int) : (i : Rat).num = i := Rat.num_intCast i
theorem int_den (i : Int) : (i : Rat).den = 1 := Rat.den_intCast i
theorem fr_int (i : Int) : fr (i : Rat) = .tuple [.int i, .int 1] := by
  unfold fr
  rw [int_num, int_den]
  rfl
theorem fr_eq {p q : Rat} (h : fr p = fr q) : p = q := by
  unfold fr at h
  injection h with h
  injection h with h1 h2
  injection h1 with h1
  injection h2 with h2 _
  injection h2 with h2
  exact Rat.ext h1 (Int.ofNat.inj h2)
/-- the quotient in lowest terms -/
theorem div_parts (a b : Int) (hb : b ≠ 0) : ((a : Rat) / b).num = (if 0 < b then 1 else -1) * a / (Nat.gcd a.natAbs b.natAbs : Nat) ∧ (((a : Rat) / b).den : Int) = (if 0 < b then 1 else -1) * b / (Nat.gcd a.natAbs b.natAbs : Nat) := by
  rw [← Rat.divInt_eq_div]
  cases b with
  | ofNat n =>
    have hn : n ≠ 0 := fun e => hb (by subst e; rfl)
    have h0 : (0 : Int) < Int.ofNat n := by have : (Int.ofNat n) = (n : Int) := rfl; omega
    rw [if_pos h0, Int.one_mul, Int.one_mul]
    show (mkRat a n).num = _ ∧ ((mkRat a n).den : Int) = _
    unfold mkRat
    rw [dif_neg hn, Rat.normalize_eq]
    refine ⟨rfl, ?_⟩
    show ((n / a.natAbs.gcd n : Nat) : Int) = ((n : Nat) : Int) / _
    rw [Int.natCast_ediv]
    rfl
  | negSucc n =>
    have h0 : ¬ (0 : Int) < Int.negSucc n := by omega
    rw [if_neg h0]
    show (Rat.normalize (-a) n.succ (by simp)).num = _ ∧ ((Rat.normalize (-a) n.succ (by simp)).den : Int) = _
    rw [Rat.normalize_eq]
    refine ⟨?_, ?_⟩
    · show -a / (((-a).natAbs.gcd n.succ : Nat) : Int) = _
      rw [Int.natAbs_neg, Int.neg_one_mul]
      rfl
    · show ((n.succ / (-a).natAbs.gcd n.succ : Nat) : Int) = _
      rw [Int.natAbs_neg, Int.natCast_ediv, Int.neg_one_mul, Int.neg_negSucc]
      rfl
theorem pow2_pos (n : Nat) : 0 < 2 ^ n := Nat.pow_pos (by decide)
theorem sz_num (a b : Int) (hb : b ≠ 0) {n : Nat} (ha : a.natAbs < 2 ^ n) (hbn : b.natAbs < 2 ^ n) : Sz n ((a : Rat) / b) := by
  obtain ⟨h1, h2⟩ := div_parts a b hb
  have gpos : 0 < Nat.gcd a.natAbs b.natAbs := Nat.gcd_pos_of_pos_right _ (by omega)
  refine ⟨?_, ?_⟩
  · rw [h1]
    have e : ((if 0 < b then (1 : Int) else -1) * a).natAbs = a.natAbs := by split <;> simp
    have h3 := Int.natAbs_ediv_le_natAbs ((if 0 < b then (1 : Int) else -1) * a) (Nat.gcd a.natAbs b.natAbs : Nat)
    omega
  · have e : ((if 0 < b then (1 : Int) else -1) * b).natAbs = b.natAbs := by split <;> simp
    have h3 := Int.natAbs_ediv_le_natAbs ((if 0 < b then (1 : Int) else -1) * b) (Nat.gcd a.natAbs b.natAbs : Nat)
    omega
theorem sz_mul {p q : Rat} {n m : Nat} (hp : Sz n p) (hq : Sz m q) : Sz (n + m) (p * q) := by
  have e : p * q = ((p.num * q.num : Int) : Rat) / ((p.den * q.den : Int) : Rat) := by
    rw [← Rat.divInt_eq_div, ← Rat.divInt_mul_divInt, Rat.num_divInt_den, Rat.num_divInt_den]
  rw [e]
  have h1 := p.den_pos
  have h2 := q.den_pos
  have h3 := Nat.mul_pos h1 h2
  have e2 : ((p.den : Int) * (q.den : Int)).natAbs = p.den * q.den := by rw [Int.natAbs_mul]; rfl
  refine sz_num _ _ (fun z => ?_) ?_ ?_
  · rw [z] at e2
    simp at e2
    omega
  · rw [Int.natAbs_mul, Nat.pow_add]; exact Nat.mul_lt_mul'' hp.1 hq.1
  · rw [e2, Nat.pow_add]; exact Nat.mul_lt_mul'' hp.2 hq.2
theorem rat_add_eq (p q : Rat) : p + q = ((p.num * q.den + q.num * p.den : Int) : Rat) / ((p.den * q.den : Int) : Rat) := by
  have hp : (p.den : Int) ≠ 0 := Int.ofNat_ne_zero.mpr p.den_nz
  have hq : (q.den : Int) ≠ 0 := Int.ofNat_ne_zero.mpr q.den_nz
  rw [← Rat.divInt_eq_div, ← Rat.divInt_add_divInt _ _ hp hq, Rat.num_divInt_den, Rat.num_divInt_den]
theorem rat_sub_eq (p q : Rat) : p - q = ((p.num * q.den - q.num * p.den : Int) : Rat) / ((p.den * q.den : Int) : Rat) := by
  have h := rat_add_eq p (-q)
  rw [Rat.sub_eq_add_neg, h, Rat.neg_num, Rat.neg_den]
  congr 2
  rw [Int.neg_mul, Int.sub_eq_add_neg]
theorem rat_mul_eq (p q : Rat) : p * q = ((p.num * q.num : Int) : Rat) / ((p.den * q.den : Int) : Rat) := by
  rw [← Rat.divInt_eq_div, ← Rat.divInt_mul_divInt, Rat.num_divInt_den, Rat.num_divInt_den]
theorem rat_div_eq (p q : Rat) : p / q = ((p.num * q.den : Int) : Rat) / ((p.den * q.num : Int) : Rat) := by
  have e1 : p = (p.num : Rat) / (p.den : Int) := by rw [← Rat.divInt_eq_div, Rat.num_divInt_den]
  have e2 : q = (q.num : Rat) / (q.den : Int) := by rw [← Rat.divInt_eq_div, Rat.num_divInt_den]
  have hp : ((p.den : Int) : Rat) ≠ 0 := fun h => p.den_nz (by have := Rat.intCast_inj.mp (h.trans Rat.intCast_zero.symm); omega)
  have hq : ((q.den : Int) : Rat) ≠ 0 := fun h => q.den_nz (by have := Rat.intCast_inj.mp (h.trans Rat.intCast_zero.symm); omega)
  rw [Rat.intCast_mul, Rat.intCast_mul]
  conv => lhs; rw [e1, e2]
  generalize ((p.den : Int) : Rat) = pd at *
  generalize ((q.den : Int) : Rat) = qd at *
  generalize ((p.num : Int) : Rat) = pn at *
  generalize ((q.num : Int) : Rat) = qn at *
  by_cases h : qn = 0
  · subst h; grind
  · grind
theorem natAbs_add_lt {x y : Int} {n : Nat} (hx : x.natAbs < 2 ^ n) (hy : y.natAbs < 2 ^ n) : (x + y).natAbs < 2 ^ (n + 1) := by
  rw [Nat.pow_succ]
  omega
theorem natAbs_sub_lt {x y : Int} {n : Nat} (hx : x.natAbs < 2 ^ n) (hy : y.natAbs < 2 ^ n) : (x - y).natAbs < 2 ^ (n + 1) := by
  rw [Nat.pow_succ]
  omega
theorem mul_lt2 {x y : Int} {n m : Nat} (hx : x.natAbs < 2 ^ n) (hy : y.natAbs < 2 ^ m) : (x * y).natAbs < 2 ^ (n + m) := by
  rw [Int.natAbs_mul, Nat.pow_add]; exact Nat.mul_lt_mul'' hx hy
theorem den_abs {q : Rat} {n : Nat} (h : Sz n q) : ((q.den : Nat) : Int).natAbs < 2 ^ n := h.2
theorem den_ne (p q : Rat) : (p.den * q.den : Int) ≠ 0 := by
  have h1 := p.den_pos
  have h2 := q.den_pos
  have h3 := Nat.mul_pos h1 h2
  rw [← Int.natCast_mul]
  omega
theorem sz_add {p q : Rat} {n m : Nat} (hp : Sz n p) (hq : Sz m q) : Sz (n + m + 1) (p + q) := by
  rw [rat_add_eq]
  refine sz_num _ _ (den_ne p q) (natAbs_add_lt (mul_lt2 hp.1 (den_abs hq)) (by rw [Nat.add_comm n m]; exact mul_lt2 hq.1 (den_abs hp))) (Nat.lt_of_lt_of_le (mul_lt2 (den_abs hp) (den_abs hq)) (Nat.pow_le_pow_right (by decide) (by omega)))
theorem sz_neg {p : Rat} {n : Nat} (hp : Sz n p) : Sz n (-p) := ⟨by rw [Rat.neg_num, Int.natAbs_neg]; exact hp.1, by rw [Rat.neg_den]; exact hp.2⟩
theorem sz_sub {p q : Rat} {n m : Nat} (hp : Sz n p) (hq : Sz m q) : Sz (n + m + 1) (p - q) := by
  rw [Rat.sub_eq_add_neg]; exact sz_add hp (sz_neg hq)
theorem sz_int {i : Int} {n : Nat} (h : i.natAbs < 2 ^ n) (hn : 0 < n) : Sz n (i : Rat) := ⟨by rw [int_num]; exact h, by rw [int_den]; exact Nat.one_lt_two_pow (by omega)⟩
theorem sz_div {p q : Rat} {n m : Nat} (hp : Sz n p) (hq : Sz m q) (h0 : q ≠ 0) : Sz (n + m) (p / q) := by
  rw [rat_div_eq]
  have hn : q.num ≠ 0 := fun h => h0 (Rat.num_eq_zero.mp h)
  have hd := p.den_pos
  refine sz_num _ _ (Int.mul_ne_zero (by omega) hn) (mul_lt2 hp.1 (den_abs hq)) (mul_lt2 (den_abs hp) hq.1)

/-! ### the specs of flexrow.numbers -/
def sp_make : Spec := mkSp (fun x : Int × Int => [.val (.int x.1), .val (.int x.2)]) fun x Q => (x.2 ≠ 0 ∧ x.1.natAbs < 2 ^ 8000 ∧ x.2.natAbs < 2 ^ 8000) ∧ Q (.val (fr ((x.1 : Rat) / x.2))) none
def sp_whole : Spec := mkSp (fun i : Int => [.val (.int i)]) fun i Q => Q (.val (fr i)) none
def sp_less : Spec := mkSp (fun x : Rat × Rat => [.val (fr x.1), .val (fr x.2)]) fun x Q => (Sz 8000 x.1 ∧ Sz 8000 x.2) ∧ Q (.val (.bool (decide (x.1 < x.2)))) none
def sp_plus : Spec := mkSp (fun x : Rat × Rat => [.val (fr x.1), .val (fr x.2)]) fun x Q => (∃ n m, Sz n x.1 ∧ Sz m x.2 ∧ n + m ≤ 7999) ∧ Q (.val (fr (x.1 + x.2))) none
def sp_minus : Spec := mkSp (fun x : Rat × Rat => [.val (fr x.1), .val (fr x.2)]) fun x Q => (∃ n m, Sz n x.1 ∧ Sz m x.2 ∧ n + m ≤ 7999) ∧ Q (.val (fr (x.1 - x.2))) none
def sp_times : Spec := mkSp (fun x : Rat × Rat => [.val (fr x.1), .val (fr x.2)]) fun x Q => (∃ n m, Sz n x.1 ∧ Sz m x.2 ∧ n + m ≤ 7999) ∧ Q (.val (fr (x.1 * x.2))) none
def sp_over : Spec := mkSp (fun x : Rat × Rat => [.val (fr x.1), .val (fr x.2)]) fun x Q => (x.2 ≠ 0 ∧ ∃ n m, Sz n x.1 ∧ Sz m x.2 ∧ n + m ≤ 7999) ∧ Q (.val (fr (x.1 / x.2))) none
def clampR (lo v hi : Rat) : Rat := if v < lo then lo else if hi < v then hi else v
def sp_clamp : Spec := mkSp (fun x : Rat × Rat × Rat => [.val (fr x.1), .val (fr x.2.1), .val (fr x.2.2)]) fun x Q => (Sz 8000 x.1 ∧ Sz 8000 x.2.1 ∧ Sz 8000 x.2.2) ∧ Q (.val (fr (clampR x.1 x.2.1 x.2.2))) none
theorem hn_make : ∀ ρ Qd, sp_make ρ Qd → ρ.length = 2 := hn_mk fun _ => rfl
theorem hn_whole : ∀ ρ Qd, sp_whole ρ Qd → ρ.length = 1 := hn_mk fun _ => rfl
theorem hn_less : ∀ ρ Qd, sp_less ρ Qd → ρ.length = 2 := hn_mk fun _ => rfl
theorem hn_plus : ∀ ρ Qd, sp_plus ρ Qd → ρ.length = 2 := hn_mk fun _ => rfl
theorem hn_minus : ∀ ρ Qd, sp_minus ρ Qd → ρ.length = 2 := hn_mk fun _ => rfl
theorem hn_times : ∀ ρ Qd, sp_times ρ Qd → ρ.length = 2 := hn_mk fun _ => rfl
theorem hn_over : ∀ ρ Qd, sp_over ρ Qd → ρ.length = 2 := hn_mk fun _ => rfl
theorem hn_clamp : ∀ ρ Qd, sp_clamp ρ Qd → ρ.length = 3 := hn_mk fun _ => rfl
/- make: slots 0=top 1=bottom 2=one 3=other 4=sign -/
def w_make : DS := (dSeq (dPar 2 3 (dACons (dCB fAbs (dACons (dVar 0) dANil)) (dACons (dCB fAbs (dACons (dVar 1) dANil)) dANil))) (dSeq (dWhile (dTest (dOp fGt (dVar 3) (dC (.int 0)))) (dPar 2 3 (dACons (dVar 3) (dACons (dOp fMod (dVar 2) (dVar 3)) dANil)))) (dSeq (dSet 4 (dIte (dTest (dOp fGt (dVar 1) (dC (.int 0)))) (dC (.int 1)) (dUn fNeg (dC (.int 1))))) (dRet (dTup (dACons (dOp fDiv (dOp fMul (dVar 4) (dVar 0)) (dVar 2)) (dACons (dOp fDiv (dOp fMul (dVar 4) (dVar 1)) (dVar 2)) dANil)))))))
/- whole: slots 0=value -/
def w_whole : DS := (dRet (dTup (dACons (dVar 0) (dACons (dC (.int 1)) dANil))))
/- less: slots 0=one 1=other -/
def w_less : DS := (dRet (dOp fLt (dOp fMul (dOp fIx (dVar 0) (dC (.int 0))) (dOp fIx (dVar 1) (dC (.int 1)))) (dOp fMul (dOp fIx (dVar 1) (dC (.int 0))) (dOp fIx (dVar 0) (dC (.int 1))))))
/- clamp: slots 0=low 1=value 2=high -/
def w_clamp : DS := (dSeq (dIf (dTest (dCall false sp_less (dACons (dVar 1) (dACons (dVar 0) dANil)))) (dRet (dVar 0)) dNext) (dRet (dIte (dTest (dCall false sp_less (dACons (dVar 2) (dACons (dVar 1) dANil)))) (dVar 2) (dVar 1))))
/- minus: slots 0=one 1=other -/
def w_minus : DS := (dRet (dCall false sp_make (dACons (dOp fSub (dOp fMul (dOp fIx (dVar 0) (dC (.int 0))) (dOp fIx (dVar 1) (dC (.int 1)))) (dOp fMul (dOp fIx (dVar 1) (dC (.int 0))) (dOp fIx (dVar 0) (dC (.int 1))))) (dACons (dOp fMul (dOp fIx (dVar 0) (dC (.int 1))) (dOp fIx (dVar 1) (dC (.int 1)))) dANil))))
theorem vc_whole : VC sp_whole w_whole 0 := by
  rintro ρ Qd ⟨i, rfl, h⟩
  unfold w_whole
  walk_at "di"
  rw [fr_int] at h
  exact ⟨lim2, h⟩
theorem vc_make : VC sp_make w_make 3 := by
  rintro ρ Qd ⟨⟨a, b⟩, rfl, ⟨hb, ha2, hb2⟩, h⟩
  unfold w_make
  walk_at "di"
  refine ⟨fun m ρ => ∃ x y : Nat, ρ = [.val (.int a), .val (.int b), .val (.int x), .val (.int y), .no] ∧ Nat.gcd x y = Nat.gcd a.natAbs b.natAbs ∧ m = y, ⟨b.natAbs, a.natAbs, b.natAbs, ?_, rfl, rfl⟩, ?_⟩
  · have e1 : (if a < 0 then -a else a) = (a.natAbs : Int) := by split <;> omega
    have e2 : (if b < 0 then -b else b) = (b.natAbs : Int) := by split <;> omega
    rw [e1, e2]
  · rintro m ρ ⟨x, y, rfl, hg, rfl⟩
    walk_at "di"
    by_cases hy : (0 : Int) < (m : Int)
    · rw [decide_eq_true hy]
      refine ⟨hy, x % m, Nat.mod_lt _ (by omega), m, x % m, rfl, ?_, rfl⟩
      rw [← hg, Nat.gcd_comm x m, Nat.gcd_rec m x, Nat.gcd_comm]
    · rw [decide_eq_false hy]
      have y0 : m = 0 := by omega
      subst y0
      rw [Nat.gcd_zero_right] at hg
      have gpos : 0 < Nat.gcd a.natAbs b.natAbs := Nat.gcd_pos_of_pos_right _ (by omega)
      have gle : Nat.gcd a.natAbs b.natAbs ≤ b.natAbs := Nat.gcd_le_right _ (by omega)
      obtain ⟨p1, p2⟩ := div_parts a b hb
      have hd : ∀ z : Int, CDivW z (x : Int) := fun z => div_ok (b := 8000) (by omega) (by show x < 2 ^ 8000; omega) (by decide)
      have fin : Qd (.val (.tuple [.int ((if 0 < b then 1 else -1) * a / (x : Int)), .int ((if 0 < b then 1 else -1) * b / (x : Int))])) none := by
        rw [hg, ← p1, ← p2]; exact h
      walk_at "di"
      by_cases hs : 0 < b
      · rw [if_pos hs] at fin
        rw [decide_eq_true hs]
        walk_at "di"
        exact ⟨mulL ⟨by decide, by decide⟩, hd _, mulL ⟨by decide, by decide⟩, hd _, lim2, fin⟩
      · rw [if_neg hs] at fin
        rw [decide_eq_false hs]
        walk_at "di"
        exact ⟨mulL ⟨by decide, by decide⟩, hd _, mulL ⟨by decide, by decide⟩, hd _, lim2, fin⟩
theorem vc_less : VC sp_less w_less 0 := by
  rintro ρ Qd ⟨⟨p, q⟩, rfl, ⟨hp, hq⟩, h⟩
  unfold w_less fr
  walk_at "di"
  refine ⟨mul_ok hp.1 (den_abs hq) (by decide), mul_ok hq.1 (den_abs hp) (by decide), ?_⟩
  have e : decide (p.num * ↑q.den < q.num * ↑p.den) = decide (p < q) := decide_eq_decide.mpr (Rat.lt_iff p q).symm
  rw [e]; exact h
theorem vc_clamp : VC sp_clamp w_clamp 0 := by
  rintro ρ Qd ⟨⟨lo, v, hi⟩, rfl, ⟨h1, h2, h3⟩, h⟩
  unfold w_clamp
  walk_at "di"
  refine ⟨(v, lo), rfl, ⟨h2, h1⟩, ?_⟩
  unfold clampR at h
  by_cases c1 : v < lo
  · rw [decide_eq_true c1]
    rw [if_pos c1] at h
    exact h
  · rw [decide_eq_false c1]
    rw [if_neg c1] at h
    walk_at "di"
    refine ⟨(hi, v), rfl, ⟨h3, h2⟩, ?_⟩
    by_cases c2 : hi < v
    · rw [decide_eq_true c2]
      rw [if_pos c2] at h
      exact h
    · rw [decide_eq_false c2]
      rw [if_neg c2] at h
      exact h
theorem vc_minus : VC sp_minus w_minus 0 := by
  rintro ρ Qd ⟨⟨p, q⟩, rfl, ⟨n, m, hp, hq, hnm⟩, h⟩
  unfold w_minus fr
  walk_at "di"
  refine ⟨mul_ok hp.1 (den_abs hq) (by omega), mul_ok hq.1 (den_abs hp) (by omega), mul_ok (den_abs hp) (den_abs hq) (by omega), (_, _), rfl, ⟨den_ne p q, ?_, ?_⟩, ?_⟩
  · exact Nat.lt_of_lt_of_le (natAbs_sub_lt (mul_lt2 hp.1 (den_abs hq)) (by rw [Nat.add_comm n m]; exact mul_lt2 hq.1 (den_abs hp))) (Nat.pow_le_pow_right (by decide) (by omega))
  · exact Nat.lt_of_lt_of_le (mul_lt2 (den_abs hp) (den_abs hq)) (Nat.pow_le_pow_right (by decide) (by omega))
  · rw [rat_sub_eq] at h; exact h
end DL

namespace DL
open PySem PySem.Spec PyProof.Rows L2
local macro_rules | `(tactic| walk_at "dl") => `(tactic| try simp only [dSeq, dNext, dSet, dSetV, dRet, dRetN, dExpr, dBreak, dCont, dPar, dPar3, dAsg, dTest_S, dNot, dNotV_S, dOp, dUn, dC, dVar_S, dVarS_v, dVarS_m, dMov_S, dMovS_m, sB_b, muL_l, muT_t, isI_i, vaI_i, dF_v, dF_m, dChain, fAdd_ii, fAdd_ll, fAdd_tt, fI_ii, fI0_ii, fMul_ii, fMul_ti, fNeg_i, fEq_ii, fNe_ii, fIsN_n, fIsN_l, fIsN_t, fIsN_i, fIx_l, fIx_t, dANil, dACons, dAAt_S, agD, dTup, dLst, dCB, fAbs_i, fMax2_ii, fMin2_ii, fLen_l, fLen_t, fList_l, fInt_i, dParX_2, dParX_3, fList_t, fTuple_l, fTuple_t, dSl, dONone, dOSome, fSl_l, fSl_t, dIsi_S, dIsi2_S, isiS_s, dCall, agOne, agAll, agAt, agSl_d, agSl_s, agS_m, dBack_n, dBack_s, seqS_l, seqS_t, nos, List.replicate, List.append, List.map, List.cons_append, List.nil_append, List.getElem?_cons_zero, List.getElem?_cons_succ, List.set_cons_zero, List.set_cons_succ, ioOf, List.length_cons, List.length_nil, dYes, gdName, gdTupN, gdCons, gdNil, frzAt, frz, dBor, dBorB, flatS, flatD, Option.getD_some, wipeD, dAug_S, dApp_S, dIns_S, dSetI_S, dIxM_S, dAugL_S, ixN_30, ixN_31, ixN_32, atI_0, atI_1, atI_2, atI_3, atI_4, true_and, reduceCtorEq, false_implies, implies_true, forall_const, Bool.not_true, Bool.not_false, Nat.reduceAdd, decide_true, decide_false, Int.reduceLT, Int.reduceLE, Int.reduceEq])
local macro_rules | `(tactic| walk_at "dt") => `(tactic| (walk_at "dl"; (try simp only [dAnd, dOr, dAndV_S, dOrV_S]); walk_at "dl"))
local macro_rules | `(tactic| walk_at "di") => `(tactic| (walk_at "dl"; (try simp only [dIf, dIte]); walk_at "dl"))
local macro_rules | `(tactic| walk_at "ds") => `(tactic| (walk_at "di"; walk_at "dt"; walk_at "di"))

/-! ### total, ordered and the rest of flexrow.numbers -/
/- plus: slots 0=one 1=other -/
def w_plus : DS := (dRet (dCall false sp_make (dACons (dOp fAdd (dOp fMul (dOp fIx (dVar 0) (dC (.int 0))) (dOp fIx (dVar 1) (dC (.int 1)))) (dOp fMul (dOp fIx (dVar 1) (dC (.int 0))) (dOp fIx (dVar 0) (dC (.int 1))))) (dACons (dOp fMul (dOp fIx (dVar 0) (dC (.int 1))) (dOp fIx (dVar 1) (dC (.int 1)))) dANil))))
/- times: slots 0=one 1=other -/
def w_times : DS := (dRet (dCall false sp_make (dACons (dOp fMul (dOp fIx (dVar 0) (dC (.int 0))) (dOp fIx (dVar 1) (dC (.int 0)))) (dACons (dOp fMul (dOp fIx (dVar 0) (dC (.int 1))) (dOp fIx (dVar 1) (dC (.int 1)))) dANil))))
/- over: slots 0=one 1=other -/
def w_over : DS := (dRet (dCall false sp_make (dACons (dOp fMul (dOp fIx (dVar 0) (dC (.int 0))) (dOp fIx (dVar 1) (dC (.int 1)))) (dACons (dOp fMul (dOp fIx (dVar 0) (dC (.int 1))) (dOp fIx (dVar 1) (dC (.int 0)))) dANil))))
theorem vc_plus : VC sp_plus w_plus 0 := by
  rintro ρ Qd ⟨⟨p, q⟩, rfl, ⟨n, m, hp, hq, hnm⟩, h⟩
  unfold w_plus fr
  walk_at "dl"
  refine ⟨mul_ok hp.1 (den_abs hq) (by omega), mul_ok hq.1 (den_abs hp) (by omega), mul_ok (den_abs hp) (den_abs hq) (by omega), (_, _), rfl, ⟨den_ne p q, ?_, ?_⟩, ?_⟩
  · exact Nat.lt_of_lt_of_le (natAbs_add_lt (mul_lt2 hp.1 (den_abs hq)) (by rw [Nat.add_comm n m]; exact mul_lt2 hq.1 (den_abs hp))) (Nat.pow_le_pow_right (by decide) (by omega))
  · exact Nat.lt_of_lt_of_le (mul_lt2 (den_abs hp) (den_abs hq)) (Nat.pow_le_pow_right (by decide) (by omega))
  · rw [rat_add_eq] at h; exact h
theorem vc_times : VC sp_times w_times 0 := by
  rintro ρ Qd ⟨⟨p, q⟩, rfl, ⟨n, m, hp, hq, hnm⟩, h⟩
  unfold w_times fr
  walk_at "dl"
  refine ⟨mul_ok hp.1 hq.1 (by omega), mul_ok (den_abs hp) (den_abs hq) (by omega), (_, _), rfl, ⟨den_ne p q, ?_, ?_⟩, ?_⟩
  · exact Nat.lt_of_lt_of_le (mul_lt2 hp.1 hq.1) (Nat.pow_le_pow_right (by decide) (by omega))
  · exact Nat.lt_of_lt_of_le (mul_lt2 (den_abs hp) (den_abs hq)) (Nat.pow_le_pow_right (by decide) (by omega))
  · rw [rat_mul_eq] at h; exact h
theorem vc_over : VC sp_over w_over 0 := by
  rintro ρ Qd ⟨⟨p, q⟩, rfl, ⟨h0, n, m, hp, hq, hnm⟩, h⟩
  unfold w_over fr
  walk_at "dl"
  have hn : q.num ≠ 0 := fun h => h0 (Rat.num_eq_zero.mp h)
  have hd := p.den_pos
  refine ⟨mul_ok hp.1 (den_abs hq) (by omega), mul_ok (den_abs hp) hq.1 (by omega), (_, _), rfl, ⟨Int.mul_ne_zero (by omega) hn, ?_, ?_⟩, ?_⟩
  · exact Nat.lt_of_lt_of_le (mul_lt2 hp.1 (den_abs hq)) (Nat.pow_le_pow_right (by decide) (by omega))
  · exact Nat.lt_of_lt_of_le (mul_lt2 (den_abs hp) hq.1) (Nat.pow_le_pow_right (by decide) (by omega))
  · rw [rat_div_eq] at h; exact h
def sumR : List Rat → Rat
  | [] => 0
  | x :: r => x + sumR r
theorem sumR_app : ∀ l m : List Rat, sumR (l ++ m) = sumR l + sumR m
  | [], m => by show sumR m = 0 + sumR m; grind
  | x :: r, m => by
    show x + sumR (r ++ m) = (x + sumR r) + sumR m
    rw [sumR_app r m]; grind
theorem sumR_take {l : List Rat} {i : Nat} {q : Rat} (h : l[i]? = some q) : sumR (l.take (i + 1)) = sumR (l.take i) + q := by
  rw [List.take_add_one, h, sumR_app]
  show _ + (q + 0) = _
  grind
theorem sz_sum {n : Nat} : ∀ {l : List Rat}, (∀ q ∈ l, Sz n q) → Sz (l.length * (n + 1) + 1) (sumR l)
  | [], _ => ⟨Nat.pow_pos (by decide), Nat.one_lt_two_pow (by omega)⟩
  | x :: r, h => by
    have h1 := sz_sum (l := r) fun q hq => h q (List.mem_cons_of_mem _ hq)
    have h2 := sz_add (h x (List.mem_cons_self ..)) h1
    refine h2.mono ?_
    rw [List.length_cons, Nat.add_mul]
    omega
def sp_total : Spec := mkSp (fun x : List Rat => [.val (.list (x.map fr))]) fun x Q => (∃ n, (∀ q ∈ x, Sz n q) ∧ x.length * (n + 1) + 1 + n ≤ 7999) ∧ Q (.val (fr (sumR x))) none
theorem hn_total : ∀ ρ Qd, sp_total ρ Qd → ρ.length = 1 := hn_mk fun _ => rfl
/- total: slots 0=values 1=found 2=value -/
def w_total : DS := (dSeq (dSet 1 (dTup (dACons (dC (.int 0)) (dACons (dC (.int 1)) dANil)))) (dSeq (dFor (diSeq (dVar 0)) (gdName 2) (dSet 1 (dCall false sp_plus (dACons (dVar 1) (dACons (dVar 2) dANil))))) (dRet (dVar 1))))
/- ordered: slots 0=values 1=found 2=value 3=at -/
def w_ordered : DS := (dSeq (dSet 1 (dLst dANil)) (dSeq (dFor (diSeq (dVar 0)) (gdName 2) (dSeq (dSet 3 (dC (.int 0))) (dSeq (dWhile (dBorB [1] (dAnd (dTest (dOp fLt (dVar 3) (dCB fLen (dACons (dVar 1) dANil)))) (dTest (dCall true sp_less (dACons (dOp fIx (dVar 1) (dVar 3)) (dACons (dVar 2) dANil)))))) (dAug 3 (fun a b => a + b) (dC (.int 1)))) (dIf (dBorB [1] (dOr (dTest (dOp fEq (dVar 3) (dCB fLen (dACons (dVar 1) dANil)))) (dTest (dOp fNe (dOp fIx (dVar 1) (dVar 3)) (dVar 2))))) (dIns 1 (dVar 3) (dVar 2)) dNext)))) (dRet (dMov 1))))
theorem vc_total : VC sp_total w_total 2 := by
  rintro ρ Qd ⟨l, rfl, ⟨n, hl, hn⟩, h⟩
  unfold w_total
  walk_at "dl"
  refine ⟨lim2, ?_⟩
  simp only [dFor, diSeq]
  walk_at "dl"
  refine ⟨fun i ρ => ∃ z, ρ = [.val (.list (l.map fr)), .val (fr (sumR (l.take i))), z], ⟨.no, rfl⟩, ?_, ?_⟩
  · rintro i d ρ hi ⟨z, rfl⟩
    obtain ⟨q, hq, rfl⟩ : ∃ q, l[i]? = some q ∧ fr q = d := by simpa using hi
    walk_at "dl"
    refine ⟨(_, _), rfl, ⟨_, n, sz_sum fun q hq => hl q (List.mem_of_mem_take hq), hl q (List.mem_of_getElem? hq), ?_⟩, _, by rw [sumR_take hq]⟩
    have : (l.take i).length ≤ l.length := by rw [List.length_take]; omega
    have := Nat.mul_le_mul_right (n + 1) this
    omega
  · rintro ρ ⟨z, rfl⟩
    walk_at "dl"
    rw [List.length_map, List.take_length]
    exact h
/-- one number put into its place -/
def insR : List Rat → Rat → List Rat
  | [], q => [q]
  | a :: r, q => if a < q then a :: insR r q else if a = q then a :: r else q :: a :: r
def ordR (l : List Rat) : List Rat := l.foldl insR []
/-- how many stand ahead of it -/
def aheadR : List Rat → Rat → Nat
  | [], _ => 0
  | a :: r, q => if a < q then aheadR r q + 1 else 0
theorem ahead_le : ∀ (l : List Rat) (q : Rat), aheadR l q ≤ l.length
  | [], _ => Nat.le_refl _
  | a :: r, q => by
    unfold aheadR
    split
    · have := ahead_le r q; simp; omega
    · omega
theorem ahead_lt : ∀ {l : List Rat} {q : Rat} {i : Nat} {x : Rat}, i < aheadR l q → l[i]? = some x → x < q
  | [], _, _, _, h, _ => by cases h
  | a :: r, q, i, x, h, hx => by
    unfold aheadR at h
    split at h
    · rename_i hc
      cases i with
      | zero => simp at hx; rw [← hx]; exact hc
      | succ i => exact ahead_lt (l := r) (i := i) (by omega) (by simpa using hx)
    · omega
theorem ahead_not : ∀ {l : List Rat} {q : Rat} {x : Rat}, l[aheadR l q]? = some x → ¬ x < q
  | [], _, _, h => by simp [aheadR] at h
  | a :: r, q, x, h => by
    unfold aheadR at h
    split at h
    · exact ahead_not (l := r) (by simpa using h)
    · rename_i hc
      simp at h; rw [← h]; exact hc
theorem ins_eq : ∀ (l : List Rat) (q : Rat), insR l q = if l[aheadR l q]? = some q then l else l.take (aheadR l q) ++ [q] ++ l.drop (aheadR l q)
  | [], q => rfl
  | a :: r, q => by
    unfold insR aheadR
    by_cases hc : a < q
    · rw [if_pos hc, if_pos hc, ins_eq r q]
      simp only [List.getElem?_cons_succ]
      split <;> simp
    · rw [if_neg hc, if_neg hc]
      by_cases he : a = q
      · subst he; simp
      · rw [if_neg he, if_neg (by simpa using he)]
        simp
theorem ins_len : ∀ (l : List Rat) (q : Rat), (insR l q).length ≤ l.length + 1
  | [], q => Nat.le_refl _
  | a :: r, q => by
    unfold insR
    split
    · have := ins_len r q; simp; omega
    · split <;> simp
theorem ins_mem {x : Rat} : ∀ {l : List Rat} {q : Rat}, x ∈ insR l q ↔ x = q ∨ x ∈ l
  | [], q => by simp [insR]
  | a :: r, q => by
    unfold insR
    by_cases hc : a < q
    · rw [if_pos hc, List.mem_cons, ins_mem (l := r), List.mem_cons]
      constructor
      · rintro (h | h | h)
        · exact .inr (.inl h)
        · exact .inl h
        · exact .inr (.inr h)
      · rintro (h | h | h)
        · exact .inr (.inl h)
        · exact .inl h
        · exact .inr (.inr h)
    · rw [if_neg hc]
      by_cases he : a = q
      · subst he; simp
      · rw [if_neg he]; simp
theorem ins_sorted : ∀ {l : List Rat} {q : Rat}, l.Pairwise (· < ·) → (insR l q).Pairwise (· < ·)
  | [], q, _ => by simp [insR]
  | a :: r, q, h => by
    obtain ⟨h1, h2⟩ := List.pairwise_cons.mp h
    unfold insR
    by_cases hc : a < q
    · rw [if_pos hc]
      refine List.pairwise_cons.mpr ⟨fun x hx => ?_, ins_sorted h2⟩
      rcases ins_mem.mp hx with rfl | hx
      · exact hc
      · exact h1 x hx
    · rw [if_neg hc]
      by_cases he : a = q
      · rw [if_pos he]; exact h
      · rw [if_neg he]
        have hq : q < a := by grind
        refine List.pairwise_cons.mpr ⟨fun x hx => ?_, h⟩
        rcases List.mem_cons.mp hx with rfl | hx
        · exact hq
        · have := h1 x hx; grind
theorem ord_app (l : List Rat) (q : Rat) : ordR (l ++ [q]) = insR (ordR l) q := by unfold ordR; rw [List.foldl_append]; rfl
theorem foldl_ins_mem {x : Rat} : ∀ {l acc : List Rat}, x ∈ l.foldl insR acc ↔ x ∈ acc ∨ x ∈ l
  | [], acc => by simp
  | q :: r, acc => by
    rw [List.foldl_cons, foldl_ins_mem (l := r), ins_mem, List.mem_cons]
    grind
theorem ord_mem {x : Rat} {l : List Rat} : x ∈ ordR l ↔ x ∈ l := by unfold ordR; rw [foldl_ins_mem]; simp
theorem foldl_ins_sorted : ∀ {l acc : List Rat}, acc.Pairwise (· < ·) → (l.foldl insR acc).Pairwise (· < ·)
  | [], _, h => h
  | q :: r, acc, h => foldl_ins_sorted (l := r) (ins_sorted h)
theorem ord_sorted (l : List Rat) : (ordR l).Pairwise (· < ·) := foldl_ins_sorted .nil
theorem foldl_ins_len : ∀ {l acc : List Rat}, (l.foldl insR acc).length ≤ acc.length + l.length
  | [], acc => by simp
  | q :: r, acc => by
    rw [List.foldl_cons]
    have h1 := foldl_ins_len (l := r) (acc := insR acc q)
    have h2 := ins_len acc q
    simp only [List.length_cons]; omega
theorem ord_len (l : List Rat) : (ordR l).length ≤ l.length := by
  have := foldl_ins_len (l := l) (acc := [])
  simpa [ordR] using this
theorem shaped_fr (q : Rat) : SeqAt.shaped (fr q) = true := rfl
theorem eqv_fr (p q : Rat) : PyData.eqv (fr p) (fr q) = decide (p = q) := by
  unfold fr
  have e : PyData.eqv (.tuple [.int p.num, .int p.den]) (.tuple [.int q.num, .int q.den]) = ((p.num == q.num) && ((((p.den : Nat) : Int) == ((q.den : Nat) : Int)) && true)) := by simp only [PyData.eqv, PyData.eqvAll]
  rw [e]
  by_cases h : p = q
  · subst h; simp
  · rw [decide_eq_false h]
    cases h1 : p.num == q.num with
    | false => rfl
    | true =>
      cases h2 : ((p.den : Nat) : Int) == ((q.den : Nat) : Int) with
      | false => rfl
      | true => exact absurd (Rat.ext (eq_of_beq h1) (Int.ofNat.inj (eq_of_beq h2))) h
theorem fNe_fr {p q : Rat} {Q : Sl → Prop} (h : Q (.val (.bool (!decide (p = q))))) : fNe (fr p) (fr q) Q := by
  show SeqAt.shaped (fr p) = true ∧ SeqAt.shaped (fr q) = true ∧ Q (.val (.bool (!PyData.eqv (fr p) (fr q))))
  rw [eqv_fr]
  exact ⟨rfl, rfl, h⟩
theorem fEq_fr {p q : Rat} {Q : Sl → Prop} (h : Q (.val (.bool (decide (p = q))))) : fEq (fr p) (fr q) Q := by
  show SeqAt.shaped (fr p) = true ∧ SeqAt.shaped (fr q) = true ∧ Q (.val (.bool (PyData.eqv (fr p) (fr q))))
  rw [eqv_fr]
  exact ⟨rfl, rfl, h⟩
def sp_ordered : Spec := mkSp (fun x : List Rat => [.val (.list (x.map fr))]) fun x Q => ((∀ q ∈ x, Sz 8000 q) ∧ x.length < lim) ∧ Q (.mu true (.lst ((ordR x).map fr))) none
theorem hn_ordered : ∀ ρ Qd, sp_ordered ρ Qd → ρ.length = 1 := hn_mk fun _ => rfl
theorem vc_ordered : VC sp_ordered w_ordered 3 := by
  rintro ρ Qd ⟨l, rfl, ⟨hl, hlen⟩, h⟩
  unfold w_ordered
  walk_at "dl"
  refine ⟨Nat.zero_le _, ?_⟩
  simp only [dFor, diSeq]
  walk_at "dl"
  refine ⟨fun i ρ => ∃ y z, ρ = [.val (.list (l.map fr)), .mu true (.lst ((ordR (l.take i)).map fr)), y, z], ⟨.no, .no, rfl⟩, ?_, ?_⟩
  · rintro i d ρ hi ⟨y, z, rfl⟩
    obtain ⟨q, hq, rfl⟩ : ∃ q, l[i]? = some q ∧ fr q = d := by simpa using hi
    have hi' : i < l.length := lt_len hq
    have szq := hl q (List.mem_of_getElem? hq)
    generalize hs : ordR (l.take i) = s
    have szs : ∀ x ∈ s, Sz 8000 x := fun x hx => hl x (List.mem_of_mem_take (ord_mem.mp (hs ▸ hx)))
    have hsl : s.length < lim := by
      have h1 := ord_len (l.take i)
      rw [List.length_take, hs] at h1
      omega
    have e : ordR (l.take (i + 1)) = insR s q := by rw [List.take_add_one, hq, ← hs]; exact ord_app _ _
    walk_at "dl"
    simp only [dWhile]
    have al := ahead_le s q
    refine ⟨fun m ρ => ∃ k : Nat, ρ = [.val (.list (l.map fr)), .mu true (.lst (s.map fr)), .val (fr q), .val (.int k)] ∧ k ≤ aheadR s q ∧ m = s.length - k, ⟨_, 0, rfl, Nat.zero_le _, rfl⟩, ?_⟩
    rintro m ρ ⟨k, rfl, hk, rfl⟩
    have test : ∀ Q : Bool → En → Prop, Q (decide (k < aheadR s q)) [.val (.list (l.map fr)), .mu true (.lst (s.map fr)), .val (fr q), .val (.int k)] → dBorB [1] (dAnd (dTest (dOp fLt (dVar 3) (dCB fLen (dACons (dVar 1) dANil)))) (dTest (dCall true sp_less (dACons (dOp fIx (dVar 1) (dVar 3)) (dACons (dVar 2) dANil))))) [.val (.list (l.map fr)), .mu true (.lst (s.map fr)), .val (fr q), .val (.int k)] Q := fun Q hQ => by
      walk_at "dt"
      rw [List.length_map]
      by_cases c1 : k < s.length
      · rw [decide_eq_true (by omega : ((k : Nat) : Int) < ((s.length : Nat) : Int))]
        obtain ⟨x, hx⟩ : ∃ x, s[k]? = some x := ⟨_, List.getElem?_eq_getElem c1⟩
        rw [atI_map hx]
        refine ⟨(x, q), rfl, ⟨szs x (List.mem_of_getElem? hx), szq⟩, ?_⟩
        have e2 : decide (x < q) = decide (k < aheadR s q) := decide_eq_decide.mpr ⟨fun c2 => by
          rcases Nat.lt_or_ge k (aheadR s q) with z | z
          · exact z
          · have e3 : k = aheadR s q := by omega
            subst e3
            exact absurd c2 (ahead_not hx), fun z => ahead_lt z hx⟩
        rw [e2]; exact hQ
      · rw [decide_eq_false (by omega : ¬ ((k : Nat) : Int) < ((s.length : Nat) : Int))]
        rw [decide_eq_false (by omega)] at hQ
        exact hQ
    refine test _ ?_
    by_cases c1 : k < aheadR s q
    · rw [decide_eq_true c1]
      walk_at "dl"
      exact ⟨_, by omega, k + 1, rfl, by omega, rfl⟩
    · rw [decide_eq_false c1, e]
      have e3 : k = aheadR s q := by omega
      subst e3
      have test2 : ∀ Q : Bool → En → Prop, Q (decide (s[aheadR s q]? ≠ some q)) [.val (.list (l.map fr)), .mu true (.lst (s.map fr)), .val (fr q), .val (.int (aheadR s q : Nat))] → dBorB [1] (dOr (dTest (dOp fEq (dVar 3) (dCB fLen (dACons (dVar 1) dANil)))) (dTest (dOp fNe (dOp fIx (dVar 1) (dVar 3)) (dVar 2)))) [.val (.list (l.map fr)), .mu true (.lst (s.map fr)), .val (fr q), .val (.int (aheadR s q : Nat))] Q := fun Q hQ => by
        walk_at "dt"
        rw [List.length_map]
        by_cases c1 : aheadR s q = s.length
        · rw [decide_eq_true (by omega : ((aheadR s q : Nat) : Int) = ((s.length : Nat) : Int))]
          rw [decide_eq_true (by rw [List.getElem?_eq_none (by omega)]; simp)] at hQ
          exact hQ
        · rw [decide_eq_false (by omega : ¬ ((aheadR s q : Nat) : Int) = ((s.length : Nat) : Int))]
          obtain ⟨x, hx⟩ : ∃ x, s[aheadR s q]? = some x := ⟨_, List.getElem?_eq_getElem (by omega)⟩
          rw [atI_map hx]
          refine fNe_fr ?_
          rw [hx] at hQ
          have e4 : (!decide (x = q)) = decide (some x ≠ some q) := by by_cases c : x = q <;> simp [c]
          rw [e4]; exact hQ
      simp only [dSeq, dIf]
      refine test2 _ ?_
      rw [ins_eq]
      by_cases c2 : s[aheadR s q]? = some q
      · rw [if_pos c2, decide_eq_false (by simpa using c2)]
        exact ⟨_, _, rfl⟩
      · rw [if_neg c2, decide_eq_true c2]
        simp only [dIns]
        walk_at "dl"
        refine ⟨⟨by rw [List.length_map]; exact hsl, by omega, ?_⟩, .val (fr q), .val (.int (aheadR s q : Nat)), ?_⟩
        · have : lim = 100000 := rfl
          omega
        · simp [List.map_take, List.map_drop]
  · rintro ρ ⟨y, z, rfl⟩
    walk_at "dl"
    rw [List.length_map, List.take_length]
    exact h
end DL

namespace DL
open PySem PySem.Spec PyProof.Rows L2
local macro_rules | `(tactic| walk_at "dl") => `(tactic| try simp only [dSeq, dNext, dSet, dSetV, dRet, dRetN, dExpr, dBreak, dCont, dPar, dPar3, dAsg, dTest_S, dNot, dNotV_S, dOp, dUn, dC, dVar_S, dVarS_v, dVarS_m, dMov_S, dMovS_m, sB_b, muL_l, muT_t, isI_i, vaI_i, dF_v, dF_m, dChain, fAdd_ii, fAdd_ll, fAdd_tt, fI_ii, fI0_ii, fMul_ii, fMul_ti, fNeg_i, fEq_ii, fNe_ii, fIsN_n, fIsN_l, fIsN_t, fIsN_i, fIx_l, fIx_t, dANil, dACons, dAAt_S, agD, dTup, dLst, dCB, fAbs_i, fMax2_ii, fMin2_ii, fLen_l, fLen_t, fList_l, fInt_i, dParX_2, dParX_3, fList_t, fTuple_l, fTuple_t, dSl, dONone, dOSome, fSl_l, fSl_t, dIsi_S, dIsi2_S, isiS_s, dCall, agOne, agAll, agAt, agSl_d, agSl_s, agS_m, dBack_n, dBack_s, seqS_l, seqS_t, nos, List.replicate, List.append, List.map, List.cons_append, List.nil_append, List.getElem?_cons_zero, List.getElem?_cons_succ, List.set_cons_zero, List.set_cons_succ, ioOf, List.length_cons, List.length_nil, dYes, gdName, gdTupN, gdCons, gdNil, frzAt, frz, dBor, dBorB, flatS, flatD, Option.getD_some, wipeD, dAug_S, dApp_S, dIns_S, dSetI_S, dIxM_S, dAugL_S, ixN_30, ixN_31, ixN_32, atI_0, atI_1, atI_2, atI_3, atI_4, true_and, reduceCtorEq, false_implies, implies_true, forall_const, Bool.not_true, Bool.not_false, Nat.reduceAdd, decide_true, decide_false, Int.reduceLT, Int.reduceLE, Int.reduceEq])
local macro_rules | `(tactic| walk_at "dt") => `(tactic| (walk_at "dl"; (try simp only [dAnd, dOr, dAndV_S, dOrV_S]); walk_at "dl"))
local macro_rules | `(tactic| walk_at "di") => `(tactic| (walk_at "dl"; (try simp only [dIf, dIte]); walk_at "dl"))
local macro_rules | `(tactic| walk_at "ds") => `(tactic| (walk_at "di"; walk_at "dt"; walk_at "di"))

/-! ### flexrow.rows: what is a row -/
structure Pan where
  b : Int
  g : Int
  s : Int
  lo : Int
  hi : Int
def pan (p : Pan) : D := .tuple [.int p.b, .int p.g, .int p.s, .int p.lo, .int p.hi]
def rowD (r : List Pan) : D := .tuple (r.map pan)
structure PanOk (p : Pan) : Prop where
  b0 : 0 ≤ p.b
  b1 : p.b ≤ 400
  g0 : 0 ≤ p.g
  g1 : p.g ≤ 100
  s0 : 0 ≤ p.s
  s1 : p.s ≤ 100
  l0 : 0 ≤ p.lo
  lh : p.lo ≤ p.hi
  h1 : p.hi ≤ 400
structure RowOk (r : List Pan) : Prop where
  n1 : 1 ≤ r.length
  n8 : r.length ≤ 8
  all : ∀ p ∈ r, PanOk p
/-- no dict at the top -/
def isDct : D → Bool
  | .dict _ => true
  | _ => false
def btwD : D → Int → Int → Bool
  | .int i, lo, hi => decide (lo ≤ i) && decide (i ≤ hi)
  | _, _, _ => false
def sp_is_between : Spec := mkSp (fun x : D × Int × Int => [.val x.1, .val (.int x.2.1), .val (.int x.2.2)]) fun x Q => isDct x.1 = false ∧ Q (.val (.bool (btwD x.1 x.2.1 x.2.2))) none
theorem hn_is_between : ∀ ρ Qd, sp_is_between ρ Qd → ρ.length = 3 := hn_mk fun _ => rfl
/- is_between: slots 0=value 1=low 2=high -/
def w_is_between : DS := (dRet (dAndV (dIsi "int" (dVar 0)) (dAndV (dNotV (dIsi "bool" (dVar 0))) (dChain fLe fLe (dVar 1) (dVar 0) (dVar 2)))))
theorem vc_is_between : VC sp_is_between w_is_between 0 := by
  rintro ρ Qd ⟨⟨x, lo, hi⟩, rfl, hd, h⟩
  unfold w_is_between
  walk_at "di"
  walk_at "dt"
  cases x with
  | dict _ => cases hd
  | int i =>
    simp only [isT]
    walk_at "di"
    by_cases c : lo ≤ i
    · rw [decide_eq_true c]
      simp only [btwD, decide_eq_true c, Bool.true_and] at h
      exact h
    · rw [decide_eq_false c]
      simp only [btwD, decide_eq_false c, Bool.false_and] at h
      exact h
  | _ => exact h
def isPanD : D → Bool
  | .tuple [a, b, c, d, .int e] => btwD b 0 100 && btwD c 0 100 && btwD a 0 400 && btwD (.int e) 0 400 && btwD d 0 e
  | _ => false
def sp_is_panel : Spec := mkSp (fun x : D => [.val x]) fun x Q => x.canLay0 = true ∧ Q (.val (.bool (isPanD x))) none
theorem hn_is_panel : ∀ ρ Qd, sp_is_panel ρ Qd → ρ.length = 1 := hn_mk fun _ => rfl
theorem lay_dct {x : D} (h : x.canLay0 = true) : isDct x = false := by cases x <;> first | rfl | (simp [PyData.canLay0] at h)
theorem lay_cons {x : D} {l : List D} (h : PyData.canLayAll0 (x :: l) = true) : x.canLay0 = true ∧ PyData.canLayAll0 l = true := by simpa [PyData.canLayAll0] using h
theorem lay_tup {l : List D} (h : (PyData.tuple l).canLay0 = true) : PyData.canLayAll0 l = true := by simpa [PyData.canLay0] using h
theorem lay_lst {l : List D} (h : (PyData.list l).canLay0 = true) : PyData.canLayAll0 l = true := by simpa [PyData.canLay0] using h
theorem lay_mem {x : D} : ∀ {l : List D}, PyData.canLayAll0 l = true → x ∈ l → x.canLay0 = true
  | [], _, h => by cases h
  | y :: l, h, hx => by
    obtain ⟨h1, h2⟩ := lay_cons h
    rcases List.mem_cons.mp hx with rfl | hx
    · exact h1
    · exact lay_mem h2 hx
/- is_panel: slots 0=value -/
def w_is_panel : DS := (dSeq (dIf (dOr (dNot (dTest (dIsi "tuple" (dVar 0)))) (dTest (dOp fNe (dCB fLen (dACons (dVar 0) dANil)) (dC (.int 5))))) (dRet (dC (.bool false))) dNext) (dSeq (dIf (dOr (dNot (dTest (dCall false sp_is_between (dACons (dOp fIx (dVar 0) (dC (.int 1))) (dACons (dC (.int 0)) (dACons (dC (.int 100)) dANil)))))) (dNot (dTest (dCall false sp_is_between (dACons (dOp fIx (dVar 0) (dC (.int 2))) (dACons (dC (.int 0)) (dACons (dC (.int 100)) dANil))))))) (dRet (dC (.bool false))) dNext) (dSeq (dIf (dOr (dNot (dTest (dCall false sp_is_between (dACons (dOp fIx (dVar 0) (dC (.int 0))) (dACons (dC (.int 0)) (dACons (dC (.int 400)) dANil)))))) (dNot (dTest (dCall false sp_is_between (dACons (dOp fIx (dVar 0) (dC (.int 4))) (dACons (dC (.int 0)) (dACons (dC (.int 400)) dANil))))))) (dRet (dC (.bool false))) dNext) (dRet (dCall false sp_is_between (dACons (dOp fIx (dVar 0) (dC (.int 3))) (dACons (dC (.int 0)) (dACons (dOp fIx (dVar 0) (dC (.int 4))) dANil))))))))
theorem isPanD_not5 {l : List D} (h : l.length ≠ 5) : isPanD (.tuple l) = false := by
  match l, h with
  | [], _ => rfl
  | [_], _ => rfl
  | [_, _], _ => rfl
  | [_, _, _], _ => rfl
  | [_, _, _, _], _ => rfl
  | [_, _, _, _, _], h => exact absurd rfl h
  | _ :: _ :: _ :: _ :: e :: _ :: _, _ => cases e <;> rfl
theorem btw_int {e : D} {lo hi : Int} (h : btwD e lo hi = true) : ∃ i, e = .int i := by cases e <;> first | exact ⟨_, rfl⟩ | cases h
theorem vc_is_panel : VC sp_is_panel w_is_panel 0 := by
  rintro ρ Qd ⟨x, rfl, hx, h⟩
  unfold w_is_panel
  walk_at "di"
  walk_at "dt"
  cases x with
  | dict _ => cases hx
  | tuple l =>
    simp only [isT]
    walk_at "di"
    by_cases h5 : l.length = 5
    · rw [h5]
      match l, h5 with
      | [a, b, c, d, e], _ =>
        obtain ⟨la, hx⟩ := lay_cons (lay_tup hx)
        obtain ⟨lb, hx⟩ := lay_cons hx
        obtain ⟨lc, hx⟩ := lay_cons hx
        obtain ⟨ld, hx⟩ := lay_cons hx
        obtain ⟨le, _⟩ := lay_cons hx
        walk_at "di"
        walk_at "di"
        walk_at "dt"
        refine ⟨(b, 0, 100), rfl, lay_dct lb, ?_⟩
        cases c1 : btwD b 0 100 with
        | false =>
          have e1 : isPanD (.tuple [a, b, c, d, e]) = false := by
            unfold isPanD
            split <;> rename_i q <;> first | rfl | (injection q with q; injection q with q1 q; injection q with q2 q; subst q2; rw [c1]; rfl)
          rw [e1] at h
          exact h
        | true =>
        walk_at "di"
        walk_at "dt"
        refine ⟨(c, 0, 100), rfl, lay_dct lc, ?_⟩
        cases c2 : btwD c 0 100 with
        | false =>
          have e1 : isPanD (.tuple [a, b, c, d, e]) = false := by
            unfold isPanD
            split <;> rename_i q <;> first | rfl | (injection q with q; injection q with q1 q; injection q with q2 q; injection q with q3 q; subst q3; rw [c2]; simp)
          rw [e1] at h
          exact h
        | true =>
        walk_at "di"
        walk_at "dt"
        refine ⟨(a, 0, 400), rfl, lay_dct la, ?_⟩
        cases c3 : btwD a 0 400 with
        | false =>
          have e1 : isPanD (.tuple [a, b, c, d, e]) = false := by
            unfold isPanD
            split <;> rename_i q <;> first | rfl | (injection q with q; injection q with q1 q; subst q1; rw [c3]; simp)
          rw [e1] at h
          exact h
        | true =>
        walk_at "di"
        walk_at "dt"
        refine ⟨(e, 0, 400), rfl, lay_dct le, ?_⟩
        cases c4 : btwD e 0 400 with
        | false =>
          have e1 : isPanD (.tuple [a, b, c, d, e]) = false := by
            unfold isPanD
            split <;> rename_i q <;> first | rfl | (injection q with q; injection q with q1 q; injection q with q2 q; injection q with q3 q; injection q with q4 q; injection q with q5 q; subst q5; rw [c4]; simp)
          rw [e1] at h
          exact h
        | true =>
        obtain ⟨i, rfl⟩ := btw_int c4
        walk_at "di"
        walk_at "dt"
        refine ⟨(d, 0, i), rfl, lay_dct ld, ?_⟩
        have e1 : isPanD (.tuple [a, b, c, d, .int i]) = btwD d 0 i := by
          show (btwD b 0 100 && btwD c 0 100 && btwD a 0 400 && btwD (.int i) 0 400 && btwD d 0 i) = _
          rw [c1, c2, c3, c4]; rfl
        rw [e1] at h
        exact h
    · rw [decide_eq_false (by omega : ¬ ((l.length : Nat) : Int) = 5)]
      rw [isPanD_not5 h5] at h
      exact h
  | _ => exact h
def isRowD : D → Bool
  | .tuple l => decide (1 ≤ l.length) && decide (l.length ≤ 8) && l.all isPanD
  | _ => false
def sp_is_row : Spec := mkSp (fun x : D => [.val x]) fun x Q => x.canLay0 = true ∧ Q (.val (.bool (isRowD x))) none
theorem hn_is_row : ∀ ρ Qd, sp_is_row ρ Qd → ρ.length = 1 := hn_mk fun _ => rfl
/- is_row: slots 0=value 1=panel -/
def w_is_row : DS := (dSeq (dIf (dOr (dNot (dTest (dIsi "tuple" (dVar 0)))) (dNot (dTest (dChain fLe fLe (dC (.int 1)) (dCB fLen (dACons (dVar 0) dANil)) (dC (.int 8)))))) (dRet (dC (.bool false))) dNext) (dRet (dCB fAll (dACons (dLc (diSeq (dVar 0)) (gdName 1) dYes (dCall false sp_is_panel (dACons (dVar 1) dANil)) [1]) dANil))))
theorem filterMap_some {α β : Type} (f : α → β) (l : List α) : l.filterMap (fun x => some (f x)) = l.map f := by
  induction l with
  | nil => rfl
  | cons a r ih => simp [ih]
theorem vc_is_row : VC sp_is_row w_is_row 1 := by
  rintro ρ Qd ⟨x, rfl, hx, h⟩
  unfold w_is_row
  walk_at "di"
  walk_at "dt"
  cases x with
  | dict _ => cases hx
  | tuple l =>
    simp only [isT]
    walk_at "di"
    have hl := lay_tup hx
    by_cases c1 : 1 ≤ l.length
    · rw [decide_eq_true (by omega : (1 : Int) ≤ ((l.length : Nat) : Int))]
      by_cases c2 : l.length ≤ 8
      · rw [decide_eq_true (by omega : ((l.length : Nat) : Int) ≤ 8)]
        simp only [dLc, diSeq]
        walk_at "di"
        refine ⟨lcP l (fun d => some (.bool (isPanD d))) [.val (.tuple l), .no], lcP_0, fun i acc d ρ hi p => ?_, fun acc ρ p => ?_⟩
        · obtain ⟨rfl, rfl⟩ := id p
          walk_at "di"
          refine ⟨d, rfl, lay_mem hl (List.mem_of_getElem? hi), ?_⟩
          exact lcP_yes (by unfold lim; omega) hi p rfl rfl
        · obtain ⟨rfl, rfl⟩ := lcP_end p
          walk_at "di"
          rw [filterMap_some, show (l.map fun d => PyData.bool (isPanD d)) = (l.map isPanD).map PyData.bool by rw [List.map_map]; rfl]
          refine fAll_l ?_
          have e : isRowD (.tuple l) = (l.map isPanD).all id := by
            show (decide (1 ≤ l.length) && decide (l.length ≤ 8) && l.all isPanD) = _
            rw [decide_eq_true c1, decide_eq_true c2, List.all_map]; rfl
          rw [e] at h
          exact h
      · rw [decide_eq_false (by omega : ¬ ((l.length : Nat) : Int) ≤ 8)]
        have e : isRowD (.tuple l) = false := by
          show (decide (1 ≤ l.length) && decide (l.length ≤ 8) && l.all isPanD) = _
          rw [decide_eq_false c2]; simp
        rw [e] at h
        exact h
    · rw [decide_eq_false (by omega : ¬ (1 : Int) ≤ ((l.length : Nat) : Int))]
      have e : isRowD (.tuple l) = false := by
        show (decide (1 ≤ l.length) && decide (l.length ≤ 8) && l.all isPanD) = _
        rw [decide_eq_false c1]; simp
      rw [e] at h
      exact h
  | _ => exact h
theorem isPanD_pan {p : Pan} (h : PanOk p) : isPanD (pan p) = true := by
  have h' := h
  obtain ⟨h1, h2, h3, h4, h5, h6, h7, h8, h9⟩ := h'
  show (btwD _ 0 100 && btwD _ 0 100 && btwD _ 0 400 && btwD _ 0 400 && btwD _ 0 _) = true
  simp only [btwD, Bool.and_eq_true, decide_eq_true_eq]
  omega
theorem pan_lay (p : Pan) : (pan p).canLay0 = true := by simp [pan, PyData.canLay0, PyData.canLayAll0]
theorem layAll {l : List D} (h : ∀ x ∈ l, x.canLay0 = true) : PyData.canLayAll0 l = true := by
  induction l with
  | nil => simp only [PyData.canLayAll0]
  | cons a r ih => simp [PyData.canLayAll0, h a (List.mem_cons_self ..), ih fun x hx => h x (List.mem_cons_of_mem _ hx)]
theorem row_lay (r : List Pan) : (rowD r).canLay0 = true := by
  show PyData.canLayAll0 (r.map pan) = true
  exact layAll fun x hx => by
    obtain ⟨p, _, rfl⟩ := List.mem_map.mp hx
    exact pan_lay p
theorem isRowD_row {r : List Pan} (h : RowOk r) : isRowD (rowD r) = true := by
  show (decide (1 ≤ (r.map pan).length) && decide ((r.map pan).length ≤ 8) && (r.map pan).all isPanD) = true
  rw [List.length_map, decide_eq_true h.n1, decide_eq_true h.n8, List.all_map]
  simp only [Bool.true_and, List.all_eq_true]
  exact fun p hp => isPanD_pan (h.all p hp)
def sp_check_row : Spec := mkSp (fun x : D => [.val x]) fun x Q => (x.canLay0 = true ∧ isRowD x = true) ∧ Q (.val .none) none
theorem hn_check_row : ∀ ρ Qd, sp_check_row ρ Qd → ρ.length = 1 := hn_mk fun _ => rfl
/- check_row: slots 0=row -/
def w_check_row : DS := (dIf (dNot (dTest (dCall false sp_is_row (dACons (dVar 0) dANil)))) dNever dNext)
theorem vc_check_row : VC sp_check_row w_check_row 0 := by
  rintro ρ Qd ⟨x, rfl, ⟨h1, h2⟩, h⟩
  unfold w_check_row
  walk_at "di"
  refine ⟨x, rfl, h1, ?_⟩
  rw [h2]
  exact h
def sp_check_width : Spec := mkSp (fun x : Int => [.val (.int x)]) fun x Q => (0 ≤ x ∧ x ≤ 3200) ∧ Q (.val .none) none
theorem hn_check_width : ∀ ρ Qd, sp_check_width ρ Qd → ρ.length = 1 := hn_mk fun _ => rfl
/- check_width: slots 0=width -/
def w_check_width : DS := (dIf (dNot (dTest (dCall false sp_is_between (dACons (dVar 0) (dACons (dC (.int 0)) (dACons (dC (.int 3200)) dANil)))))) dNever dNext)
theorem vc_check_width : VC sp_check_width w_check_width 0 := by
  rintro ρ Qd ⟨x, rfl, ⟨h1, h2⟩, h⟩
  unfold w_check_width
  walk_at "di"
  refine ⟨(.int x, 0, 3200), rfl, rfl, ?_⟩
  simp only [btwD, decide_eq_true h1, decide_eq_true h2]
  exact h
def sp_check_index : Spec := mkSp (fun x : List D × Int => [.val (.tuple x.1), .val (.int x.2)]) fun x Q => (0 ≤ x.2 ∧ x.2 < x.1.length) ∧ Q (.val .none) none
theorem hn_check_index : ∀ ρ Qd, sp_check_index ρ Qd → ρ.length = 2 := hn_mk fun _ => rfl
/- check_index: slots 0=row 1=index -/
def w_check_index : DS := (dIf (dNot (dTest (dCall false sp_is_between (dACons (dVar 1) (dACons (dC (.int 0)) (dACons (dOp fSub (dCB fLen (dACons (dVar 0) dANil)) (dC (.int 1))) dANil)))))) dNever dNext)
theorem vc_check_index : VC sp_check_index w_check_index 0 := by
  rintro ρ Qd ⟨⟨l, x⟩, rfl, ⟨h1, h2⟩, h⟩
  unfold w_check_index
  walk_at "di"
  refine ⟨(.int x, 0, (l.length : Int) - 1), rfl, rfl, ?_⟩
  simp only at h1 h2
  simp only [btwD, decide_eq_true h1, decide_eq_true (by omega : x ≤ (l.length : Int) - 1)]
  exact h
/-! ### natural sizes -/
def natP (p : Pan) : Int := max p.lo (min p.hi p.b)
def sp_natural_of : Spec := mkSp (fun r : List Pan => [.val (rowD r)]) fun r Q => r.length ≤ 1000 ∧ Q (.mu true (.lst ((r.map natP).map PyData.int))) none
theorem hn_natural_of : ∀ ρ Qd, sp_natural_of ρ Qd → ρ.length = 1 := hn_mk fun _ => rfl
/- natural_of: slots 0=row 1=basis 2=grow 3=shrink 4=low 5=high -/
def w_natural_of : DS := (dRet (dLc (diSeq (dVar 0)) (gdTupN 5 (gdCons (gdName 1) (gdCons (gdName 2) (gdCons (gdName 3) (gdCons (gdName 4) (gdCons (gdName 5) gdNil)))))) dYes (dCB fMax2 (dACons (dVar 4) (dACons (dCB fMin2 (dACons (dVar 5) (dACons (dVar 1) dANil))) dANil))) [1, 2, 3, 4, 5]))
/- natural: slots 0=row -/
def w_natural : DS := (dSeq (dExpr (dCall false sp_check_row (dACons (dVar 0) dANil))) (dRet (dCall false sp_natural_of (dACons (dVar 0) dANil))))
theorem natP_eq (p : Pan) : (if (if p.b < p.hi then p.b else p.hi) > p.lo then (if p.b < p.hi then p.b else p.hi) else p.lo) = natP p := by
  unfold natP
  split <;> split <;> omega
theorem map_at {α β : Type} {f : α → β} {l : List α} {i : Nat} {d : β} (h : (l.map f)[i]? = some d) : ∃ x, l[i]? = some x ∧ f x = d := by simpa using h
theorem vc_natural_of : VC sp_natural_of w_natural_of 5 := by
  rintro ρ Qd ⟨r, rfl, hr, h⟩
  unfold w_natural_of rowD
  walk_at "di"
  simp only [dLc, diSeq]
  walk_at "di"
  refine ⟨fun i acc ρ => acc = ((r.take i).map natP).map PyData.int ∧ ρ = [.val (.tuple (r.map pan)), .no, .no, .no, .no, .no], ⟨rfl, rfl⟩, ?_, ?_⟩
  · rintro i acc d ρ hi ⟨rfl, rfl⟩
    obtain ⟨p, hp, rfl⟩ := map_at hi
    unfold pan
    walk_at "di"
    have := lt_len hp
    refine ⟨by simp only [List.length_map, List.length_take]; unfold lim; omega, ?_⟩
    rw [natP_eq, List.take_add_one, hp]
    simp
  · rintro acc ρ ⟨rfl, rfl⟩
    rw [List.length_map, List.take_length]
    exact h
def sp_natural : Spec := mkSp (fun r : List Pan => [.val (rowD r)]) fun r Q => RowOk r ∧ Q (.mu true (.lst ((r.map natP).map PyData.int))) none
theorem hn_natural : ∀ ρ Qd, sp_natural ρ Qd → ρ.length = 1 := hn_mk fun _ => rfl
theorem vc_natural : VC sp_natural w_natural 0 := by
  rintro ρ Qd ⟨r, rfl, hr, h⟩
  unfold w_natural
  walk_at "di"
  have := hr.n8
  exact ⟨_, rfl, ⟨row_lay r, isRowD_row hr⟩, r, rfl, by omega, h⟩
end DL

namespace DL
open PySem PySem.Spec PyProof.Rows L2
local macro_rules | `(tactic| walk_at "dl") => `(tactic| try simp only [dSeq, dNext, dSet, dSetV, dRet, dRetN, dExpr, dBreak, dCont, dPar, dPar3, dAsg, dTest_S, dNot, dNotV_S, dOp, dUn, dC, dVar_S, dVarS_v, dVarS_m, dMov_S, dMovS_m, sB_b, muL_l, muT_t, isI_i, vaI_i, dF_v, dF_m, dChain, fAdd_ii, fAdd_ll, fAdd_tt, fI_ii, fI0_ii, fMul_ii, fMul_ti, fNeg_i, fEq_ii, fNe_ii, fIsN_n, fIsN_l, fIsN_t, fIsN_i, fIx_l, fIx_t, dANil, dACons, dAAt_S, agD, dTup, dLst, dCB, fAbs_i, fMax2_ii, fMin2_ii, fLen_l, fLen_t, fList_l, fInt_i, dParX_2, dParX_3, fList_t, fTuple_l, fTuple_t, dSl, dONone, dOSome, fSl_l, fSl_t, dIsi_S, dIsi2_S, isiS_s, dCall, agOne, agAll, agAt, agSl_d, agSl_s, agS_m, dBack_n, dBack_s, seqS_l, seqS_t, nos, List.replicate, List.append, List.map, List.cons_append, List.nil_append, List.getElem?_cons_zero, List.getElem?_cons_succ, List.set_cons_zero, List.set_cons_succ, ioOf, List.length_cons, List.length_nil, dYes, gdName, gdTupN, gdCons, gdNil, frzAt, frz, dBor, dBorB, flatS, flatD, Option.getD_some, wipeD, dAug_S, dApp_S, dIns_S, dSetI_S, dIxM_S, dAugL_S, ixN_30, ixN_31, ixN_32, atI_0, atI_1, atI_2, atI_3, atI_4, true_and, reduceCtorEq, false_implies, implies_true, forall_const, Bool.not_true, Bool.not_false, Nat.reduceAdd, decide_true, decide_false, Int.reduceLT, Int.reduceLE, Int.reduceEq])
local macro_rules | `(tactic| walk_at "dt") => `(tactic| (walk_at "dl"; (try simp only [dAnd, dOr, dAndV_S, dOrV_S]); walk_at "dl"))
local macro_rules | `(tactic| walk_at "di") => `(tactic| (walk_at "dl"; (try simp only [dIf, dIte]); walk_at "dl"))
local macro_rules | `(tactic| walk_at "ds") => `(tactic| (walk_at "di"; walk_at "dt"; walk_at "di"))

/-! ### sizes at a time -/
def facP (g : Bool) (p : Pan) : Int := if g then p.g else -p.s
def sizeT (p : Pan) (g : Bool) (t : Rat) : Rat := clampR (p.lo : Rat) ((p.b : Rat) + (facP g p : Rat) * t) (p.hi : Rat)
theorem clamp_pos {lo v hi : Rat} : clampR lo v hi = lo ∨ clampR lo v hi = v ∨ clampR lo v hi = hi := by
  unfold clampR
  split
  · exact .inl rfl
  · split
    · exact .inr (.inr rfl)
    · exact .inr (.inl rfl)
theorem sz_small {i : Int} {m n : Nat} (h : i.natAbs ≤ m) (hm : m < 2 ^ n) (hn : 0 < n) : Sz n (i : Rat) := sz_int (Nat.lt_of_le_of_lt h hm) hn
theorem fac_small {g : Bool} {p : Pan} (h : PanOk p) : (facP g p).natAbs ≤ 100 := by
  have := h.g0; have := h.g1; have := h.s0; have := h.s1
  cases g <;> simp only [facP, if_true, Bool.false_eq_true, if_false] <;> omega
theorem sz_size {p : Pan} (h : PanOk p) {g : Bool} {t : Rat} {n : Nat} (ht : Sz n t) : Sz (n + 17) (sizeT p g t) := by
  have := h.b0; have := h.b1; have := h.l0; have := h.lh; have := h.h1
  unfold sizeT
  rcases clamp_pos (lo := (p.lo : Rat)) (v := (p.b : Rat) + (facP g p : Rat) * t) (hi := (p.hi : Rat)) with e | e | e <;> rw [e]
  · exact sz_small (m := 400) (by omega) (Nat.lt_of_lt_of_le (by decide : 400 < 2 ^ 17) (Nat.pow_le_pow_right (by decide) (by omega))) (by omega)
  · have h1 : Sz 7 (facP g p : Rat) := sz_small (fac_small h) (by decide) (by decide)
    have h2 : Sz 9 (p.b : Rat) := sz_small (m := 400) (by omega) (by decide) (by decide)
    exact (sz_add h2 (sz_mul h1 ht)).mono (by omega)
  · exact sz_small (m := 400) (by omega) (Nat.lt_of_lt_of_le (by decide : 400 < 2 ^ 17) (Nat.pow_le_pow_right (by decide) (by omega))) (by omega)
theorem rat_line (b f : Int) (t : Rat) : ((b * t.den + f * t.num : Int) : Rat) / ((t.den : Int) : Rat) = (b : Rat) + (f : Rat) * t := by
  have e := rat_add_eq (b : Rat) ((f : Rat) * t)
  have hd : ((t.den : Int) : Rat) ≠ 0 := by
    have := t.den_nz
    simpa using this
  have e1 : t = (t.num : Rat) / ((t.den : Int) : Rat) := by
    have := rat_mul_eq 1 t
    simpa using this
  have e2 : ((b * t.den + f * t.num : Int) : Rat) = ((b : Rat) + (f : Rat) * t) * ((t.den : Int) : Rat) := by
    have e3 : t * ((t.den : Int) : Rat) = (t.num : Rat) := by
      conv => lhs; lhs; rw [e1]
      exact Rat.div_mul_cancel hd
    rw [Rat.intCast_add, Rat.intCast_mul, Rat.intCast_mul, ← e3]
    grind
  rw [e2, Rat.mul_div_cancel hd]
def sp_size_at : Spec := mkSp (fun x : Pan × Rat × Bool => [.val (pan x.1), .val (fr x.2.1), .val (.bool x.2.2)]) fun x Q => (PanOk x.1 ∧ ∃ n, Sz n x.2.1 ∧ n ≤ 7000) ∧ Q (.val (fr (sizeT x.1 x.2.2 x.2.1))) none
theorem hn_size_at : ∀ ρ Qd, sp_size_at ρ Qd → ρ.length = 3 := hn_mk fun _ => rfl
/- size_at: slots 0=panel 1=time 2=growing 3=basis 4=grow 5=shrink 6=low 7=high 8=top 9=bottom 10=factor -/
def w_size_at : DS := (dSeq (dAsg (dVar 0) (gdTupN 5 (gdCons (gdName 3) (gdCons (gdName 4) (gdCons (gdName 5) (gdCons (gdName 6) (gdCons (gdName 7) gdNil))))))) (dSeq (dAsg (dVar 1) (gdTupN 2 (gdCons (gdName 8) (gdCons (gdName 9) gdNil)))) (dSeq (dSet 10 (dIte (dTest (dVar 2)) (dVar 4) (dUn fNeg (dVar 5)))) (dRet (dCall false sp_clamp (dACons (dCall false sp_whole (dACons (dVar 6) dANil)) (dACons (dCall false sp_make (dACons (dOp fAdd (dOp fMul (dVar 3) (dVar 9)) (dOp fMul (dVar 10) (dVar 8))) (dACons (dVar 9) dANil))) (dACons (dCall false sp_whole (dACons (dVar 7) dANil)) dANil))))))))
theorem vc_size_at : VC sp_size_at w_size_at 8 := by
  rintro ρ Qd ⟨⟨p, t, g⟩, rfl, ⟨hp, n, ht, hn⟩, h⟩
  simp only at hp
  have hf := fac_small (g := g) hp
  have := hp.b0; have := hp.b1; have := hp.l0; have := hp.lh; have := hp.h1
  simp only at ht h
  unfold w_size_at pan
  walk_at "dl"
  unfold fr
  walk_at "dl"
  have e : ∀ Q : Sl → En → Prop, Q (.val (.int (facP g p))) [.val (.tuple [.int p.b, .int p.g, .int p.s, .int p.lo, .int p.hi]), .val (.tuple [.int t.num, .int t.den]), .val (.bool g), .val (.int p.b), .val (.int p.g), .val (.int p.s), .val (.int p.lo), .val (.int p.hi), .val (.int t.num), .val (.int t.den), .no] →
    dIte (dTest (dVar 2)) (dVar 4) (dUn fNeg (dVar 5)) [.val (.tuple [.int p.b, .int p.g, .int p.s, .int p.lo, .int p.hi]), .val (.tuple [.int t.num, .int t.den]), .val (.bool g), .val (.int p.b), .val (.int p.g), .val (.int p.s), .val (.int p.lo), .val (.int p.hi), .val (.int t.num), .val (.int t.den), .no] Q := fun Q hQ => by
    walk_at "di"
    cases g <;> exact hQ
  refine e _ ?_
  walk_at "dl"
  have hsz : ∀ i : Int, i.natAbs ≤ 400 → Sz 8000 (i : Rat) := fun i hi => sz_small hi (Nat.lt_of_lt_of_le (by decide : 400 < 2 ^ 9) (Nat.pow_le_pow_right (by decide) (by decide))) (by decide)
  have hden := t.den_pos
  have hb : (p.b * t.den).natAbs < 2 ^ (9 + n) := mul_lt2 (Nat.lt_of_le_of_lt (by omega : p.b.natAbs ≤ 400) (by decide)) (den_abs ht)
  have hm : (facP g p * t.num).natAbs < 2 ^ (7 + n) := mul_lt2 (Nat.lt_of_le_of_lt hf (by decide)) ht.1
  refine ⟨p.lo, rfl, mulL (by omega), mulL (by omega), (_, _), rfl, ⟨Int.ofNat_ne_zero.mpr t.den_nz, ?_, ?_⟩, p.hi, rfl, (_, _, _), rfl, ⟨hsz _ (by omega), ?_, hsz _ (by omega)⟩, ?_⟩
  · exact Nat.lt_of_lt_of_le (natAbs_add_lt hb (Nat.lt_of_lt_of_le hm (Nat.pow_le_pow_right (by decide) (by omega)))) (Nat.pow_le_pow_right (by decide) (by omega))
  · exact Nat.lt_of_lt_of_le (den_abs ht) (Nat.pow_le_pow_right (by decide) (by omega))
  · simp only [rat_line]
    exact (sz_add (sz_small (m := 400) (n := 9) (by omega) (by decide) (by decide)) (sz_mul (sz_small (n := 7) hf (by decide) (by decide)) ht)).mono (by omega)
  · simp only [rat_line]
    exact h
/-! ### the times at which a panel reaches a bound -/
def facA (g : Bool) (p : Pan) : Int := if g then p.g else p.s
def endsI (g : Bool) (p : Pan) : List Int := if g then [p.lo - p.b, p.hi - p.b] else [p.b - p.lo, p.b - p.hi]
def endsR (g : Bool) (p : Pan) : List Rat := if 0 < facA g p then ((endsI g p).filter fun e => decide (0 < e)).map fun e : Int => (e : Rat) / (facA g p : Rat) else []
def momR (r : List Pan) (g : Bool) : List Rat := 0 :: r.flatMap (endsR g)
def timesR (r : List Pan) (g : Bool) : List Rat := ordR (momR r g)
theorem facA_small {g : Bool} {p : Pan} (h : PanOk p) : 0 ≤ facA g p ∧ facA g p ≤ 100 := by
  have := h.g0; have := h.g1; have := h.s0; have := h.s1
  cases g <;> simp only [facA, if_true, Bool.false_eq_true, if_false] <;> omega
theorem endsI_small {g : Bool} {p : Pan} (h : PanOk p) : ∀ e ∈ endsI g p, e.natAbs ≤ 400 := by
  have := h.b0; have := h.b1; have := h.l0; have := h.lh; have := h.h1
  cases g <;> simp only [endsI, if_true, Bool.false_eq_true, if_false, List.mem_cons, List.mem_nil_iff, or_false] <;> rintro e (rfl | rfl) <;> omega
theorem sz_ends {g : Bool} {p : Pan} (h : PanOk p) : ∀ q ∈ endsR g p, Sz 9 q := by
  intro q hq
  unfold endsR at hq
  split at hq
  · rename_i h0
    obtain ⟨e, he, rfl⟩ := List.mem_map.mp hq
    have h1 := endsI_small h e (List.mem_filter.mp he).1
    have h2 := (facA_small (g := g) h).2
    exact sz_num e (facA g p) (by omega) (Nat.lt_of_le_of_lt h1 (by decide)) (Nat.lt_of_le_of_lt (by omega : (facA g p).natAbs ≤ 100) (by decide))
  · cases hq
theorem sz_mom {r : List Pan} (h : ∀ p ∈ r, PanOk p) {g : Bool} : ∀ q ∈ momR r g, Sz 9 q := by
  intro q hq
  rcases List.mem_cons.mp hq with rfl | hq
  · exact ⟨by decide, by decide⟩
  · obtain ⟨p, hp, hq⟩ := List.mem_flatMap.mp hq
    exact sz_ends (h p hp) q hq
theorem ends_len (g : Bool) (p : Pan) : (endsR g p).length ≤ 2 := by
  unfold endsR
  split
  · rw [List.length_map]
    refine Nat.le_trans (List.length_filter_le _ _) ?_
    cases g <;> exact Nat.le_refl _
  · exact Nat.zero_le _
theorem flat_len (g : Bool) : ∀ r : List Pan, (r.flatMap (endsR g)).length ≤ r.length * 2
  | [] => Nat.zero_le _
  | p :: r => by
    have h1 := ends_len g p
    have h2 := flat_len g r
    rw [List.flatMap_cons, List.length_append, List.length_cons]
    omega
theorem mom_len (g : Bool) (r : List Pan) : (momR r g).length ≤ r.length * 2 + 1 := by
  have := flat_len g r
  unfold momR
  rw [List.length_cons]
  omega
theorem sz_times {r : List Pan} (h : ∀ p ∈ r, PanOk p) {g : Bool} : ∀ q ∈ timesR r g, Sz 9 q := fun q hq => sz_mom h q (ord_mem.mp hq)
theorem times_len (g : Bool) (r : List Pan) : (timesR r g).length ≤ r.length * 2 + 1 := Nat.le_trans (ord_len _) (mom_len g r)
theorem flatMap_take {α β : Type} {f : α → List β} {l : List α} {i : Nat} {x : α} (h : l[i]? = some x) : (l.take (i + 1)).flatMap f = (l.take i).flatMap f ++ f x := by
  rw [List.take_add_one, h]
  simp
theorem filter_take {α : Type} {p : α → Bool} {l : List α} {i : Nat} {x : α} (h : l[i]? = some x) : (l.take (i + 1)).filter p = (l.take i).filter p ++ if p x then [x] else [] := by
  rw [List.take_add_one, h, List.filter_append]
  cases hp : p x <;> simp [hp]
theorem fr_zero : PyData.tuple [.int 0, .int 1] = fr 0 := (fr_int 0).symm
def sp_times_of : Spec := mkSp (fun x : List Pan × Bool => [.val (rowD x.1), .val (.bool x.2)]) fun x Q => RowOk x.1 ∧ Q (.mu true (.lst ((timesR x.1 x.2).map fr))) none
theorem hn_times_of : ∀ ρ Qd, sp_times_of ρ Qd → ρ.length = 2 := hn_mk fun _ => rfl
def endK (f : Int) : D → Option D
  | .int e => if 0 < e then some (fr ((e : Rat) / f)) else none
  | _ => none
theorem endK_map (f : Int) : ∀ xs : List Int, (xs.map PyData.int).filterMap (endK f) = ((xs.filter fun e => decide (0 < e)).map fun e : Int => (e : Rat) / f).map fr
  | [] => rfl
  | x :: xs => by
    rw [List.map_cons, List.filterMap_cons, List.filter_cons]
    by_cases h : 0 < x
    · rw [endK, if_pos h, decide_eq_true h, if_pos rfl, List.map_cons, List.map_cons]
      exact congrArg _ (endK_map f xs)
    · rw [endK, if_neg h, decide_eq_false h]
      exact endK_map f xs
/- times_of: slots 0=row 1=growing 2=found 3=basis 4=grow 5=shrink 6=low 7=high 8=factor 9=ends 10=end -/
def w_times_of : DS := (dSeq (dSet 2 (dLst (dACons (dTup (dACons (dC (.int 0)) (dACons (dC (.int 1)) dANil))) dANil))) (dSeq (dFor (diSeq (dVar 0)) (gdTupN 5 (gdCons (gdName 3) (gdCons (gdName 4) (gdCons (gdName 5) (gdCons (gdName 6) (gdCons (gdName 7) gdNil)))))) (dSeq (dSet 8 (dIte (dTest (dVar 1)) (dVar 4) (dVar 5))) (dIf (dTest (dOp fGt (dVar 8) (dC (.int 0)))) (dSeq (dSet 9 (dIte (dTest (dVar 1)) (dLst (dACons (dOp fSub (dVar 6) (dVar 3)) (dACons (dOp fSub (dVar 7) (dVar 3)) dANil))) (dLst (dACons (dOp fSub (dVar 3) (dVar 6)) (dACons (dOp fSub (dVar 3) (dVar 7)) dANil))))) (dAugL 2 (dLc (diSeq (dVar 9)) (gdName 10) (dTest (dOp fGt (dVar 10) (dC (.int 0)))) (dCall false sp_make (dACons (dVar 10) (dACons (dVar 8) dANil))) [10]))) dNext))) (dRet (dCall false sp_ordered (dACons (dVar 2) dANil)))))
theorem vc_times_of : VC sp_times_of w_times_of 9 := by
  rintro ρ Qd ⟨⟨r, g⟩, rfl, hr, h⟩
  simp only at hr h
  have h8 := hr.n8
  unfold w_times_of rowD
  walk_at "dl"
  refine ⟨by decide, by decide, ?_⟩
  simp only [dFor, diSeq]
  walk_at "dl"
  refine ⟨fun i ρ => ∃ a b c d e f u, ρ = [.val (.tuple (r.map pan)), .val (.bool g), .mu true (.lst ((momR (r.take i) g).map fr)), a, b, c, d, e, f, u, .no], ⟨.no, .no, .no, .no, .no, .no, .no, by simp [momR, fr_zero]⟩, ?_, ?_⟩
  · rintro i d ρ hi ⟨a, b, c, d', e, f, u, rfl⟩
    obtain ⟨p, hp, rfl⟩ := map_at hi
    have hpo := hr.all p (List.mem_of_getElem? hp)
    have hi' := lt_len hp
    generalize r.map pan = R
    have e1 : (momR (r.take (i + 1)) g).map fr = (momR (r.take i) g).map fr ++ (endsR g p).map fr := by
      unfold momR
      rw [flatMap_take hp, ← List.map_append, List.cons_append]
    simp only [e1]
    have h0 := facA_small (g := g) hpo
    have hE := endsI_small (g := g) hpo
    have hlen : (momR (r.take i) g).length ≤ 17 := Nat.le_trans (mom_len g _) (by rw [List.length_take]; omega)
    have hends := ends_len g p
    unfold endsR at hends ⊢
    generalize hG : (momR (r.take i) g).map fr = G
    have hGl : G.length ≤ 17 := by rw [← hG, List.length_map]; exact hlen
    unfold pan
    walk_at "dl"
    cases g <;> simp only [facA, endsI, if_true, Bool.false_eq_true, if_false] at h0 hE hends ⊢ <;> walk_at "di"
    · by_cases c : 0 < p.s
      · rw [decide_eq_true c]
        rw [if_pos c] at hends ⊢
        walk_at "di"
        refine ⟨by decide, ?_⟩
        simp only [dLc, diSeq]
        walk_at "di"
        refine ⟨lcP ([p.b - p.lo, p.b - p.hi].map PyData.int) (endK p.s) [.val (.tuple R), .val (.bool false), .mu true (.lst G), .val (.int p.b), .val (.int p.g), .val (.int p.s), .val (.int p.lo), .val (.int p.hi), .val (.int p.s), .val (.list ([p.b - p.lo, p.b - p.hi].map PyData.int)), .no], lcP_0, fun i acc d ρ hi q => ?_, fun acc ρ q => ?_⟩
        · have q2 := q.2
          subst q2
          obtain ⟨x, hx, rfl⟩ := map_at (f := PyData.int) (l := [p.b - p.lo, p.b - p.hi]) hi
          have hxs := hE x (List.mem_of_getElem? hx)
          walk_at "di"
          by_cases cx : 0 < x
          · rw [decide_eq_true cx]
            refine ⟨(x, p.s), rfl, ⟨by simp only; omega, Nat.lt_of_le_of_lt hxs (by decide), Nat.lt_of_le_of_lt (by omega : (p.s).natAbs ≤ 100) (by decide)⟩, ?_⟩
            exact lcP_yes lim2 hi q (by simp only [endK, if_pos cx]) rfl
          · rw [decide_eq_false cx]
            exact lcP_no hi q (by simp only [endK, if_neg cx]) rfl
        · obtain ⟨q1, rfl⟩ := lcP_end q
          subst q1
          have e5 := endK_map (p.s) [p.b - p.lo, p.b - p.hi]
          simp only [List.map] at e5
          walk_at "di"
          rw [e5, List.length_map]
          refine ⟨?_, _, _, _, _, _, _, _, rfl⟩
          unfold lim
          omega
      · rw [decide_eq_false c, if_neg c, List.map_nil, List.append_nil]
        exact ⟨_, _, _, _, _, _, _, rfl⟩
    · by_cases c : 0 < p.g
      · rw [decide_eq_true c]
        rw [if_pos c] at hends ⊢
        walk_at "di"
        refine ⟨by decide, ?_⟩
        simp only [dLc, diSeq]
        walk_at "di"
        refine ⟨lcP ([p.lo - p.b, p.hi - p.b].map PyData.int) (endK p.g) [.val (.tuple R), .val (.bool true), .mu true (.lst G), .val (.int p.b), .val (.int p.g), .val (.int p.s), .val (.int p.lo), .val (.int p.hi), .val (.int p.g), .val (.list ([p.lo - p.b, p.hi - p.b].map PyData.int)), .no], lcP_0, fun i acc d ρ hi q => ?_, fun acc ρ q => ?_⟩
        · have q2 := q.2
          subst q2
          obtain ⟨x, hx, rfl⟩ := map_at (f := PyData.int) (l := [p.lo - p.b, p.hi - p.b]) hi
          have hxs := hE x (List.mem_of_getElem? hx)
          walk_at "di"
          by_cases cx : 0 < x
          · rw [decide_eq_true cx]
            refine ⟨(x, p.g), rfl, ⟨by simp only; omega, Nat.lt_of_le_of_lt hxs (by decide), Nat.lt_of_le_of_lt (by omega : (p.g).natAbs ≤ 100) (by decide)⟩, ?_⟩
            exact lcP_yes lim2 hi q (by simp only [endK, if_pos cx]) rfl
          · rw [decide_eq_false cx]
            exact lcP_no hi q (by simp only [endK, if_neg cx]) rfl
        · obtain ⟨q1, rfl⟩ := lcP_end q
          subst q1
          have e5 := endK_map (p.g) [p.lo - p.b, p.hi - p.b]
          simp only [List.map] at e5
          walk_at "di"
          rw [e5, List.length_map]
          refine ⟨?_, _, _, _, _, _, _, _, rfl⟩
          unfold lim
          omega
      · rw [decide_eq_false c, if_neg c, List.map_nil, List.append_nil]
        exact ⟨_, _, _, _, _, _, _, rfl⟩
  · rintro ρ ⟨a, b, c, d, e, f, u, rfl⟩
    walk_at "dl"
    rw [List.length_map, List.take_length]
    refine ⟨_, rfl, ⟨fun q hq => (sz_mom hr.all q hq).mono (by decide), ?_⟩, h⟩
    have := mom_len g r
    unfold lim
    omega
end DL

namespace DL
open PySem PySem.Spec PyProof.Rows L2
/-! ### comprehensions over lists of known things -/
def mapP {α : Type} (l : List α) (f : α → D) (ρ0 : En) : Nat → List D → En → Prop := fun i acc ρ => acc = (l.take i).map f ∧ ρ = ρ0
theorem mapP_0 {α : Type} {l : List α} {f : α → D} {ρ0 : En} : mapP l f ρ0 0 [] ρ0 := ⟨by simp, rfl⟩
theorem mapP_yes {α : Type} {l : List α} {f : α → D} {ρ0 ρ1 ρ2 : En} {i : Nat} {acc : List D} {x : α} {y : D} (hl : l.length ≤ lim) (hi : l[i]? = some x) (p : mapP l f ρ0 i acc ρ1) (hk : y = f x) (hρ : ρ2 = ρ0) : acc.length < lim ∧ mapP l f ρ0 (i + 1) (acc ++ [y]) ρ2 := by
  obtain ⟨rfl, rfl⟩ := p
  subst hk hρ
  have := lt_len hi
  refine ⟨by rw [List.length_map, List.length_take]; omega, ?_, rfl⟩
  rw [List.take_add_one, hi]
  simp
theorem mapP_end {α : Type} {l : List α} {f : α → D} {ρ0 ρ : En} {acc : List D} {n : Nat} (p : mapP l f ρ0 n acc ρ) (hn : n = l.length) : acc = l.map f ∧ ρ = ρ0 := by
  obtain ⟨rfl, rfl⟩ := p
  subst hn
  rw [List.take_length]
  exact ⟨rfl, rfl⟩
def filP {α : Type} (l : List α) (k : α → Option D) (ρ0 : En) : Nat → List D → En → Prop := fun i acc ρ => acc = (l.take i).filterMap k ∧ ρ = ρ0
theorem filP_0 {α : Type} {l : List α} {k : α → Option D} {ρ0 : En} : filP l k ρ0 0 [] ρ0 := ⟨by simp, rfl⟩
theorem filP_yes {α : Type} {l : List α} {k : α → Option D} {ρ0 ρ1 ρ2 : En} {i : Nat} {acc : List D} {x : α} {y : D} (hl : l.length ≤ lim) (hi : l[i]? = some x) (p : filP l k ρ0 i acc ρ1) (hk : k x = some y) (hρ : ρ2 = ρ0) : acc.length < lim ∧ filP l k ρ0 (i + 1) (acc ++ [y]) ρ2 := by
  obtain ⟨rfl, rfl⟩ := p
  subst hρ
  have := lt_len hi
  have h2 := List.length_filterMap_le k (l.take i)
  rw [List.length_take] at h2
  refine ⟨by omega, ?_, rfl⟩
  rw [List.take_add_one, hi]
  simp [hk]
theorem filP_no {α : Type} {l : List α} {k : α → Option D} {ρ0 ρ1 ρ2 : En} {i : Nat} {acc : List D} {x : α} (hi : l[i]? = some x) (p : filP l k ρ0 i acc ρ1) (hk : k x = none) (hρ : ρ2 = ρ0) : filP l k ρ0 (i + 1) acc ρ2 := by
  obtain ⟨rfl, rfl⟩ := p
  subst hρ
  refine ⟨?_, rfl⟩
  rw [List.take_add_one, hi]
  simp [hk]
theorem filP_end {α : Type} {l : List α} {k : α → Option D} {ρ0 ρ : En} {acc : List D} {n : Nat} (p : filP l k ρ0 n acc ρ) (hn : n = l.length) : acc = l.filterMap k ∧ ρ = ρ0 := by
  obtain ⟨rfl, rfl⟩ := p
  subst hn
  rw [List.take_length]
  exact ⟨rfl, rfl⟩
/-! ### slices, last items -/
theorem cut_tail (l : List D) : cutD l (some 1) none = l.tail := by
  unfold cutD
  rw [show (1 : Int) = ((1 : Nat) : Int) from rfl, HT.sIx_nat, HT.sIx_none]
  cases l with
  | nil => rfl
  | cons x l => simp
theorem cut_init (l : List D) : cutD l none (some (-1)) = l.dropLast := by
  have e : HT.sIx l.length l.length (some (-1)) = l.length - 1 := by
    show (if (-1 : Int) < 0 then ((-1 : Int) + (l.length : Int)).toNat else min (-1 : Int).toNat l.length) = _
    rw [if_pos (by decide)]
    omega
  unfold cutD
  rw [e, HT.sIx_none, List.dropLast_eq_take]
  simp
theorem atI_last {α : Type} (l : List α) : atI l (-1) = l.getLast? := by
  unfold atI ixN
  cases l with
  | nil => rfl
  | cons x l =>
    rw [if_neg (by decide), if_pos (by simp; omega), List.getLast?_eq_getElem?]
    show (x :: l)[((-1 : Int) + ((x :: l).length : Int)).toNat]? = _
    have e : ((-1 : Int) + ((x :: l).length : Int)).toNat = (x :: l).length - 1 := by omega
    rw [e]
/-! ### data with known depth -/
/-- equal data of equal kinds: asked of one and the same -/
def depD : D → Nat
  | .list l => depAll l + 1
  | .tuple l => depAll l + 1
  | _ => 1
where depAll : List D → Nat
  | [] => 0
  | x :: r => max (depD x) (depAll r)
theorem dep_mem {x : D} : ∀ {l : List D}, x ∈ l → depD x ≤ depD.depAll l
  | [], h => by cases h
  | y :: r, h => by
    rcases List.mem_cons.mp h with rfl | h
    · exact Nat.le_max_left _ _
    · exact Nat.le_trans (dep_mem h) (Nat.le_max_right _ _)
theorem shaped_nil : SeqAt.shaped (.list []) = true := by decide
theorem eqv_nil : PyData.eqv (.list []) (.list []) = true := by decide
theorem shaped_mem {l : List D} {x : D} (h : SeqAt.shaped (.list l) = true ∨ SeqAt.shaped (.tuple l) = true) (hx : x ∈ l) : SeqAt.shaped x = true := by
  have c : PyData.canLayAll0 l = true := by
    rcases h with h | h
    · exact lay_lst (SeqAt.canLay_of_shaped h)
    · exact lay_tup (SeqAt.canLay_of_shaped h)
  have d : x.depth ≤ 64 := by
    have h1 : ∀ l : List D, x ∈ l → x.depth ≤ PyData.depthAll l := by
      intro l
      induction l with
      | nil => intro h; cases h
      | cons y r ih =>
        intro h
        rw [PyData.depthAll]
        rcases List.mem_cons.mp h with rfl | h
        · omega
        · have := ih h; omega
    have h2 := h1 l hx
    rcases h with h | h
    · have := SeqAt.depth_of_shaped h
      rw [PyData.depth] at this; omega
    · have := SeqAt.depth_of_shaped h
      rw [PyData.depth] at this; omega
  unfold SeqAt.shaped
  rw [lay_mem c hx, decide_eq_true d]; rfl
structure Lay (n : Nat) (x : D) : Prop where
  lay : x.canLay0 = true
  dp : x.depth ≤ n
  dp2 : depD x ≤ n
theorem Lay.shaped {n : Nat} {x : D} (h : Lay n x) (hn : n ≤ 64) : SeqAt.shaped x = true := by
  unfold SeqAt.shaped
  rw [h.lay, decide_eq_true (Nat.le_trans h.dp hn)]; rfl
theorem Lay.mono {n m : Nat} {x : D} (h : Lay n x) (hm : n ≤ m) : Lay m x := ⟨h.lay, Nat.le_trans h.dp hm, Nat.le_trans h.dp2 hm⟩
theorem lay_int (i : Int) : Lay 1 (.int i) := ⟨rfl, by simp [PyData.depth], by simp [depD]⟩
theorem lay_bool (i : Bool) : Lay 1 (.bool i) := ⟨rfl, by simp [PyData.depth], by simp [depD]⟩
theorem lay_none : Lay 1 .none := ⟨rfl, by simp [PyData.depth], by simp [depD]⟩
theorem lay_all {n : Nat} : ∀ {l : List D}, (∀ x ∈ l, Lay n x) → PyData.canLayAll0 l = true ∧ PyData.depthAll l ≤ n ∧ depD.depAll l ≤ n
  | [], _ => ⟨by simp [PyData.canLayAll0], by simp [PyData.depthAll], by simp [depD.depAll]⟩
  | x :: l, h => by
    obtain ⟨h1, h2, h3⟩ := lay_all (n := n) (l := l) fun y hy => h y (List.mem_cons_of_mem _ hy)
    have h4 := h x List.mem_cons_self
    refine ⟨by simp [PyData.canLayAll0, h4.lay, h1], ?_, ?_⟩
    · rw [PyData.depthAll]
      have := h4.dp
      omega
    · rw [depD.depAll]
      have := h4.dp2
      omega
theorem lay_list {n : Nat} {l : List D} (h : ∀ x ∈ l, Lay n x) : Lay (n + 1) (.list l) := by
  obtain ⟨h1, h2, h3⟩ := lay_all h
  refine ⟨by simp [PyData.canLay0, h1], ?_, ?_⟩
  · rw [PyData.depth]; omega
  · rw [depD]; omega
theorem lay_tuple {n : Nat} {l : List D} (h : ∀ x ∈ l, Lay n x) : Lay (n + 1) (.tuple l) := by
  obtain ⟨h1, h2, h3⟩ := lay_all h
  refine ⟨by simp [PyData.canLay0, h1], ?_, ?_⟩
  · rw [PyData.depth]; omega
  · rw [depD]; omega
theorem lay_mapL {α : Type} {n : Nat} {f : α → D} {l : List α} (h : ∀ x, Lay n (f x)) : Lay (n + 1) (.list (l.map f)) := lay_list fun x hx => by
  obtain ⟨y, _, rfl⟩ := List.mem_map.mp hx
  exact h y
theorem lay_mapT {α : Type} {n : Nat} {f : α → D} {l : List α} (h : ∀ x, Lay n (f x)) : Lay (n + 1) (.tuple (l.map f)) := lay_tuple fun x hx => by
  obtain ⟨y, _, rfl⟩ := List.mem_map.mp hx
  exact h y
theorem lay_fr (q : Rat) : Lay 2 (fr q) := lay_tuple fun x hx => by
  rcases List.mem_cons.mp hx with rfl | hx
  · exact lay_int _
  · rw [List.mem_singleton.mp hx]; exact lay_int _
theorem lay_pan (p : Pan) : Lay 2 (pan p) := lay_tuple fun x hx => by
  simp only [List.mem_cons, List.mem_nil_iff, or_false] at hx
  rcases hx with rfl | rfl | rfl | rfl | rfl <;> exact lay_int _
theorem lay_row (r : List Pan) : Lay 3 (rowD r) := lay_mapT lay_pan
def ratsD (xs : List Rat) : D := .list (xs.map fr)
theorem lay_rats (xs : List Rat) : Lay 3 (ratsD xs) := lay_mapL lay_fr
def knotD (c : Rat × List Rat) : D := .tuple [fr c.1, .list (c.2.map fr)]
theorem lay_knot (c : Rat × List Rat) : Lay 4 (knotD c) := lay_tuple fun x hx => by
  rcases List.mem_cons.mp hx with rfl | hx
  · exact (lay_fr _).mono (by decide)
  · rw [List.mem_singleton.mp hx]; exact lay_rats _
theorem eqv_lnil (l : List D) : PyData.eqv (.list l) (.list []) = l.isEmpty := by cases l <;> simp [PyData.eqv, PyData.eqvAll]
theorem fEq_nil {n : Nat} {l : List D} {Q : Sl → Prop} (hl : ∀ x ∈ l, Lay n x) (hn : n + 1 ≤ 64) (h : Q (.val (.bool l.isEmpty))) : fEq (.list l) (.list []) Q := ⟨(lay_list hl).shaped hn, shaped_nil, by rw [eqv_lnil]; exact h⟩
theorem fNe_nil {n : Nat} {l : List D} {Q : Sl → Prop} (hl : ∀ x ∈ l, Lay n x) (hn : n + 1 ≤ 64) (h : Q (.val (.bool (!l.isEmpty)))) : fNe (.list l) (.list []) Q := ⟨(lay_list hl).shaped hn, shaped_nil, by rw [eqv_lnil]; exact h⟩
end DL

namespace DL
open PySem PySem.Spec PyProof.Rows L2
local macro_rules | `(tactic| walk_at "dl") => `(tactic| try simp only [dSeq, dNext, dSet, dSetV, dRet, dRetN, dExpr, dBreak, dCont, dPar, dPar3, dAsg, dTest_S, dNot, dNotV_S, dOp, dUn, dC, dVar_S, dVarS_v, dVarS_m, dMov_S, dMovS_m, sB_b, muL_l, muT_t, isI_i, vaI_i, dF_v, dF_m, dChain, fAdd_ii, fAdd_ll, fAdd_tt, fI_ii, fI0_ii, fMul_ii, fMul_ti, fNeg_i, fEq_ii, fNe_ii, fIsN_n, fIsN_l, fIsN_t, fIsN_i, fIx_l, fIx_t, dANil, dACons, dAAt_S, agD, dTup, dLst, dCB, fAbs_i, fMax2_ii, fMin2_ii, fLen_l, fLen_t, fList_l, fInt_i, dParX_2, dParX_3, fList_t, fTuple_l, fTuple_t, dSl, dONone, dOSome, fSl_l, fSl_t, dIsi_S, dIsi2_S, isiS_s, dCall, agOne, agAll, agAt, agSl_d, agSl_s, agS_m, dBack_n, dBack_s, seqS_l, seqS_t, nos, List.replicate, List.append, List.map, List.cons_append, List.nil_append, List.getElem?_cons_zero, List.getElem?_cons_succ, List.set_cons_zero, List.set_cons_succ, ioOf, List.length_cons, List.length_nil, dYes, gdName, gdTupN, gdCons, gdNil, frzAt, frz, dBor, dBorB, flatS, flatD, Option.getD_some, wipeD, dAug_S, dApp_S, dIns_S, dSetI_S, dIxM_S, dAugL_S, ixN_30, ixN_31, ixN_32, atI_0, atI_1, atI_2, atI_3, atI_4, true_and, reduceCtorEq, false_implies, implies_true, forall_const, Bool.not_true, Bool.not_false, Nat.reduceAdd, decide_true, decide_false, Int.reduceLT, Int.reduceLE, Int.reduceEq])
local macro_rules | `(tactic| walk_at "dt") => `(tactic| (walk_at "dl"; (try simp only [dAnd, dOr, dAndV_S, dOrV_S]); walk_at "dl"))
local macro_rules | `(tactic| walk_at "di") => `(tactic| (walk_at "dl"; (try simp only [dIf, dIte]); walk_at "dl"))
local macro_rules | `(tactic| walk_at "ds") => `(tactic| (walk_at "di"; walk_at "dt"; walk_at "di"))

/-! ### the laws' source of draws -/
/-- the source after at most n draws -/
def Src (n : Nat) (t : Ct) : Prop := ∃ a b c : Int, t = .lst [.int a, .int b, .int c] ∧ 0 ≤ b ∧ b < 2147483579 ∧ 0 ≤ c ∧ c ≤ n
theorem Src.mono {n m : Nat} {t : Ct} (h : Src n t) (hm : n ≤ m) : Src m t := by
  obtain ⟨a, b, c, e, h1, h2, h3, h4⟩ := h
  exact ⟨a, b, c, e, h1, h2, h3, by omega⟩
def drawMax : Nat := 2 ^ 38
def sp__law_source : Spec := mkSp (fun x : Int × Int => [.val (.int x.1), .val (.int x.2)]) fun x Q => (0 ≤ x.2 ∧ x.2 ≤ 1000) ∧ ∀ t, Src 1000 t → Q (.mu true t) none
theorem hn__law_source : ∀ ρ Qd, sp__law_source ρ Qd → ρ.length = 2 := hn_mk fun _ => rfl
/- _law_source: slots 0=cell 1=turn -/
def w__law_source : DS := (dSeq (dIf (dTest (dOp fGe (dVar 0) (dOp fPow (dC (.int 10)) (dC (.int 18))))) (dRet (dLst (dACons (dOp fSub (dVar 0) (dOp fPow (dC (.int 10)) (dC (.int 18)))) (dACons (dOp fMod (dVar 0) (dC (.int 2147483579))) (dACons (dVar 1) dANil))))) dNext) (dRet (dLst (dACons (dC (.int 0)) (dACons (dOp fMod (dVar 0) (dC (.int 2147483579))) (dACons (dVar 1) dANil))))))
theorem lim3 : 0 + 1 + 1 + 1 ≤ lim := by decide
theorem vc__law_source : VC sp__law_source w__law_source 0 := by
  rintro ρ Qd ⟨⟨c, t⟩, rfl, ⟨h1, h2⟩, h⟩
  unfold w__law_source
  walk_at "di"
  have e : (10 : Int) ^ (18 : Int).toNat = 1000000000000000000 := by decide
  have hp : CPow 10 18 := ⟨by decide, by decide, by decide⟩
  have hm := Int.emod_nonneg c (by decide : (2147483579 : Int) ≠ 0)
  have hm2 := Int.emod_lt_of_pos c (by decide : (0 : Int) < 2147483579)
  refine ⟨hp, ?_⟩
  rw [e]
  by_cases hc : (1000000000000000000 : Int) ≤ c
  · rw [decide_eq_true hc]
    exact ⟨hp, by decide, h _ ⟨_, _, _, rfl, hm, hm2, h1, h2⟩⟩
  · rw [decide_eq_false hc]
    exact ⟨by decide, h _ ⟨_, _, _, rfl, hm, hm2, h1, h2⟩⟩
def sp__law_draw : Spec := mkSp (fun x : Ct × Int => [.mu false x.1, .val (.int x.2)]) fun x Q => ∃ n, ((0 < x.2 ∧ x.2 < 2 ^ 60) ∧ Src n x.1 ∧ n < drawMax) ∧ ∀ r t, 0 ≤ r → r < x.2 → Src (n + 1) t → Q (.val (.int r)) (some t)
theorem hn__law_draw : ∀ ρ Qd, sp__law_draw ρ Qd → ρ.length = 2 := hn_mk fun _ => rfl
/- _law_draw: slots 0=source 1=size 2=drawn 3=number -/
def w__law_draw : DS := (dSeq (dIf (dTest (dOp fGt (dIxM 0 (dC (.int 0))) (dC (.int 1)))) (dSeq (dSet 2 (dOp fMod (dIxM 0 (dC (.int 0))) (dVar 1))) (dSeq (dSetI 0 (dC (.int 0)) (dOp fDiv (dIxM 0 (dC (.int 0))) (dVar 1))) (dRet (dVar 2)))) dNext) (dSeq (dSetI 0 (dC (.int 2)) (dOp fAdd (dIxM 0 (dC (.int 2))) (dC (.int 1)))) (dSeq (dSet 3 (dOp fMod (dOp fPow (dOp fAdd (dIxM 0 (dC (.int 1))) (dOp fMul (dC (.int 15485867)) (dIxM 0 (dC (.int 2))))) (dC (.int 5))) (dC (.int 2147483647)))) (dSeq (dSet 2 (dOp fDiv (dOp fMod (dOp fPow (dOp fAdd (dVar 3) (dOp fMul (dC (.int 7919)) (dIxM 0 (dC (.int 2))))) (dC (.int 3))) (dC (.int 2147483629))) (dC (.int 32)))) (dRet (dOp fMod (dVar 2) (dVar 1)))))))
theorem vc__law_draw : VCio sp__law_draw w__law_draw 2 := by
  rintro ρ Qd ⟨⟨t, z⟩, rfl, n, ⟨⟨hz, hz2⟩, ⟨a, b, c, rfl, h1, h2, h3, h4⟩, hn⟩, h⟩
  simp only at hz hz2 h
  unfold drawMax at hn
  unfold w__law_draw
  walk_at "di"
  walk_at "di"
  by_cases ha : (1 : Int) < a
  · rw [decide_eq_true ha]
    refine ⟨hz, ?_⟩
    walk_at "di"
    exact ⟨div_ok (b := 60) hz (by omega) (by decide), h _ _ (Int.emod_nonneg a (by omega)) (Int.emod_lt_of_pos a hz) ⟨_, _, _, rfl, h1, h2, h3, by omega⟩⟩
  · rw [decide_eq_false ha]
    walk_at "di"
    have e5 : (5 : Int).toNat = 5 := rfl
    have e3 : (3 : Int).toNat = 3 := rfl
    have k1 : CMulA 15485867 (c + 1) := mulL ⟨by decide, by decide⟩
    have k2 : CMulA 7919 (c + 1) := mulL ⟨by decide, by decide⟩
    have hm := Int.emod_nonneg ((b + 15485867 * (c + 1)) ^ (5 : Int).toNat) (by decide : (2147483647 : Int) ≠ 0)
    have hm2 := Int.emod_lt_of_pos ((b + 15485867 * (c + 1)) ^ (5 : Int).toNat) (by decide : (0 : Int) < 2147483647)
    refine ⟨k1, ⟨by decide, by decide, by omega⟩, k2, ⟨by decide, by decide, by omega⟩, div_ok (b := 6) (by decide) (by decide) (by decide), hz, h _ _ (Int.emod_nonneg _ (by omega)) (Int.emod_lt_of_pos _ hz) ⟨_, _, _, rfl, h1, h2, by omega, by omega⟩⟩
def sp__law_choice : Spec := mkSp (fun x : Ct × List D => [.mu false x.1, .val (.list x.2)]) fun x Q => ∃ n, (x.2 ≠ [] ∧ x.2.length ≤ lim ∧ Src n x.1 ∧ n < drawMax) ∧ ∀ d t, d ∈ x.2 → Src (n + 1) t → Q (.val d) (some t)
theorem hn__law_choice : ∀ ρ Qd, sp__law_choice ρ Qd → ρ.length = 2 := hn_mk fun _ => rfl
/- _law_choice: slots 0=source 1=items -/
def w__law_choice : DS := (dRet (dOp fIx (dVar 1) (dCall false sp__law_draw (dAAt 0 (dACons (dCB fLen (dACons (dVar 1) dANil)) dANil)))))
theorem lim_pos {n : Nat} (h : n ≤ lim) : (n : Int) < 2 ^ 60 := by unfold lim at h; omega
theorem vc__law_choice : VCio sp__law_choice w__law_choice 0 := by
  rintro ρ Qd ⟨⟨t, l⟩, rfl, n, ⟨hl, hl2, hs, hn⟩, h⟩
  simp only at hl hl2 hs h
  have hpos : 0 < l.length := List.length_pos_iff.mpr hl
  unfold w__law_choice
  walk_at "di"
  refine ⟨(t, (l.length : Int)), rfl, n, ⟨⟨by show (0 : Int) < (l.length : Int); omega, lim_pos hl2⟩, hs, hn⟩, fun r t' h0 h1 hs' => ?_⟩
  walk_at "di"
  obtain ⟨j, rfl⟩ : ∃ j : Nat, r = j := ⟨r.toNat, by omega⟩
  have hj : j < l.length := by simp only at h1; omega
  rw [atI_nat (List.getElem?_eq_getElem hj)]
  exact h _ _ (List.getElem_mem hj) hs'
def kindD : D → Int
  | .bool _ => 1
  | .int _ => 2
  | .str _ => 3
  | .list _ => 4
  | .tuple _ => 5
  | _ => 6
def sp__law_kind : Spec := mkSp (fun x : D => [.val x]) fun x Q => isDct x = false ∧ Q (.val (.int (kindD x))) none
theorem hn__law_kind : ∀ ρ Qd, sp__law_kind ρ Qd → ρ.length = 1 := hn_mk fun _ => rfl
/- _law_kind: slots 0=value -/
def w__law_kind : DS := (dSeq (dIf (dTest (dIsi "bool" (dVar 0))) (dRet (dC (.int 1))) dNext) (dSeq (dIf (dTest (dIsi "int" (dVar 0))) (dRet (dC (.int 2))) dNext) (dSeq (dIf (dTest (dIsi "str" (dVar 0))) (dRet (dC (.int 3))) dNext) (dSeq (dIf (dTest (dIsi "list" (dVar 0))) (dRet (dC (.int 4))) dNext) (dRet (dIte (dTest (dIsi "tuple" (dVar 0))) (dC (.int 5)) (dC (.int 6))))))))
theorem vc__law_kind : VC sp__law_kind w__law_kind 0 := by
  rintro ρ Qd ⟨x, rfl, hx, h⟩
  unfold w__law_kind
  walk_at "di"
  cases x with
  | dict _ => cases hx
  | _ => exact h
def sp__law_equal (n : Nat) : Spec := mkSp (fun x : D => [.val x, .val x]) fun x Q => (SeqAt.shaped x = true ∧ depD x ≤ n) ∧ Q (.val (.bool true)) none
theorem hn__law_equal (n : Nat) : ∀ ρ Qd, sp__law_equal n ρ Qd → ρ.length = 2 := hn_mk fun _ => rfl
/- _law_equal: slots 0=value 1=expected 2=k 3=part -/
def w__law_equal (n : Nat) : DS := (dSeq (dIf (dTest (dOp fNe (dCall false sp__law_kind (dACons (dVar 0) dANil)) (dCall false sp__law_kind (dACons (dVar 1) dANil)))) (dRet (dC (.bool false))) dNext) (dSeq (dIf (dAnd (dTest (dOp fGt (dCall false sp__law_kind (dACons (dVar 0) dANil)) (dC (.int 3)))) (dTest (dOp fLt (dCall false sp__law_kind (dACons (dVar 0) dANil)) (dC (.int 6))))) (dSeq (dIf (dTest (dOp fNe (dCB fLen (dACons (dVar 0) dANil)) (dCB fLen (dACons (dVar 1) dANil)))) (dRet (dC (.bool false))) dNext) (dRet (dOp fEq (dLc (diEnumX (dACons (dVar 0) dANil)) (gdTupN 2 (gdCons (gdName 2) (gdCons (gdName 3) gdNil))) (dNot (dTest (dCall false (sp__law_equal n) (dACons (dVar 3) (dACons (dOp fIx (dVar 1) (dVar 2)) dANil))))) (dVar 2) [2, 3]) (dLst dANil)))) dNext) (dRet (dOp fEq (dVar 0) (dVar 1)))))
theorem kind_ge (x : D) : 1 ≤ kindD x ∧ kindD x ≤ 6 := by cases x <;> (simp only [kindD]; omega)
theorem fEq_same {x : D} {Q : Sl → Prop} (hx : SeqAt.shaped x = true) (h : Q (.val (.bool true))) : fEq x x Q := by
  have e := SeqAt.eqv_refl x (SeqAt.canLay_of_shaped hx)
  cases x with
  | int i => show Q (.val (.bool (decide (i = i)))); rw [decide_eq_true rfl]; exact h
  | _ => refine ⟨hx, hx, ?_⟩; rw [e]; exact h
theorem enum_pair {l : List D} {i : Nat} {d : D} (h : (enumD 0 l)[i]? = some d) : ∃ x, l[i]? = some x ∧ d = .tuple [.int (i : Nat), x] := by
  obtain ⟨x, h1, h2⟩ := enum_get h
  rw [Nat.zero_add] at h2
  exact ⟨x, h1, h2⟩
theorem vc__law_equal (n : Nat) : VC (sp__law_equal (n + 1)) (w__law_equal n) 2 := by
  rintro ρ Qd ⟨x, rfl, ⟨hx, hd⟩, h⟩
  have hdc : isDct x = false := lay_dct (SeqAt.canLay_of_shaped hx)
  unfold w__law_equal
  walk_at "di"
  refine ⟨x, rfl, hdc, x, rfl, hdc, ?_⟩
  have e0 : (!decide (kindD x = kindD x)) = false := by simp
  simp only [e0]
  walk_at "ds"
  refine ⟨x, rfl, hdc, ?_⟩
  have items : ∀ (l : List D), (x = .list l ∨ x = .tuple l) → ∀ d ∈ l, SeqAt.shaped d = true ∧ depD d ≤ n := fun l hl d hm => by
    refine ⟨shaped_mem (l := l) (by rcases hl with rfl | rfl; exact .inl hx; exact .inr hx) hm, ?_⟩
    have h1 := dep_mem hm
    rcases hl with rfl | rfl
    · have : depD (.list l) = depD.depAll l + 1 := rfl
      omega
    · have : depD (.tuple l) = depD.depAll l + 1 := rfl
      omega
  cases x with
  | dict _ => cases hdc
  | list l =>
    walk_at "ds"
    refine ⟨.list l, rfl, rfl, ?_⟩
    simp only [kindD]
    walk_at "ds"
    simp only [dLc, diEnumX]
    walk_at "ds"
    refine ⟨fun _ acc ρ => acc = [] ∧ ρ = [.val (.list l), .val (.list l), .no, .no], ⟨rfl, rfl⟩, ?_, ?_⟩
    · rintro i acc d ρ hi ⟨rfl, rfl⟩
      obtain ⟨y, hy, rfl⟩ := enum_pair hi
      walk_at "ds"
      rw [atI_nat hy]
      exact ⟨y, rfl, items l (.inl rfl) y (List.mem_of_getElem? hy), trivial⟩
    · rintro acc ρ ⟨rfl, rfl⟩
      exact ⟨Nat.zero_le _, fEq_same (Q := fun z => Qd z none) shaped_nil h⟩
  | tuple l =>
    walk_at "ds"
    refine ⟨.tuple l, rfl, rfl, ?_⟩
    simp only [kindD]
    walk_at "ds"
    simp only [dLc, diEnumX]
    walk_at "ds"
    refine ⟨fun _ acc ρ => acc = [] ∧ ρ = [.val (.tuple l), .val (.tuple l), .no, .no], ⟨rfl, rfl⟩, ?_, ?_⟩
    · rintro i acc d ρ hi ⟨rfl, rfl⟩
      obtain ⟨y, hy, rfl⟩ := enum_pair hi
      walk_at "ds"
      rw [atI_nat hy]
      exact ⟨y, rfl, items l (.inr rfl) y (List.mem_of_getElem? hy), trivial⟩
    · rintro acc ρ ⟨rfl, rfl⟩
      exact ⟨Nat.zero_le _, fEq_same (Q := fun z => Qd z none) shaped_nil h⟩
  | bool b =>
    simp only [kindD]
    walk_at "ds"
    exact fEq_same (Q := fun z => Qd z none) hx h
  | none =>
    simp only [kindD]
    walk_at "ds"
    refine ⟨.none, rfl, rfl, ?_⟩
    simp only [kindD]
    walk_at "ds"
    exact fEq_same (Q := fun z => Qd z none) hx h
  | int i =>
    simp only [kindD]
    walk_at "ds"
    exact h
  | str x =>
    simp only [kindD]
    walk_at "ds"
    exact fEq_same (Q := fun z => Qd z none) hx h
theorem sp__law_equal_0 {ρ : En} {Qd : Sl → Option Ct → Prop} (h : sp__law_equal 0 ρ Qd) : False := by
  obtain ⟨x, _, ⟨_, hd⟩, _⟩ := h
  cases x <;> simp [depD] at hd
end DL

namespace DL
open PySem PySem.Spec PyProof.Rows L2
local macro_rules | `(tactic| walk_at "dl") => `(tactic| try simp only [dSeq, dNext, dSet, dSetV, dRet, dRetN, dExpr, dBreak, dCont, dPar, dPar3, dAsg, dTest_S, dNot, dNotV_S, dOp, dUn, dC, dVar_S, dVarS_v, dVarS_m, dMov_S, dMovS_m, sB_b, muL_l, muT_t, isI_i, vaI_i, dF_v, dF_m, dChain, fAdd_ii, fAdd_ll, fAdd_tt, fI_ii, fI0_ii, fMul_ii, fMul_ti, fNeg_i, fEq_ii, fNe_ii, fIsN_n, fIsN_l, fIsN_t, fIsN_i, fIx_l, fIx_t, dANil, dACons, dAAt_S, agD, dTup, dLst, dCB, fAbs_i, fMax2_ii, fMin2_ii, fLen_l, fLen_t, fList_l, fInt_i, dParX_2, dParX_3, fList_t, fTuple_l, fTuple_t, dSl, dONone, dOSome, fSl_l, fSl_t, dIsi_S, dIsi2_S, isiS_s, dCall, agOne, agAll, agAt, agSl_d, agSl_s, agS_m, dBack_n, dBack_s, seqS_l, seqS_t, nos, List.replicate, List.append, List.map, List.cons_append, List.nil_append, List.getElem?_cons_zero, List.getElem?_cons_succ, List.set_cons_zero, List.set_cons_succ, ioOf, List.length_cons, List.length_nil, dYes, gdName, gdTupN, gdCons, gdNil, frzAt, frz, dBor, dBorB, flatS, flatD, Option.getD_some, wipeD, dAug_S, dApp_S, dIns_S, dSetI_S, dIxM_S, dAugL_S, ixN_30, ixN_31, ixN_32, atI_0, atI_1, atI_2, atI_3, atI_4, true_and, reduceCtorEq, false_implies, implies_true, forall_const, Bool.not_true, Bool.not_false, Nat.reduceAdd, decide_true, decide_false, Int.reduceLT, Int.reduceLE, Int.reduceEq])
local macro_rules | `(tactic| walk_at "dt") => `(tactic| (walk_at "dl"; (try simp only [dAnd, dOr, dAndV_S, dOrV_S]); walk_at "dl"))
local macro_rules | `(tactic| walk_at "di") => `(tactic| (walk_at "dl"; (try simp only [dIf, dIte]); walk_at "dl"))
local macro_rules | `(tactic| walk_at "ds") => `(tactic| (walk_at "di"; walk_at "dt"; walk_at "di"))

/-! ### the corners of a row -/
def sizesT (r : List Pan) (g : Bool) (t : Rat) : List Rat := r.map fun p => sizeT p g t
def rowsR (r : List Pan) : List (List Rat) := (timesR r false).reverse.map (sizesT r false) ++ (timesR r true).tail.map (sizesT r true)
def stepK (found : List (Rat × List Rat)) (xs : List Rat) : List (Rat × List Rat) := match found.getLast? with
  | none => [(sumR xs, xs)]
  | some c => if c.1 < sumR xs then found ++ [(sumR xs, xs)] else found
def knotsR (r : List Pan) : List (Rat × List Rat) := (rowsR r).foldl stepK []
theorem sz_sizes {r : List Pan} (h : ∀ p ∈ r, PanOk p) {g : Bool} {t : Rat} {n : Nat} (ht : Sz n t) : ∀ q ∈ sizesT r g t, Sz (n + 17) q := by
  intro q hq
  obtain ⟨p, hp, rfl⟩ := List.mem_map.mp hq
  exact sz_size (h p hp) ht
theorem rows_sz {r : List Pan} (h : ∀ p ∈ r, PanOk p) : ∀ xs ∈ rowsR r, xs.length = r.length ∧ ∀ q ∈ xs, Sz 26 q := by
  intro xs hx
  rcases List.mem_append.mp hx with hx | hx <;> obtain ⟨t, ht, rfl⟩ := List.mem_map.mp hx
  · exact ⟨List.length_map _, sz_sizes h (sz_times h t (List.mem_reverse.mp ht))⟩
  · exact ⟨List.length_map _, sz_sizes h (sz_times h t (List.mem_of_mem_tail ht))⟩
theorem rows_len {r : List Pan} : (rowsR r).length ≤ r.length * 4 + 2 := by
  have h1 := times_len false r
  have h2 := times_len true r
  unfold rowsR
  rw [List.length_append, List.length_map, List.length_map, List.length_reverse, List.length_tail]
  omega
theorem knots_sz {r : List Pan} (h : ∀ p ∈ r, PanOk p) (h8 : r.length ≤ 8) : ∀ (l : List (List Rat)) (acc : List (Rat × List Rat)), (∀ xs ∈ l, xs.length = r.length ∧ ∀ q ∈ xs, Sz 26 q) → (∀ c ∈ acc, Sz 217 c.1 ∧ c.2.length = r.length ∧ ∀ q ∈ c.2, Sz 26 q) → ∀ c ∈ l.foldl stepK acc, Sz 217 c.1 ∧ c.2.length = r.length ∧ ∀ q ∈ c.2, Sz 26 q
  | [], acc, _, ha => ha
  | x :: l, acc, hl, ha => by
    have hx := hl x List.mem_cons_self
    have hc : Sz 217 (sumR x) := (sz_sum hx.2).mono (by rw [hx.1]; omega)
    refine knots_sz h h8 l (stepK acc x) (fun y hy => hl y (List.mem_cons_of_mem _ hy)) fun c hc' => ?_
    unfold stepK at hc'
    split at hc'
    · rw [List.mem_singleton.mp hc']; exact ⟨hc, hx⟩
    · split at hc'
      · rcases List.mem_append.mp hc' with hc' | hc'
        · exact ha c hc'
        · rw [List.mem_singleton.mp hc']; exact ⟨hc, hx⟩
      · exact ha c hc'
theorem knots_len : ∀ (l : List (List Rat)) (acc : List (Rat × List Rat)), (l.foldl stepK acc).length ≤ acc.length + l.length
  | [], acc => Nat.le_refl _
  | x :: l, acc => by
    have h1 := knots_len l (stepK acc x)
    have h2 : (stepK acc x).length ≤ acc.length + 1 := by
      unfold stepK
      split
      · exact Nat.le_add_left _ _
      · split
        · rw [List.length_append]; exact Nat.le_refl _
        · exact Nat.le_succ _
    rw [List.foldl_cons, List.length_cons]
    omega
def sp_knots : Spec := mkSp (fun r : List Pan => [.val (rowD r)]) fun r Q => RowOk r ∧ Q (.mu true (.lst ((knotsR r).map knotD))) none
theorem hn_knots : ∀ ρ Qd, sp_knots ρ Qd → ρ.length = 1 := hn_mk fun _ => rfl
/- knots: slots 0=row 1=rows 2=time 3=panel 4=found 5=sizes 6=width -/
def w_knots : DS := (dSeq (dSet 1 (dLst dANil)) (dSeq (dFor (diSeq (dRev (dCall false sp_times_of (dACons (dVar 0) (dACons (dC (.bool false)) dANil))))) (gdName 2) (dApp 1 (dLc (diSeq (dVar 0)) (gdName 3) dYes (dCall false sp_size_at (dACons (dVar 3) (dACons (dVar 2) (dACons (dC (.bool false)) dANil)))) [3]))) (dSeq (dFor (diSeq (dSl (dCall false sp_times_of (dACons (dVar 0) (dACons (dC (.bool true)) dANil))) (dOSome (dC (.int 1))) dONone)) (gdName 2) (dApp 1 (dLc (diSeq (dVar 0)) (gdName 3) dYes (dCall false sp_size_at (dACons (dVar 3) (dACons (dVar 2) (dACons (dC (.bool true)) dANil)))) [3]))) (dSeq (dSet 4 (dLst dANil)) (dSeq (dFor (diSeq (dVar 1)) (gdName 5) (dSeq (dSet 6 (dCall false sp_total (dACons (dVar 5) dANil))) (dIf (dBorB [4] (dOr (dTest (dOp fEq (dVar 4) (dLst dANil))) (dTest (dCall true sp_less (dACons (dOp fIx (dOp fIx (dVar 4) (dUn fNeg (dC (.int 1)))) (dC (.int 0))) (dACons (dVar 6) dANil)))))) (dApp 4 (dTup (dACons (dVar 6) (dACons (dVar 5) dANil)))) dNext))) (dRet (dMov 4)))))))
theorem vc_knots : VC sp_knots w_knots 6 := by
  rintro ρ Qd ⟨r, rfl, hr, h⟩
  have h8 := hr.n8
  unfold w_knots
  walk_at "dl"
  refine ⟨Nat.zero_le _, ?_⟩
  simp only [dFor, diSeq, dRev]
  walk_at "dl"
  refine ⟨(r, false), rfl, hr, ?_⟩
  walk_at "dl"
  have ht : ∀ g, ∀ q ∈ timesR r g, Sz 9 q := fun g => sz_times hr.all
  have hl1 := times_len false r
  have hl2 := times_len true r
  have sD : ∀ (g : Bool) (t : Rat), PyData.list (r.map fun p => fr (sizeT p g t)) = ratsD (sizesT r g t) := fun g t => by
    unfold ratsD sizesT
    rw [List.map_map]; rfl
  have hrl : r.length ≤ lim := by unfold lim; omega
  refine ⟨fun i ρ => ∃ a, ρ = [.val (rowD r), .mu true (.lst ((((timesR r false).reverse.take i).map (sizesT r false)).map ratsD)), a, .no, .no, .no, .no], ⟨.no, by simp⟩, ?_, ?_⟩
  · rintro i d ρ hi ⟨a, rfl⟩
    rw [← List.map_reverse] at hi
    obtain ⟨t, hk, rfl⟩ := map_at hi
    have hti := ht false t (List.mem_reverse.mp (List.mem_of_getElem? hk))
    have hil := lt_len hk
    rw [List.length_reverse] at hil
    generalize hG : (((timesR r false).reverse.take i).map (sizesT r false)).map ratsD = G
    have hGl : G.length ≤ 17 := by
      rw [← hG, List.length_map, List.length_map, List.length_take, List.length_reverse]
      omega
    have e1 : (((timesR r false).reverse.take (i + 1)).map (sizesT r false)).map ratsD = G ++ [ratsD (sizesT r false t)] := by
      rw [← hG, List.take_add_one, hk]
      simp
    simp only [e1]
    unfold rowD
    walk_at "dl"
    simp only [dLc, diSeq]
    walk_at "dl"
    refine ⟨mapP r (fun p => fr (sizeT p false t)) [.val (rowD r), .mu true (.lst G), .val (fr t), .no, .no, .no, .no], mapP_0, ?_, ?_⟩
    · rintro j acc d ρ hj q
      obtain ⟨p, hp, rfl⟩ := map_at hj
      have q2 := q.2
      subst q2
      walk_at "dl"
      exact ⟨(p, t, false), rfl, ⟨hr.all p (List.mem_of_getElem? hp), 9, hti, by decide⟩, mapP_yes hrl hp q rfl rfl⟩
    · rintro acc ρ q
      obtain ⟨rfl, rfl⟩ := mapP_end q (List.length_map _)
      walk_at "dl"
      rw [sD]
      exact ⟨by unfold lim; omega, _, rfl⟩
  · rintro ρ ⟨a, rfl⟩
    rw [List.length_reverse, List.length_map, ← List.length_reverse (as := timesR r false), List.take_length]
    generalize hG0 : ((timesR r false).reverse.map (sizesT r false)).map ratsD = G0
    have hG0l : G0.length ≤ 17 := by
      rw [← hG0, List.length_map, List.length_map, List.length_reverse]
      omega
    simp only [dFor, diSeq]
    walk_at "dl"
    refine ⟨(r, true), rfl, hr, ?_⟩
    walk_at "dl"
    rw [cut_tail, ← List.map_tail]
    have hl3 : (timesR r true).tail.length ≤ 16 := by rw [List.length_tail]; omega
    refine ⟨fun i ρ => ∃ a, ρ = [.val (rowD r), .mu true (.lst (G0 ++ (((timesR r true).tail.take i).map (sizesT r true)).map ratsD)), a, .no, .no, .no, .no], ⟨a, by simp⟩, ?_, ?_⟩
    · rintro i d ρ hi ⟨a, rfl⟩
      obtain ⟨t, hk, rfl⟩ := map_at hi
      have hti := ht true t (List.mem_of_mem_tail (List.mem_of_getElem? hk))
      have hil := lt_len hk
      generalize hG : (((timesR r true).tail.take i).map (sizesT r true)).map ratsD = G
      have hGl : G.length ≤ 17 := by
        rw [← hG, List.length_map, List.length_map, List.length_take]
        omega
      have e1 : (((timesR r true).tail.take (i + 1)).map (sizesT r true)).map ratsD = G ++ [ratsD (sizesT r true t)] := by
        rw [← hG, List.take_add_one, hk]
        simp
      simp only [e1]
      unfold rowD
      walk_at "dl"
      simp only [dLc, diSeq]
      walk_at "dl"
      refine ⟨mapP r (fun p => fr (sizeT p true t)) [.val (rowD r), .mu true (.lst (G0 ++ G)), .val (fr t), .no, .no, .no, .no], mapP_0, ?_, ?_⟩
      · rintro j acc d ρ hj q
        obtain ⟨p, hp, rfl⟩ := map_at hj
        have q2 := q.2
        subst q2
        walk_at "dl"
        exact ⟨(p, t, true), rfl, ⟨hr.all p (List.mem_of_getElem? hp), 9, hti, by decide⟩, mapP_yes hrl hp q rfl rfl⟩
      · rintro acc ρ q
        obtain ⟨rfl, rfl⟩ := mapP_end q (List.length_map _)
        walk_at "dl"
        rw [sD]
        exact ⟨by rw [List.length_append]; unfold lim; omega, _, by rw [List.append_assoc]; rfl⟩
    · rintro ρ ⟨a, rfl⟩
      rw [List.length_map, List.take_length, ← hG0, ← List.map_append]
      show 0 ≤ lim ∧ _
      refine ⟨Nat.zero_le _, ?_⟩
      have hrows : (timesR r false).reverse.map (sizesT r false) ++ (timesR r true).tail.map (sizesT r true) = rowsR r := rfl
      rw [hrows]
      have hR := rows_sz hr.all
      have hRl := rows_len (r := r)
      simp only [dFor, diSeq]
      walk_at "dl"
      unfold knotsR at h
      generalize rowsR r = R at *
      refine ⟨fun i ρ => ∃ b c, ρ = [.val (rowD r), .val (.list (R.map ratsD)), a, .no, .mu true (.lst (((R.take i).foldl stepK []).map knotD)), b, c], ⟨.no, .no, by simp⟩, ?_, ?_⟩
      · rintro i d ρ hi ⟨b, c, rfl⟩
        obtain ⟨xs, hk, rfl⟩ := map_at hi
        obtain ⟨hx1, hx2⟩ := hR xs (List.mem_of_getElem? hk)
        generalize hG : (R.take i).foldl stepK [] = G
        have hGl : G.length ≤ 34 := by
          have := knots_len (R.take i) []
          rw [List.length_take] at this
          rw [← hG]
          simp only [List.length_nil] at this
          omega
        have e1 : (R.take (i + 1)).foldl stepK [] = stepK G xs := by
          rw [← hG, List.take_add_one, hk, List.foldl_append]; rfl
        simp only [e1]
        unfold ratsD
        walk_at "dl"
        refine ⟨xs, rfl, ⟨26, hx2, by rw [hx1]; omega⟩, ?_⟩
        walk_at "dl"
        have hGs := knots_sz hr.all h8 (R.take i) [] (fun y hy => hR y (List.mem_of_mem_take hy)) (fun c hc => nomatch hc)
        rw [hG] at hGs
        have hsx : Sz 217 (sumR xs) := (sz_sum hx2).mono (by rw [hx1]; omega)
        have test : ∀ Q : Bool → En → Prop, Q (match G.getLast? with | none => true | some c => decide (c.1 < sumR xs)) [.val (rowD r), .val (.list (R.map fun xs => .list (xs.map fr))), a, .no, .mu true (.lst (G.map knotD)), .val (.list (xs.map fr)), .val (fr (sumR xs))] → dBorB [4] (dOr (dTest (dOp fEq (dVar 4) (dLst dANil))) (dTest (dCall true sp_less (dACons (dOp fIx (dOp fIx (dVar 4) (dUn fNeg (dC (PyData.int 1)))) (dC (PyData.int 0))) (dACons (dVar 6) dANil))))) [.val (rowD r), .val (.list (R.map fun xs => .list (xs.map fr))), a, .no, .mu true (.lst (G.map knotD)), .val (.list (xs.map fr)), .val (fr (sumR xs))] Q := fun Q hQ => by
          walk_at "dt"
          refine ⟨Nat.zero_le _, fEq_nil (n := 4) (fun y hy => ?_) (by decide) ?_⟩
          · obtain ⟨c, _, rfl⟩ := List.mem_map.mp hy
            exact lay_knot c
          walk_at "dt"
          rcases hl : G.getLast? with _ | c
          · rw [List.getLast?_eq_none_iff] at hl
            subst hl
            exact hQ
          · have hne : G ≠ [] := fun e => by subst e; cases hl
            have e2 : (G.map knotD).isEmpty = false := by cases G with
              | nil => exact absurd rfl hne
              | cons _ _ => rfl
            have e3 : atI (G.map knotD) (-1) = some (knotD c) := by rw [atI_last, List.getLast?_map, hl]; rfl
            rw [hl] at hQ
            have hcs := hGs c (List.mem_of_getLast? hl)
            simp only [e2, e3]
            unfold knotD
            walk_at "dt"
            exact ⟨(c.1, sumR xs), rfl, ⟨hcs.1.mono (by decide), hsx.mono (by decide)⟩, hQ⟩
        unfold dIf
        refine test _ ?_
        unfold stepK
        rcases hl : G.getLast? with _ | c
        · rw [List.getLast?_eq_none_iff] at hl
          subst hl
          walk_at "dl"
          exact ⟨by decide, Nat.zero_lt_succ _, _, _, rfl⟩
        · by_cases c1 : c.1 < sumR xs
          · simp only [decide_eq_true c1, if_pos c1]
            walk_at "dl"
            have e5 : (G ++ [(sumR xs, xs)]).map knotD = G.map knotD ++ [.tuple [fr (sumR xs), .list (xs.map fr)]] := by rw [List.map_append]; rfl
            rw [e5]
            exact ⟨by decide, by rw [List.length_map]; unfold lim; omega, _, _, rfl⟩
          · simp only [decide_eq_false c1, if_neg c1]
            exact ⟨_, _, rfl⟩
      · rintro ρ ⟨b, c, rfl⟩
        walk_at "dl"
        rw [List.length_map, List.take_length]
        exact h
end DL

namespace DL
open PySem PySem.Spec PyProof.Rows L2
local macro_rules | `(tactic| walk_at "dl") => `(tactic| try simp only [dSeq, dNext, dSet, dSetV, dRet, dRetN, dExpr, dBreak, dCont, dPar, dPar3, dAsg, dTest_S, dNot, dNotV_S, dOp, dUn, dC, dVar_S, dVarS_v, dVarS_m, dMov_S, dMovS_m, sB_b, muL_l, muT_t, isI_i, vaI_i, dF_v, dF_m, dChain, fAdd_ii, fAdd_ll, fAdd_tt, fI_ii, fI0_ii, fMul_ii, fMul_ti, fNeg_i, fEq_ii, fNe_ii, fIsN_n, fIsN_l, fIsN_t, fIsN_i, fIx_l, fIx_t, dANil, dACons, dAAt_S, agD, dTup, dLst, dCB, fAbs_i, fMax2_ii, fMin2_ii, fLen_l, fLen_t, fList_l, fInt_i, dParX_2, dParX_3, fList_t, fTuple_l, fTuple_t, dSl, dONone, dOSome, fSl_l, fSl_t, dIsi_S, dIsi2_S, isiS_s, dCall, agOne, agAll, agAt, agSl_d, agSl_s, agS_m, dBack_n, dBack_s, seqS_l, seqS_t, nos, List.replicate, List.append, List.map, List.cons_append, List.nil_append, List.getElem?_cons_zero, List.getElem?_cons_succ, List.set_cons_zero, List.set_cons_succ, ioOf, List.length_cons, List.length_nil, dYes, gdName, gdTupN, gdCons, gdNil, frzAt, frz, dBor, dBorB, flatS, flatD, Option.getD_some, wipeD, dAug_S, dApp_S, dIns_S, dSetI_S, dIxM_S, dAugL_S, ixN_30, ixN_31, ixN_32, atI_0, atI_1, atI_2, atI_3, atI_4, true_and, reduceCtorEq, false_implies, implies_true, forall_const, Bool.not_true, Bool.not_false, Nat.reduceAdd, decide_true, decide_false, Int.reduceLT, Int.reduceLE, Int.reduceEq])
local macro_rules | `(tactic| walk_at "dt") => `(tactic| (walk_at "dl"; (try simp only [dAnd, dOr, dAndV_S, dOrV_S]); walk_at "dl"))
local macro_rules | `(tactic| walk_at "di") => `(tactic| (walk_at "dl"; (try simp only [dIf, dIte]); walk_at "dl"))
local macro_rules | `(tactic| walk_at "ds") => `(tactic| (walk_at "di"; walk_at "dt"; walk_at "di"))

/-! ### the limits -/
theorem rows_ne (r : List Pan) : rowsR r ≠ [] := by
  have h : (0 : Rat) ∈ timesR r false := ord_mem.mpr List.mem_cons_self
  intro e
  have e1 := (List.append_eq_nil_iff.mp e).1
  rw [List.map_eq_nil_iff, List.reverse_eq_nil_iff] at e1
  rw [e1] at h
  cases h
theorem step_ne (acc : List (Rat × List Rat)) (x : List Rat) : stepK acc x ≠ [] := by
  unfold stepK
  split
  · exact List.cons_ne_nil _ _
  · rename_i c hc
    split
    · simp
    · intro e; rw [e] at hc; cases hc
theorem foldl_step_ne : ∀ (l : List (List Rat)) (acc : List (Rat × List Rat)), acc ≠ [] → l.foldl stepK acc ≠ []
  | [], _, h => h
  | x :: l, acc, h => foldl_step_ne l _ (step_ne acc x)
theorem knots_ne (r : List Pan) : knotsR r ≠ [] := by
  unfold knotsR
  cases e : rowsR r with
  | nil => exact absurd e (rows_ne r)
  | cons x l => exact foldl_step_ne l _ (step_ne [] x)
/-- numerators of the least and the greatest width -/
def limitsR (r : List Pan) : Int × Int := (((knotsR r).head (knots_ne r)).1.num, ((knotsR r).getLast (knots_ne r)).1.num)
def sp_limits_of : Spec := mkSp (fun r : List Pan => [.val (rowD r)]) fun r Q => RowOk r ∧ Q (.val (.tuple [.int (limitsR r).1, .int (limitsR r).2])) none
theorem hn_limits_of : ∀ ρ Qd, sp_limits_of ρ Qd → ρ.length = 1 := hn_mk fun _ => rfl
def sp_limits : Spec := mkSp (fun r : List Pan => [.val (rowD r)]) fun r Q => RowOk r ∧ Q (.val (.tuple [.int (limitsR r).1, .int (limitsR r).2])) none
theorem hn_limits : ∀ ρ Qd, sp_limits ρ Qd → ρ.length = 1 := hn_mk fun _ => rfl
/- limits_of: slots 0=row 1=rows -/
def w_limits_of : DS := (dSeq (dSet 1 (dCall false sp_knots (dACons (dVar 0) dANil))) (dRet (dTup (dACons (dOp fIx (dOp fIx (dOp fIx (dVar 1) (dC (.int 0))) (dC (.int 0))) (dC (.int 0))) (dACons (dOp fIx (dOp fIx (dOp fIx (dVar 1) (dUn fNeg (dC (.int 1)))) (dC (.int 0))) (dC (.int 0))) dANil)))))
/- limits: slots 0=row -/
def w_limits : DS := (dSeq (dExpr (dCall false sp_check_row (dACons (dVar 0) dANil))) (dRet (dCall false sp_limits_of (dACons (dVar 0) dANil))))
theorem vc_limits_of : VC sp_limits_of w_limits_of 1 := by
  rintro ρ Qd ⟨r, rfl, hr, h⟩
  unfold w_limits_of
  walk_at "dl"
  refine ⟨r, rfl, hr, ?_⟩
  walk_at "dl"
  unfold limitsR at h
  have hne := knots_ne r
  have e1 : atI ((knotsR r).map knotD) 0 = some (knotD ((knotsR r).head hne)) := by
    have : (0 : Int) = ((0 : Nat) : Int) := rfl
    rw [this]
    exact atI_map (by rw [← List.head?_eq_getElem?, List.head?_eq_some_head hne])
  have e2 : atI ((knotsR r).map knotD) (-1) = some (knotD ((knotsR r).getLast hne)) := by
    rw [atI_last, List.getLast?_map, List.getLast?_eq_some_getLast hne]; rfl
  rw [e1, e2]
  unfold knotD fr
  walk_at "dl"
  exact ⟨by decide, h⟩
theorem vc_limits : VC sp_limits w_limits 0 := by
  rintro ρ Qd ⟨r, rfl, hr, h⟩
  unfold w_limits
  walk_at "dl"
  exact ⟨_, rfl, ⟨row_lay r, isRowD_row hr⟩, r, rfl, hr, h⟩
/-! ### a part of the line of times -/
def segP (p : Pan) (t0 t1 : Rat) (g : Bool) : Int × Int :=
  let f := facA g p
  let a := if g then p.lo - p.b else p.b - p.hi
  let z := if g then p.hi - p.b else p.b - p.lo
  if f = 0 then (natP p, 0)
  else if (f : Rat) * t1 ≤ a then (if g then p.lo else p.hi, 0)
  else if (z : Rat) ≤ f * t0 then (if g then p.hi else p.lo, 0)
  else (p.b, f)
def segR (r : List Pan) (t0 t1 : Rat) (g : Bool) : Int × Int := ((r.map fun p => (segP p t0 t1 g).1).sum, (r.map fun p => (segP p t0 t1 g).2).sum)
theorem frac_mul (f : Int) (t : Rat) : (f : Rat) * t = ((f * t.num : Int) : Rat) / ((t.den : Int) : Rat) := by
  have e := rat_mul_eq (f : Rat) t
  rw [int_num, int_den] at e
  simpa using e
theorem den_pos (t : Rat) : (0 : Rat) < ((t.den : Int) : Rat) := by
  have := t.den_pos
  exact_mod_cast this
theorem le_frac (a f : Int) (t : Rat) : (f * t.num ≤ a * t.den) ↔ (f : Rat) * t ≤ a := by
  rw [frac_mul, ← Rat.not_lt, Rat.lt_div_iff (den_pos t), ← Rat.intCast_mul, Rat.intCast_lt_intCast]
  omega
theorem ge_frac (a f : Int) (t : Rat) : (a * t.den ≤ f * t.num) ↔ (a : Rat) ≤ (f : Rat) * t := by
  rw [frac_mul, ← Rat.not_lt, Rat.div_lt_iff (den_pos t), ← Rat.intCast_mul, Rat.intCast_lt_intCast]
  omega
theorem map_sum_take {l : List Pan} {f : Pan → Int} {i : Nat} {p : Pan} (h : l[i]? = some p) : ((l.take (i + 1)).map f).sum = ((l.take i).map f).sum + f p := by
  rw [List.take_add_one, h]
  simp
def sp_segment : Spec := mkSp (fun x : List Pan × Rat × Rat × Bool => [.val (rowD x.1), .val (fr x.2.1), .val (fr x.2.2.1), .val (.bool x.2.2.2)]) fun x Q => (RowOk x.1 ∧ Sz 900 x.2.1 ∧ Sz 900 x.2.2.1) ∧ Q (.val (.tuple [.int (segR x.1 x.2.1 x.2.2.1 x.2.2.2).1, .int (segR x.1 x.2.1 x.2.2.1 x.2.2.2).2])) none
theorem hn_segment : ∀ ρ Qd, sp_segment ρ Qd → ρ.length = 4 := hn_mk fun _ => rfl
/- segment: slots 0=row 1=start 2=end 3=growing 4=fixed 5=slope 6=basis 7=grow 8=shrink 9=low 10=high 11=factor 12=first 13=last -/
def w_segment : DS := (dSeq (dAsg (dTup (dACons (dC (.int 0)) (dACons (dC (.int 0)) dANil))) (gdTupN 2 (gdCons (gdName 4) (gdCons (gdName 5) gdNil)))) (dSeq (dFor (diSeq (dVar 0)) (gdTupN 5 (gdCons (gdName 6) (gdCons (gdName 7) (gdCons (gdName 8) (gdCons (gdName 9) (gdCons (gdName 10) gdNil)))))) (dSeq (dSet 11 (dIte (dTest (dVar 3)) (dVar 7) (dVar 8))) (dSeq (dAsg (dIte (dTest (dVar 3)) (dTup (dACons (dOp fSub (dVar 9) (dVar 6)) (dACons (dOp fSub (dVar 10) (dVar 6)) dANil))) (dTup (dACons (dOp fSub (dVar 6) (dVar 10)) (dACons (dOp fSub (dVar 6) (dVar 9)) dANil)))) (gdTupN 2 (gdCons (gdName 12) (gdCons (gdName 13) gdNil)))) (dIf (dTest (dOp fEq (dVar 11) (dC (.int 0)))) (dAug 4 (fun a b => a + b) (dCB fMax2 (dACons (dVar 9) (dACons (dCB fMin2 (dACons (dVar 10) (dACons (dVar 6) dANil))) dANil)))) (dIf (dTest (dOp fGe (dOp fMul (dVar 12) (dOp fIx (dVar 2) (dC (.int 1)))) (dOp fMul (dVar 11) (dOp fIx (dVar 2) (dC (.int 0)))))) (dAug 4 (fun a b => a + b) (dIte (dTest (dVar 3)) (dVar 9) (dVar 10))) (dIf (dTest (dOp fLe (dOp fMul (dVar 13) (dOp fIx (dVar 1) (dC (.int 1)))) (dOp fMul (dVar 11) (dOp fIx (dVar 1) (dC (.int 0)))))) (dAug 4 (fun a b => a + b) (dIte (dTest (dVar 3)) (dVar 10) (dVar 9))) (dSeq (dAug 4 (fun a b => a + b) (dVar 6)) (dAug 5 (fun a b => a + b) (dVar 11))))))))) (dRet (dTup (dACons (dVar 4) (dACons (dVar 5) dANil))))))
theorem vc_segment : VC sp_segment w_segment 10 := by
  rintro ρ Qd ⟨⟨r, t0, t1, g⟩, rfl, ⟨hr, h0, h1⟩, h⟩
  simp only at hr h0 h1 h
  unfold w_segment
  walk_at "dl"
  refine ⟨by decide, ?_⟩
  simp only [dFor, diSeq]
  unfold rowD
  walk_at "dl"
  refine ⟨fun i ρ => ∃ a b c d e f u v, ρ = [.val (.tuple (r.map pan)), .val (fr t0), .val (fr t1), .val (.bool g), .val (.int (segR (r.take i) t0 t1 g).1), .val (.int (segR (r.take i) t0 t1 g).2), a, b, c, d, e, f, u, v], ⟨.no, .no, .no, .no, .no, .no, .no, .no, by simp [segR]⟩, ?_, ?_⟩
  · rintro i d ρ hi ⟨a, b, c, d', e, f, u, v, rfl⟩
    obtain ⟨p, hp, rfl⟩ := map_at hi
    have hpo := hr.all p (List.mem_of_getElem? hp)
    generalize r.map pan = R
    have e1 : (segR (r.take (i + 1)) t0 t1 g).1 = (segR (r.take i) t0 t1 g).1 + (segP p t0 t1 g).1 := map_sum_take hp
    have e2 : (segR (r.take (i + 1)) t0 t1 g).2 = (segR (r.take i) t0 t1 g).2 + (segP p t0 t1 g).2 := map_sum_take hp
    simp only [e1, e2]
    generalize (segR (r.take i) t0 t1 g).1 = S1
    generalize (segR (r.take i) t0 t1 g).2 = S2
    have hf := facA_small (g := g) hpo
    have := hpo.b0; have := hpo.b1; have := hpo.l0; have := hpo.lh; have := hpo.h1
    unfold pan segP
    walk_at "dl"
    unfold fr
    cases g <;> simp only [facA, if_true, Bool.false_eq_true, if_false] at hf ⊢ <;> walk_at "di"
    · refine ⟨by decide, ?_⟩
      by_cases c1 : p.s = 0
      · simp only [if_pos c1, decide_eq_true c1, natP_eq, Int.add_zero]
        exact ⟨_, _, _, _, _, _, _, _, rfl⟩
      · simp only [if_neg c1, decide_eq_false c1, ← le_frac, ← ge_frac]
        refine ⟨mulL (by omega), mulL (by omega), ?_⟩
        by_cases c2 : p.s * t1.num ≤ (p.b - p.hi) * t1.den
        · simp only [if_pos c2, decide_eq_true c2, Int.add_zero]
          walk_at "di"
          exact ⟨_, _, _, _, _, _, _, _, rfl⟩
        · simp only [if_neg c2, decide_eq_false c2]
          refine ⟨mulL (by omega), mulL (by omega), ?_⟩
          by_cases c3 : (p.b - p.lo) * t0.den ≤ p.s * t0.num
          · simp only [if_pos c3, decide_eq_true c3, Int.add_zero]
            walk_at "di"
            exact ⟨_, _, _, _, _, _, _, _, rfl⟩
          · simp only [if_neg c3, decide_eq_false c3]
            exact ⟨_, _, _, _, _, _, _, _, rfl⟩
    · refine ⟨by decide, ?_⟩
      by_cases c1 : p.g = 0
      · simp only [if_pos c1, decide_eq_true c1, natP_eq, Int.add_zero]
        exact ⟨_, _, _, _, _, _, _, _, rfl⟩
      · simp only [if_neg c1, decide_eq_false c1, ← le_frac, ← ge_frac]
        refine ⟨mulL (by omega), mulL (by omega), ?_⟩
        by_cases c2 : p.g * t1.num ≤ (p.lo - p.b) * t1.den
        · simp only [if_pos c2, decide_eq_true c2, Int.add_zero]
          walk_at "di"
          exact ⟨_, _, _, _, _, _, _, _, rfl⟩
        · simp only [if_neg c2, decide_eq_false c2]
          refine ⟨mulL (by omega), mulL (by omega), ?_⟩
          by_cases c3 : (p.hi - p.b) * t0.den ≤ p.g * t0.num
          · simp only [if_pos c3, decide_eq_true c3, Int.add_zero]
            walk_at "di"
            exact ⟨_, _, _, _, _, _, _, _, rfl⟩
          · simp only [if_neg c3, decide_eq_false c3]
            exact ⟨_, _, _, _, _, _, _, _, rfl⟩
  · rintro ρ ⟨a, b, c, d, e, f, u, v, rfl⟩
    walk_at "dl"
    rw [List.length_map, List.take_length]
    exact ⟨by decide, h⟩
end DL

namespace DL
open PySem PySem.Spec PyProof.Rows L2
local macro_rules | `(tactic| walk_at "dl") => `(tactic| try simp only [dSeq, dNext, dSet, dSetV, dRet, dRetN, dExpr, dBreak, dCont, dPar, dPar3, dAsg, dTest_S, dNot, dNotV_S, dOp, dUn, dC, dVar_S, dVarS_v, dVarS_m, dMov_S, dMovS_m, sB_b, muL_l, muT_t, isI_i, vaI_i, dF_v, dF_m, dChain, fAdd_ii, fAdd_ll, fAdd_tt, fI_ii, fI0_ii, fMul_ii, fMul_ti, fNeg_i, fEq_ii, fNe_ii, fIsN_n, fIsN_l, fIsN_t, fIsN_i, fIx_l, fIx_t, dANil, dACons, dAAt_S, agD, dTup, dLst, dCB, fAbs_i, fMax2_ii, fMin2_ii, fLen_l, fLen_t, fList_l, fInt_i, dParX_2, dParX_3, fList_t, fTuple_l, fTuple_t, dSl, dONone, dOSome, fSl_l, fSl_t, dIsi_S, dIsi2_S, isiS_s, dCall, agOne, agAll, agAt, agSl_d, agSl_s, agS_m, dBack_n, dBack_s, seqS_l, seqS_t, nos, List.replicate, List.append, List.map, List.cons_append, List.nil_append, List.getElem?_cons_zero, List.getElem?_cons_succ, List.set_cons_zero, List.set_cons_succ, ioOf, List.length_cons, List.length_nil, dYes, gdName, gdTupN, gdCons, gdNil, frzAt, frz, dBor, dBorB, flatS, flatD, Option.getD_some, wipeD, dAug_S, dApp_S, dIns_S, dSetI_S, dIxM_S, dAugL_S, ixN_30, ixN_31, ixN_32, atI_0, atI_1, atI_2, atI_3, atI_4, true_and, reduceCtorEq, false_implies, implies_true, forall_const, Bool.not_true, Bool.not_false, Nat.reduceAdd, decide_true, decide_false, Int.reduceLT, Int.reduceLE, Int.reduceEq])
local macro_rules | `(tactic| walk_at "dt") => `(tactic| (walk_at "dl"; (try simp only [dAnd, dOr, dAndV_S, dOrV_S]); walk_at "dl"))
local macro_rules | `(tactic| walk_at "di") => `(tactic| (walk_at "dl"; (try simp only [dIf, dIte]); walk_at "dl"))
local macro_rules | `(tactic| walk_at "ds") => `(tactic| (walk_at "di"; walk_at "dt"; walk_at "di"))

/-! ### the time for a width -/
theorem zipD_map {α β : Type} {f : α → D} {g : β → D} : ∀ {l : List α} {m : List β}, zipD (l.map f) (m.map g) = (l.zip m).map fun c => .tuple [f c.1, g c.2]
  | [], _ => rfl
  | _ :: _, [] => rfl
  | x :: l, y :: m => by
    show _ :: zipD (l.map f) (m.map g) = _
    rw [zipD_map]; rfl
theorem find_step {α β : Type} {f : α → Option β} {l : List α} {i : Nat} {c : α} (h : (l.take i).findSome? f = none) (hi : l[i]? = some c) (hc : f c = none) : (l.take (i + 1)).findSome? f = none := by
  rw [List.take_add_one, hi, List.findSome?_append, h]
  simpa using hc
theorem find_hit {α β : Type} {f : α → Option β} {l : List α} {i : Nat} {c : α} {t : β} (h : (l.take i).findSome? f = none) (hi : l[i]? = some c) (hc : f c = some t) : l.findSome? f = some t := by
  have hl := lt_len hi
  have e : l = l.take i ++ c :: l.drop (i + 1) := by
    have h2 : l.drop i = c :: l.drop (i + 1) := by
      rw [List.drop_eq_getElem_cons hl]
      rw [List.getElem?_eq_getElem hl] at hi
      injection hi with hi
      rw [hi]
    rw [← h2, List.take_append_drop]
  rw [e, List.findSome?_append, h, List.findSome?_cons, hc]
  rfl
def gapR (w : Rat) (i : Int) (g : Bool) : Rat := if g then w - (i : Rat) else (i : Rat) - w
def tryT (r : List Pan) (w : Rat) (g : Bool) (c : Rat × Rat) : Option Rat :=
  let s := segR r c.1 c.2 g
  if 0 < s.2 then
    let t := gapR w s.1 g / (s.2 : Rat)
    if t < c.1 ∨ c.2 < t then none else some t
  else none
def timeR (r : List Pan) (w : Rat) (g : Bool) : Option Rat := ((timesR r g).zip (timesR r g).tail).findSome? (tryT r w g)
def optD : Option Rat → D
  | none => .none
  | some t => fr t
theorem seg_small {r : List Pan} (h : RowOk r) (t0 t1 : Rat) (g : Bool) : (segR r t0 t1 g).1.natAbs ≤ 3200 ∧ (segR r t0 t1 g).2.natAbs ≤ 800 ∧ 0 ≤ (segR r t0 t1 g).2 := by
  have key : ∀ l : List Pan, (∀ p ∈ l, PanOk p) → 0 ≤ (segR l t0 t1 g).1 ∧ (segR l t0 t1 g).1 ≤ 400 * l.length ∧ 0 ≤ (segR l t0 t1 g).2 ∧ (segR l t0 t1 g).2 ≤ 100 * l.length := by
    intro l
    induction l with
    | nil => intro _; exact ⟨Int.le_refl _, Int.le_refl _, Int.le_refl _, Int.le_refl _⟩
    | cons p l ih =>
      intro hl
      obtain ⟨h1, h2, h3, h4⟩ := ih fun q hq => hl q (List.mem_cons_of_mem _ hq)
      have hpo := hl p List.mem_cons_self
      have hf := facA_small (g := g) hpo
      have := hpo.b0; have := hpo.b1; have := hpo.l0; have := hpo.lh; have := hpo.h1
      have e1 : (segR (p :: l) t0 t1 g).1 = (segP p t0 t1 g).1 + (segR l t0 t1 g).1 := by simp [segR]
      have e2 : (segR (p :: l) t0 t1 g).2 = (segP p t0 t1 g).2 + (segR l t0 t1 g).2 := by simp [segR]
      have h5 : 0 ≤ (segP p t0 t1 g).1 ∧ (segP p t0 t1 g).1 ≤ 400 ∧ 0 ≤ (segP p t0 t1 g).2 ∧ (segP p t0 t1 g).2 ≤ 100 := by
        unfold segP natP
        generalize facA g p = f at *
        cases g <;> simp only [Bool.false_eq_true, if_false, if_true] <;> (repeat' split) <;> simp only <;> omega
      rw [e1, e2, List.length_cons]
      omega
  obtain ⟨h1, h2, h3, h4⟩ := key r h.all
  have := h.n8
  omega
theorem sz_gap {w : Rat} {n : Nat} (hw : Sz n w) {i : Int} (hi : i.natAbs ≤ 3200) {g : Bool} : Sz (n + 13) (gapR w i g) := by
  have h : Sz 12 (i : Rat) := sz_small hi (by decide) (by decide)
  cases g
  · exact (sz_sub h hw).mono (by omega)
  · exact (sz_sub hw h).mono (by omega)
theorem sz_time {r : List Pan} (h : RowOk r) {w : Rat} {g : Bool} {n : Nat} (hw : Sz n w) {c : Rat × Rat} {t : Rat} (ht : tryT r w g c = some t) : Sz (n + 23) t := by
  obtain ⟨h1, h2, h3⟩ := seg_small h c.1 c.2 g
  unfold tryT at ht
  simp only at ht
  split at ht
  · rename_i hp
    split at ht
    · cases ht
    · injection ht with ht
      subst ht
      have hs : Sz 10 ((segR r c.1 c.2 g).2 : Rat) := sz_small h2 (by decide) (by decide)
      have hne : ((segR r c.1 c.2 g).2 : Rat) ≠ 0 := by
        intro e
        have := Rat.intCast_inj.mp (e.trans Rat.intCast_zero.symm)
        omega
      exact (sz_div (sz_gap hw h1) hs hne).mono (by omega)
  · cases ht
theorem time_sz {r : List Pan} (h : RowOk r) {w : Rat} {g : Bool} {n : Nat} (hw : Sz n w) {t : Rat} (ht : timeR r w g = some t) : Sz (n + 23) t := by
  obtain ⟨c, _, hc⟩ := List.exists_of_findSome?_eq_some ht
  exact sz_time h hw hc
theorem gap_div (q : Rat) {s : Int} (hs : s ≠ 0) : ((q.num : Int) : Rat) / ((q.den * s : Int) : Rat) = q / (s : Rat) := by
  rw [rat_div_eq q (s : Rat), int_num, int_den]
  simp
def sp_time_for : Spec := mkSp (fun x : List Pan × Rat × Bool => [.val (rowD x.1), .val (fr x.2.1), .val (.bool x.2.2)]) fun x Q => (RowOk x.1 ∧ ∃ n, Sz n x.2.1 ∧ n ≤ 900) ∧ Q (.val (optD (timeR x.1 x.2.1 x.2.2))) none
theorem hn_time_for : ∀ ρ Qd, sp_time_for ρ Qd → ρ.length = 3 := hn_mk fun _ => rfl
/- time_for: slots 0=row 1=width 2=growing 3=moments 4=start 5=end 6=fixed 7=slope 8=gap 9=time -/
def w_time_for : DS := (dSeq (dSet 3 (dCall false sp_times_of (dACons (dVar 0) (dACons (dVar 2) dANil)))) (dSeq (dFor (diZipX (dACons (dVar 3) (dACons (dSl (dVar 3) (dOSome (dC (.int 1))) dONone) dANil))) (gdTupN 2 (gdCons (gdName 4) (gdCons (gdName 5) gdNil))) (dSeq (dAsg (dCall false sp_segment (dACons (dVar 0) (dACons (dVar 4) (dACons (dVar 5) (dACons (dVar 2) dANil))))) (gdTupN 2 (gdCons (gdName 6) (gdCons (gdName 7) gdNil)))) (dIf (dTest (dOp fGt (dVar 7) (dC (.int 0)))) (dSeq (dSet 8 (dIte (dTest (dVar 2)) (dCall false sp_minus (dACons (dVar 1) (dACons (dCall false sp_whole (dACons (dVar 6) dANil)) dANil))) (dCall false sp_minus (dACons (dCall false sp_whole (dACons (dVar 6) dANil)) (dACons (dVar 1) dANil))))) (dSeq (dSet 9 (dCall false sp_make (dACons (dOp fIx (dVar 8) (dC (.int 0))) (dACons (dOp fMul (dOp fIx (dVar 8) (dC (.int 1))) (dVar 7)) dANil)))) (dIf (dAnd (dNot (dTest (dCall false sp_less (dACons (dVar 9) (dACons (dVar 4) dANil))))) (dNot (dTest (dCall false sp_less (dACons (dVar 5) (dACons (dVar 9) dANil)))))) (dRet (dVar 9)) dNext))) dNext))) (dRet (dC .none))))
theorem vc_time_for : VC sp_time_for w_time_for 7 := by
  rintro ρ Qd ⟨⟨r, w, g⟩, rfl, ⟨hr, n, hw, hn⟩, h⟩
  simp only at hr hw h
  unfold w_time_for
  walk_at "dl"
  refine ⟨(r, g), rfl, hr, ?_⟩
  simp only [dFor, diZipX]
  walk_at "dl"
  have hts := sz_times hr.all (g := g)
  rw [cut_tail, ← List.map_tail, zipD_map]
  generalize hZ : (timesR r g).zip (timesR r g).tail = Z
  have hT : timeR r w g = Z.findSome? (tryT r w g) := by rw [← hZ]; rfl
  rw [hT] at h
  have hZs : ∀ c ∈ Z, Sz 9 c.1 ∧ Sz 9 c.2 := fun c hc => by
    rw [← hZ] at hc
    have := List.of_mem_zip (a := c.1) (b := c.2) hc
    exact ⟨hts _ this.1, hts _ (List.mem_of_mem_tail this.2)⟩
  refine ⟨fun i ρ => (Z.take i).findSome? (tryT r w g) = none ∧ ∃ a b c d e f, ρ = [.val (rowD r), .val (fr w), .val (.bool g), .val (.list ((timesR r g).map fr)), a, b, c, d, e, f], ⟨rfl, .no, .no, .no, .no, .no, .no, rfl⟩, ?_, ?_⟩
  · rintro i d ρ hi ⟨hno, a, b, c, d', e, f, rfl⟩
    obtain ⟨⟨t0, t1⟩, hk, rfl⟩ := map_at hi
    obtain ⟨hz0, hz1⟩ := hZs _ (List.mem_of_getElem? hk)
    obtain ⟨hs1, hs2, hs3⟩ := seg_small hr t0 t1 g
    simp only at hz0 hz1
    walk_at "dl"
    refine ⟨(r, t0, t1, g), rfl, ⟨hr, hz0.mono (by decide), hz1.mono (by decide)⟩, ?_⟩
    have hstep := fun hc => find_step (c := (t0, t1)) hno hk hc
    have hhit := fun t hc => find_hit (c := (t0, t1)) (t := t) hno hk hc
    have hsz := fun t => sz_time hr hw (c := (t0, t1)) (g := g) (t := t)
    have htry : tryT r w g (t0, t1) = if 0 < (segR r t0 t1 g).2 then (if gapR w (segR r t0 t1 g).1 g / ((segR r t0 t1 g).2 : Rat) < t0 ∨ t1 < gapR w (segR r t0 t1 g).1 g / ((segR r t0 t1 g).2 : Rat) then none else some (gapR w (segR r t0 t1 g).1 g / ((segR r t0 t1 g).2 : Rat))) else none := rfl
    generalize segR r t0 t1 g = S at *
    obtain ⟨S1, S2⟩ := S
    simp only at hs1 hs2 hs3 htry
    walk_at "di"
    by_cases c1 : 0 < S2
    · rw [if_pos c1] at htry
      rw [decide_eq_true c1]
      have hg := sz_gap (g := g) hw hs1
      have gapE : ∀ Q : Sl → En → Prop, Q (.val (fr (gapR w S1 g))) [.val (rowD r), .val (fr w), .val (.bool g), .val (.list ((timesR r g).map fr)), .val (fr t0), .val (fr t1), .val (.int S1), .val (.int S2), e, f] →
          dIte (dTest (dVar 2)) (dCall false sp_minus (dACons (dVar 1) (dACons (dCall false sp_whole (dACons (dVar 6) dANil)) dANil))) (dCall false sp_minus (dACons (dCall false sp_whole (dACons (dVar 6) dANil)) (dACons (dVar 1) dANil))) [.val (rowD r), .val (fr w), .val (.bool g), .val (.list ((timesR r g).map fr)), .val (fr t0), .val (fr t1), .val (.int S1), .val (.int S2), e, f] Q := fun Q hQ => by
        have h12 : Sz 12 (S1 : Rat) := sz_small hs1 (by decide) (by decide)
        walk_at "di"
        cases g
        · exact ⟨S1, rfl, (_, _), rfl, ⟨12, n, h12, hw, by omega⟩, hQ⟩
        · exact ⟨S1, rfl, (_, _), rfl, ⟨n, 12, hw, h12, by omega⟩, hQ⟩
      refine gapE _ ?_
      generalize gapR w S1 g = G at *
      walk_at "dl"
      rw [show fr G = PyData.tuple [.int G.num, .int G.den] from rfl]
      walk_at "dl"
      have hden := G.den_pos
      have hne : ((G.den : Int) * S2) ≠ 0 := Int.mul_ne_zero (Int.ofNat_ne_zero.mpr G.den_nz) (by omega)
      refine ⟨mulR (by omega), (_, _), rfl, ⟨hne, Nat.lt_of_lt_of_le hg.1 (Nat.pow_le_pow_right (by decide) (by omega)), Nat.lt_of_lt_of_le (mul_lt2 (den_abs hg) (Nat.lt_of_le_of_lt hs2 (by decide : 800 < 2 ^ 10))) (Nat.pow_le_pow_right (by decide) (by omega))⟩, ?_⟩
      simp only [gap_div G (by omega : S2 ≠ 0)]
      have hS : ((S2 : Int) : Rat) ≠ 0 := fun e => by
        have := Rat.intCast_inj.mp (e.trans Rat.intCast_zero.symm)
        omega
      have hT : Sz (n + 23) (G / (S2 : Rat)) := (sz_div hg (sz_small (n := 10) hs2 (by decide) (by decide)) hS).mono (by omega)
      generalize G / (S2 : Rat) = T at *
      simp only [dIf]
      walk_at "dt"
      refine ⟨(T, t0), rfl, ⟨hT.mono (by omega), hz0.mono (by decide)⟩, ?_⟩
      by_cases c2 : T < t0
      · rw [decide_eq_true c2]
        rw [if_pos (.inl c2)] at htry
        exact ⟨hstep htry, _, _, _, _, _, _, rfl⟩
      · rw [decide_eq_false c2]
        walk_at "dt"
        refine ⟨(t1, T), rfl, ⟨hz1.mono (by decide), hT.mono (by omega)⟩, ?_⟩
        by_cases c3 : t1 < T
        · rw [decide_eq_true c3]
          rw [if_pos (.inr c3)] at htry
          exact ⟨hstep htry, _, _, _, _, _, _, rfl⟩
        · rw [decide_eq_false c3]
          rw [if_neg (by rintro (h | h); exact c2 h; exact c3 h)] at htry
          rw [hhit _ htry] at h
          exact h
    · rw [decide_eq_false c1]
      rw [if_neg c1] at htry
      exact ⟨hstep htry, _, _, _, _, _, _, rfl⟩
  · rintro ρ ⟨hno, a, b, c, d, e, f, rfl⟩
    rw [List.length_map, List.take_length] at hno
    rw [hno] at h
    exact h
end DL

namespace DL
open PySem PySem.Spec PyProof.Rows L2
local macro_rules | `(tactic| walk_at "dl") => `(tactic| try simp only [dSeq, dNext, dSet, dSetV, dRet, dRetN, dExpr, dBreak, dCont, dPar, dPar3, dAsg, dTest_S, dNot, dNotV_S, dOp, dUn, dC, dVar_S, dVarS_v, dVarS_m, dMov_S, dMovS_m, sB_b, muL_l, muT_t, isI_i, vaI_i, dF_v, dF_m, dChain, fAdd_ii, fAdd_ll, fAdd_tt, fI_ii, fI0_ii, fMul_ii, fMul_ti, fNeg_i, fEq_ii, fNe_ii, fIsN_n, fIsN_l, fIsN_t, fIsN_i, fIx_l, fIx_t, dANil, dACons, dAAt_S, agD, dTup, dLst, dCB, fAbs_i, fMax2_ii, fMin2_ii, fLen_l, fLen_t, fList_l, fInt_i, dParX_2, dParX_3, fList_t, fTuple_l, fTuple_t, dSl, dONone, dOSome, fSl_l, fSl_t, dIsi_S, dIsi2_S, isiS_s, dCall, agOne, agAll, agAt, agSl_d, agSl_s, agS_m, dBack_n, dBack_s, seqS_l, seqS_t, nos, List.replicate, List.append, List.map, List.cons_append, List.nil_append, List.getElem?_cons_zero, List.getElem?_cons_succ, List.set_cons_zero, List.set_cons_succ, ioOf, List.length_cons, List.length_nil, dYes, gdName, gdTupN, gdCons, gdNil, frzAt, frz, dBor, dBorB, flatS, flatD, Option.getD_some, wipeD, dAug_S, dApp_S, dIns_S, dSetI_S, dIxM_S, dAugL_S, ixN_30, ixN_31, ixN_32, atI_0, atI_1, atI_2, atI_3, atI_4, true_and, reduceCtorEq, false_implies, implies_true, forall_const, Bool.not_true, Bool.not_false, Nat.reduceAdd, decide_true, decide_false, Int.reduceLT, Int.reduceLE, Int.reduceEq])
local macro_rules | `(tactic| walk_at "dt") => `(tactic| (walk_at "dl"; (try simp only [dAnd, dOr, dAndV_S, dOrV_S]); walk_at "dl"))
local macro_rules | `(tactic| walk_at "di") => `(tactic| (walk_at "dl"; (try simp only [dIf, dIte]); walk_at "dl"))
local macro_rules | `(tactic| walk_at "ds") => `(tactic| (walk_at "di"; walk_at "dt"; walk_at "di"))

/-! ### divisions -/
def baseR (r : List Pan) : Rat := ((r.map natP).sum : Int)
def growR (r : List Pan) (w : Rat) : Bool := !decide (w < baseR r)
def atR (r : List Pan) (w : Rat) : Option Rat := if w = baseR r then some 0 else timeR r w (growR r w)
def divR (r : List Pan) (w : Rat) : Option (List Rat) := (atR r w).map fun t => sizesT r (growR r w) t
def optS : Option (List Rat) → Sl
  | none => .val .none
  | some xs => .mu true (.lst (xs.map fr))
theorem nat_small {r : List Pan} (h : RowOk r) : 0 ≤ (r.map natP).sum ∧ (r.map natP).sum ≤ 3200 := by
  have key : ∀ l : List Pan, (∀ p ∈ l, PanOk p) → 0 ≤ (l.map natP).sum ∧ (l.map natP).sum ≤ 400 * l.length := by
    intro l
    induction l with
    | nil => intro _; exact ⟨Int.le_refl _, Int.le_refl _⟩
    | cons p l ih =>
      intro hl
      obtain ⟨h1, h2⟩ := ih fun q hq => hl q (List.mem_cons_of_mem _ hq)
      have hpo := hl p List.mem_cons_self
      have := hpo.b0; have := hpo.b1; have := hpo.l0; have := hpo.lh; have := hpo.h1
      rw [List.map_cons, List.sum_cons, List.length_cons]
      have h5 : 0 ≤ natP p ∧ natP p ≤ 400 := by unfold natP; omega
      omega
  obtain ⟨h1, h2⟩ := key r h.all
  have := h.n8
  omega
theorem sz_base {r : List Pan} (h : RowOk r) : Sz 12 (baseR r) := by
  have := nat_small h
  exact sz_small (m := 3200) (by omega) (by decide) (by decide)
theorem at_sz {r : List Pan} (h : RowOk r) {w : Rat} {n : Nat} (hw : Sz n w) {t : Rat} (ht : atR r w = some t) : Sz (n + 23) t := by
  unfold atR at ht
  split at ht
  · injection ht with ht
    rw [← ht]
    exact ⟨Nat.lt_of_lt_of_le (by decide : (0 : Rat).num.natAbs < 2 ^ 23) (Nat.pow_le_pow_right (by decide) (by omega)), Nat.lt_of_lt_of_le (by decide : (0 : Rat).den < 2 ^ 23) (Nat.pow_le_pow_right (by decide) (by omega))⟩
  · exact time_sz h hw ht
theorem div_sz {r : List Pan} (h : RowOk r) {w : Rat} {n : Nat} (hw : Sz n w) {xs : List Rat} (hx : divR r w = some xs) : xs.length = r.length ∧ ∀ q ∈ xs, Sz (n + 40) q := by
  unfold divR at hx
  obtain ⟨t, ht, rfl⟩ := Option.map_eq_some_iff.mp hx
  exact ⟨List.length_map _, fun q hq => (sz_sizes h.all (at_sz h hw ht) q hq).mono (by omega)⟩
def sp_divide : Spec := mkSp (fun x : List Pan × Rat => [.val (rowD x.1), .val (fr x.2)]) fun x Q => (RowOk x.1 ∧ ∃ n, Sz n x.2 ∧ n ≤ 900) ∧ Q (optS (divR x.1 x.2)) none
theorem hn_divide : ∀ ρ Qd, sp_divide ρ Qd → ρ.length = 2 := hn_mk fun _ => rfl
def sp_sizes : Spec := mkSp (fun x : List Pan × Int => [.val (rowD x.1), .val (.int x.2)]) fun x Q => (RowOk x.1 ∧ 0 ≤ x.2 ∧ x.2 ≤ 3200) ∧ Q (optS (divR x.1 (x.2 : Rat))) none
theorem hn_sizes : ∀ ρ Qd, sp_sizes ρ Qd → ρ.length = 2 := hn_mk fun _ => rfl
/- divide: slots 0=row 1=width 2=base 3=growing 4=time 5=panel -/
def w_divide : DS := (dSeq (dSet 2 (dCall false sp_whole (dACons (dCB fSum (dACons (dCall false sp_natural_of (dACons (dVar 0) dANil)) dANil)) dANil))) (dSeq (dSet 3 (dNotV (dCall false sp_less (dACons (dVar 1) (dACons (dVar 2) dANil))))) (dSeq (dSet 4 (dIte (dTest (dOp fEq (dVar 1) (dVar 2))) (dTup (dACons (dC (.int 0)) (dACons (dC (.int 1)) dANil))) (dCall false sp_time_for (dACons (dVar 0) (dACons (dVar 1) (dACons (dVar 3) dANil)))))) (dRet (dIte (dTest (dOp (fIsN false) (dVar 4) (dC .none))) (dC .none) (dLc (diSeq (dVar 0)) (gdName 5) dYes (dCall false sp_size_at (dACons (dVar 5) (dACons (dVar 4) (dACons (dVar 3) dANil)))) [5]))))))
/- sizes: slots 0=row 1=width -/
def w_sizes : DS := (dSeq (dExpr (dCall false sp_check_row (dACons (dVar 0) dANil))) (dSeq (dExpr (dCall false sp_check_width (dACons (dVar 1) dANil))) (dRet (dCall false sp_divide (dACons (dVar 0) (dACons (dCall false sp_whole (dACons (dVar 1) dANil)) dANil))))))
theorem vc_divide : VC sp_divide w_divide 4 := by
  rintro ρ Qd ⟨⟨r, w⟩, rfl, ⟨hr, n, hw, hn⟩, h⟩
  simp only at hr hw h
  have h8 := hr.n8
  unfold w_divide
  walk_at "dl"
  refine ⟨r, rfl, by omega, ?_⟩
  walk_at "dl"
  refine fSum_l ?_
  walk_at "dl"
  refine ⟨_, rfl, ?_⟩
  have hb := sz_base hr
  have he : ((r.map natP).sum : Rat) = baseR r := rfl
  walk_at "dl"
  rw [he]
  refine ⟨(w, baseR r), rfl, ⟨hw.mono (by omega), hb.mono (by decide)⟩, ?_⟩
  walk_at "di"
  refine fEq_fr ?_
  have hat := fun t => at_sz hr hw (t := t)
  unfold divR atR at h
  unfold atR at hat
  have hg : (!decide (w < baseR r)) = growR r w := rfl
  rw [hg]
  generalize growR r w = g at *
  have body : ∀ t : Rat, Sz (n + 23) t → Qd (.mu true (.lst ((sizesT r g t).map fr))) none → dIte (dTest (dOp (fIsN false) (dVar 4) (dC PyData.none))) (dC PyData.none)
      (dLc (diSeq (dVar 0)) (gdName 5) dYes (dCall false sp_size_at (dACons (dVar 5) (dACons (dVar 4) (dACons (dVar 3) dANil)))) [5])
      [.val (rowD r), .val (fr w), .val (fr (baseR r)), .val (.bool g), .val (fr t), .no] (fun r _ => Qd r none) := fun t ht hq => by
    walk_at "di"
    rw [show fr t = PyData.tuple [.int t.num, .int t.den] from rfl, fIsN_t]
    walk_at "di"
    rw [show PyData.tuple [.int t.num, .int t.den] = fr t from rfl]
    simp only [dLc, diSeq]
    unfold rowD
    walk_at "dl"
    refine ⟨mapP r (fun p => fr (sizeT p g t)) [.val (rowD r), .val (fr w), .val (fr (baseR r)), .val (.bool g), .val (fr t), .no], mapP_0, ?_, ?_⟩
    · rintro i acc d ρ hi q
      obtain ⟨p, hp, rfl⟩ := map_at hi
      have q2 := q.2
      subst q2
      walk_at "dl"
      exact ⟨(p, t, g), rfl, ⟨hr.all p (List.mem_of_getElem? hp), n + 23, ht, by omega⟩, mapP_yes (by unfold lim; omega) hp q rfl rfl⟩
    · rintro acc ρ q
      obtain ⟨rfl, rfl⟩ := mapP_end q (List.length_map _)
      unfold sizesT at hq
      rw [List.map_map] at hq
      exact hq
  by_cases c : w = baseR r
  · rw [if_pos c] at h hat
    rw [decide_eq_true c]
    walk_at "di"
    rw [fr_zero]
    exact ⟨by decide, body 0 (hat 0 rfl) h⟩
  · rw [if_neg c] at h hat
    rw [decide_eq_false c]
    walk_at "di"
    refine ⟨(r, w, g), rfl, ⟨hr, n, hw, hn⟩, ?_⟩
    simp only
    cases e : timeR r w g with
    | none =>
      rw [e] at h
      simp only [optD]
      walk_at "di"
      exact h
    | some t =>
      rw [e] at h
      have := body t (hat t e) h
      exact this
theorem vc_sizes : VC sp_sizes w_sizes 0 := by
  rintro ρ Qd ⟨⟨r, w⟩, rfl, ⟨hr, h0, h1⟩, h⟩
  unfold w_sizes
  walk_at "dl"
  exact ⟨_, rfl, ⟨row_lay r, isRowD_row hr⟩, w, rfl, ⟨h0, h1⟩, w, rfl, (r, (w : Rat)), rfl, ⟨hr, 12, sz_small (m := 3200) (by simp only at h0 h1; omega) (by decide) (by decide), by decide⟩, h⟩
end DL

namespace DL
open PySem PySem.Spec PyProof.Rows L2
/-! ### plain law: sizes along the line of times -/
theorem rat_int_le {a b : Int} : (a : Rat) ≤ (b : Rat) ↔ a ≤ b := Rat.intCast_le_intCast
theorem rat_int_lt {a b : Int} : (a : Rat) < (b : Rat) ↔ a < b := Rat.intCast_lt_intCast
theorem rat_int_nonneg {a : Int} (h : 0 ≤ a) : (0 : Rat) ≤ (a : Rat) := by
  have := rat_int_le.mpr h
  simpa using this
theorem rat_int_pos {a : Int} (h : 0 < a) : (0 : Rat) < (a : Rat) := by
  have := rat_int_lt.mpr h
  simpa using this
theorem clamp_mono {lo hi v w : Rat} (h : lo ≤ hi) (hv : v ≤ w) : clampR lo v hi ≤ clampR lo w hi := by
  unfold clampR
  split <;> split <;> (repeat' split) <;> grind
theorem clamp_lo {lo hi v : Rat} (h : lo ≤ hi) (hv : v ≤ lo) : clampR lo v hi = lo := by
  unfold clampR
  split
  · rfl
  · split <;> grind
theorem clamp_hi {lo hi v : Rat} (h : lo ≤ hi) (hv : hi ≤ v) : clampR lo v hi = hi := by
  unfold clampR
  split
  · grind
  · split <;> grind
theorem clamp_in {lo hi v : Rat} (h1 : lo ≤ v) (h2 : v ≤ hi) : clampR lo v hi = v := by
  unfold clampR
  split
  · grind
  · split <;> grind
theorem clamp_ge {lo hi v : Rat} (h : lo ≤ hi) : lo ≤ clampR lo v hi := by
  unfold clampR
  split
  · grind
  · split <;> grind
theorem clamp_le {lo hi v : Rat} (h : lo ≤ hi) : clampR lo v hi ≤ hi := by
  unfold clampR
  split
  · grind
  · split <;> grind
theorem clamp_nat {p : Pan} (h : p.lo ≤ p.hi) : clampR (p.lo : Rat) (p.b : Rat) (p.hi : Rat) = (natP p : Rat) := by
  unfold clampR natP
  simp only [rat_int_lt]
  split
  · congr 1
    omega
  · split
    · congr 1; omega
    · congr 1; omega
theorem fac_nonneg {p : Pan} (h : PanOk p) (g : Bool) : (0 : Rat) ≤ (facA g p : Rat) := rat_int_nonneg (facA_small h).1
theorem lo_hi {p : Pan} (h : PanOk p) : (p.lo : Rat) ≤ (p.hi : Rat) := rat_int_le.mpr h.lh
/-- growing: larger times, larger sizes -/
theorem size_up {p : Pan} (h : PanOk p) {t u : Rat} (htu : t ≤ u) : sizeT p true t ≤ sizeT p true u := by
  refine clamp_mono (lo_hi h) ?_
  have := Rat.mul_le_mul_of_nonneg_left htu (fac_nonneg h true)
  simp only [facP, if_true]
  simp only [facA, if_true] at this
  grind
theorem size_down {p : Pan} (h : PanOk p) {t u : Rat} (htu : t ≤ u) : sizeT p false u ≤ sizeT p false t := by
  refine clamp_mono (lo_hi h) ?_
  have := Rat.mul_le_mul_of_nonneg_left htu (fac_nonneg h false)
  simp only [facP, Bool.false_eq_true, if_false, Rat.intCast_neg]
  simp only [facA, Bool.false_eq_true, if_false] at this
  grind
theorem size_zero (p : Pan) (g : Bool) : sizeT p g 0 = clampR (p.lo : Rat) (p.b : Rat) (p.hi : Rat) := by
  unfold sizeT
  rw [Rat.mul_zero, Rat.add_zero]
theorem size_zero_nat {p : Pan} (h : PanOk p) (g : Bool) : sizeT p g 0 = (natP p : Rat) := by rw [size_zero, clamp_nat h.lh]
/-! ### consecutive items -/
def Cons {α : Type} (l : List α) (a b : α) : Prop := ∃ l1 l2, l = l1 ++ a :: b :: l2
theorem cons_zip {α : Type} : ∀ {l : List α} {a b : α}, (a, b) ∈ l.zip l.tail ↔ Cons l a b
  | [], a, b => ⟨fun h => (nomatch h), fun ⟨l1, l2, h⟩ => by simp at h⟩
  | [x], a, b => by
    refine ⟨fun h => (nomatch h), fun ⟨l1, l2, h⟩ => ?_⟩
    have := congrArg List.length h
    simp at this
    omega
  | x :: y :: l, a, b => by
    have ih := cons_zip (l := y :: l) (a := a) (b := b)
    rw [List.tail_cons, List.zip_cons_cons, List.mem_cons]
    constructor
    · rintro (h | h)
      · injection h with h1 h2
        subst h1 h2
        exact ⟨[], l, rfl⟩
      · obtain ⟨l1, l2, e⟩ := ih.mp h
        exact ⟨x :: l1, l2, by rw [e]; rfl⟩
    · rintro ⟨l1, l2, e⟩
      cases l1 with
      | nil =>
        injection e with e1 e
        injection e with e2 e
        exact .inl (by rw [e1, e2])
      | cons z l1 =>
        injection e with e1 e
        exact .inr (ih.mpr ⟨l1, l2, e⟩)
theorem cons_lt {l : List Rat} (h : l.Pairwise (· < ·)) {a b : Rat} (c : Cons l a b) : a < b := by
  obtain ⟨l1, l2, rfl⟩ := c
  have h2 := (List.pairwise_append.mp h).2.1
  exact (List.pairwise_cons.mp h2).1 b List.mem_cons_self
/-- nothing lies between consecutive items of an ascending list -/
theorem cons_gap {l : List Rat} (h : l.Pairwise (· < ·)) {a b x : Rat} (c : Cons l a b) (hx : x ∈ l) : x ≤ a ∨ b ≤ x := by
  obtain ⟨l1, l2, rfl⟩ := c
  obtain ⟨h1, h2, h3⟩ := List.pairwise_append.mp h
  rcases List.mem_append.mp hx with hx | hx
  · have := h3 x hx a List.mem_cons_self
    exact .inl (by grind)
  · rcases List.mem_cons.mp hx with rfl | hx
    · exact .inl (by grind)
    · rcases List.mem_cons.mp hx with rfl | hx
      · exact .inr (by grind)
      · have := (List.pairwise_cons.mp (List.pairwise_cons.mp h2).2).1 x hx
        exact .inr (by grind)
theorem cons_mem {α : Type} {l : List α} {a b : α} (c : Cons l a b) : a ∈ l ∧ b ∈ l := by
  obtain ⟨l1, l2, rfl⟩ := c
  simp
/-! ### the moments of one side -/
theorem mom_nonneg {r : List Pan} (h : ∀ p ∈ r, PanOk p) (g : Bool) : ∀ q ∈ momR r g, 0 ≤ q := by
  intro q hq
  rcases List.mem_cons.mp hq with rfl | hq
  · exact Rat.le_refl
  · obtain ⟨p, hp, hq⟩ := List.mem_flatMap.mp hq
    unfold endsR at hq
    split at hq
    · rename_i hf
      obtain ⟨e, he, rfl⟩ := List.mem_map.mp hq
      have he2 := of_decide_eq_true (List.mem_filter.mp he).2
      rw [Rat.div_def]
      exact Rat.mul_nonneg (rat_int_nonneg (by omega)) (Rat.le_of_lt (Rat.inv_pos.mpr (rat_int_pos hf)))
    · cases hq
theorem times_nonneg {r : List Pan} (h : ∀ p ∈ r, PanOk p) (g : Bool) : ∀ q ∈ timesR r g, 0 ≤ q := fun q hq => mom_nonneg h g q (ord_mem.mp hq)
theorem times_zero (r : List Pan) (g : Bool) : (0 : Rat) ∈ timesR r g := ord_mem.mpr List.mem_cons_self
theorem times_sorted (r : List Pan) (g : Bool) : (timesR r g).Pairwise (· < ·) := ord_sorted _
theorem times_ends {r : List Pan} {g : Bool} {p : Pan} (hp : p ∈ r) (hf : 0 < facA g p) {e : Int} (he : e ∈ endsI g p) (h0 : 0 < e) : (e : Rat) / (facA g p : Rat) ∈ timesR r g := by
  refine ord_mem.mpr (List.mem_cons_of_mem _ (List.mem_flatMap.mpr ⟨p, hp, ?_⟩))
  unfold endsR
  rw [if_pos hf]
  exact List.mem_map.mpr ⟨e, List.mem_filter.mpr ⟨he, decide_eq_true h0⟩, rfl⟩
/-- the times start with 0 -/
theorem times_head {r : List Pan} (h : ∀ p ∈ r, PanOk p) (g : Bool) : ∃ l, timesR r g = 0 :: l := by
  have h0 := times_zero r g
  have hs := times_sorted r g
  have hn := times_nonneg h g
  cases e : timesR r g with
  | nil => rw [e] at h0; cases h0
  | cons x l =>
    rw [e] at h0 hs hn
    rcases List.mem_cons.mp h0 with rfl | h0
    · exact ⟨l, rfl⟩
    · have h1 := (List.pairwise_cons.mp hs).1 0 h0
      have h2 := hn x List.mem_cons_self
      grind
/-- between neighbours no panel turns -/
theorem no_turn {r : List Pan} {g : Bool} {p : Pan} (hp : p ∈ r) {a b : Rat} (c : Cons (timesR r g) a b) (ha : 0 ≤ a) (hf : 0 < facA g p) {e : Int} (he : e ∈ endsI g p) : (e : Rat) ≤ (facA g p : Rat) * a ∨ (facA g p : Rat) * b ≤ (e : Rat) := by
  have hf2 := rat_int_pos hf
  have hfa := Rat.mul_nonneg (Rat.le_of_lt hf2) ha
  by_cases h0 : 0 < e
  · have hm := times_ends hp hf he h0
    have hx : (facA g p : Rat) * ((e : Rat) / (facA g p : Rat)) = (e : Rat) := by
      rw [Rat.mul_comm]
      exact Rat.div_mul_cancel (by grind)
    rcases cons_gap (times_sorted r g) c hm with h | h
    · have := Rat.mul_le_mul_of_nonneg_left h (Rat.le_of_lt hf2)
      rw [hx] at this
      exact .inl this
    · have := Rat.mul_le_mul_of_nonneg_left h (Rat.le_of_lt hf2)
      rw [hx] at this
      exact .inr this
  · have : (e : Rat) ≤ 0 := by
      have := rat_int_le.mpr (by omega : e ≤ 0)
      simpa using this
    exact .inl (by grind)
/-- on such a part each size is a line -/
theorem seg_line {r : List Pan} {g : Bool} {p : Pan} (hp : p ∈ r) (ho : PanOk p) {a b t : Rat} (c : Cons (timesR r g) a b) (h0 : 0 ≤ a) (ha : a ≤ t) (hb : t ≤ b) :
    sizeT p g t = ((segP p a b g).1 : Rat) + (if g then 1 else -1) * ((segP p a b g).2 : Rat) * t := by
  have hf := fac_nonneg ho g
  have hfi := (facA_small (g := g) ho).1
  have hl := lo_hi ho
  have k1 := Rat.mul_le_mul_of_nonneg_left ha hf
  have k2 := Rat.mul_le_mul_of_nonneg_left hb hf
  have nt := fun hf e he => no_turn (e := e) hp c h0 hf he
  unfold segP
  cases g <;> simp only [facA, endsI, if_true, Bool.false_eq_true, if_false, List.mem_cons, List.mem_nil_iff, or_false] at *
  · split
    · rename_i h
      rw [sizeT, facP, if_neg Bool.false_ne_true, h]
      have := clamp_nat ho.lh
      simp
      grind
    · rename_i hne
      have hlt : 0 < p.s := by omega
      have n1 := nt hlt _ (.inl rfl)
      have n2 := nt hlt _ (.inr rfl)
      unfold sizeT facP
      simp only [Bool.false_eq_true, if_false, Rat.intCast_neg, Rat.intCast_sub] at *
      split
      · rw [clamp_hi hl (by grind)]; simp; try grind
      · split
        · rw [clamp_lo hl (by grind)]; simp; try grind
        · rw [clamp_in (by grind) (by grind)]; simp; try grind
  · split
    · rename_i h
      rw [sizeT, facP, if_pos rfl, h]
      have := clamp_nat ho.lh
      simp
      grind
    · rename_i hne
      have hlt : 0 < p.g := by omega
      have n1 := nt hlt _ (.inl rfl)
      have n2 := nt hlt _ (.inr rfl)
      unfold sizeT facP
      simp only [if_true, Rat.intCast_sub] at *
      split
      · rw [clamp_lo hl (by grind)]; simp; try grind
      · split
        · rw [clamp_hi hl (by grind)]; simp; try grind
        · rw [clamp_in (by grind) (by grind)]; simp; try grind
/-! ### sums -/
theorem sumR_map_le {α : Type} {f g : α → Rat} : ∀ {l : List α}, (∀ x ∈ l, f x ≤ g x) → sumR (l.map f) ≤ sumR (l.map g)
  | [], _ => Rat.le_refl
  | x :: l, h => by
    have h1 := h x List.mem_cons_self
    have h2 := sumR_map_le (l := l) fun y hy => h y (List.mem_cons_of_mem _ hy)
    simp only [List.map_cons, sumR]
    grind
/-- sums that agree, of items that never fall: the items agree -/
theorem sumR_map_eq {α : Type} {f g : α → Rat} : ∀ {l : List α}, (∀ x ∈ l, f x ≤ g x) → sumR (l.map f) = sumR (l.map g) → ∀ x ∈ l, f x = g x
  | [], _, _ => fun _ h => (nomatch h)
  | x :: l, h, e => by
    have h1 := h x List.mem_cons_self
    have h2 := sumR_map_le (l := l) fun y hy => h y (List.mem_cons_of_mem _ hy)
    simp only [List.map_cons, sumR] at e
    intro y hy
    rcases List.mem_cons.mp hy with rfl | hy
    · grind
    · exact sumR_map_eq (l := l) (fun y hy => h y (List.mem_cons_of_mem _ hy)) (by grind) y hy
theorem sumR_int {α : Type} (f : α → Int) : ∀ l : List α, sumR (l.map fun x => (f x : Rat)) = ((l.map f).sum : Int)
  | [] => by simp [sumR]
  | x :: l => by
    rw [List.map_cons, List.map_cons, sumR, sumR_int f l, List.sum_cons, Rat.intCast_add]
theorem sumR_lin {α : Type} (c d : α → Int) (k : Rat) : ∀ l : List α, sumR (l.map fun x => (c x : Rat) + (d x : Rat) * k) = ((l.map c).sum : Int) + ((l.map d).sum : Int) * k
  | [] => by simp [sumR]; grind
  | x :: l => by
    rw [List.map_cons, sumR, sumR_lin c d k l, List.map_cons, List.map_cons, List.sum_cons, List.sum_cons, Rat.intCast_add, Rat.intCast_add]
    grind
theorem sizes_congr {r : List Pan} {f : Pan → Rat} {g : Bool} {t : Rat} (h : ∀ p ∈ r, sizeT p g t = f p) : sizesT r g t = r.map f := List.map_congr_left h
def sgn (g : Bool) : Rat := if g then 1 else -1
theorem sum_seg {r : List Pan} (h : ∀ p ∈ r, PanOk p) {g : Bool} {a b t : Rat} (c : Cons (timesR r g) a b) (ha : a ≤ t) (hb : t ≤ b) :
    sumR (sizesT r g t) = ((segR r a b g).1 : Rat) + ((segR r a b g).2 : Rat) * (sgn g * t) := by
  have h0 := times_nonneg h g a (cons_mem c).1
  have e : sizesT r g t = r.map fun p => ((segP p a b g).1 : Rat) + ((segP p a b g).2 : Rat) * (sgn g * t) := sizes_congr fun p hp => by
    rw [seg_line hp (h p hp) c h0 ha hb]
    unfold sgn
    grind
  rw [e]
  exact sumR_lin (fun p => (segP p a b g).1) (fun p => (segP p a b g).2) _ r
theorem sum_up {r : List Pan} (h : ∀ p ∈ r, PanOk p) {t u : Rat} (htu : t ≤ u) : sumR (sizesT r true t) ≤ sumR (sizesT r true u) := sumR_map_le fun p hp => size_up (h p hp) htu
theorem sum_down {r : List Pan} (h : ∀ p ∈ r, PanOk p) {t u : Rat} (htu : t ≤ u) : sumR (sizesT r false u) ≤ sumR (sizesT r false t) := sumR_map_le fun p hp => size_down (h p hp) htu
theorem sum_zero {r : List Pan} (h : ∀ p ∈ r, PanOk p) (g : Bool) : sumR (sizesT r g 0) = baseR r := by
  rw [sizes_congr (f := fun p => (natP p : Rat)) fun p hp => size_zero_nat (h p hp) g]
  exact sumR_int natP r
/-- the last size of a panel on this side -/
def endP (g : Bool) (p : Pan) : Int := if 0 < facA g p then (if g then p.hi else p.lo) else natP p
def endR (r : List Pan) (g : Bool) : Int := (r.map (endP g)).sum
theorem size_end {r : List Pan} {g : Bool} {p : Pan} (hp : p ∈ r) (ho : PanOk p) {t : Rat} (ht : ∀ q ∈ timesR r g, q ≤ t) : sizeT p g t = (endP g p : Rat) := by
  have h0 := ht 0 (times_zero r g)
  have hl := lo_hi ho
  have hf := fac_nonneg ho g
  unfold endP
  split
  · rename_i h
    have hf2 := rat_int_pos h
    have key : ∀ e ∈ endsI g p, (e : Rat) ≤ (facA g p : Rat) * t := fun e he => by
      by_cases h1 : 0 < e
      · have hm := ht _ (times_ends hp h he h1)
        have hx : (facA g p : Rat) * ((e : Rat) / (facA g p : Rat)) = (e : Rat) := by
          rw [Rat.mul_comm]
          exact Rat.div_mul_cancel (by grind)
        have := Rat.mul_le_mul_of_nonneg_left hm hf
        rw [hx] at this
        exact this
      · have : (e : Rat) ≤ 0 := by
          have := rat_int_le.mpr (by omega : e ≤ 0)
          simpa using this
        have := Rat.mul_nonneg hf h0
        grind
    unfold sizeT facP
    cases g <;> simp only [facA, endsI, if_true, Bool.false_eq_true, if_false, List.mem_cons, List.mem_nil_iff, or_false, Rat.intCast_neg] at *
    · have k1 := key _ (.inl rfl)
      have k2 := key _ (.inr rfl)
      simp only [Rat.intCast_sub] at k1 k2
      exact clamp_lo hl (by grind)
    · have k1 := key _ (.inl rfl)
      have k2 := key _ (.inr rfl)
      simp only [Rat.intCast_sub] at k1 k2
      exact clamp_hi hl (by grind)
  · rename_i h
    have hz : facA g p = 0 := by
      have := (facA_small (g := g) ho).1
      omega
    have hz2 : (facP g p : Rat) = 0 := by
      cases g <;> simp only [facA, facP, if_true, Bool.false_eq_true, if_false] at hz ⊢ <;> simp [hz]
    rw [sizeT, hz2, Rat.zero_mul, Rat.add_zero]
    exact clamp_nat ho.lh
theorem sum_end {r : List Pan} (h : ∀ p ∈ r, PanOk p) {g : Bool} {t : Rat} (ht : ∀ q ∈ timesR r g, q ≤ t) : sumR (sizesT r g t) = (endR r g : Rat) := by
  rw [sizes_congr (f := fun p => (endP g p : Rat)) fun p hp => size_end hp (h p hp) ht]
  exact sumR_int (endP g) r
theorem sorted_last {l : List Rat} (h : l.Pairwise (· < ·)) (hl : l ≠ []) : ∀ q ∈ l, q ≤ l.getLast hl := by
  intro q hq
  have e := List.dropLast_concat_getLast hl
  rw [← e] at hq h
  rcases List.mem_append.mp hq with hq | hq
  · exact Rat.le_of_lt ((List.pairwise_append.mp h).2.2 q hq _ (List.mem_singleton.mpr rfl))
  · rw [List.mem_singleton.mp hq]; exact Rat.le_refl
end DL

namespace DL
open PySem PySem.Spec PyProof.Rows L2
/-! ### plain law: the division of a width -/
def Dv (r : List Pan) (w : Rat) (xs : List Rat) : Prop := ∃ g t, 0 ≤ t ∧ xs = sizesT r g t ∧ sumR xs = w
theorem try_some {r : List Pan} (h : ∀ p ∈ r, PanOk p) {w : Rat} {g : Bool} {c : Rat × Rat} (hc : Cons (timesR r g) c.1 c.2) {t : Rat} (ht : tryT r w g c = some t) : c.1 ≤ t ∧ t ≤ c.2 ∧ sumR (sizesT r g t) = w := by
  unfold tryT at ht
  simp only at ht
  split at ht
  · rename_i hs
    split at ht
    · cases ht
    · rename_i hn
      injection ht with ht
      have h1 : c.1 ≤ t := by grind
      have h2 : t ≤ c.2 := by grind
      refine ⟨h1, h2, ?_⟩
      rw [sum_seg h hc h1 h2]
      have hs2 := rat_int_pos hs
      have e : t * ((segR r c.1 c.2 g).2 : Rat) = gapR w (segR r c.1 c.2 g).1 g := by
        rw [← ht]
        exact Rat.div_mul_cancel (by grind)
      unfold gapR at e
      unfold sgn
      cases g <;> simp only [if_true, Bool.false_eq_true, if_false] at e ⊢ <;> grind
  · cases ht
/-- a walk that starts below w and ends at or above it passes w between neighbours -/
theorem crossing (f : Rat → Rat) (w : Rat) : ∀ (l : List Rat) (a : Rat), f a < w → w ≤ f ((a :: l).getLast (List.cons_ne_nil _ _)) → ∃ c d, Cons (a :: l) c d ∧ f c < w ∧ w ≤ f d
  | [], a, h1, h2 => by
    simp at h2
    grind
  | b :: l, a, h1, h2 => by
    by_cases hb : f b < w
    · obtain ⟨c, d, ⟨l1, l2, e⟩, h3, h4⟩ := crossing f w l b hb (by rwa [List.getLast_cons (List.cons_ne_nil _ _)] at h2)
      exact ⟨c, d, ⟨a :: l1, l2, by rw [e]; rfl⟩, h3, h4⟩
    · exact ⟨a, b, ⟨[], l, rfl⟩, h1, by grind⟩
theorem try_hit {r : List Pan} (h : ∀ p ∈ r, PanOk p) {w : Rat} {g : Bool} {c d : Rat} (hc : Cons (timesR r g) c d) (h1 : sgn g * sumR (sizesT r g c) < sgn g * w) (h2 : sgn g * w ≤ sgn g * sumR (sizesT r g d)) : tryT r w g (c, d) ≠ none := by
  have hcd := cons_lt (times_sorted r g) hc
  rw [sum_seg h hc Rat.le_refl (Rat.le_of_lt hcd)] at h1
  rw [sum_seg h hc (Rat.le_of_lt hcd) Rat.le_refl] at h2
  unfold tryT
  generalize segR r c d g = s at *
  obtain ⟨a, b⟩ := s
  simp only at *
  have hb : 0 < b := by
    rcases Int.lt_or_le 0 b with z | z
    · exact z
    · have hz : (b : Rat) ≤ 0 := by
        have := rat_int_le.mpr z
        simpa using this
      have := Rat.mul_le_mul_of_nonneg_left (Rat.le_of_lt hcd) (by grind : (0 : Rat) ≤ -(b : Rat))
      unfold sgn at h1 h2
      cases g <;> simp only [if_true, Bool.false_eq_true, if_false] at h1 h2 <;> grind
  rw [if_pos hb]
  have hb2 := rat_int_pos hb
  have e : gapR w a g / (b : Rat) * (b : Rat) = gapR w a g := Rat.div_mul_cancel (by grind)
  generalize gapR w a g / (b : Rat) = t at *
  have k1 : ¬ t < c := fun z => by
    have := Rat.mul_lt_mul_of_pos_left z hb2
    unfold gapR at e
    unfold sgn at h1
    cases g <;> simp only [if_true, Bool.false_eq_true, if_false] at h1 e <;> grind
  have k2 : ¬ d < t := fun z => by
    have := Rat.mul_lt_mul_of_pos_left z hb2
    unfold gapR at e
    unfold sgn at h2
    cases g <;> simp only [if_true, Bool.false_eq_true, if_false] at h2 e <;> grind
  rw [if_neg (by grind)]
  exact Option.some_ne_none _
theorem time_some {r : List Pan} (h : ∀ p ∈ r, PanOk p) {w : Rat} {g : Bool} {t : Rat} (ht : timeR r w g = some t) : 0 ≤ t ∧ sumR (sizesT r g t) = w := by
  obtain ⟨c, hc, hs⟩ := List.exists_of_findSome?_eq_some ht
  have hk : Cons (timesR r g) c.1 c.2 := cons_zip.mp hc
  obtain ⟨h1, _, h3⟩ := try_some h hk hs
  have := times_nonneg h g _ (cons_mem hk).1
  exact ⟨by grind, h3⟩
theorem times_ne (r : List Pan) (g : Bool) : timesR r g ≠ [] := fun e => by
  have := times_zero r g
  rw [e] at this
  cases this
theorem time_hit {r : List Pan} (h : ∀ p ∈ r, PanOk p) {w : Rat} {g : Bool} (h1 : sgn g * baseR r < sgn g * w) (h2 : sgn g * w ≤ sgn g * (endR r g : Rat)) : timeR r w g ≠ none := by
  obtain ⟨l, hl⟩ := times_head h g
  have e1 := sum_zero h g
  have e2 := sum_end h (sorted_last (times_sorted r g) (times_ne r g))
  have key := crossing (fun t => sgn g * sumR (sizesT r g t)) (sgn g * w) l 0 (by simp only [e1]; exact h1) (by
    have e3 : (0 :: l).getLast (List.cons_ne_nil _ _) = (timesR r g).getLast (times_ne r g) := by congr 1; exact hl.symm
    rw [e3, e2]; exact h2)
  obtain ⟨c, d, hc, h3, h4⟩ := key
  rw [← hl] at hc
  intro e
  have := List.findSome?_eq_none_iff.mp e (c, d) (cons_zip.mpr hc)
  exact try_hit h hc h3 h4 this
/-- between natural width and the end of the side -/
theorem sum_side {r : List Pan} (h : ∀ p ∈ r, PanOk p) (g : Bool) {t : Rat} (ht : 0 ≤ t) : sgn g * baseR r ≤ sgn g * sumR (sizesT r g t) ∧ sgn g * sumR (sizesT r g t) ≤ sgn g * (endR r g : Rat) := by
  have e1 := sum_zero h g
  have hlast := sorted_last (times_sorted r g) (times_ne r g)
  have key : ∃ u, t ≤ u ∧ ∀ q ∈ timesR r g, q ≤ u := by
    by_cases c : t ≤ (timesR r g).getLast (times_ne r g)
    · exact ⟨_, c, hlast⟩
    · exact ⟨t, Rat.le_refl, fun q hq => by have := hlast q hq; grind⟩
  obtain ⟨u, h1, h2⟩ := key
  have e2 := sum_end h h2
  cases g
  · have := sum_down h ht
    have := sum_down h h1
    unfold sgn
    simp only [Bool.false_eq_true, if_false]
    grind
  · have := sum_up h ht
    have := sum_up h h1
    unfold sgn
    simp only [if_true]
    grind
theorem Dv.range {r : List Pan} (h : ∀ p ∈ r, PanOk p) {w : Rat} {xs : List Rat} (d : Dv r w xs) : (endR r false : Rat) ≤ w ∧ w ≤ (endR r true : Rat) := by
  obtain ⟨g, t, ht, rfl, rfl⟩ := d
  have h1 := sum_side h g ht
  have h2 := sum_side h false (t := 0) Rat.le_refl
  have h3 := sum_side h true (t := 0) Rat.le_refl
  unfold sgn at h1 h2 h3
  cases g <;> simp only [if_true, Bool.false_eq_true, if_false] at h1 h2 h3 <;> grind
theorem divR_some {r : List Pan} (h : ∀ p ∈ r, PanOk p) {w : Rat} {xs : List Rat} (hx : divR r w = some xs) : Dv r w xs := by
  unfold divR at hx
  obtain ⟨t, ht, rfl⟩ := Option.map_eq_some_iff.mp hx
  unfold atR at ht
  split at ht
  · rename_i e
    injection ht with ht
    subst ht
    exact ⟨_, 0, Rat.le_refl, rfl, by rw [sum_zero h, e]⟩
  · obtain ⟨h1, h2⟩ := time_some h ht
    exact ⟨_, t, h1, rfl, h2⟩
theorem divR_none {r : List Pan} (h : ∀ p ∈ r, PanOk p) {w : Rat} : divR r w = none ↔ ¬ ((endR r false : Rat) ≤ w ∧ w ≤ (endR r true : Rat)) := by
  constructor
  · intro e hw
    unfold divR at e
    rw [Option.map_eq_none_iff] at e
    unfold atR at e
    split at e
    · cases e
    · rename_i hne
      refine time_hit h ?_ ?_ e
      · unfold sgn growR
        by_cases c : w < baseR r
        · rw [decide_eq_true c]; simp; grind
        · rw [decide_eq_false c]; simp; grind
      · unfold sgn growR
        by_cases c : w < baseR r
        · rw [decide_eq_true c]; simp; grind
        · rw [decide_eq_false c]; simp; grind
  · intro hw
    cases e : divR r w with
    | none => rfl
    | some xs => exact absurd ((divR_some h e).range h) hw
/-! ### one division for each width -/
theorem size_sides {p : Pan} (h : PanOk p) {t u : Rat} (ht : 0 ≤ t) (hu : 0 ≤ u) : sizeT p false t ≤ sizeT p true u := by
  have h1 := size_down h ht
  have h2 := size_up h hu
  rw [size_zero] at h1 h2
  grind
theorem Dv.unique {r : List Pan} (h : ∀ p ∈ r, PanOk p) {w : Rat} {xs ys : List Rat} (a : Dv r w xs) (b : Dv r w ys) : xs = ys := by
  obtain ⟨g, t, ht, rfl, ea⟩ := a
  obtain ⟨g', t', ht', rfl, eb⟩ := b
  have le_eq : ∀ {g g' : Bool} {t t' : Rat}, (∀ p ∈ r, sizeT p g t ≤ sizeT p g' t') → sumR (sizesT r g t) = sumR (sizesT r g' t') → sizesT r g t = sizesT r g' t' := fun hl he => List.map_congr_left (sumR_map_eq hl he)
  have e := ea.trans eb.symm
  cases g <;> cases g'
  · by_cases c : t ≤ t'
    · exact (le_eq (fun p hp => size_down (h p hp) c) e.symm).symm
    · exact le_eq (fun p hp => size_down (h p hp) (by grind)) e
  · exact le_eq (fun p hp => size_sides (h p hp) ht ht') e
  · exact (le_eq (fun p hp => size_sides (h p hp) ht' ht) e.symm).symm
  · by_cases c : t ≤ t'
    · exact le_eq (fun p hp => size_up (h p hp) c) e
    · exact (le_eq (fun p hp => size_up (h p hp) (by grind)) e.symm).symm
end DL

namespace DL
open PySem PySem.Spec PyProof.Rows L2
/-! ### plain law: the limits -/
theorem step_head {acc : List (Rat × List Rat)} {x : List Rat} {c : Rat × List Rat} (h : acc.head? = some c) : (stepK acc x).head? = some c := by
  unfold stepK
  split
  · rename_i e
    rw [List.getLast?_eq_none_iff] at e
    rw [e] at h
    cases h
  · split
    · rw [List.head?_append, h]; rfl
    · exact h
theorem foldl_head : ∀ {l : List (List Rat)} {acc : List (Rat × List Rat)} {c : Rat × List Rat}, acc.head? = some c → (l.foldl stepK acc).head? = some c
  | [], _, _, h => h
  | x :: l, acc, c, h => foldl_head (l := l) (step_head h)
theorem step_last {acc : List (Rat × List Rat)} {x : List Rat} {c : Rat × List Rat} (h : acc.getLast? = some c) (hc : c.1 ≤ sumR x) : ∃ d, (stepK acc x).getLast? = some d ∧ d.1 = sumR x := by
  unfold stepK
  rw [h]
  simp only
  split
  · exact ⟨(sumR x, x), by simp, rfl⟩
  · exact ⟨c, h, by grind⟩
theorem foldl_last : ∀ {l : List (List Rat)} {acc : List (Rat × List Rat)} {c : Rat × List Rat}, acc.getLast? = some c → (∀ x ∈ l, c.1 ≤ sumR x) → l.Pairwise (fun x y => sumR x ≤ sumR y) → ∃ d, (l.foldl stepK acc).getLast? = some d ∧ d.1 = (match l.getLast? with | none => c.1 | some x => sumR x)
  | [], _, c, h, _, _ => ⟨c, h, rfl⟩
  | x :: l, acc, c, h, hc, hp => by
    obtain ⟨d, h1, h2⟩ := step_last (x := x) h (hc x List.mem_cons_self)
    obtain ⟨hx, hp⟩ := List.pairwise_cons.mp hp
    obtain ⟨e, h3, h4⟩ := foldl_last (l := l) h1 (fun y hy => by rw [h2]; exact hx y hy) hp
    refine ⟨e, h3, ?_⟩
    rw [h4, List.getLast?_cons]
    cases hl : l.getLast? with
    | none => simp only [Option.getD_none]; exact h2
    | some y => rfl
theorem rows_sorted {r : List Pan} (h : ∀ p ∈ r, PanOk p) : (rowsR r).Pairwise (fun x y => sumR x ≤ sumR y) := by
  have hn := fun g => times_nonneg h g
  have hs := fun g => times_sorted r g
  unfold rowsR
  rw [List.pairwise_append, List.pairwise_map, List.pairwise_map]
  refine ⟨?_, ?_, ?_⟩
  · rw [List.pairwise_reverse]
    exact (hs false).imp fun hab => sum_down h (Rat.le_of_lt hab)
  · exact (List.Pairwise.sublist (List.tail_sublist _) (hs true)).imp fun hab => sum_up h (Rat.le_of_lt hab)
  · intro x hx y hy
    obtain ⟨t, ht, rfl⟩ := List.mem_map.mp hx
    obtain ⟨u, hu, rfl⟩ := List.mem_map.mp hy
    exact sumR_map_le fun p hp => size_sides (h p hp) (hn false t (List.mem_reverse.mp ht)) (hn true u (List.mem_of_mem_tail hu))
theorem sizes_zero {r : List Pan} (g g' : Bool) : sizesT r g 0 = sizesT r g' 0 := List.map_congr_left fun p _ => by rw [size_zero, size_zero]
theorem rows_head {r : List Pan} : (rowsR r).head? = some (sizesT r false ((timesR r false).getLast (times_ne r false))) := by
  unfold rowsR
  rw [List.head?_append, List.head?_map, List.head?_reverse, List.getLast?_eq_some_getLast (times_ne r false)]
  rfl
theorem rows_last {r : List Pan} (h : ∀ p ∈ r, PanOk p) : (rowsR r).getLast? = some (sizesT r true ((timesR r true).getLast (times_ne r true))) := by
  unfold rowsR
  rw [List.getLast?_append, List.getLast?_map, List.getLast?_map, List.getLast?_reverse]
  obtain ⟨l, hl⟩ := times_head h true
  obtain ⟨m, hm⟩ := times_head h false
  have e3 : (timesR r true).getLast (times_ne r true) = (0 :: l).getLast (List.cons_ne_nil _ _) := by congr 1
  rw [e3, hl, hm]
  cases l with
  | nil => simp [sizes_zero false true]
  | cons x l =>
    simp
    rw [List.getLast?_eq_some_getLast (List.cons_ne_nil _ _)]
    rfl
theorem knots_head {r : List Pan} : (knotsR r).head? = some (sumR (sizesT r false ((timesR r false).getLast (times_ne r false))), sizesT r false ((timesR r false).getLast (times_ne r false))) := by
  have h := rows_head (r := r)
  unfold knotsR
  cases e : rowsR r with
  | nil => rw [e] at h; cases h
  | cons x l =>
    rw [e] at h
    injection h with h
    subst h
    exact foldl_head (l := l) rfl
theorem knots_last {r : List Pan} (h : ∀ p ∈ r, PanOk p) : ∃ d, (knotsR r).getLast? = some d ∧ d.1 = sumR (sizesT r true ((timesR r true).getLast (times_ne r true))) := by
  have h1 := rows_last h
  have h2 := rows_sorted h
  unfold knotsR
  cases e : rowsR r with
  | nil => rw [e] at h1; cases h1
  | cons x l =>
    rw [e] at h1 h2
    obtain ⟨hx, hp⟩ := List.pairwise_cons.mp h2
    obtain ⟨d, h3, h4⟩ := foldl_last (l := l) (acc := [(sumR x, x)]) (c := (sumR x, x)) rfl (fun y hy => hx y hy) hp
    refine ⟨d, h3, ?_⟩
    rw [h4]
    rw [List.getLast?_cons] at h1
    injection h1 with h1
    rw [← h1]
    cases l.getLast? <;> rfl
theorem limits_eq {r : List Pan} (h : ∀ p ∈ r, PanOk p) : limitsR r = (endR r false, endR r true) := by
  have e1 := knots_head (r := r)
  obtain ⟨d, e2, e3⟩ := knots_last h
  rw [List.head?_eq_some_head (knots_ne r)] at e1
  rw [List.getLast?_eq_some_getLast (knots_ne r)] at e2
  injection e1 with e1
  injection e2 with e2
  unfold limitsR
  rw [e1, e2]
  simp only
  rw [e3, sum_end h (sorted_last (times_sorted r false) (times_ne r false)), sum_end h (sorted_last (times_sorted r true) (times_ne r true)), int_num, int_num]
theorem end_false {r : List Pan} (h : ∀ p ∈ r, PanOk p) : endR r false = (r.map fun p => if 0 < p.s then p.lo else natP p).sum := rfl
theorem end_true {r : List Pan} (h : ∀ p ∈ r, PanOk p) : endR r true = (r.map fun p => if 0 < p.g then p.hi else natP p).sum := rfl
end DL

namespace DL
open PySem PySem.Spec PyProof.Rows L2
local macro_rules | `(tactic| walk_at "dl") => `(tactic| try simp only [dSeq, dNext, dSet, dSetV, dRet, dRetN, dExpr, dBreak, dCont, dPar, dPar3, dAsg, dTest_S, dNot, dNotV_S, dOp, dUn, dC, dVar_S, dVarS_v, dVarS_m, dMov_S, dMovS_m, sB_b, muL_l, muT_t, isI_i, vaI_i, dF_v, dF_m, dChain, fAdd_ii, fAdd_ll, fAdd_tt, fI_ii, fI0_ii, fMul_ii, fMul_ti, fNeg_i, fEq_ii, fNe_ii, fIsN_n, fIsN_l, fIsN_t, fIsN_i, fIx_l, fIx_t, dANil, dACons, dAAt_S, agD, dTup, dLst, dCB, fAbs_i, fMax2_ii, fMin2_ii, fLen_l, fLen_t, fList_l, fInt_i, dParX_2, dParX_3, fList_t, fTuple_l, fTuple_t, dSl, dONone, dOSome, fSl_l, fSl_t, dIsi_S, dIsi2_S, isiS_s, dCall, agOne, agAll, agAt, agSl_d, agSl_s, agS_m, dBack_n, dBack_s, seqS_l, seqS_t, nos, List.replicate, List.append, List.map, List.cons_append, List.nil_append, List.getElem?_cons_zero, List.getElem?_cons_succ, List.set_cons_zero, List.set_cons_succ, ioOf, List.length_cons, List.length_nil, dYes, gdName, gdTupN, gdCons, gdNil, frzAt, frz, dBor, dBorB, flatS, flatD, Option.getD_some, wipeD, dAug_S, dApp_S, dIns_S, dSetI_S, dIxM_S, dAugL_S, ixN_30, ixN_31, ixN_32, atI_0, atI_1, atI_2, atI_3, atI_4, true_and, reduceCtorEq, false_implies, implies_true, forall_const, Bool.not_true, Bool.not_false, Nat.reduceAdd, decide_true, decide_false, Int.reduceLT, Int.reduceLE, Int.reduceEq])
local macro_rules | `(tactic| walk_at "dt") => `(tactic| (walk_at "dl"; (try simp only [dAnd, dOr, dAndV_S, dOrV_S]); walk_at "dl"))
local macro_rules | `(tactic| walk_at "di") => `(tactic| (walk_at "dl"; (try simp only [dIf, dIte]); walk_at "dl"))
local macro_rules | `(tactic| walk_at "ds") => `(tactic| (walk_at "di"; walk_at "dt"; walk_at "di"))

/-! ### rows drawn by the laws -/
structure PanIn (m : Int) (p : Pan) : Prop where
  ok : PanOk p
  bm : p.b ≤ m
  hm : p.hi ≤ m
def sp__law_panel : Spec := mkSp (fun x : Ct × Int => [.mu false x.1, .val (.int x.2)]) fun x Q => ∃ n, ((0 ≤ x.2 ∧ x.2 ≤ 400) ∧ Src n x.1 ∧ n + 20 < drawMax) ∧ ∀ p t, PanIn x.2 p → Src (n + 20) t → Q (.val (pan p)) (some t)
theorem hn__law_panel : ∀ ρ Qd, sp__law_panel ρ Qd → ρ.length = 2 := hn_mk fun _ => rfl
theorem go_draw {t : Ct} {z : Int} {n : Nat} {K : Sl → Option Ct → Prop} (hz : 0 < z) (hz2 : z < 2 ^ 60) (hs : Src n t) (hn : n < drawMax) (k : ∀ r t', 0 ≤ r → r < z → Src (n + 1) t' → K (.val (.int r)) (some t')) : sp__law_draw [.mu false t, .val (.int z)] K := ⟨(t, z), rfl, n, ⟨⟨hz, hz2⟩, hs, hn⟩, k⟩
theorem go_choice {t : Ct} {l : List D} {n : Nat} {K : Sl → Option Ct → Prop} (hl : l ≠ []) (hl2 : l.length ≤ lim) (hs : Src n t) (hn : n < drawMax) (k : ∀ d t', d ∈ l → Src (n + 1) t' → K (.val d) (some t')) : sp__law_choice [.mu false t, .val (.list l)] K := ⟨(t, l), rfl, n, ⟨hl, hl2, hs, hn⟩, k⟩
theorem go_choiceI {t : Ct} (l : List Int) (P : Int → Prop) {n : Nat} {K : Sl → Option Ct → Prop} (hl : l ≠ []) (hl2 : l.length ≤ 1000) (hP : ∀ i ∈ l, P i) (hs : Src n t) (hn : n < drawMax) (k : ∀ i t', P i → Src (n + 1) t' → K (.val (.int i)) (some t')) : sp__law_choice [.mu false t, .val (.list (l.map PyData.int))] K := by
  refine go_choice (by simpa using hl) (by rw [List.length_map]; unfold lim; omega) hs hn fun d t' hd hs' => ?_
  obtain ⟨i, hi, rfl⟩ := List.mem_map.mp hd
  exact k i t' (hP i hi) hs'
/- _law_panel: slots 0=source 1=most 2=high 3=low 4=inside 5=basis 6=wide 7=factors 8=k -/
def w__law_panel : DS := (dSeq (dSet 2 (dCall false sp__law_choice (dAAt 0 (dACons (dLst (dACons (dCall false sp__law_draw (dAAt 0 (dACons (dOp fAdd (dVar 1) (dC (.int 1))) dANil))) (dACons (dVar 1) (dACons (dCall false sp__law_draw (dAAt 0 (dACons (dOp fAdd (dVar 1) (dC (.int 1))) dANil))) dANil)))) dANil)))) (dSeq (dSet 3 (dCall false sp__law_choice (dAAt 0 (dACons (dLst (dACons (dC (.int 0)) (dACons (dCall false sp__law_draw (dAAt 0 (dACons (dOp fAdd (dVar 2) (dC (.int 1))) dANil))) (dACons (dCall false sp__law_draw (dAAt 0 (dACons (dOp fAdd (dVar 2) (dC (.int 1))) dANil))) (dACons (dVar 2) dANil))))) dANil)))) (dSeq (dSet 4 (dOp fAdd (dVar 3) (dCall false sp__law_draw (dAAt 0 (dACons (dOp fAdd (dOp fSub (dVar 2) (dVar 3)) (dC (.int 1))) dANil))))) (dSeq (dSet 5 (dCall false sp__law_choice (dAAt 0 (dACons (dLst (dACons (dVar 4) (dACons (dVar 4) (dACons (dVar 4) (dACons (dCall false sp__law_draw (dAAt 0 (dACons (dOp fAdd (dVar 1) (dC (.int 1))) dANil))) dANil))))) dANil)))) (dSeq (dSet 6 (dCall false sp__law_choice (dAAt 0 (dACons (dLst (dACons (dC (.int 2)) (dACons (dC (.int 4)) (dACons (dC (.int 101)) dANil)))) dANil)))) (dSeq (dSet 7 (dLc (diR1 (dACons (dC (.int 2)) dANil)) (gdName 8) dYes (dCall false sp__law_choice (dAAt 0 (dACons (dLst (dACons (dCall false sp__law_draw (dAAt 0 (dACons (dVar 6) dANil))) (dACons (dC (.int 1)) (dACons (dCall false sp__law_draw (dAAt 0 (dACons (dVar 6) dANil))) dANil)))) dANil))) [8])) (dRet (dTup (dACons (dVar 5) (dACons (dOp fIx (dVar 7) (dC (.int 0))) (dACons (dOp fIx (dVar 7) (dC (.int 1))) (dACons (dVar 3) (dACons (dVar 2) dANil)))))))))))))
theorem ints_mem {P : Int → Prop} {d : D} : ∀ {l : List Int}, (∀ i ∈ l, P i) → d ∈ l.map PyData.int → ∃ i, d = .int i ∧ P i := fun h hd => by
  obtain ⟨i, hi, rfl⟩ := List.mem_map.mp hd
  exact ⟨i, rfl, h i hi⟩
theorem vc__law_panel : VCio sp__law_panel w__law_panel 7 := by
  rintro ρ Qd ⟨⟨t0, m⟩, rfl, n, ⟨⟨hm0, hm4⟩, hs0, hn⟩, h⟩
  simp only at hm0 hm4 hs0 h
  unfold w__law_panel
  walk_at "dl"
  have dm : ∀ k, k ≤ 20 → n + k < drawMax := fun k hk => by omega
  refine go_draw (by omega) (by omega) hs0 (by omega) fun a1 t1 ha1 ha1' hs1 => ?_
  walk_at "dl"
  refine go_draw (by omega) (by omega) hs1 (by omega) fun a2 t2 ha2 ha2' hs2 => ?_
  walk_at "dl"
  refine ⟨by decide, go_choiceI [a1, m, a2] (fun i => 0 ≤ i ∧ i ≤ m) (List.cons_ne_nil _ _) (by simp) (by simp only [List.mem_cons, List.mem_nil_iff, or_false]; rintro i (rfl | rfl | rfl) <;> omega) hs2 (by omega) fun hi t3 ⟨hh0, hh1⟩ hs3 => ?_⟩
  walk_at "dl"
  refine go_draw (by omega) (by omega) hs3 (by omega) fun a4 t4 ha4 ha4' hs4 => ?_
  walk_at "dl"
  refine go_draw (by omega) (by omega) hs4 (by omega) fun a5 t5 ha5 ha5' hs5 => ?_
  walk_at "dl"
  refine ⟨by decide, go_choiceI [0, a4, a5, hi] (fun i => 0 ≤ i ∧ i ≤ hi) (List.cons_ne_nil _ _) (by simp) (by simp only [List.mem_cons, List.mem_nil_iff, or_false]; rintro i (rfl | rfl | rfl | rfl) <;> omega) hs5 (by omega) fun lo t6 ⟨hl0, hl1⟩ hs6 => ?_⟩
  walk_at "dl"
  refine go_draw (by omega) (by omega) hs6 (by omega) fun a7 t7 ha7 ha7' hs7 => ?_
  walk_at "dl"
  refine go_draw (by omega) (by omega) hs7 (by omega) fun a8 t8 ha8 ha8' hs8 => ?_
  walk_at "dl"
  refine ⟨by decide, go_choiceI [lo + a7, lo + a7, lo + a7, a8] (fun i => 0 ≤ i ∧ i ≤ m) (List.cons_ne_nil _ _) (by simp) (by simp only [List.mem_cons, List.mem_nil_iff, or_false]; rintro i (rfl | rfl | rfl | rfl) <;> omega) hs8 (by omega) fun ba t9 ⟨hb0, hb1⟩ hs9 => ?_⟩
  walk_at "dl"
  refine ⟨by decide, go_choiceI [2, 4, 101] (fun i => 0 < i ∧ i ≤ 101) (List.cons_ne_nil _ _) (by simp) (by simp only [List.mem_cons, List.mem_nil_iff, or_false]; rintro i (rfl | rfl | rfl) <;> omega) hs9 (by omega) fun wi t10 ⟨hw0, hw1⟩ hs10 => ?_⟩
  walk_at "dl"
  simp only [dLc, diR1]
  walk_at "dl"
  refine ⟨by constructor <;> decide, fun i acc ρ => ∃ fs t, acc = fs.map PyData.int ∧ fs.length = i ∧ (∀ f ∈ fs, 0 ≤ f ∧ f ≤ 100) ∧ Src (n + 10 + 3 * i) t ∧ ρ = [.mu false t, .val (.int m), .val (.int hi), .val (.int lo), .val (.int (lo + a7)), .val (.int ba), .val (.int wi), .no, .no], ⟨[], t10, rfl, rfl, (fun f hf => nomatch hf), hs10, rfl⟩, ?_, ?_⟩
  · rintro i acc d ρ hd ⟨fs, t, rfl, hf1, hf2, hs, rfl⟩
    obtain ⟨hi2, rfl⟩ := rng_get hd
    simp only [Int.toNat] at hi2
    walk_at "dl"
    refine go_draw (by omega) (by omega) hs (by omega) fun b1 u1 hb1 hb1' hs1 => ?_
    walk_at "dl"
    refine go_draw (by omega) (by omega) hs1 (by omega) fun b2 u2 hb2 hb2' hs2 => ?_
    walk_at "dl"
    refine ⟨by decide, go_choiceI [b1, 1, b2] (fun i => 0 ≤ i ∧ i ≤ 100) (List.cons_ne_nil _ _) (by simp) (by simp only [List.mem_cons, List.mem_nil_iff, or_false]; rintro i (rfl | rfl | rfl) <;> omega) hs2 (by omega) fun f u3 hf hs3 => ?_⟩
    walk_at "dl"
    refine ⟨by rw [List.length_map]; unfold lim; omega, fs ++ [f], u3, by rw [List.map_append]; rfl, by rw [List.length_append, hf1]; rfl, ?_, hs3, rfl⟩
    intro x hx
    rcases List.mem_append.mp hx with hx | hx
    · exact hf2 x hx
    · rw [List.mem_singleton.mp hx]; exact hf
  · rintro acc ρ ⟨fs, t, rfl, hf1, hf2, hs, rfl⟩
    match fs, hf1, hf2 with
    | [f1, f2], _, hf2 =>
      have h1 := hf2 f1 (by simp)
      have h2 := hf2 f2 (by simp)
      walk_at "dl"
      exact ⟨by decide, h ⟨ba, f1, f2, lo, hi⟩ _ ⟨⟨hb0, by show ba ≤ 400; omega, h1.1, h1.2, h2.1, h2.2, hl0, hl1, by show hi ≤ 400; omega⟩, hb1, hh1⟩ (hs.mono (by rw [rng_len]; simp only [Int.toNat]; omega))⟩
def sp__law_row : Spec := mkSp (fun x : Ct × Int × Int => [.mu false x.1, .val (.int x.2.1), .val (.int x.2.2)]) fun x Q => ∃ n, ((1 ≤ x.2.1 ∧ x.2.1 ≤ 8) ∧ (0 ≤ x.2.2 ∧ x.2.2 ≤ 400) ∧ Src n x.1 ∧ n + 200 < drawMax) ∧ ∀ r t, RowOk r → r.length ≤ x.2.1 → (∀ p ∈ r, PanIn x.2.2 p) → Src (n + 200) t → Q (.val (rowD r)) (some t)
theorem hn__law_row : ∀ ρ Qd, sp__law_row ρ Qd → ρ.length = 3 := hn_mk fun _ => rfl
/- _law_row: slots 0=source 1=many 2=most 3=turn -/
def w__law_row : DS := (dRet (dCB fTuple (dACons (dLc (diR1 (dACons (dOp fAdd (dC (.int 1)) (dCall false sp__law_draw (dAAt 0 (dACons (dVar 1) dANil)))) dANil)) (gdName 3) dYes (dCall false sp__law_panel (dAAt 0 (dACons (dVar 2) dANil))) [3]) dANil)))
theorem vc__law_row : VCio sp__law_row w__law_row 1 := by
  rintro ρ Qd ⟨⟨t0, k, m⟩, rfl, n, ⟨⟨hk1, hk8⟩, ⟨hm0, hm4⟩, hs0, hn⟩, h⟩
  simp only at hk1 hk8 hm0 hm4 hs0 h
  unfold w__law_row
  walk_at "dl"
  simp only [dLc, diR1]
  walk_at "dl"
  refine go_draw (by omega) (by omega) hs0 (by omega) fun a t1 ha ha' hs1 => ?_
  walk_at "dl"
  refine ⟨by constructor <;> omega, fun i acc ρ => ∃ r t, acc = r.map pan ∧ r.length = i ∧ (∀ p ∈ r, PanIn m p) ∧ Src (n + 1 + 20 * i) t ∧ ρ = [.mu false t, .val (.int k), .val (.int m), .no], ⟨[], t1, rfl, rfl, (fun f hf => nomatch hf), hs1, rfl⟩, ?_, ?_⟩
  · rintro i acc d ρ hd ⟨r, t, rfl, hr1, hr2, hs, rfl⟩
    obtain ⟨hi2, rfl⟩ := rng_get hd
    walk_at "dl"
    refine ⟨(_, _), rfl, n + 1 + 20 * i, ⟨⟨hm0, hm4⟩, hs, by omega⟩, fun p t' hp hs' => ?_⟩
    walk_at "dl"
    refine ⟨by rw [List.length_map]; unfold lim; omega, r ++ [p], t', by rw [List.map_append]; rfl, by rw [List.length_append, hr1]; rfl, ?_, hs', rfl⟩
    intro x hx
    rcases List.mem_append.mp hx with hx | hx
    · exact hr2 x hx
    · rw [List.mem_singleton.mp hx]; exact hp
  · rintro acc ρ ⟨r, t, rfl, hr1, hr2, hs, rfl⟩
    rw [rng_len] at hr1 hs
    walk_at "dl"
    exact h r t ⟨by omega, by omega, fun p hp => (hr2 p hp).ok⟩ (by omega) hr2 (hs.mono (by omega))
end DL

namespace DL
open PySem PySem.Spec PyProof.Rows L2
local macro_rules | `(tactic| walk_at "dl") => `(tactic| try simp only [dSeq, dNext, dSet, dSetV, dRet, dRetN, dExpr, dBreak, dCont, dPar, dPar3, dAsg, dTest_S, dNot, dNotV_S, dOp, dUn, dC, dVar_S, dVarS_v, dVarS_m, dMov_S, dMovS_m, sB_b, muL_l, muT_t, isI_i, vaI_i, dF_v, dF_m, dChain, fAdd_ii, fAdd_ll, fAdd_tt, fI_ii, fI0_ii, fMul_ii, fMul_ti, fNeg_i, fEq_ii, fNe_ii, fIsN_n, fIsN_l, fIsN_t, fIsN_i, fIx_l, fIx_t, dANil, dACons, dAAt_S, agD, dTup, dLst, dCB, fAbs_i, fMax2_ii, fMin2_ii, fLen_l, fLen_t, fList_l, fInt_i, dParX_2, dParX_3, fList_t, fTuple_l, fTuple_t, dSl, dONone, dOSome, fSl_l, fSl_t, dIsi_S, dIsi2_S, isiS_s, dCall, agOne, agAll, agAt, agSl_d, agSl_s, agS_m, dBack_n, dBack_s, seqS_l, seqS_t, nos, List.replicate, List.append, List.map, List.cons_append, List.nil_append, List.getElem?_cons_zero, List.getElem?_cons_succ, List.set_cons_zero, List.set_cons_succ, ioOf, List.length_cons, List.length_nil, dYes, gdName, gdTupN, gdCons, gdNil, frzAt, frz, dBor, dBorB, flatS, flatD, Option.getD_some, wipeD, dAug_S, dApp_S, dIns_S, dSetI_S, dIxM_S, dAugL_S, ixN_30, ixN_31, ixN_32, atI_0, atI_1, atI_2, atI_3, atI_4, true_and, reduceCtorEq, false_implies, implies_true, forall_const, Bool.not_true, Bool.not_false, Nat.reduceAdd, decide_true, decide_false, Int.reduceLT, Int.reduceLE, Int.reduceEq])
local macro_rules | `(tactic| walk_at "dt") => `(tactic| (walk_at "dl"; (try simp only [dAnd, dOr, dAndV_S, dOrV_S]); walk_at "dl"))
local macro_rules | `(tactic| walk_at "di") => `(tactic| (walk_at "dl"; (try simp only [dIf, dIte]); walk_at "dl"))
local macro_rules | `(tactic| walk_at "ds") => `(tactic| (walk_at "di"; walk_at "dt"; walk_at "di"))

/-! ### natural sizes, limits and widths of the laws -/
def sp__law_natural : Spec := mkSp (fun p : Pan => [.val (pan p)]) fun p Q => Q (.val (.int (natP p))) none
theorem hn__law_natural : ∀ ρ Qd, sp__law_natural ρ Qd → ρ.length = 1 := hn_mk fun _ => rfl
def sp__law_limits : Spec := mkSp (fun r : List Pan => [.val (rowD r)]) fun r Q => RowOk r ∧ Q (.val (.tuple [.int (endR r false), .int (endR r true)])) none
theorem hn__law_limits : ∀ ρ Qd, sp__law_limits ρ Qd → ρ.length = 1 := hn_mk fun _ => rfl
/- _law_natural: slots 0=panel -/
def w__law_natural : DS := (dRet (dCB fMax2 (dACons (dOp fIx (dVar 0) (dC (.int 3))) (dACons (dCB fMin2 (dACons (dOp fIx (dVar 0) (dC (.int 4))) (dACons (dOp fIx (dVar 0) (dC (.int 0))) dANil))) dANil))))
/- _law_limits: slots 0=row 1=least 2=panel -/
def w__law_limits : DS := (dSeq (dSet 1 (dCB fSum (dACons (dLc (diSeq (dVar 0)) (gdName 2) dYes (dIte (dTest (dOp fGt (dOp fIx (dVar 2) (dC (.int 2))) (dC (.int 0)))) (dOp fIx (dVar 2) (dC (.int 3))) (dCall false sp__law_natural (dACons (dVar 2) dANil))) [2]) dANil))) (dRet (dTup (dACons (dVar 1) (dACons (dCB fSum (dACons (dLc (diSeq (dVar 0)) (gdName 2) dYes (dIte (dTest (dOp fGt (dOp fIx (dVar 2) (dC (.int 1))) (dC (.int 0)))) (dOp fIx (dVar 2) (dC (.int 4))) (dCall false sp__law_natural (dACons (dVar 2) dANil))) [2]) dANil)) dANil)))))
theorem vc__law_natural : VC sp__law_natural w__law_natural 0 := by
  rintro ρ Qd ⟨p, rfl, h⟩
  unfold w__law_natural pan
  walk_at "dl"
  rw [natP_eq]
  exact h
theorem vc__law_limits : VC sp__law_limits w__law_limits 2 := by
  rintro ρ Qd ⟨r, rfl, hr, h⟩
  have h8 := hr.n8
  have hrl : r.length ≤ lim := by unfold lim; omega
  have eI : ∀ g, (r.map fun p => PyData.int (endP g p)) = (r.map (endP g)).map PyData.int := fun g => by rw [List.map_map]; rfl
  unfold w__law_limits
  walk_at "dl"
  simp only [dLc, diSeq]
  unfold rowD
  walk_at "dl"
  refine ⟨mapP r (fun p => .int (endP false p)) [.val (rowD r), .no, .no], mapP_0, ?_, ?_⟩
  · rintro i acc d ρ hi q
    obtain ⟨p, hp, rfl⟩ := map_at hi
    have q2 := q.2
    subst q2
    have hpo := hr.all p (List.mem_of_getElem? hp)
    have hs0 := hpo.s0
    generalize rowD r = R at *
    walk_at "di"
    rw [show pan p = PyData.tuple [.int p.b, .int p.g, .int p.s, .int p.lo, .int p.hi] from rfl]
    walk_at "di"
    by_cases c : 0 < p.s
    · rw [decide_eq_true (by omega : p.s > 0)]
      exact mapP_yes hrl hp q (by unfold endP facA; simp [c]) rfl
    · rw [decide_eq_false (by omega : ¬ p.s > 0)]
      exact ⟨p, rfl, mapP_yes hrl hp q (by unfold endP facA; simp [c]) rfl⟩
  · rintro acc ρ q
    obtain ⟨rfl, rfl⟩ := mapP_end q (List.length_map _)
    rw [eI]
    refine fSum_l ?_
    walk_at "dl"
    unfold rowD
    walk_at "dl"
    refine ⟨mapP r (fun p => .int (endP true p)) [.val (rowD r), .val (.int (endR r false)), .no], mapP_0, ?_, ?_⟩
    · rintro i acc d ρ hi q
      obtain ⟨p, hp, rfl⟩ := map_at hi
      have q2 := q.2
      subst q2
      have hpo := hr.all p (List.mem_of_getElem? hp)
      have hs0 := hpo.g0
      generalize rowD r = R at *
      walk_at "di"
      rw [show pan p = PyData.tuple [.int p.b, .int p.g, .int p.s, .int p.lo, .int p.hi] from rfl]
      walk_at "di"
      by_cases c : 0 < p.g
      · rw [decide_eq_true (by omega : p.g > 0)]
        exact mapP_yes hrl hp q (by unfold endP facA; simp [c]) rfl
      · rw [decide_eq_false (by omega : ¬ p.g > 0)]
        exact ⟨p, rfl, mapP_yes hrl hp q (by unfold endP facA; simp [c]) rfl⟩
    · rintro acc ρ q
      obtain ⟨rfl, rfl⟩ := mapP_end q (List.length_map _)
      rw [eI]
      refine fSum_l ?_
      walk_at "dl"
      exact ⟨by decide, h⟩
theorem endP_small {p : Pan} (h : PanOk p) (g : Bool) : 0 ≤ endP g p ∧ endP g p ≤ 400 := by
  have := h.b0; have := h.b1; have := h.l0; have := h.lh; have := h.h1
  unfold endP natP
  cases g <;> simp only [if_true, Bool.false_eq_true, if_false] <;> split <;> omega
theorem sum_small {f : Pan → Int} : ∀ {l : List Pan}, (∀ p ∈ l, 0 ≤ f p ∧ f p ≤ 400) → 0 ≤ (l.map f).sum ∧ (l.map f).sum ≤ 400 * l.length
  | [], _ => ⟨Int.le_refl _, Int.le_refl _⟩
  | p :: l, h => by
    have h1 := h p List.mem_cons_self
    have h2 := sum_small (l := l) fun q hq => h q (List.mem_cons_of_mem _ hq)
    rw [List.map_cons, List.sum_cons, List.length_cons]
    omega
theorem endR_small {r : List Pan} (h : RowOk r) (g : Bool) : 0 ≤ endR r g ∧ endR r g ≤ 3200 := by
  have h1 := sum_small (f := endP g) fun p hp => endP_small (h.all p hp) g
  have h2 := h.n8
  unfold endR
  omega
theorem end_le {r : List Pan} (h : RowOk r) : endR r false ≤ endR r true := by
  have h1 := sum_side h.all false (t := 0) Rat.le_refl
  have h2 := sum_side h.all true (t := 0) Rat.le_refl
  unfold sgn at h1 h2
  simp only [if_true, Bool.false_eq_true, if_false] at h1 h2
  exact rat_int_le.mp (by grind)
theorem nat_ge {r : List Pan} (h : RowOk r) : endR r false ≤ (r.map natP).sum ∧ (r.map natP).sum ≤ endR r true := by
  have h1 := sum_side h.all false (t := 0) Rat.le_refl
  have h2 := sum_side h.all true (t := 0) Rat.le_refl
  have hz := sum_zero h.all false
  have hz2 := sum_zero h.all true
  unfold sgn at h1 h2
  simp only [if_true, Bool.false_eq_true, if_false] at h1 h2
  have hb : baseR r = (((r.map natP).sum : Int) : Rat) := rfl
  exact ⟨rat_int_le.mp (by grind), rat_int_le.mp (by grind)⟩
def wOk (w : Int) : Prop := 0 ≤ w ∧ w ≤ 3200
def sp__law_some_widths : Spec := mkSp (fun x : Ct × List Pan × Int => [.mu false x.1, .val (rowD x.2.1), .val (.int x.2.2)]) fun x Q => ∃ n, (RowOk x.2.1 ∧ (0 ≤ x.2.2 ∧ x.2.2 ≤ 100) ∧ Src n x.1 ∧ n + 100 < drawMax) ∧ ∀ (ws : List Int) t, (∀ w ∈ ws, wOk w ∧ endR x.2.1 false ≤ w) → ws.length ≤ x.2.2 + 4 → Src (n + 100) t → Q (.mu true (.lst (ws.map PyData.int))) (some t)
theorem hn__law_some_widths : ∀ ρ Qd, sp__law_some_widths ρ Qd → ρ.length = 3 := hn_mk fun _ => rfl
/- _law_some_widths: slots 0=source 1=row 2=many 3=least 4=greatest 5=natural_width 6=panel 7=found 8=turn 9=width -/
def w__law_some_widths : DS := (dSeq (dAsg (dCall false sp__law_limits (dACons (dVar 1) dANil)) (gdTupN 2 (gdCons (gdName 3) (gdCons (gdName 4) gdNil)))) (dSeq (dSet 5 (dCB fSum (dACons (dLc (diSeq (dVar 1)) (gdName 6) dYes (dCall false sp__law_natural (dACons (dVar 6) dANil)) [6]) dANil))) (dSeq (dSet 7 (dLst (dACons (dVar 3) (dACons (dVar 4) (dACons (dVar 5) (dACons (dOp fAdd (dVar 4) (dC (.int 1))) dANil)))))) (dSeq (dFor (diR1 (dACons (dVar 2) dANil)) (gdName 8) (dApp 7 (dOp fAdd (dVar 3) (dCall false sp__law_draw (dAAt 0 (dACons (dOp fAdd (dOp fSub (dVar 4) (dVar 3)) (dC (.int 1))) dANil)))))) (dRet (dLc (diSeq (dVar 7)) (gdName 9) (dTest (dChain fLe fLe (dC (.int 0)) (dVar 9) (dC (.int 3200)))) (dVar 9) [9]))))))
def wK : D → Option D
  | .int w => if 0 ≤ w ∧ w ≤ 3200 then some (.int w) else none
  | _ => none
def wKI (w : Int) : Option D := if 0 ≤ w ∧ w ≤ 3200 then some (.int w) else none
theorem wKI_fil : ∀ l : List Int, l.filterMap wKI = (l.filter fun w => decide (0 ≤ w ∧ w ≤ 3200)).map PyData.int
  | [] => rfl
  | w :: l => by
    rw [List.filterMap_cons, List.filter_cons]
    unfold wKI
    by_cases h : 0 ≤ w ∧ w ≤ 3200
    · rw [if_pos h, decide_eq_true h, if_pos rfl, List.map_cons]
      exact congrArg _ (wKI_fil l)
    · rw [if_neg h, decide_eq_false h]
      exact wKI_fil l
theorem vc__law_some_widths : VCio sp__law_some_widths w__law_some_widths 7 := by
  rintro ρ Qd ⟨⟨t0, r, m⟩, rfl, n, ⟨hr, ⟨hm0, hm1⟩, hs0, hn⟩, h⟩
  simp only at hr hm0 hm1 hs0 h
  have h8 := hr.n8
  have hrl : r.length ≤ lim := by unfold lim; omega
  have hE0 := endR_small hr false
  have hE1 := endR_small hr true
  have hE := end_le hr
  unfold w__law_some_widths
  walk_at "dl"
  refine ⟨r, rfl, hr, ?_⟩
  walk_at "dl"
  simp only [dLc, diSeq]
  unfold rowD
  walk_at "dl"
  refine ⟨mapP r (fun p => .int (natP p)) [.mu false t0, .val (rowD r), .val (.int m), .val (.int (endR r false)), .val (.int (endR r true)), .no, .no, .no, .no, .no], mapP_0, ?_, ?_⟩
  · rintro i acc d ρ hi q
    obtain ⟨p, hp, rfl⟩ := map_at hi
    have q2 := q.2
    subst q2
    walk_at "dl"
    exact ⟨p, rfl, mapP_yes hrl hp q rfl rfl⟩
  · rintro acc ρ q
    obtain ⟨rfl, rfl⟩ := mapP_end q (List.length_map _)
    have eI : (r.map fun p => PyData.int (natP p)) = (r.map natP).map PyData.int := by rw [List.map_map]; rfl
    rw [eI]
    refine fSum_l ?_
    walk_at "dl"
    simp only [dFor, diR1]
    walk_at "dl"
    refine ⟨by decide, by constructor <;> omega, fun i ρ => ∃ ws t a, ws.length = i + 4 ∧ (∀ w ∈ ws, endR r false ≤ w) ∧ Src (n + i) t ∧ ρ = [.mu false t, .val (rowD r), .val (.int m), .val (.int (endR r false)), .val (.int (endR r true)), .val (.int (r.map natP).sum), .no, .mu true (.lst (ws.map PyData.int)), a, .no], ⟨[endR r false, endR r true, (r.map natP).sum, endR r true + 1], t0, .no, rfl, (fun w hw => by
      have hN := nat_ge hr
      simp only [List.mem_cons, List.mem_nil_iff, or_false] at hw
      rcases hw with rfl | rfl | rfl | rfl <;> omega), hs0, rfl⟩, ?_, ?_⟩
    · rintro i d ρ hd ⟨ws, t, a, hw, hge, hs, rfl⟩
      obtain ⟨hi2, rfl⟩ := rng_get hd
      walk_at "dl"
      refine go_draw (by omega) (by omega) hs (by omega) fun z t' hz hz' hs' => ?_
      walk_at "dl"
      exact ⟨by rw [List.length_map]; unfold lim; omega, ws ++ [endR r false + z], t', _, by simp [hw] <;> omega, (fun w hw => by
        rcases List.mem_append.mp hw with hw | hw
        · exact hge w hw
        · rw [List.mem_singleton.mp hw]; omega), hs', by rw [List.map_append]; rfl⟩
    · rintro ρ ⟨ws, t, a, hw, hge, hs, rfl⟩
      rw [rng_len] at hw hs
      simp only [dLc, diSeq]
      walk_at "dl"
      refine ⟨filP ws wKI [.mu false t, .val (rowD r), .val (.int m), .val (.int (endR r false)), .val (.int (endR r true)), .val (.int (r.map natP).sum), .no, .val (.list (ws.map PyData.int)), a, .no], filP_0, ?_, ?_⟩
      · rintro i acc d ρ hi q
        obtain ⟨w, hk, rfl⟩ := map_at hi
        have q2 := q.2
        subst q2
        walk_at "dl"
        by_cases c1 : 0 ≤ w
        · rw [decide_eq_true c1]
          walk_at "dl"
          by_cases c2 : w ≤ 3200
          · rw [decide_eq_true c2]
            exact filP_yes (by unfold lim; omega) hk q (if_pos ⟨c1, c2⟩) rfl
          · rw [decide_eq_false c2]
            exact filP_no hk q (if_neg fun z => c2 z.2) rfl
        · rw [decide_eq_false c1]
          exact filP_no hk q (if_neg fun z => c1 z.1) rfl
      · rintro acc ρ q
        obtain ⟨rfl, rfl⟩ := filP_end q (List.length_map _)
        walk_at "dl"
        rw [wKI_fil]
        refine h _ t (fun w hw => ⟨by simpa [wOk] using (List.mem_filter.mp hw).2, hge w (List.mem_filter.mp hw).1⟩) ?_ (hs.mono (by omega))
        have := List.length_filter_le (fun w => decide (0 ≤ w ∧ w ≤ 3200)) ws
        omega
/-! ### the calls, ready to use -/
theorem go_source {c s : Int} {K : Sl → Option Ct → Prop} (h0 : 0 ≤ s) (h1 : s ≤ 1000) (k : ∀ t', Src 1000 t' → K (.mu true t') none) : sp__law_source [.val (.int c), .val (.int s)] K := ⟨(c, s), rfl, ⟨h0, h1⟩, k⟩
theorem go_row {t : Ct} {m c : Int} {n : Nat} {K : Sl → Option Ct → Prop} (hc : 1 ≤ c ∧ c ≤ 8) (hm : 0 ≤ m ∧ m ≤ 400) (hs : Src n t) (hn : n + 200 < drawMax) (k : ∀ r t', RowOk r → (r.length : Int) ≤ c → (∀ p ∈ r, PanIn m p) → Src (n + 200) t' → K (.val (rowD r)) (some t')) : sp__law_row [.mu false t, .val (.int c), .val (.int m)] K := ⟨(t, c, m), rfl, n, ⟨hc, hm, hs, hn⟩, k⟩
theorem go_widths {t : Ct} {r : List Pan} {m : Int} {n : Nat} {K : Sl → Option Ct → Prop} (hr : RowOk r) (hm : 0 ≤ m ∧ m ≤ 100) (hs : Src n t) (hn : n + 100 < drawMax) (k : ∀ (ws : List Int) t', (∀ w ∈ ws, wOk w) → ws.length ≤ m + 4 → Src (n + 100) t' → K (.mu true (.lst (ws.map PyData.int))) (some t')) : sp__law_some_widths [.mu false t, .val (rowD r), .val (.int m)] K := ⟨(t, r, m), rfl, n, ⟨hr, hm, hs, hn⟩, fun ws t' h => k ws t' fun w hw => (h w hw).1⟩
theorem go_widths2 {t : Ct} {r : List Pan} {m : Int} {n : Nat} {K : Sl → Option Ct → Prop} (hr : RowOk r) (hm : 0 ≤ m ∧ m ≤ 100) (hs : Src n t) (hn : n + 100 < drawMax) (k : ∀ (ws : List Int) t', (∀ w ∈ ws, wOk w ∧ endR r false ≤ w) → ws.length ≤ m + 4 → Src (n + 100) t' → K (.mu true (.lst (ws.map PyData.int))) (some t')) : sp__law_some_widths [.mu false t, .val (rowD r), .val (.int m)] K := ⟨(t, r, m), rfl, n, ⟨hr, hm, hs, hn⟩, k⟩
theorem go_limitsL {r : List Pan} {K : Sl → Option Ct → Prop} (hr : RowOk r) (k : K (.val (.tuple [.int (endR r false), .int (endR r true)])) none) : sp__law_limits [.val (rowD r)] K := ⟨r, rfl, hr, k⟩
theorem go_limits {r : List Pan} {K : Sl → Option Ct → Prop} (hr : RowOk r) (k : K (.val (.tuple [.int (endR r false), .int (endR r true)])) none) : sp_limits [.val (rowD r)] K := ⟨r, rfl, hr, by rw [limits_eq hr.all]; exact k⟩
theorem go_sizes {r : List Pan} {w : Int} {K : Sl → Option Ct → Prop} (hr : RowOk r) (hw : wOk w) (k : K (optS (divR r (w : Rat))) none) : sp_sizes [.val (rowD r), .val (.int w)] K := ⟨(r, w), rfl, ⟨hr, hw.1, hw.2⟩, k⟩
theorem go_equal {x : D} {K : Sl → Option Ct → Prop} (h : Lay 8 x) (k : K (.val (.bool true)) none) : sp__law_equal 8 [.val x, .val x] K := ⟨x, rfl, ⟨h.shaped (by decide), h.dp2⟩, k⟩
theorem mem_cut {l : List D} {lo hi : Option Int} {d : D} (h : d ∈ cutD l lo hi) : d ∈ l := by
  unfold cutD at h
  exact List.mem_of_mem_drop (List.mem_of_mem_take h)
theorem script_int {ns : List Int} {lo hi : Option Int} {i : Nat} {d : D} (h : (cutD (PyData.int 0 :: ns.map PyData.int) lo hi)[i]? = some d) : ∃ c : Int, d = .int c := by
  rcases List.mem_cons.mp (mem_cut (List.mem_of_getElem? h)) with rfl | h
  · exact ⟨_, rfl⟩
  · obtain ⟨c, _, rfl⟩ := List.mem_map.mp h
    exact ⟨c, rfl⟩
theorem fNe_bb {a b : Bool} {Q : Sl → Prop} (h : Q (.val (.bool (a != b)))) : fNe (.bool a) (.bool b) Q := ⟨rfl, rfl, by
  have e : (!PyData.eqv (.bool a) (.bool b)) = (a != b) := by cases a <;> cases b <;> rfl
  rw [e]; exact h⟩
theorem fEq_bb {a b : Bool} {Q : Sl → Prop} (h : Q (.val (.bool (a == b)))) : fEq (.bool a) (.bool b) Q := ⟨rfl, rfl, by
  have e : (PyData.eqv (.bool a) (.bool b)) = (a == b) := by cases a <;> cases b <;> rfl
  rw [e]; exact h⟩
theorem isNone_opt {o : Option (List Rat)} {Q : Sl → Prop} (h : Q (.val (.bool o.isNone))) : dF (optS o) fun x => fIsN false x .none Q := by
  cases o with
  | none => exact h
  | some xs => exact h
theorem lay_lim {a b : Int} : Lay 2 (.tuple [.int a, .int b]) := lay_tuple fun x hx => by
  simp only [List.mem_cons, List.mem_nil_iff, or_false] at hx
  rcases hx with rfl | rfl <;> exact lay_int _
end DL

namespace DL
open PySem PySem.Spec PyProof.Rows L2
local macro_rules | `(tactic| walk_at "dl") => `(tactic| try simp only [dSeq, dNext, dSet, dSetV, dRet, dRetN, dExpr, dBreak, dCont, dPar, dPar3, dAsg, dTest_S, dNot, dNotV_S, dOp, dUn, dC, dVar_S, dVarS_v, dVarS_m, dMov_S, dMovS_m, sB_b, muL_l, muT_t, isI_i, vaI_i, dF_v, dF_m, dChain, fAdd_ii, fAdd_ll, fAdd_tt, fI_ii, fI0_ii, fMul_ii, fMul_ti, fNeg_i, fEq_ii, fNe_ii, fIsN_n, fIsN_l, fIsN_t, fIsN_i, fIx_l, fIx_t, dANil, dACons, dAAt_S, agD, dTup, dLst, dCB, fAbs_i, fMax2_ii, fMin2_ii, fLen_l, fLen_t, fList_l, fInt_i, dParX_2, dParX_3, fList_t, fTuple_l, fTuple_t, dSl, dONone, dOSome, fSl_l, fSl_t, dIsi_S, dIsi2_S, isiS_s, dCall, agOne, agAll, agAt, agSl_d, agSl_s, agS_m, dBack_n, dBack_s, seqS_l, seqS_t, nos, List.replicate, List.append, List.map, List.cons_append, List.nil_append, List.getElem?_cons_zero, List.getElem?_cons_succ, List.set_cons_zero, List.set_cons_succ, ioOf, List.length_cons, List.length_nil, dYes, gdName, gdTupN, gdCons, gdNil, frzAt, frz, dBor, dBorB, flatS, flatD, Option.getD_some, wipeD, dAug_S, dApp_S, dIns_S, dSetI_S, dIxM_S, dAugL_S, ixN_30, ixN_31, ixN_32, atI_0, atI_1, atI_2, atI_3, atI_4, true_and, reduceCtorEq, false_implies, implies_true, forall_const, Bool.not_true, Bool.not_false, Nat.reduceAdd, decide_true, decide_false, Int.reduceLT, Int.reduceLE, Int.reduceEq])
local macro_rules | `(tactic| walk_at "dt") => `(tactic| (walk_at "dl"; (try simp only [dAnd, dOr, dAndV_S, dOrV_S]); walk_at "dl"))
local macro_rules | `(tactic| walk_at "di") => `(tactic| (walk_at "dl"; (try simp only [dIf, dIte]); walk_at "dl"))
local macro_rules | `(tactic| walk_at "ds") => `(tactic| (walk_at "di"; walk_at "dt"; walk_at "di"))

/-! ### the laws' own fractions -/
def sp__law_fraction : Spec := mkSp (fun x : Int × Int => [.val (.int x.1), .val (.int x.2)]) fun x Q => (0 < x.2 ∧ x.2.natAbs < 2 ^ 8000) ∧ Q (.val (fr ((x.1 : Rat) / x.2))) none
def sp__law_plus : Spec := mkSp (fun x : Rat × Rat => [.val (fr x.1), .val (fr x.2)]) fun x Q => (∃ n m, Sz n x.1 ∧ Sz m x.2 ∧ n + m ≤ 7999) ∧ Q (.val (fr (x.1 + x.2))) none
def sp__law_minus : Spec := mkSp (fun x : Rat × Rat => [.val (fr x.1), .val (fr x.2)]) fun x Q => (∃ n m, Sz n x.1 ∧ Sz m x.2 ∧ n + m ≤ 7999) ∧ Q (.val (fr (x.1 - x.2))) none
def sp__law_less : Spec := mkSp (fun x : Rat × Rat => [.val (fr x.1), .val (fr x.2)]) fun x Q => (Sz 8000 x.1 ∧ Sz 8000 x.2) ∧ Q (.val (.bool (decide (x.1 < x.2)))) none
def sp__law_total : Spec := mkSp (fun x : List Rat => [.val (.list (x.map fr))]) fun x Q => (∃ n, (∀ q ∈ x, Sz n q) ∧ x.length * (n + 1) + 1 + n ≤ 7999) ∧ Q (.val (fr (sumR x))) none
theorem hn__law_fraction : ∀ ρ Qd, sp__law_fraction ρ Qd → ρ.length = 2 := hn_mk fun _ => rfl
theorem hn__law_plus : ∀ ρ Qd, sp__law_plus ρ Qd → ρ.length = 2 := hn_mk fun _ => rfl
theorem hn__law_minus : ∀ ρ Qd, sp__law_minus ρ Qd → ρ.length = 2 := hn_mk fun _ => rfl
theorem hn__law_less : ∀ ρ Qd, sp__law_less ρ Qd → ρ.length = 2 := hn_mk fun _ => rfl
theorem hn__law_total : ∀ ρ Qd, sp__law_total ρ Qd → ρ.length = 1 := hn_mk fun _ => rfl
/- _law_fraction: slots 0=top 1=bottom 2=one 3=other -/
def w__law_fraction : DS := (dSeq (dPar 2 3 (dACons (dCB fAbs (dACons (dVar 0) dANil)) (dACons (dVar 1) dANil))) (dSeq (dWhile (dTest (dOp fGt (dVar 3) (dC (.int 0)))) (dPar 2 3 (dACons (dVar 3) (dACons (dOp fMod (dVar 2) (dVar 3)) dANil)))) (dRet (dTup (dACons (dOp fDiv (dVar 0) (dVar 2)) (dACons (dOp fDiv (dVar 1) (dVar 2)) dANil))))))
/- _law_plus: slots 0=one 1=other -/
def w__law_plus : DS := (dRet (dCall false sp__law_fraction (dACons (dOp fAdd (dOp fMul (dOp fIx (dVar 0) (dC (.int 0))) (dOp fIx (dVar 1) (dC (.int 1)))) (dOp fMul (dOp fIx (dVar 1) (dC (.int 0))) (dOp fIx (dVar 0) (dC (.int 1))))) (dACons (dOp fMul (dOp fIx (dVar 0) (dC (.int 1))) (dOp fIx (dVar 1) (dC (.int 1)))) dANil))))
/- _law_minus: slots 0=one 1=other -/
def w__law_minus : DS := (dRet (dCall false sp__law_fraction (dACons (dOp fSub (dOp fMul (dOp fIx (dVar 0) (dC (.int 0))) (dOp fIx (dVar 1) (dC (.int 1)))) (dOp fMul (dOp fIx (dVar 1) (dC (.int 0))) (dOp fIx (dVar 0) (dC (.int 1))))) (dACons (dOp fMul (dOp fIx (dVar 0) (dC (.int 1))) (dOp fIx (dVar 1) (dC (.int 1)))) dANil))))
/- _law_less: slots 0=one 1=other -/
def w__law_less : DS := (dRet (dOp fLt (dOp fMul (dOp fIx (dVar 0) (dC (.int 0))) (dOp fIx (dVar 1) (dC (.int 1)))) (dOp fMul (dOp fIx (dVar 1) (dC (.int 0))) (dOp fIx (dVar 0) (dC (.int 1))))))
/- _law_total: slots 0=values 1=found 2=value -/
def w__law_total : DS := (dSeq (dSet 1 (dTup (dACons (dC (.int 0)) (dACons (dC (.int 1)) dANil)))) (dSeq (dFor (diSeq (dVar 0)) (gdName 2) (dSet 1 (dCall false sp__law_plus (dACons (dVar 1) (dACons (dVar 2) dANil))))) (dRet (dVar 1))))
theorem vc__law_fraction : VC sp__law_fraction w__law_fraction 2 := by
  rintro ρ Qd ⟨⟨a, b⟩, rfl, ⟨hb, hb2⟩, h⟩
  simp only at hb hb2 h
  unfold w__law_fraction
  walk_at "dl"
  simp only [dWhile]
  walk_at "dl"
  refine ⟨fun m ρ => ∃ x y : Nat, ρ = [.val (.int a), .val (.int b), .val (.int x), .val (.int y)] ∧ Nat.gcd x y = Nat.gcd a.natAbs b.natAbs ∧ m = y, ⟨b.natAbs, a.natAbs, b.natAbs, ?_, rfl, rfl⟩, ?_⟩
  · have e1 : (if a < 0 then -a else a) = (a.natAbs : Int) := by split <;> omega
    have e2 : b = (b.natAbs : Int) := by omega
    rw [e1, ← e2]
  · rintro m ρ ⟨x, y, rfl, hg, rfl⟩
    walk_at "di"
    by_cases hy : (0 : Int) < (m : Int)
    · rw [decide_eq_true hy]
      refine ⟨hy, x % m, Nat.mod_lt _ (by omega), m, x % m, rfl, ?_, rfl⟩
      rw [← hg, Nat.gcd_comm x m, Nat.gcd_rec m x, Nat.gcd_comm]
    · rw [decide_eq_false hy]
      have y0 : m = 0 := by omega
      subst y0
      rw [Nat.gcd_zero_right] at hg
      have gpos : 0 < Nat.gcd a.natAbs b.natAbs := Nat.gcd_pos_of_pos_right _ (by omega)
      have gle : Nat.gcd a.natAbs b.natAbs ≤ b.natAbs := Nat.gcd_le_right _ (by omega)
      obtain ⟨p1, p2⟩ := div_parts a b (by omega)
      rw [if_pos hb, Int.one_mul] at p1 p2
      have hd : ∀ z : Int, CDivW z (x : Int) := fun z => div_ok (b := 8000) (by omega) (by show x < 2 ^ 8000; omega) (by decide)
      have fin : Qd (.val (.tuple [.int (a / (x : Int)), .int (b / (x : Int))])) none := by
        rw [hg, ← p1, ← p2]; exact h
      walk_at "di"
      exact ⟨hd _, hd _, lim2, fin⟩
theorem den_posI (p q : Rat) : 0 < (p.den * q.den : Int) := by
  have := p.den_pos
  have := q.den_pos
  exact Int.mul_pos (by omega) (by omega)
theorem vc__law_plus : VC sp__law_plus w__law_plus 0 := by
  rintro ρ Qd ⟨⟨p, q⟩, rfl, ⟨n, m, hp, hq, hnm⟩, h⟩
  unfold w__law_plus fr
  walk_at "dl"
  refine ⟨mul_ok hp.1 (den_abs hq) (by omega), mul_ok hq.1 (den_abs hp) (by omega), mul_ok (den_abs hp) (den_abs hq) (by omega), (_, _), rfl, ⟨den_posI p q, ?_⟩, ?_⟩
  · exact Nat.lt_of_lt_of_le (mul_lt2 (den_abs hp) (den_abs hq)) (Nat.pow_le_pow_right (by decide) (by omega))
  · rw [rat_add_eq] at h; exact h
theorem vc__law_minus : VC sp__law_minus w__law_minus 0 := by
  rintro ρ Qd ⟨⟨p, q⟩, rfl, ⟨n, m, hp, hq, hnm⟩, h⟩
  unfold w__law_minus fr
  walk_at "dl"
  refine ⟨mul_ok hp.1 (den_abs hq) (by omega), mul_ok hq.1 (den_abs hp) (by omega), mul_ok (den_abs hp) (den_abs hq) (by omega), (_, _), rfl, ⟨den_posI p q, ?_⟩, ?_⟩
  · exact Nat.lt_of_lt_of_le (mul_lt2 (den_abs hp) (den_abs hq)) (Nat.pow_le_pow_right (by decide) (by omega))
  · rw [rat_sub_eq] at h; exact h
theorem vc__law_less : VC sp__law_less w__law_less 0 := by
  rintro ρ Qd ⟨⟨p, q⟩, rfl, ⟨hp, hq⟩, h⟩
  unfold w__law_less fr
  walk_at "di"
  refine ⟨mul_ok hp.1 (den_abs hq) (by decide), mul_ok hq.1 (den_abs hp) (by decide), ?_⟩
  have e : decide (p.num * ↑q.den < q.num * ↑p.den) = decide (p < q) := decide_eq_decide.mpr (Rat.lt_iff p q).symm
  rw [e]; exact h
theorem vc__law_total : VC sp__law_total w__law_total 2 := by
  rintro ρ Qd ⟨l, rfl, ⟨n, hl, hn⟩, h⟩
  unfold w__law_total
  walk_at "dl"
  refine ⟨lim2, ?_⟩
  simp only [dFor, diSeq]
  walk_at "dl"
  refine ⟨fun i ρ => ∃ z, ρ = [.val (.list (l.map fr)), .val (fr (sumR (l.take i))), z], ⟨.no, rfl⟩, ?_, ?_⟩
  · rintro i d ρ hi ⟨z, rfl⟩
    obtain ⟨q, hq, rfl⟩ : ∃ q, l[i]? = some q ∧ fr q = d := by simpa using hi
    walk_at "dl"
    refine ⟨(_, _), rfl, ⟨_, n, sz_sum fun q hq => hl q (List.mem_of_mem_take hq), hl q (List.mem_of_getElem? hq), ?_⟩, _, by rw [sumR_take hq]⟩
    have : (l.take i).length ≤ l.length := by rw [List.length_take]; omega
    have := Nat.mul_le_mul_right (n + 1) this
    omega
  · rintro ρ ⟨z, rfl⟩
    walk_at "dl"
    rw [List.length_map, List.take_length]
    exact h
/-! ### calls, ready to use -/
theorem go_lless {p q : Rat} {n m : Nat} {K : Sl → Option Ct → Prop} (hp : Sz n p) (hq : Sz m q) (hn : n ≤ 8000) (hm : m ≤ 8000) (k : K (.val (.bool (decide (p < q)))) none) : sp__law_less [.val (fr p), .val (fr q)] K := ⟨(p, q), rfl, ⟨hp.mono hn, hq.mono hm⟩, k⟩
theorem go_lminus {p q : Rat} {n m : Nat} {K : Sl → Option Ct → Prop} (hp : Sz n p) (hq : Sz m q) (hn : n + m ≤ 7999) (k : K (.val (fr (p - q))) none) : sp__law_minus [.val (fr p), .val (fr q)] K := ⟨(p, q), rfl, ⟨n, m, hp, hq, hn⟩, k⟩
theorem go_lplus {p q : Rat} {n m : Nat} {K : Sl → Option Ct → Prop} (hp : Sz n p) (hq : Sz m q) (hn : n + m ≤ 7999) (k : K (.val (fr (p + q))) none) : sp__law_plus [.val (fr p), .val (fr q)] K := ⟨(p, q), rfl, ⟨n, m, hp, hq, hn⟩, k⟩
theorem go_ltotal {x : List Rat} {n : Nat} {K : Sl → Option Ct → Prop} (hx : ∀ q ∈ x, Sz n q) (hn : x.length * (n + 1) + 1 + n ≤ 7999) (k : K (.val (fr (sumR x))) none) : sp__law_total [.val (.list (x.map fr))] K := ⟨x, rfl, ⟨n, hx, hn⟩, k⟩
theorem go_lfrac {a b : Int} {K : Sl → Option Ct → Prop} (hb : 0 < b) (hb2 : b.natAbs < 2 ^ 8000) (k : K (.val (fr ((a : Rat) / b))) none) : sp__law_fraction [.val (.int a), .val (.int b)] K := ⟨(a, b), rfl, ⟨hb, hb2⟩, k⟩
end DL

namespace DL
open PySem PySem.Spec PyProof.Rows L2
/-! ### plain law: between corners every division lies on a line -/
def Ch {α : Type} (R : α → α → Prop) : List α → Prop
  | [] => True
  | [_] => True
  | x :: y :: l => R x y ∧ Ch R (y :: l)
theorem ch_of {α : Type} {R : α → α → Prop} : ∀ {l : List α}, (∀ a b, Cons l a b → R a b) → Ch R l
  | [], _ => trivial
  | [_], _ => trivial
  | x :: y :: l, h => ⟨h x y ⟨[], l, rfl⟩, ch_of (l := y :: l) fun a b ⟨l1, l2, e⟩ => h a b ⟨x :: l1, l2, by rw [e]; rfl⟩⟩
theorem ch_cons {α : Type} {R : α → α → Prop} : ∀ {l : List α}, Ch R l → ∀ {a b}, Cons l a b → R a b
  | [], _, a, b, ⟨l1, l2, e⟩ => by simp at e
  | [_], _, a, b, ⟨l1, l2, e⟩ => by
    have := congrArg List.length e
    simp at this
    omega
  | x :: y :: l, h, a, b, ⟨l1, l2, e⟩ => by
    cases l1 with
    | nil =>
      injection e with e1 e
      injection e with e2 e
      rw [← e1, ← e2]
      exact h.1
    | cons z l1 =>
      injection e with e1 e
      exact ch_cons (l := y :: l) h.2 ⟨l1, l2, e⟩
theorem ch_app {α : Type} {R : α → α → Prop} : ∀ {l m : List α}, Ch R l → Ch R m → (∀ x y, l.getLast? = some x → m.head? = some y → R x y) → Ch R (l ++ m)
  | [], m, _, hm, _ => hm
  | [x], [], _, _, _ => trivial
  | [x], y :: m, _, hm, h => ⟨h x y rfl rfl, hm⟩
  | x :: y :: l, m, hl, hm, h => ⟨hl.1, ch_app (l := y :: l) hl.2 hm fun a b ha hb => h a b (by rw [List.getLast?_cons_cons]; exact ha) hb⟩
theorem ch_snoc {α : Type} {R : α → α → Prop} {l : List α} {x : α} (hl : Ch R l) (h : ∀ y, l.getLast? = some y → R y x) : Ch R (l ++ [x]) := ch_app hl trivial fun a b ha hb => by
  injection hb with hb
  subst hb
  exact h a ha
theorem ch_map {α β : Type} {R : α → α → Prop} {S : β → β → Prop} {f : α → β} (h : ∀ a b, R a b → S (f a) (f b)) : ∀ {l : List α}, Ch R l → Ch S (l.map f)
  | [], _ => trivial
  | [_], _ => trivial
  | x :: y :: l, hl => ⟨h x y hl.1, ch_map (l := y :: l) h hl.2⟩
theorem ch_tail {α : Type} {R : α → α → Prop} : ∀ {l : List α}, Ch R l → Ch R l.tail
  | [], _ => trivial
  | [_], _ => trivial
  | _ :: _ :: _, h => h.2
theorem cons_rev {α : Type} {l : List α} {a b : α} (c : Cons l.reverse a b) : Cons l b a := by
  obtain ⟨l1, l2, e⟩ := c
  refine ⟨l2.reverse, l1.reverse, ?_⟩
  have := congrArg List.reverse e
  rw [List.reverse_reverse] at this
  rw [this]
  simp
/-- neighbours among the rows of sizes -/
def Lin (r : List Pan) (x y : List Rat) : Prop := ∃ a b, (Cons (timesR r true) a b ∧ x = sizesT r true a ∧ y = sizesT r true b) ∨ (Cons (timesR r false) a b ∧ x = sizesT r false b ∧ y = sizesT r false a)
theorem rows_lin {r : List Pan} (h : ∀ p ∈ r, PanOk p) : Ch (Lin r) (rowsR r) := by
  obtain ⟨l, hl⟩ := times_head h true
  obtain ⟨m, hm⟩ := times_head h false
  have ht : Ch (fun a b => Cons (timesR r true) a b) (timesR r true) := ch_of fun a b c => c
  have hf : Ch (fun a b => Cons (timesR r false) b a) (timesR r false).reverse := ch_of fun a b c => cons_rev c
  unfold rowsR
  refine ch_app (ch_map (fun a b c => ⟨b, a, .inr ⟨c, rfl, rfl⟩⟩) hf) (ch_map (fun a b c => ⟨a, b, .inl ⟨c, rfl, rfl⟩⟩) (ch_tail ht)) fun x y hx hy => ?_
  rw [List.getLast?_map, List.getLast?_reverse, hm] at hx
  injection hx with hx
  rw [hl] at hy ht
  cases l with
  | nil => cases hy
  | cons t1 l =>
    injection hy with hy
    subst hx hy
    exact ⟨0, t1, .inl ⟨by rw [hl]; exact ⟨[], l, rfl⟩, sizes_zero false true, rfl⟩⟩
theorem sumR_eq_len {r : List Pan} {f g : Pan → Rat} (h : ∀ p ∈ r, f p ≤ g p) (e : sumR (r.map f) = sumR (r.map g)) : r.map f = r.map g := List.map_congr_left (sumR_map_eq h e)
theorem Lin.le {r : List Pan} (h : ∀ p ∈ r, PanOk p) {x y : List Rat} (l : Lin r x y) : sumR x ≤ sumR y ∧ (sumR x = sumR y → x = y) := by
  obtain ⟨a, b, ⟨c, rfl, rfl⟩ | ⟨c, rfl, rfl⟩⟩ := l
  · have hab := Rat.le_of_lt (cons_lt (times_sorted r true) c)
    exact ⟨sum_up h hab, fun e => sumR_eq_len (fun p hp => size_up (h p hp) hab) e⟩
  · have hab := Rat.le_of_lt (cons_lt (times_sorted r false) c)
    exact ⟨sum_down h hab, fun e => sumR_eq_len (fun p hp => size_down (h p hp) hab) e⟩
/-- neighbours among the corners -/
def Nb (r : List Pan) (c d : Rat × List Rat) : Prop := Lin r c.2 d.2 ∧ c.1 = sumR c.2 ∧ d.1 = sumR d.2 ∧ c.1 < d.1
theorem fold_nb {r : List Pan} (h : ∀ p ∈ r, PanOk p) : ∀ {l : List (List Rat)} {acc : List (Rat × List Rat)} {x : List Rat}, acc.getLast? = some (sumR x, x) → Ch (Nb r) acc → Ch (Lin r) (x :: l) → Ch (Nb r) (l.foldl stepK acc)
  | [], _, _, _, ha, _ => ha
  | y :: l, acc, x, hx, ha, hl => by
    obtain ⟨hxy, hl⟩ := hl
    obtain ⟨h1, h2⟩ := hxy.le h
    rw [List.foldl_cons]
    by_cases c : sumR x < sumR y
    · have e : stepK acc y = acc ++ [(sumR y, y)] := by
        unfold stepK
        rw [hx]
        simp only [if_pos c]
      rw [e]
      exact fold_nb h (x := y) (by simp) (ch_snoc ha fun z hz => by
        rw [hx] at hz
        injection hz with hz
        subst hz
        exact ⟨hxy, rfl, rfl, c⟩) hl
    · have e : stepK acc y = acc := by
        unfold stepK
        rw [hx]
        simp only [if_neg c]
      rw [e]
      have e2 := h2 (by grind)
      subst e2
      exact fold_nb h hx ha hl
theorem knots_nb {r : List Pan} (h : ∀ p ∈ r, PanOk p) : Ch (Nb r) (knotsR r) := by
  have hl := rows_lin h
  unfold knotsR
  cases e : rowsR r with
  | nil => exact trivial
  | cons x l =>
    rw [e] at hl
    exact fold_nb h (l := l) (acc := [(sumR x, x)]) (x := x) rfl trivial hl
theorem fold_mem : ∀ {l : List (List Rat)} {acc : List (Rat × List Rat)} {c : Rat × List Rat}, c ∈ l.foldl stepK acc → c ∈ acc ∨ ∃ x ∈ l, c = (sumR x, x)
  | [], _, _, h => .inl h
  | x :: l, acc, c, h => by
    rcases fold_mem (l := l) h with h | ⟨y, hy, e⟩
    · unfold stepK at h
      split at h
      · exact .inr ⟨x, List.mem_cons_self, List.mem_singleton.mp h⟩
      · split at h
        · rcases List.mem_append.mp h with h | h
          · exact .inl h
          · exact .inr ⟨x, List.mem_cons_self, List.mem_singleton.mp h⟩
        · exact .inl h
    · exact .inr ⟨y, List.mem_cons_of_mem _ hy, e⟩
theorem knots_dv {r : List Pan} (h : ∀ p ∈ r, PanOk p) {c : Rat × List Rat} (hc : c ∈ knotsR r) : Dv r c.1 c.2 := by
  rcases fold_mem hc with hc | ⟨x, hx, rfl⟩
  · cases hc
  · unfold rowsR at hx
    rcases List.mem_append.mp hx with hx | hx <;> obtain ⟨t, ht, rfl⟩ := List.mem_map.mp hx
    · exact ⟨false, t, times_nonneg h false t (List.mem_reverse.mp ht), rfl, rfl⟩
    · exact ⟨true, t, times_nonneg h true t (List.mem_of_mem_tail ht), rfl, rfl⟩
/-- the sizes on the line between two corners -/
def interp (c d : Rat × List Rat) (w : Rat) : List Rat := (c.2.zip d.2).map fun z => z.1 + (z.2 - z.1) * (w - c.1) / (d.1 - c.1)
theorem part_of {a b w : Rat} (hab : a < b) (h1 : a ≤ w) (h2 : w ≤ b) : ∃ k, 0 ≤ k ∧ k ≤ 1 ∧ k * (b - a) = w - a ∧ ∀ z, z * (w - a) / (b - a) = z * k := by
  have hp : 0 < b - a := by grind
  have e : (w - a) / (b - a) * (b - a) = w - a := Rat.div_mul_cancel (by grind)
  refine ⟨(w - a) / (b - a), ?_, ?_, e, fun z => ?_⟩
  · rw [Rat.div_def]
    exact Rat.mul_nonneg (by grind) (Rat.le_of_lt (Rat.inv_pos.mpr hp))
  · rw [← Rat.not_lt]
    intro z
    have := Rat.mul_lt_mul_of_pos_right z hp
    rw [e] at this
    grind
  · rw [Rat.div_def, Rat.div_def, Rat.mul_assoc]
theorem zip_maps {α β γ : Type} (f : α → β) (g : α → γ) : ∀ l : List α, (l.map f).zip (l.map g) = l.map fun x => (f x, g x)
  | [] => rfl
  | x :: l => by rw [List.map_cons, List.map_cons, List.zip_cons_cons, zip_maps f g l, List.map_cons]
theorem Nb.interp {r : List Pan} (h : ∀ p ∈ r, PanOk p) {c d : Rat × List Rat} (n : Nb r c d) {w : Rat} (h1 : c.1 ≤ w) (h2 : w ≤ d.1) : Dv r w (interp c d w) := by
  obtain ⟨c1, c2⟩ := c
  obtain ⟨d1, d2⟩ := d
  obtain ⟨l, e1, e2, hlt⟩ := n
  simp only at e1 e2 hlt h1 h2 l
  obtain ⟨k, k0, k1, hk, hz⟩ := part_of hlt h1 h2
  obtain ⟨a, b, ⟨cc, rfl, rfl⟩ | ⟨cc, rfl, rfl⟩⟩ := l
  · have hab := cons_lt (times_sorted r true) cc
    have ha0 := times_nonneg h true a (cons_mem cc).1
    have hp : 0 ≤ k * (b - a) := Rat.mul_nonneg k0 (by grind)
    have hq : 0 ≤ (1 - k) * (b - a) := Rat.mul_nonneg (by grind) (by grind)
    have t1 : a ≤ a + k * (b - a) := by grind
    have t2 : a + k * (b - a) ≤ b := by grind
    refine ⟨true, a + k * (b - a), by grind, ?_, ?_⟩
    · unfold DL.interp
      simp only [hz]
      unfold sizesT
      rw [zip_maps, List.map_map]
      refine List.map_congr_left fun p hp => ?_
      have s1 := seg_line hp (h p hp) cc ha0 Rat.le_refl (Rat.le_of_lt hab)
      have s2 := seg_line hp (h p hp) cc ha0 (Rat.le_of_lt hab) Rat.le_refl
      have s3 := seg_line hp (h p hp) cc ha0 t1 t2
      simp only [Function.comp, if_true] at s1 s2 s3 ⊢
      grind
    · have s1 := sum_seg h cc Rat.le_refl (Rat.le_of_lt hab)
      have s2 := sum_seg h cc (Rat.le_of_lt hab) Rat.le_refl
      have s3 := sum_seg h cc t1 t2
      unfold DL.interp
      simp only [hz]
      have e3 : ((sizesT r true a).zip (sizesT r true b)).map (fun z => z.1 + (z.2 - z.1) * k) = sizesT r true (a + k * (b - a)) := by
        unfold sizesT
        rw [zip_maps, List.map_map]
        refine List.map_congr_left fun p hp => ?_
        have s1 := seg_line hp (h p hp) cc ha0 Rat.le_refl (Rat.le_of_lt hab)
        have s2 := seg_line hp (h p hp) cc ha0 (Rat.le_of_lt hab) Rat.le_refl
        have s3 := seg_line hp (h p hp) cc ha0 t1 t2
        simp only [Function.comp, if_true] at s1 s2 s3 ⊢
        grind
      rw [e3, s3]
      unfold sgn at s1 s2 ⊢
      simp only [if_true] at s1 s2 ⊢
      grind
  · have hab := cons_lt (times_sorted r false) cc
    have ha0 := times_nonneg h false a (cons_mem cc).1
    have hp : 0 ≤ k * (b - a) := Rat.mul_nonneg k0 (by grind)
    have hq : 0 ≤ (1 - k) * (b - a) := Rat.mul_nonneg (by grind) (by grind)
    have t1 : a ≤ b - k * (b - a) := by grind
    have t2 : b - k * (b - a) ≤ b := by grind
    have e3 : ((sizesT r false b).zip (sizesT r false a)).map (fun z => z.1 + (z.2 - z.1) * k) = sizesT r false (b - k * (b - a)) := by
      unfold sizesT
      rw [zip_maps, List.map_map]
      refine List.map_congr_left fun p hp => ?_
      have s1 := seg_line hp (h p hp) cc ha0 Rat.le_refl (Rat.le_of_lt hab)
      have s2 := seg_line hp (h p hp) cc ha0 (Rat.le_of_lt hab) Rat.le_refl
      have s3 := seg_line hp (h p hp) cc ha0 t1 t2
      simp only [Function.comp, Bool.false_eq_true, if_false] at s1 s2 s3 ⊢
      grind
    refine ⟨false, b - k * (b - a), by grind, ?_, ?_⟩
    · unfold DL.interp
      simp only [hz]
      exact e3
    · have s1 := sum_seg h cc Rat.le_refl (Rat.le_of_lt hab)
      have s2 := sum_seg h cc (Rat.le_of_lt hab) Rat.le_refl
      have s3 := sum_seg h cc t1 t2
      unfold DL.interp
      simp only [hz]
      rw [e3, s3]
      unfold sgn at s1 s2 ⊢
      simp only [Bool.false_eq_true, if_false] at s1 s2 ⊢
      grind
end DL

namespace DL
open PySem PySem.Spec PyProof.Rows L2
/-! ### plain law: the corners give the division -/
def midR (w : Rat) (z : (Rat × List Rat) × (Rat × List Rat)) : Option (List Rat) := if z.1.1 < w ∧ w < z.2.1 then some (interp z.1 z.2 w) else none
def hitR (w : Rat) (c : Rat × List Rat) : Option (List Rat) := if c.1 = w then some c.2 else none
def solveR (cs : List (Rat × List Rat)) (w : Rat) : Option (List Rat) := match cs.findSome? (hitR w) with
  | some xs => some xs
  | none => (cs.zip cs.tail).findSome? (midR w)
theorem crossingA {α : Type} (f : α → Rat) (w : Rat) : ∀ (l : List α) (a : α), f a < w → w ≤ f ((a :: l).getLast (List.cons_ne_nil _ _)) → ∃ c d, Cons (a :: l) c d ∧ f c < w ∧ w ≤ f d
  | [], a, h1, h2 => by
    simp at h2
    grind
  | b :: l, a, h1, h2 => by
    by_cases hb : f b < w
    · obtain ⟨c, d, ⟨l1, l2, e⟩, h3, h4⟩ := crossingA f w l b hb (by rwa [List.getLast_cons (List.cons_ne_nil _ _)] at h2)
      exact ⟨c, d, ⟨a :: l1, l2, by rw [e]; rfl⟩, h3, h4⟩
    · exact ⟨a, b, ⟨[], l, rfl⟩, h1, by grind⟩
theorem solve_dv {r : List Pan} (h : ∀ p ∈ r, PanOk p) {w : Rat} {xs : List Rat} (hs : solveR (knotsR r) w = some xs) : Dv r w xs := by
  unfold solveR at hs
  split at hs
  · rename_i ys e
    injection hs with hs
    subst hs
    obtain ⟨c, hc, hd⟩ := List.exists_of_findSome?_eq_some e
    unfold hitR at hd
    split at hd
    · rename_i hw
      injection hd with hd
      rw [← hd, ← hw]
      exact knots_dv h hc
    · cases hd
  · obtain ⟨c, hc, hd⟩ := List.exists_of_findSome?_eq_some hs
    have hn := ch_cons (knots_nb h) (cons_zip.mp (show (c.1, c.2) ∈ _ from hc))
    unfold midR at hd
    split at hd
    · rename_i hw
      injection hd with hd
      rw [← hd]
      exact hn.interp h (Rat.le_of_lt hw.1) (Rat.le_of_lt hw.2)
    · cases hd
theorem solve_none {r : List Pan} (h : ∀ p ∈ r, PanOk p) {w : Rat} (hs : solveR (knotsR r) w = none) : ¬ ((endR r false : Rat) ≤ w ∧ w ≤ (endR r true : Rat)) := by
  intro hw
  unfold solveR at hs
  split at hs
  · cases hs
  · rename_i e
    have hne : ∀ c ∈ knotsR r, c.1 ≠ w := fun c hc hcw => by
      have := List.findSome?_eq_none_iff.mp e c hc
      unfold hitR at this
      rw [if_pos hcw] at this
      cases this
    have hd := knots_head (r := r)
    obtain ⟨z, hz, hz1⟩ := knots_last h
    rw [sum_end h (sorted_last (times_sorted r true) (times_ne r true))] at hz1
    cases ek : knotsR r with
    | nil => exact absurd ek (knots_ne r)
    | cons a l =>
      rw [ek] at hd hz
      injection hd with hd
      have ha : a.1 = (endR r false : Rat) := by
        rw [hd]
        exact sum_end h (sorted_last (times_sorted r false) (times_ne r false))
      rw [List.getLast?_eq_some_getLast (List.cons_ne_nil _ _)] at hz
      injection hz with hz
      have hal := hne a (by rw [ek]; exact List.mem_cons_self)
      obtain ⟨c, d, hc, h1, h2⟩ := crossingA (fun c : Rat × List Rat => c.1) w l a (by show a.1 < w; grind) (by show w ≤ ((a :: l).getLast (List.cons_ne_nil _ _)).1; rw [hz, hz1]; exact hw.2)
      rw [← ek] at hc
      have hd2 := hne d (cons_mem hc).2
      have := List.findSome?_eq_none_iff.mp hs (c, d) (cons_zip.mpr hc)
      unfold midR at this
      rw [if_pos ⟨h1, by simp only at h2 ⊢; grind⟩] at this
      cases this
theorem solve_eq {r : List Pan} (h : ∀ p ∈ r, PanOk p) (w : Rat) : solveR (knotsR r) w = divR r w := by
  cases e : solveR (knotsR r) w with
  | none => exact (divR_none h).mpr (solve_none h e) |>.symm
  | some xs =>
    have d := solve_dv h e
    cases e2 : divR r w with
    | none => exact absurd (d.range h) ((divR_none h).mp e2)
    | some ys => rw [(divR_some h e2).unique h d]
/-! ### the signed line of times -/
def sgP (p : Pan) (t : Rat) : Rat := clampR (p.lo : Rat) ((p.b : Rat) + ((if 0 ≤ t then p.g else p.s : Int) : Rat) * t) (p.hi : Rat)
def sigR (r : List Pan) (t : Rat) : List Rat := r.map fun p => sgP p t
theorem sg_pos {p : Pan} {t : Rat} (h : 0 ≤ t) : sgP p t = sizeT p true t := by
  unfold sgP sizeT facP
  rw [if_pos h, if_pos rfl]
theorem sg_neg {p : Pan} {t : Rat} (h : 0 ≤ t) : sgP p (-t) = sizeT p false t := by
  by_cases c : t = 0
  · subst c
    rw [show -(0 : Rat) = 0 from rfl, sg_pos Rat.le_refl, size_zero, size_zero]
  · unfold sgP sizeT facP
    rw [if_neg (by grind), if_neg Bool.false_ne_true, Rat.intCast_neg]
    congr 1
    grind
/-- the moments, ascending -/
def sMom (r : List Pan) : List Rat := (timesR r false).reverse.map (fun t => -t) ++ (timesR r true).tail
theorem rows_sig {r : List Pan} (h : ∀ p ∈ r, PanOk p) : rowsR r = (sMom r).map (sigR r) := by
  unfold rowsR sMom
  rw [List.map_append, List.map_map]
  congr 1
  · refine List.map_congr_left fun t ht => ?_
    exact List.map_congr_left fun p _ => (sg_neg (times_nonneg h false t (List.mem_reverse.mp ht))).symm
  · refine List.map_congr_left fun t ht => ?_
    exact List.map_congr_left fun p _ => (sg_pos (times_nonneg h true t (List.mem_of_mem_tail ht))).symm
def sEnds (p : Pan) : List Rat := [p.lo - p.b, p.hi - p.b].filterMap fun e : Int => if 0 < (if 0 ≤ e then p.g else p.s) then some ((e : Rat) / ((if 0 ≤ e then p.g else p.s : Int) : Rat)) else none
def sList (r : List Pan) : List Rat := 0 :: r.flatMap sEnds
theorem tail_mem {r : List Pan} (h : ∀ p ∈ r, PanOk p) {x : Rat} : x ∈ sMom r ↔ (-x ∈ timesR r false ∨ x ∈ timesR r true) := by
  obtain ⟨l, hl⟩ := times_head h true
  unfold sMom
  rw [List.mem_append, List.mem_map]
  constructor
  · rintro (⟨t, ht, rfl⟩ | hx)
    · exact .inl (by rw [Rat.neg_neg]; exact List.mem_reverse.mp ht)
    · exact .inr (List.mem_of_mem_tail hx)
  · rintro (hx | hx)
    · exact .inl ⟨-x, List.mem_reverse.mpr hx, Rat.neg_neg x⟩
    · rw [hl] at hx ⊢
      rcases List.mem_cons.mp hx with rfl | hx
      · exact .inl ⟨0, List.mem_reverse.mpr (times_zero r false), rfl⟩
      · exact .inr hx
theorem sEnds_mem {p : Pan} {x : Rat} : x ∈ sEnds p ↔ ∃ e ∈ [p.lo - p.b, p.hi - p.b], 0 < (if 0 ≤ e then p.g else p.s) ∧ x = (e : Rat) / ((if 0 ≤ e then p.g else p.s : Int) : Rat) := by
  unfold sEnds
  rw [List.mem_filterMap]
  constructor
  · rintro ⟨e, he, hx⟩
    by_cases h : 0 < (if 0 ≤ e then p.g else p.s)
    · rw [if_pos h] at hx
      injection hx with hx
      exact ⟨e, he, h, hx.symm⟩
    · rw [if_neg h] at hx
      cases hx
  · rintro ⟨e, he, h, rfl⟩
    exact ⟨e, he, by rw [if_pos h]⟩
theorem mom_mem {r : List Pan} {g : Bool} {x : Rat} : x ∈ timesR r g ↔ x = 0 ∨ ∃ p ∈ r, 0 < facA g p ∧ ∃ e ∈ endsI g p, 0 < e ∧ x = (e : Rat) / (facA g p : Rat) := by
  unfold timesR
  rw [ord_mem]
  unfold momR
  rw [List.mem_cons, List.mem_flatMap]
  constructor
  · rintro (h | ⟨p, hp, hx⟩)
    · exact .inl h
    · unfold endsR at hx
      split at hx
      · rename_i hf
        obtain ⟨e, he, rfl⟩ := List.mem_map.mp hx
        obtain ⟨he, h0⟩ := List.mem_filter.mp he
        exact .inr ⟨p, hp, hf, e, he, of_decide_eq_true h0, rfl⟩
      · cases hx
  · rintro (h | ⟨p, hp, hf, e, he, h0, rfl⟩)
    · exact .inl h
    · refine .inr ⟨p, hp, ?_⟩
      unfold endsR
      rw [if_pos hf]
      exact List.mem_map.mpr ⟨e, List.mem_filter.mpr ⟨he, decide_eq_true h0⟩, rfl⟩
theorem sList_mem {r : List Pan} (h : ∀ p ∈ r, PanOk p) {x : Rat} : x ∈ sList r ↔ x ∈ sMom r := by
  rw [tail_mem h, mom_mem, mom_mem]
  unfold sList
  rw [List.mem_cons, List.mem_flatMap]
  constructor
  · rintro (rfl | ⟨p, hp, hx⟩)
    · exact .inr (.inl rfl)
    · obtain ⟨e, he, hf, rfl⟩ := sEnds_mem.mp hx
      by_cases c : 0 ≤ e
      · rw [if_pos c] at hf ⊢
        by_cases c0 : e = 0
        · subst c0
          exact .inr (.inl (by simp [Rat.div_def]))
        · exact .inr (.inr ⟨p, hp, hf, e, he, by omega, rfl⟩)
      · rw [if_neg c] at hf ⊢
        refine .inl (.inr ⟨p, hp, hf, -e, ?_, by omega, ?_⟩)
        · simp only [endsI, Bool.false_eq_true, if_false, List.mem_cons, List.mem_nil_iff, or_false] at he ⊢
          omega
        · rw [Rat.intCast_neg, Rat.div_def, Rat.div_def, Rat.neg_mul]; rfl
  · rintro ((hx | ⟨p, hp, hf, e, he, h0, hx⟩) | (rfl | ⟨p, hp, hf, e, he, h0, rfl⟩))
    · exact .inl (by grind)
    · refine .inr ⟨p, hp, sEnds_mem.mpr ⟨-e, ?_, ?_, ?_⟩⟩
      · simp only [endsI, Bool.false_eq_true, if_false, List.mem_cons, List.mem_nil_iff, or_false] at he ⊢
        omega
      · rw [if_neg (by omega)]; exact hf
      · rw [if_neg (by omega), Rat.intCast_neg, Rat.div_def, Rat.neg_mul, ← Rat.div_def]
        have : x = -(-x) := (Rat.neg_neg x).symm
        rw [this, hx]; rfl
    · exact .inl rfl
    · exact .inr ⟨p, hp, sEnds_mem.mpr ⟨e, he, by rw [if_pos (by omega)]; exact hf, by rw [if_pos (by omega)]; rfl⟩⟩
theorem sorted_ext : ∀ {l m : List Rat}, l.Pairwise (· < ·) → m.Pairwise (· < ·) → (∀ x, x ∈ l ↔ x ∈ m) → l = m
  | [], [], _, _, _ => rfl
  | [], y :: m, _, _, h => absurd ((h y).mpr List.mem_cons_self) (fun h => nomatch h)
  | x :: l, [], _, _, h => absurd ((h x).mp List.mem_cons_self) (fun h => nomatch h)
  | x :: l, y :: m, hl, hm, h => by
    obtain ⟨hl1, hl2⟩ := List.pairwise_cons.mp hl
    obtain ⟨hm1, hm2⟩ := List.pairwise_cons.mp hm
    have e : x = y := by
      have h1 := (h x).mp List.mem_cons_self
      have h2 := (h y).mpr List.mem_cons_self
      rcases List.mem_cons.mp h1 with e | h1
      · exact e
      · rcases List.mem_cons.mp h2 with e | h2
        · exact e.symm
        · have := hm1 x h1
          have := hl1 y h2
          grind
    subst e
    congr 1
    refine sorted_ext hl2 hm2 fun z => ⟨fun hz => ?_, fun hz => ?_⟩
    · rcases List.mem_cons.mp ((h z).mp (List.mem_cons_of_mem _ hz)) with rfl | h1
      · have := hl1 z hz; grind
      · exact h1
    · rcases List.mem_cons.mp ((h z).mpr (List.mem_cons_of_mem _ hz)) with rfl | h1
      · have := hm1 z hz; grind
      · exact h1
theorem sMom_sorted {r : List Pan} (h : ∀ p ∈ r, PanOk p) : (sMom r).Pairwise (· < ·) := by
  obtain ⟨l, hl⟩ := times_head h true
  have hs := times_sorted r true
  unfold sMom
  rw [List.pairwise_append, List.pairwise_map, List.pairwise_reverse]
  refine ⟨(times_sorted r false).imp fun hab => by grind, hs.sublist (List.tail_sublist _), ?_⟩
  intro x hx y hy
  obtain ⟨t, ht, rfl⟩ := List.mem_map.mp hx
  have h1 := times_nonneg h false t (List.mem_reverse.mp ht)
  rw [hl] at hs hy
  have h2 := (List.pairwise_cons.mp hs).1 y hy
  grind
theorem sMom_eq {r : List Pan} (h : ∀ p ∈ r, PanOk p) : ordR (sList r) = sMom r := sorted_ext (ord_sorted _) (sMom_sorted h) fun x => by rw [ord_mem, sList_mem h]
theorem knots_sig {r : List Pan} (h : ∀ p ∈ r, PanOk p) : knotsR r = ((ordR (sList r)).map (sigR r)).foldl stepK [] := by
  unfold knotsR
  rw [rows_sig h, sMom_eq h]
end DL

namespace DL
open PySem PySem.Spec PyProof.Rows L2
local macro_rules | `(tactic| walk_at "dl") => `(tactic| try simp only [dSeq, dNext, dSet, dSetV, dRet, dRetN, dExpr, dBreak, dCont, dPar, dPar3, dAsg, dTest_S, dNot, dNotV_S, dOp, dUn, dC, dVar_S, dVarS_v, dVarS_m, dMov_S, dMovS_m, sB_b, muL_l, muT_t, isI_i, vaI_i, dF_v, dF_m, dChain, fAdd_ii, fAdd_ll, fAdd_tt, fI_ii, fI0_ii, fMul_ii, fMul_ti, fNeg_i, fEq_ii, fNe_ii, fIsN_n, fIsN_l, fIsN_t, fIsN_i, fIx_l, fIx_t, dANil, dACons, dAAt_S, agD, dTup, dLst, dCB, fAbs_i, fMax2_ii, fMin2_ii, fLen_l, fLen_t, fList_l, fInt_i, dParX_2, dParX_3, fList_t, fTuple_l, fTuple_t, dSl, dONone, dOSome, fSl_l, fSl_t, dIsi_S, dIsi2_S, isiS_s, dCall, agOne, agAll, agAt, agSl_d, agSl_s, agS_m, dBack_n, dBack_s, seqS_l, seqS_t, nos, List.replicate, List.append, List.map, List.cons_append, List.nil_append, List.getElem?_cons_zero, List.getElem?_cons_succ, List.set_cons_zero, List.set_cons_succ, ioOf, List.length_cons, List.length_nil, dYes, gdName, gdTupN, gdCons, gdNil, frzAt, frz, dBor, dBorB, flatS, flatD, Option.getD_some, wipeD, dAug_S, dApp_S, dIns_S, dSetI_S, dIxM_S, dAugL_S, ixN_30, ixN_31, ixN_32, atI_0, atI_1, atI_2, atI_3, atI_4, true_and, reduceCtorEq, false_implies, implies_true, forall_const, Bool.not_true, Bool.not_false, Nat.reduceAdd, decide_true, decide_false, Int.reduceLT, Int.reduceLE, Int.reduceEq])
local macro_rules | `(tactic| walk_at "dt") => `(tactic| (walk_at "dl"; (try simp only [dAnd, dOr, dAndV_S, dOrV_S]); walk_at "dl"))
local macro_rules | `(tactic| walk_at "di") => `(tactic| (walk_at "dl"; (try simp only [dIf, dIte]); walk_at "dl"))
local macro_rules | `(tactic| walk_at "ds") => `(tactic| (walk_at "di"; walk_at "dt"; walk_at "di"))

/-! ### the laws' own corners -/
theorem sz_sg {p : Pan} (h : PanOk p) {t : Rat} {n : Nat} (ht : Sz n t) : Sz (n + 17) (sgP p t) := by
  by_cases c : 0 ≤ t
  · rw [sg_pos c]; exact sz_size h ht
  · have e : t = -(-t) := (Rat.neg_neg t).symm
    rw [e, sg_neg (by grind)]
    exact sz_size h (sz_neg ht)
def sp__law_size : Spec := mkSp (fun x : Pan × Rat => [.val (pan x.1), .val (fr x.2)]) fun x Q => (PanOk x.1 ∧ ∃ n, Sz n x.2 ∧ n ≤ 7000) ∧ Q (.val (fr (sgP x.1 x.2))) none
theorem hn__law_size : ∀ ρ Qd, sp__law_size ρ Qd → ρ.length = 2 := hn_mk fun _ => rfl
/- _law_size: slots 0=panel 1=time 2=basis 3=grow 4=shrink 5=low 6=high 7=value -/
def w__law_size : DS := (dSeq (dAsg (dVar 0) (gdTupN 5 (gdCons (gdName 2) (gdCons (gdName 3) (gdCons (gdName 4) (gdCons (gdName 5) (gdCons (gdName 6) gdNil))))))) (dSeq (dSet 7 (dCall false sp__law_fraction (dACons (dOp fAdd (dOp fMul (dVar 2) (dOp fIx (dVar 1) (dC (.int 1)))) (dOp fMul (dIte (dTest (dOp fGe (dOp fIx (dVar 1) (dC (.int 0))) (dC (.int 0)))) (dVar 3) (dVar 4)) (dOp fIx (dVar 1) (dC (.int 0))))) (dACons (dOp fIx (dVar 1) (dC (.int 1))) dANil)))) (dSeq (dIf (dTest (dCall false sp__law_less (dACons (dVar 7) (dACons (dTup (dACons (dVar 5) (dACons (dC (.int 1)) dANil))) dANil)))) (dRet (dTup (dACons (dVar 5) (dACons (dC (.int 1)) dANil)))) dNext) (dRet (dIte (dTest (dCall false sp__law_less (dACons (dTup (dACons (dVar 6) (dACons (dC (.int 1)) dANil))) (dACons (dVar 7) dANil)))) (dTup (dACons (dVar 6) (dACons (dC (.int 1)) dANil))) (dVar 7))))))
theorem vc__law_size : VC sp__law_size w__law_size 6 := by
  rintro ρ Qd ⟨⟨p, t⟩, rfl, ⟨hp, n, ht, hn⟩, h⟩
  simp only at hp ht h
  have := hp.b0; have := hp.b1; have := hp.l0; have := hp.lh; have := hp.h1
  have := hp.g0; have := hp.g1; have := hp.s0; have := hp.s1
  unfold w__law_size pan
  walk_at "dl"
  unfold fr
  walk_at "dl"
  have e0 : decide (t.num ≥ 0) = decide (0 ≤ t) := decide_eq_decide.mpr Rat.num_nonneg
  walk_at "di"
  have fin : ∀ f : Int, 0 ≤ f ∧ f ≤ 100 → sgP p t = clampR (p.lo : Rat) ((p.b : Rat) + (f : Rat) * t) (p.hi : Rat) → CMulA p.b (t.den : Int) ∧ CMulA f t.num ∧ ∀ (K : Sl → Option Ct → Prop) , (Sz 8000 ((p.b : Rat) + (f : Rat) * t) → K (.val (fr ((p.b : Rat) + (f : Rat) * t))) none) → sp__law_fraction [.val (.int (p.b * (t.den : Int) + f * t.num)), .val (.int (t.den : Int))] K := fun f hf he => by
    refine ⟨mulL (by omega), mulL (by omega), fun K hK => go_lfrac ?_ ?_ ?_⟩
    · have := t.den_pos
      omega
    · exact Nat.lt_of_lt_of_le (den_abs ht) (Nat.pow_le_pow_right (by decide) (by omega))
    · rw [rat_line]
      exact hK ((sz_add (sz_small (m := 400) (n := 9) (by omega) (by decide) (by decide)) (sz_mul (sz_small (n := 7) (m := 100) (by omega) (by decide) (by decide)) ht)).mono (by omega))
  have hsm : ∀ i : Int, i.natAbs ≤ 400 → Sz 9 (i : Rat) := fun i hi => sz_small hi (by decide) (by decide)
  have tail : ∀ (v : Rat) (a b c d e g h' : Sl), Sz 8000 v → sgP p t = clampR (p.lo : Rat) v (p.hi : Rat) → True := fun _ _ _ _ _ _ _ _ _ _ => trivial
  rw [e0]
  by_cases c : 0 ≤ t
  · rw [decide_eq_true c]
    obtain ⟨k1, k2, k3⟩ := fin p.g (by omega) (by unfold sgP; rw [if_pos c])
    have eq : sgP p t = clampR (p.lo : Rat) ((p.b : Rat) + (p.g : Rat) * t) (p.hi : Rat) := by unfold sgP; rw [if_pos c]
    refine ⟨k1, k2, k3 _ fun hz => ?_⟩
    rw [eq] at h
    unfold clampR at h
    generalize (p.b : Rat) + (p.g : Rat) * t = v at *
    walk_at "di"
    simp only [← fr_int]
    refine ⟨by decide, go_lless hz (hsm _ (by omega)) (by decide) (by decide) ?_⟩
    by_cases c1 : v < (p.lo : Rat)
    · rw [if_pos c1] at h
      rw [decide_eq_true c1]
      exact ⟨by decide, h⟩
    · rw [if_neg c1] at h
      rw [decide_eq_false c1]
      walk_at "di"
      refine ⟨by decide, go_lless (hsm _ (by omega)) hz (by decide) (by decide) ?_⟩
      by_cases c2 : (p.hi : Rat) < v
      · rw [if_pos c2] at h
        rw [decide_eq_true c2]
        exact ⟨by decide, h⟩
      · rw [if_neg c2] at h
        rw [decide_eq_false c2]
        exact h
  · rw [decide_eq_false c]
    obtain ⟨k1, k2, k3⟩ := fin p.s (by omega) (by unfold sgP; rw [if_neg c])
    have eq : sgP p t = clampR (p.lo : Rat) ((p.b : Rat) + (p.s : Rat) * t) (p.hi : Rat) := by unfold sgP; rw [if_neg c]
    refine ⟨k1, k2, k3 _ fun hz => ?_⟩
    rw [eq] at h
    unfold clampR at h
    generalize (p.b : Rat) + (p.s : Rat) * t = v at *
    walk_at "di"
    simp only [← fr_int]
    refine ⟨by decide, go_lless hz (hsm _ (by omega)) (by decide) (by decide) ?_⟩
    by_cases c1 : v < (p.lo : Rat)
    · rw [if_pos c1] at h
      rw [decide_eq_true c1]
      exact ⟨by decide, h⟩
    · rw [if_neg c1] at h
      rw [decide_eq_false c1]
      walk_at "di"
      refine ⟨by decide, go_lless (hsm _ (by omega)) hz (by decide) (by decide) ?_⟩
      by_cases c2 : (p.hi : Rat) < v
      · rw [if_pos c2] at h
        rw [decide_eq_true c2]
        exact ⟨by decide, h⟩
      · rw [if_neg c2] at h
        rw [decide_eq_false c2]
        exact h
/-! ### the moments, ordered -/
def sEndF (p : Pan) (e : Int) : Option Rat := if 0 < (if 0 ≤ e then p.g else p.s) then some ((e : Rat) / ((if 0 ≤ e then p.g else p.s : Int) : Rat)) else none
theorem sEnds_F (p : Pan) : sEnds p = [p.lo - p.b, p.hi - p.b].filterMap (sEndF p) := rfl
theorem sz_sEnds {p : Pan} (h : PanOk p) : ∀ q ∈ sEnds p, Sz 9 q := by
  intro q hq
  obtain ⟨e, he, hf, rfl⟩ := sEnds_mem.mp hq
  have := h.b0; have := h.b1; have := h.l0; have := h.lh; have := h.h1
  have := h.g0; have := h.g1; have := h.s0; have := h.s1
  simp only [List.mem_cons, List.mem_nil_iff, or_false] at he
  have h1 : (if 0 ≤ e then p.g else p.s).natAbs ≤ 100 := by split <;> omega
  exact sz_num e _ (by omega) (Nat.lt_of_le_of_lt (by omega : e.natAbs ≤ 400) (by decide)) (Nat.lt_of_le_of_lt h1 (by decide))
theorem sz_sList {r : List Pan} (h : ∀ p ∈ r, PanOk p) : ∀ q ∈ sList r, Sz 9 q := by
  intro q hq
  rcases List.mem_cons.mp hq with rfl | hq
  · exact ⟨by decide, by decide⟩
  · obtain ⟨p, hp, hq⟩ := List.mem_flatMap.mp hq
    exact sz_sEnds (h p hp) q hq
theorem sList_len : ∀ r : List Pan, (sList r).length ≤ r.length * 2 + 1 := by
  intro r
  unfold sList
  have key : ∀ l : List Pan, (l.flatMap sEnds).length ≤ l.length * 2 := by
    intro l
    induction l with
    | nil => exact Nat.zero_le _
    | cons p l ih =>
      have h1 : (sEnds p).length ≤ 2 := by
        rw [sEnds_F]
        exact Nat.le_trans (List.length_filterMap_le _ _) (by simp)
      rw [List.flatMap_cons, List.length_append, List.length_cons]
      omega
  have := key r
  rw [List.length_cons]
  omega
/-- a sorted list, its greater part behind -/
theorem ins_parts : ∀ {l : List Rat} {q : Rat}, l.Pairwise (· < ·) → q ∉ l → insR l q = l.take (l.length - (l.filter fun x => decide (q < x)).length) ++ [q] ++ l.filter fun x => decide (q < x)
  | [], q, _, _ => rfl
  | x :: l, q, hs, hq => by
    obtain ⟨h1, h2⟩ := List.pairwise_cons.mp hs
    have hx : q ≠ x := fun e => hq (by rw [e]; exact List.mem_cons_self)
    have hl : q ∉ l := fun e => hq (List.mem_cons_of_mem _ e)
    have ih := ins_parts h2 hl
    by_cases c : q < x
    · have all : (x :: l).filter (fun y => decide (q < y)) = x :: l := List.filter_eq_self.mpr fun y hy => by
        rcases List.mem_cons.mp hy with rfl | hy
        · exact decide_eq_true c
        · have := h1 y hy
          exact decide_eq_true (by grind)
      rw [all]
      unfold insR
      rw [if_neg (by grind), if_neg (by grind)]
      simp
    · have e : (x :: l).filter (fun y => decide (q < y)) = l.filter fun y => decide (q < y) := by rw [List.filter_cons, decide_eq_false c]; rfl
      rw [e]
      unfold insR
      rw [if_pos (by grind), ih]
      have hf := List.length_filter_le (fun y => decide (q < y)) l
      have e2 : (x :: l).length - (l.filter fun y => decide (q < y)).length = (l.length - (l.filter fun y => decide (q < y)).length) + 1 := by rw [List.length_cons]; omega
      rw [e2, List.take_succ_cons]
      simp
theorem ins_in {l : List Rat} {q : Rat} (hs : l.Pairwise (· < ·)) (hq : q ∈ l) : insR l q = l := sorted_ext (ins_sorted hs) hs fun x => by
  rw [ins_mem]
  constructor
  · rintro (rfl | h)
    · exact hq
    · exact h
  · exact .inr
def sp__law_moments : Spec := mkSp (fun r : List Pan => [.val (rowD r)]) fun r Q => RowOk r ∧ Q (.val (ratsD (sMom r))) none
theorem hn__law_moments : ∀ ρ Qd, sp__law_moments ρ Qd → ρ.length = 1 := hn_mk fun _ => rfl
theorem any_fr {q : Rat} : ∀ l : List Rat, (l.map fr).any (fun z => PyData.eqv z (fr q)) = decide (q ∈ l)
  | [] => by simp
  | x :: l => by
    rw [List.map_cons, List.any_cons, any_fr l, eqv_fr]
    by_cases c : x = q
    · subst c; simp
    · simp [c, Ne.symm c]
theorem fNotIn_fr {q : Rat} {l : List Rat} {Q : Sl → Prop} (h : Q (.val (.bool (!decide (q ∈ l))))) : fInX true (fr q) (.list (l.map fr)) Q := .inr ⟨shaped_fr q, (lay_rats l).shaped (by decide), by
  rw [any_fr]; exact h⟩
def aftK (q : Rat) (x : Rat) : Option D := if q < x then some (fr x) else none
theorem aftK_fil (q : Rat) : ∀ l : List Rat, l.filterMap (aftK q) = (l.filter fun x => decide (q < x)).map fr
  | [] => rfl
  | x :: l => by
    rw [List.filterMap_cons, List.filter_cons]
    unfold aftK
    by_cases h : q < x
    · rw [if_pos h, decide_eq_true h, if_pos rfl, List.map_cons]
      exact congrArg _ (aftK_fil q l)
    · rw [if_neg h, decide_eq_false h]
      exact aftK_fil q l
theorem cut_to (l : List D) (k : Nat) : cutD l none (some (k : Int)) = l.take k := by
  unfold cutD
  rw [HT.sIx_nat, HT.sIx_none, Nat.sub_zero, List.drop_zero]
  rcases Nat.le_total k l.length with h | h
  · rw [Nat.min_eq_left h]
  · rw [Nat.min_eq_right h, List.take_of_length_le (Nat.le_refl _), List.take_of_length_le h]
/- _law_moments: slots 0=row 1=found 2=basis 3=grow 4=shrink 5=low 6=high 7=bound 8=factor 9=ordered_ 10=time 11=after 12=one -/
def w__law_moments : DS := (dSeq (dSet 1 (dLst (dACons (dTup (dACons (dC (.int 0)) (dACons (dC (.int 1)) dANil))) dANil))) (dSeq (dFor (diSeq (dVar 0)) (gdTupN 5 (gdCons (gdName 2) (gdCons (gdName 3) (gdCons (gdName 4) (gdCons (gdName 5) (gdCons (gdName 6) gdNil)))))) (dFor (diSeq (dTup (dACons (dOp fSub (dVar 5) (dVar 2)) (dACons (dOp fSub (dVar 6) (dVar 2)) dANil)))) (gdName 7) (dSeq (dSet 8 (dIte (dTest (dOp fGe (dVar 7) (dC (.int 0)))) (dVar 3) (dVar 4))) (dIf (dTest (dOp fGt (dVar 8) (dC (.int 0)))) (dApp 1 (dCall false sp__law_fraction (dACons (dVar 7) (dACons (dVar 8) dANil)))) dNext)))) (dSeq (dSet 9 (dLst dANil)) (dSeq (dFor (diSeq (dVar 1)) (gdName 10) (dSeq (dSet 11 (dLc (diSeq (dVar 9)) (gdName 12) (dTest (dCall false sp__law_less (dACons (dVar 10) (dACons (dVar 12) dANil)))) (dVar 12) [12])) (dIf (dTest (dOp (fInX true) (dVar 10) (dVar 9))) (dSet 9 (dOp fAdd (dOp fAdd (dSl (dVar 9) dONone (dOSome (dOp fSub (dCB fLen (dACons (dVar 9) dANil)) (dCB fLen (dACons (dVar 11) dANil))))) (dLst (dACons (dVar 10) dANil))) (dVar 11))) dNext))) (dRet (dVar 9))))))
theorem vc__law_moments : VC sp__law_moments w__law_moments 12 := by
  rintro ρ Qd ⟨r, rfl, hr, h⟩
  have h8 := hr.n8
  unfold w__law_moments
  walk_at "dl"
  refine ⟨by decide, by decide, ?_⟩
  simp only [dFor, diSeq]
  unfold rowD
  walk_at "dl"
  refine ⟨fun i ρ => ∃ a b c d e f g, ρ = [.val (.tuple (r.map pan)), .mu true (.lst ((sList (r.take i)).map fr)), a, b, c, d, e, f, g, .no, .no, .no, .no], ⟨.no, .no, .no, .no, .no, .no, .no, by simp [sList, fr_zero]⟩, ?_, ?_⟩
  · rintro i d ρ hi ⟨a, b, c, d', e, f, g, rfl⟩
    obtain ⟨p, hp, rfl⟩ := map_at hi
    have hpo := hr.all p (List.mem_of_getElem? hp)
    have hi' := lt_len hp
    have e1 : (sList (r.take (i + 1))).map fr = (sList (r.take i)).map fr ++ (sEnds p).map fr := by
      unfold sList
      rw [flatMap_take hp, ← List.map_append, List.cons_append]
    simp only [e1]
    have hG := sList_len (r.take i)
    rw [List.length_take] at hG
    generalize sList (r.take i) = G at *
    generalize r.map pan = R
    have := hpo.b0; have := hpo.b1; have := hpo.l0; have := hpo.lh; have := hpo.h1
    have := hpo.g0; have := hpo.g1; have := hpo.s0; have := hpo.s1
    rw [sEnds_F]
    unfold pan
    walk_at "dl"
    refine ⟨by decide, fun j ρ => ∃ f g, ρ = [.val (.tuple R), .mu true (.lst (G.map fr ++ (([p.lo - p.b, p.hi - p.b].take j).filterMap (sEndF p)).map fr)), .val (.int p.b), .val (.int p.g), .val (.int p.s), .val (.int p.lo), .val (.int p.hi), f, g, .no, .no, .no, .no], ⟨f, g, by simp⟩, ?_, ?_⟩
    · rintro j d ρ hj ⟨f, g, rfl⟩
      obtain ⟨e, he, rfl⟩ := map_at (f := PyData.int) (l := [p.lo - p.b, p.hi - p.b]) hj
      have hem := List.mem_of_getElem? he
      simp only [List.mem_cons, List.mem_nil_iff, or_false] at hem
      have e2 : ([p.lo - p.b, p.hi - p.b].take (j + 1)).filterMap (sEndF p) = ([p.lo - p.b, p.hi - p.b].take j).filterMap (sEndF p) ++ [e].filterMap (sEndF p) := by
        rw [List.take_add_one, he, List.filterMap_append]; rfl
      have hGl : (([p.lo - p.b, p.hi - p.b].take j).filterMap (sEndF p)).length ≤ 2 := Nat.le_trans (List.length_filterMap_le _ _) (by rw [List.length_take]; exact Nat.min_le_right _ _)
      simp only [e2, List.filterMap_cons, List.filterMap_nil]
      generalize ([p.lo - p.b, p.hi - p.b].take j).filterMap (sEndF p) = G2 at *
      unfold sEndF
      walk_at "di"
      by_cases c : 0 ≤ e
      · simp only [if_pos c]
        rw [decide_eq_true (by omega : e ≥ 0)]
        walk_at "di"
        by_cases c2 : 0 < p.g
        · rw [decide_eq_true (by omega : p.g > 0)]
          simp only [if_pos c2]
          refine go_lfrac c2 (Nat.lt_of_le_of_lt (by omega : p.g.natAbs ≤ 100) (by decide)) ?_
          walk_at "dl"
          exact ⟨by rw [List.length_append, List.length_map, List.length_map]; unfold lim; omega, _, _, by rw [List.map_append, ← List.append_assoc]; rfl⟩
        · rw [decide_eq_false (by omega : ¬ p.g > 0)]
          simp only [if_neg c2]
          exact ⟨_, _, by rw [List.append_nil]⟩
      · simp only [if_neg c]
        rw [decide_eq_false (by omega : ¬ e ≥ 0)]
        walk_at "di"
        by_cases c2 : 0 < p.s
        · rw [decide_eq_true (by omega : p.s > 0)]
          simp only [if_pos c2]
          refine go_lfrac c2 (Nat.lt_of_le_of_lt (by omega : p.s.natAbs ≤ 100) (by decide)) ?_
          walk_at "dl"
          exact ⟨by rw [List.length_append, List.length_map, List.length_map]; unfold lim; omega, _, _, by rw [List.map_append, ← List.append_assoc]; rfl⟩
        · rw [decide_eq_false (by omega : ¬ p.s > 0)]
          simp only [if_neg c2]
          exact ⟨_, _, by rw [List.append_nil]⟩
    · rintro ρ ⟨f, g, rfl⟩
      exact ⟨_, _, _, _, _, _, _, rfl⟩
  · rintro ρ ⟨a, b, c, d, e, f, g, rfl⟩
    rw [List.length_map, List.take_length]
    walk_at "dl"
    refine ⟨Nat.zero_le _, ?_⟩
    have hl := sList_len r
    have hz := sz_sList hr.all
    have hM := sMom_eq hr.all
    rw [← hM] at h
    generalize sList r = G at *
    clear hM
    simp only [dFor, diSeq]
    walk_at "dl"
    generalize PyData.tuple (r.map pan) = R
    have fin : ∀ z, (z = .val (ratsD (ordR G)) ∨ z = .mu true (.lst ((ordR G).map fr))) → ∀ u v : Sl, dRet (dVar 9) { nx := fun x => Qd (Sl.val PyData.none) none, rt := fun r x => Qd r none } [.val R, .val (.list (G.map fr)), a, b, c, d, e, f, g, z, u, v, .no] := fun z hz u v => by
      rcases hz with rfl | rfl <;> walk_at "dl" <;> exact h
    refine ⟨fun i ρ => ∃ z u v, (z = .val (ratsD (ordR (G.take i))) ∨ z = .mu true (.lst ((ordR (G.take i)).map fr))) ∧ ρ = [.val R, .val (.list (G.map fr)), a, b, c, d, e, f, g, z, u, v, .no], ⟨_, _, _, .inr rfl, rfl⟩, ?_, ?_⟩
    · rintro i d' ρ hi ⟨z, u, v, hzz, rfl⟩
      obtain ⟨q, hq, rfl⟩ := map_at hi
      have hqz := hz q (List.mem_of_getElem? hq)
      have hi' := lt_len hq
      have e1 : ordR (G.take (i + 1)) = insR (ordR (G.take i)) q := by rw [List.take_add_one, hq]; exact ord_app _ _
      have hos := ord_sorted (G.take i)
      have hol := ord_len (G.take i)
      rw [List.length_take] at hol
      have hom : ∀ x ∈ ordR (G.take i), Sz 9 x := fun x hx => hz x (List.mem_of_mem_take (ord_mem.mp hx))
      simp only [e1]
      generalize ordR (G.take i) = L at *
      have hLl : L.length ≤ 17 := by omega
      have body : ∀ E, (∀ z u v, (z = .val (ratsD (insR L q)) ∨ z = .mu true (.lst ((insR L q).map fr))) → E.nx [.val R, .val (.list (G.map fr)), a, b, c, d, e, f, g, z, u, v, .no]) →
          dLc (diSeq (dVar 9)) (gdName 12) (dTest (dCall false sp__law_less (dACons (dVar 10) (dACons (dVar 12) dANil)))) (dVar 12) [12] [.val R, .val (.list (G.map fr)), a, b, c, d, e, f, g, .val (.list (L.map fr)), .val (fr q), v, .no] fun r ρ1 =>
            dIf (dTest (dOp (fInX true) (dVar 10) (dVar 9))) (dSet 9 (dOp fAdd (dOp fAdd (dSl (dVar 9) dONone (dOSome (dOp fSub (dCB fLen (dACons (dVar 9) dANil)) (dCB fLen (dACons (dVar 11) dANil))))) (dLst (dACons (dVar 10) dANil))) (dVar 11))) dNext E (ρ1.set 11 r) := fun E hQ => by
        simp only [dLc, diSeq]
        walk_at "dl"
        refine ⟨filP L (aftK q) [.val R, .val (.list (G.map fr)), a, b, c, d, e, f, g, .val (.list (L.map fr)), .val (fr q), v, .no], filP_0, ?_, ?_⟩
        · rintro j acc d' ρ hj p
          obtain ⟨x, hx, rfl⟩ := map_at hj
          have p2 := p.2
          subst p2
          walk_at "dl"
          refine go_lless hqz (hom x (List.mem_of_getElem? hx)) (by decide) (by decide) ?_
          by_cases c : q < x
          · rw [decide_eq_true c]
            exact filP_yes (by unfold lim; omega) hx p (if_pos c) rfl
          · rw [decide_eq_false c]
            exact filP_no hx p (if_neg c) rfl
        · rintro acc ρ p
          obtain ⟨rfl, rfl⟩ := filP_end p (List.length_map _)
          rw [aftK_fil]
          have hfl := List.length_filter_le (fun x => decide (q < x)) L
          walk_at "di"
          refine fNotIn_fr ?_
          by_cases c : q ∈ L
          · rw [decide_eq_true c]
            rw [ins_in hos c] at hQ
            exact hQ _ _ _ (.inl rfl)
          · rw [decide_eq_false c]
            rw [ins_parts hos c] at hQ
            generalize L.filter (fun x => decide (q < x)) = A at *
            have e2 : (((L.map fr).length : Nat) : Int) - (((A.map fr).length : Nat) : Int) = ((L.length - A.length : Nat) : Int) := by rw [List.length_map, List.length_map]; omega
            walk_at "di"
            rw [e2, cut_to, ← List.map_take]
            have e3 : (L.take (L.length - A.length) ++ [q] ++ A).map fr = (L.take (L.length - A.length)).map fr ++ [fr q] ++ A.map fr := by rw [List.map_append, List.map_append]; rfl
            rw [e3] at hQ
            have hlim : lim = 100000 := rfl
            refine ⟨by decide, ?_, ?_, hQ _ _ _ (.inr rfl)⟩
            · rw [List.length_map, List.length_take]; omega
            · rw [List.length_append, List.length_map, List.length_take, List.length_map, List.length_singleton]; omega
      rcases hzz with rfl | rfl <;> walk_at "dl"
      · exact body _ fun z u v hz => ⟨z, u, v, hz, rfl⟩
      · exact body _ fun z u v hz => ⟨z, u, v, hz, rfl⟩
    · rintro ρ ⟨z, u, v, hzz, rfl⟩
      rw [List.length_map, List.take_length] at hzz
      exact fin z hzz u v
end DL

namespace DL
open PySem PySem.Spec PyProof.Rows L2
local macro_rules | `(tactic| walk_at "dl") => `(tactic| try simp only [dSeq, dNext, dSet, dSetV, dRet, dRetN, dExpr, dBreak, dCont, dPar, dPar3, dAsg, dTest_S, dNot, dNotV_S, dOp, dUn, dC, dVar_S, dVarS_v, dVarS_m, dMov_S, dMovS_m, sB_b, muL_l, muT_t, isI_i, vaI_i, dF_v, dF_m, dChain, fAdd_ii, fAdd_ll, fAdd_tt, fI_ii, fI0_ii, fMul_ii, fMul_ti, fNeg_i, fEq_ii, fNe_ii, fIsN_n, fIsN_l, fIsN_t, fIsN_i, fIx_l, fIx_t, dANil, dACons, dAAt_S, agD, dTup, dLst, dCB, fAbs_i, fMax2_ii, fMin2_ii, fLen_l, fLen_t, fList_l, fInt_i, dParX_2, dParX_3, fList_t, fTuple_l, fTuple_t, dSl, dONone, dOSome, fSl_l, fSl_t, dIsi_S, dIsi2_S, isiS_s, dCall, agOne, agAll, agAt, agSl_d, agSl_s, agS_m, dBack_n, dBack_s, seqS_l, seqS_t, nos, List.replicate, List.append, List.map, List.cons_append, List.nil_append, List.getElem?_cons_zero, List.getElem?_cons_succ, List.set_cons_zero, List.set_cons_succ, ioOf, List.length_cons, List.length_nil, dYes, gdName, gdTupN, gdCons, gdNil, frzAt, frz, dBor, dBorB, flatS, flatD, Option.getD_some, wipeD, dAug_S, dApp_S, dIns_S, dSetI_S, dIxM_S, dAugL_S, ixN_30, ixN_31, ixN_32, atI_0, atI_1, atI_2, atI_3, atI_4, true_and, reduceCtorEq, false_implies, implies_true, forall_const, Bool.not_true, Bool.not_false, Nat.reduceAdd, decide_true, decide_false, Int.reduceLT, Int.reduceLE, Int.reduceEq])
local macro_rules | `(tactic| walk_at "dt") => `(tactic| (walk_at "dl"; (try simp only [dAnd, dOr, dAndV_S, dOrV_S]); walk_at "dl"))
local macro_rules | `(tactic| walk_at "di") => `(tactic| (walk_at "dl"; (try simp only [dIf, dIte]); walk_at "dl"))
local macro_rules | `(tactic| walk_at "ds") => `(tactic| (walk_at "di"; walk_at "dt"; walk_at "di"))

/-! ### the laws' corners, solved for a width -/
theorem sz_sMom {r : List Pan} (h : ∀ p ∈ r, PanOk p) : ∀ q ∈ sMom r, Sz 9 q := fun q hq => sz_sList h q ((sList_mem h).mpr hq)
theorem sMom_len {r : List Pan} (h : ∀ p ∈ r, PanOk p) : (sMom r).length ≤ r.length * 2 + 1 := by
  rw [← sMom_eq h]
  exact Nat.le_trans (ord_len _) (sList_len r)
theorem sig_sz {r : List Pan} (h : ∀ p ∈ r, PanOk p) {t : Rat} (ht : Sz 9 t) : ∀ q ∈ sigR r t, Sz 26 q := by
  intro q hq
  obtain ⟨p, hp, rfl⟩ := List.mem_map.mp hq
  exact sz_sg (h p hp) ht
theorem knotsR_sz {r : List Pan} (h : RowOk r) : ∀ c ∈ knotsR r, Sz 217 c.1 ∧ c.2.length = r.length ∧ ∀ q ∈ c.2, Sz 26 q := knots_sz h.all h.n8 _ [] (rows_sz h.all) fun _ hc => nomatch hc
theorem knotsR_len {r : List Pan} (h : RowOk r) : (knotsR r).length ≤ 34 := by
  have h1 := knots_len (rowsR r) []
  have h2 := rows_len (r := r)
  have h3 := h.n8
  unfold knotsR
  simp only [List.length_nil] at h1
  omega
def sp__law_corners : Spec := mkSp (fun r : List Pan => [.val (rowD r)]) fun r Q => RowOk r ∧ Q (.mu true (.lst ((knotsR r).map knotD))) none
theorem hn__law_corners : ∀ ρ Qd, sp__law_corners ρ Qd → ρ.length = 1 := hn_mk fun _ => rfl
/- _law_corners: slots 0=row 1=found 2=time 3=some 4=panel 5=width -/
def w__law_corners : DS := (dSeq (dSet 1 (dLst dANil)) (dSeq (dFor (diSeq (dCall false sp__law_moments (dACons (dVar 0) dANil))) (gdName 2) (dSeq (dSet 3 (dLc (diSeq (dVar 0)) (gdName 4) dYes (dCall false sp__law_size (dACons (dVar 4) (dACons (dVar 2) dANil))) [4])) (dSeq (dSet 5 (dCall false sp__law_total (dACons (dVar 3) dANil))) (dIf (dBorB [1] (dOr (dTest (dOp fEq (dVar 1) (dLst dANil))) (dTest (dCall true sp__law_less (dACons (dOp fIx (dOp fIx (dVar 1) (dUn fNeg (dC (.int 1)))) (dC (.int 0))) (dACons (dVar 5) dANil)))))) (dApp 1 (dTup (dACons (dVar 5) (dACons (dVar 3) dANil)))) dNext)))) (dRet (dMov 1))))
theorem vc__law_corners : VC sp__law_corners w__law_corners 5 := by
  rintro ρ Qd ⟨r, rfl, hr, h⟩
  have h8 := hr.n8
  have hrl : r.length ≤ lim := by unfold lim; omega
  unfold w__law_corners
  walk_at "dl"
  refine ⟨Nat.zero_le _, ?_⟩
  simp only [dFor, diSeq]
  walk_at "dl"
  refine ⟨r, rfl, hr, ?_⟩
  have hz := sz_sMom hr.all
  have hl := sMom_len hr.all
  have e0 : knotsR r = ((sMom r).map (sigR r)).foldl stepK [] := by rw [knots_sig hr.all, sMom_eq hr.all]
  rw [e0] at h
  generalize sMom r = M at *
  unfold ratsD
  walk_at "dl"
  refine ⟨fun i ρ => ∃ b c d, ρ = [.val (rowD r), .mu true (.lst ((((M.take i).map (sigR r)).foldl stepK []).map knotD)), b, c, .no, d], ⟨.no, .no, .no, by simp⟩, ?_, ?_⟩
  · rintro i d ρ hi ⟨b, c, d', rfl⟩
    obtain ⟨t, hk, rfl⟩ := map_at hi
    have ht := hz t (List.mem_of_getElem? hk)
    have hGl := knots_len ((M.take i).map (sigR r)) []
    have hGs := knots_sz hr.all h8 ((M.take i).map (sigR r)) [] (fun y hy => by
      obtain ⟨u, hu, rfl⟩ := List.mem_map.mp hy
      exact ⟨List.length_map _, sig_sz hr.all (hz u (List.mem_of_mem_take hu))⟩) (fun c hc => nomatch hc)
    have e1 : ((M.take (i + 1)).map (sigR r)).foldl stepK [] = stepK (((M.take i).map (sigR r)).foldl stepK []) (sigR r t) := by
      rw [List.take_add_one, hk, List.map_append, List.foldl_append]; rfl
    rw [List.length_map, List.length_take, List.length_nil] at hGl
    simp only [e1]
    generalize ((M.take i).map (sigR r)).foldl stepK [] = G at *
    have hG34 : G.length ≤ 17 := by omega
    unfold rowD
    walk_at "dl"
    simp only [dLc, diSeq]
    walk_at "dl"
    refine ⟨mapP r (fun p => fr (sgP p t)) [.val (rowD r), .mu true (.lst (G.map knotD)), .val (fr t), c, .no, d'], mapP_0, ?_, ?_⟩
    · rintro j acc d ρ hj q
      obtain ⟨p, hp, rfl⟩ := map_at hj
      have q2 := q.2
      subst q2
      walk_at "dl"
      exact ⟨(p, t), rfl, ⟨hr.all p (List.mem_of_getElem? hp), 9, ht, by decide⟩, mapP_yes hrl hp q rfl rfl⟩
    · rintro acc ρ q
      obtain ⟨rfl, rfl⟩ := mapP_end q (List.length_map _)
      have hx2 := sig_sz hr.all ht
      have hx1 : (sigR r t).length = r.length := List.length_map _
      have eS : (r.map fun p => fr (sgP p t)) = (sigR r t).map fr := by unfold sigR; rw [List.map_map]; rfl
      rw [eS]
      generalize sigR r t = xs at *
      walk_at "dl"
      refine go_ltotal hx2 (by rw [hx1]; omega) ?_
      have hsx : Sz 217 (sumR xs) := (sz_sum hx2).mono (by rw [hx1]; omega)
      walk_at "dl"
      have test : ∀ Q : Bool → En → Prop, Q (match G.getLast? with | none => true | some c => decide (c.1 < sumR xs)) [.val (rowD r), .mu true (.lst (G.map knotD)), .val (fr t), .val (.list (xs.map fr)), .no, .val (fr (sumR xs))] → dBorB [1] (dOr (dTest (dOp fEq (dVar 1) (dLst dANil))) (dTest (dCall true sp__law_less (dACons (dOp fIx (dOp fIx (dVar 1) (dUn fNeg (dC (PyData.int 1)))) (dC (PyData.int 0))) (dACons (dVar 5) dANil))))) [.val (rowD r), .mu true (.lst (G.map knotD)), .val (fr t), .val (.list (xs.map fr)), .no, .val (fr (sumR xs))] Q := fun Q hQ => by
        walk_at "dt"
        refine ⟨Nat.zero_le _, fEq_nil (n := 4) (fun y hy => ?_) (by decide) ?_⟩
        · obtain ⟨c, _, rfl⟩ := List.mem_map.mp hy
          exact lay_knot c
        walk_at "dt"
        rcases hl : G.getLast? with _ | c
        · rw [List.getLast?_eq_none_iff] at hl
          subst hl
          exact hQ
        · have hne : G ≠ [] := fun e => by subst e; cases hl
          have e2 : (G.map knotD).isEmpty = false := by cases G with
            | nil => exact absurd rfl hne
            | cons _ _ => rfl
          have e3 : atI (G.map knotD) (-1) = some (knotD c) := by rw [atI_last, List.getLast?_map, hl]; rfl
          rw [hl] at hQ
          have hcs := hGs c (List.mem_of_getLast? hl)
          simp only [e2, e3]
          unfold knotD
          walk_at "dt"
          exact go_lless hcs.1 hsx (by decide) (by decide) hQ
      unfold dIf
      refine test _ ?_
      unfold stepK
      rcases hl : G.getLast? with _ | c
      · rw [List.getLast?_eq_none_iff] at hl
        subst hl
        walk_at "dl"
        exact ⟨by decide, Nat.zero_lt_succ _, _, _, _, rfl⟩
      · by_cases c1 : c.1 < sumR xs
        · simp only [decide_eq_true c1, if_pos c1]
          walk_at "dl"
          have e5 : (G ++ [(sumR xs, xs)]).map knotD = G.map knotD ++ [.tuple [fr (sumR xs), .list (xs.map fr)]] := by rw [List.map_append]; rfl
          rw [e5]
          exact ⟨by decide, by rw [List.length_map]; unfold lim; omega, _, _, _, rfl⟩
        · simp only [decide_eq_false c1, if_neg c1]
          exact ⟨_, _, _, rfl⟩
  · rintro ρ ⟨b, c, d, rfl⟩
    walk_at "dl"
    rw [List.length_map, List.take_length]
    exact h
/-! ### _law_at -/
/-- an answer of sizes, or none -/
def optD2 : Option (List Rat) → D
  | none => .none
  | some xs => ratsD xs
def IsOpt (o : Option (List Rat)) (z : Sl) : Prop := z = .val (optD2 o) ∨ z = optS o
theorem isOpt_dF {o : Option (List Rat)} {z : Sl} {Q : D → Prop} (h : IsOpt o z) (k : Q (optD2 o)) : dF z Q := by
  rcases h with rfl | rfl
  · exact k
  · cases o with
    | none => exact k
    | some xs => exact k
def sp__law_at : Spec := mkSp (fun x : List (Rat × List Rat) × Rat => [.val (.list (x.1.map knotD)), .val (fr x.2)]) fun x Q => ((∀ c ∈ x.1, Sz 300 c.1 ∧ (∀ q ∈ c.2, Sz 300 q) ∧ c.2.length ≤ 8) ∧ x.1.length ≤ 40 ∧ ∃ n, Sz n x.2 ∧ n ≤ 2500) ∧ ∀ z, IsOpt (solveR x.1 x.2) z → Q z none
theorem hn__law_at : ∀ ρ Qd, sp__law_at ρ Qd → ρ.length = 2 := hn_mk fun _ => rfl
/- _law_at: slots 0=corners 1=width 2=corner 3=one 4=other 5=part 6=whole_ 7=found 8=before 9=after 10=more 11=step -/
def w__law_at : DS := (dSeq (dFor (diSeq (dVar 0)) (gdName 2) (dIf (dTest (dOp fEq (dOp fIx (dVar 2) (dC (.int 0))) (dVar 1))) (dRet (dOp fIx (dVar 2) (dC (.int 1)))) dNext)) (dSeq (dFor (diZipX (dACons (dVar 0) (dACons (dSl (dVar 0) (dOSome (dC (.int 1))) dONone) dANil))) (gdTupN 2 (gdCons (gdName 3) (gdCons (gdName 4) gdNil))) (dIf (dAnd (dTest (dCall false sp__law_less (dACons (dOp fIx (dVar 3) (dC (.int 0))) (dACons (dVar 1) dANil)))) (dTest (dCall false sp__law_less (dACons (dVar 1) (dACons (dOp fIx (dVar 4) (dC (.int 0))) dANil))))) (dSeq (dPar 5 6 (dACons (dCall false sp__law_minus (dACons (dVar 1) (dACons (dOp fIx (dVar 3) (dC (.int 0))) dANil))) (dACons (dCall false sp__law_minus (dACons (dOp fIx (dVar 4) (dC (.int 0))) (dACons (dOp fIx (dVar 3) (dC (.int 0))) dANil))) dANil))) (dSeq (dSet 7 (dLst dANil)) (dSeq (dFor (diZipX (dACons (dOp fIx (dVar 3) (dC (.int 1))) (dACons (dOp fIx (dVar 4) (dC (.int 1))) dANil))) (gdTupN 2 (gdCons (gdName 8) (gdCons (gdName 9) gdNil))) (dSeq (dSet 10 (dCall false sp__law_minus (dACons (dVar 9) (dACons (dVar 8) dANil)))) (dSeq (dSet 11 (dCall false sp__law_fraction (dACons (dOp fMul (dOp fMul (dOp fIx (dVar 10) (dC (.int 0))) (dOp fIx (dVar 5) (dC (.int 0)))) (dOp fIx (dVar 6) (dC (.int 1)))) (dACons (dOp fMul (dOp fMul (dOp fIx (dVar 10) (dC (.int 1))) (dOp fIx (dVar 5) (dC (.int 1)))) (dOp fIx (dVar 6) (dC (.int 0)))) dANil)))) (dApp 7 (dCall false sp__law_plus (dACons (dVar 8) (dACons (dVar 11) dANil))))))) (dRet (dMov 7))))) dNext)) (dRet (dC .none))))
theorem num_mul (m : Rat) : ((m.num : Int) : Rat) = m * ((m.den : Int) : Rat) := by
  have e2 : m = (m.num : Rat) / ((m.den : Int) : Rat) := by rw [← Rat.divInt_eq_div, Rat.num_divInt_den]
  have hd := den_pos m
  conv => rhs; lhs; rw [e2]
  exact (Rat.div_mul_cancel (by grind)).symm
theorem fIx_fr0 {q : Rat} {Q : Sl → Prop} : fIx (fr q) (.int 0) Q = Q (.val (.int q.num)) := by
  unfold fr
  rw [fIx_t, atI_0]
theorem fIx_fr1 {q : Rat} {Q : Sl → Prop} : fIx (fr q) (.int 1) Q = Q (.val (.int q.den)) := by
  unfold fr
  rw [fIx_t, atI_1]
def md0 (m p w : Rat) : Rat := ((m.den : Int) : Rat) * ((p.den : Int) : Rat) * (w * ((w.den : Int) : Rat))
theorem step_frac {m p w : Rat} (hw : 0 < w) : ((m.num * p.num * w.den : Int) : Rat) / ((m.den * p.den * w.num : Int) : Rat) = m * p / w := by
  have h1 := den_pos m
  have h2 := den_pos p
  have h3 := den_pos w
  simp only [Rat.intCast_mul, num_mul]
  have h4 : md0 m p w ≠ 0 := by
    have := Rat.mul_pos (Rat.mul_pos h1 h2) (Rat.mul_pos hw h3)
    unfold md0
    grind
  unfold md0 at h4
  generalize ((m.den : Int) : Rat) = md at *
  generalize ((p.den : Int) : Rat) = pd at *
  generalize ((w.den : Int) : Rat) = wd at *
  grind
theorem vc__law_at : VC sp__law_at w__law_at 10 := by
  rintro ρ Qd ⟨⟨cs, w⟩, rfl, ⟨hc, hcl, n, hw, hn⟩, h⟩
  simp only at hc hcl hw h
  unfold w__law_at
  simp only [dFor, diSeq]
  walk_at "dl"
  unfold solveR at h
  refine ⟨fun i ρ => (cs.take i).findSome? (hitR w) = none ∧ ∃ z, ρ = [.val (.list (cs.map knotD)), .val (fr w), z, .no, .no, .no, .no, .no, .no, .no, .no, .no], ⟨rfl, .no, rfl⟩, ?_, ?_⟩
  · rintro i d ρ hi ⟨hno, z, rfl⟩
    obtain ⟨c, hk, rfl⟩ := map_at hi
    have hstep := fun hc => find_step hno hk hc
    have hhit := fun t hc => find_hit (t := t) hno hk hc
    unfold knotD
    walk_at "di"
    refine fEq_fr ?_
    by_cases c1 : c.1 = w
    · rw [decide_eq_true c1]
      walk_at "di"
      rw [hhit c.2 (by unfold hitR; rw [if_pos c1])] at h
      exact h _ (.inl rfl)
    · rw [decide_eq_false c1]
      exact ⟨hstep (by unfold hitR; rw [if_neg c1]), _, rfl⟩
  · rintro ρ ⟨hno, z, rfl⟩
    rw [List.length_map, List.take_length] at hno
    rw [hno] at h
    simp only at h
    walk_at "dl"
    simp only [dFor, diZipX]
    walk_at "dl"
    rw [cut_tail, ← List.map_tail, zipD_map]
    generalize hZ : cs.zip cs.tail = Z at *
    have hZs : ∀ c ∈ Z, (Sz 300 c.1.1 ∧ (∀ q ∈ c.1.2, Sz 300 q) ∧ c.1.2.length ≤ 8) ∧ (Sz 300 c.2.1 ∧ (∀ q ∈ c.2.2, Sz 300 q) ∧ c.2.2.length ≤ 8) := fun c hc' => by
      rw [← hZ] at hc'
      have := List.of_mem_zip (a := c.1) (b := c.2) hc'
      exact ⟨hc _ this.1, hc _ (List.mem_of_mem_tail this.2)⟩
    refine ⟨fun i ρ => (Z.take i).findSome? (midR w) = none ∧ ∃ a b, ρ = [.val (.list (cs.map knotD)), .val (fr w), z, a, b, .no, .no, .no, .no, .no, .no, .no], ⟨rfl, .no, .no, rfl⟩, ?_, ?_⟩
    · rintro i d ρ hi ⟨hno, a, b, rfl⟩
      obtain ⟨⟨⟨c1, cx⟩, ⟨d1, dx⟩⟩, hk, rfl⟩ := map_at hi
      have hstep := fun hc => find_step hno hk hc
      have hhit := fun t hc => find_hit (t := t) hno hk hc
      obtain ⟨⟨s1, s2, s3⟩, s4, s5, s6⟩ := hZs _ (List.mem_of_getElem? hk)
      simp only at s1 s2 s3 s4 s5 s6
      unfold knotD
      simp only [dIf]
      walk_at "dt"
      refine go_lless s1 hw (by decide) (by omega) ?_
      by_cases k1 : c1 < w
      · rw [decide_eq_true k1]
        walk_at "dt"
        refine go_lless hw s4 (by omega) (by decide) ?_
        by_cases k2 : w < d1
        · rw [decide_eq_true k2]
          have hm := hhit _ (by unfold midR; rw [if_pos ⟨k1, k2⟩])
          rw [hm] at h
          walk_at "dl"
          have hsub := sz_sub hw s1
          have hsub2 := sz_sub s4 s1
          have hpos : 0 < d1 - c1 := by grind
          refine go_lminus hw s1 (by omega) ?_
          walk_at "dl"
          refine go_lminus s4 s1 (by omega) ?_
          walk_at "dl"
          refine ⟨Nat.zero_le _, ?_⟩
          simp only [dFor, diZipX]
          walk_at "dl"
          rw [zipD_map]
          unfold interp at h
          simp only at h
          generalize w - c1 = pa at *
          generalize d1 - c1 = wh at *
          have hY : ∀ c ∈ cx.zip dx, Sz 300 c.1 ∧ Sz 300 c.2 := fun c hc' => by
            have := List.of_mem_zip (a := c.1) (b := c.2) hc'
            exact ⟨s2 _ this.1, s5 _ this.2⟩
          have hYl : (cx.zip dx).length ≤ 8 := by rw [List.length_zip]; omega
          generalize cx.zip dx = Y at *
          refine ⟨fun i ρ => ∃ a b c d, ρ = [.val (.list (cs.map knotD)), .val (fr w), z, .val (knotD (c1, cx)), .val (knotD (d1, dx)), .val (fr pa), .val (fr wh), .mu true (.lst (((Y.take i).map fun z => z.1 + (z.2 - z.1) * pa / wh).map fr)), a, b, c, d], ⟨.no, .no, .no, .no, rfl⟩, ?_, ?_⟩
          · rintro j d ρ hj ⟨a', b', c', d', rfl⟩
            obtain ⟨⟨x, y⟩, hy, rfl⟩ := map_at hj
            obtain ⟨y1, y2⟩ := hY _ (List.mem_of_getElem? hy)
            have hjl := lt_len hy
            have e1 : ((Y.take (j + 1)).map fun z => z.1 + (z.2 - z.1) * pa / wh).map fr = ((Y.take j).map fun z => z.1 + (z.2 - z.1) * pa / wh).map fr ++ [fr (x + (y - x) * pa / wh)] := by
              rw [List.take_add_one, hy]; simp
            simp only [e1]
            have hGl : (((Y.take j).map fun z => z.1 + (z.2 - z.1) * pa / wh).map fr).length ≤ 8 := by rw [List.length_map, List.length_map, List.length_take]; omega
            generalize ((Y.take j).map fun z => z.1 + (z.2 - z.1) * pa / wh).map fr = G at *
            simp only at y1 y2
            walk_at "dl"
            refine go_lminus y2 y1 (by omega) ?_
            have hm := sz_sub y2 y1
            generalize y - x = m at *
            have hst := sz_div (sz_mul hm hsub) hsub2 (by grind)
            have hsf := step_frac (m := m) (p := pa) hpos
            have n0 : 0 < wh.num := by
              have h1 : ¬ wh.num ≤ 0 := fun z => by
                have := Rat.num_nonneg (q := -wh)
                rw [Rat.neg_num] at this
                have := this.mp (by omega)
                grind
              omega
            have d1' := m.den_pos
            have d2' := pa.den_pos
            walk_at "dl"
            simp only [fIx_fr0, fIx_fr1]
            walk_at "dl"
            refine ⟨mul_ok hm.1 hsub.1 (by omega), mul_ok (mul_lt2 hm.1 hsub.1) (den_abs hsub2) (by omega), mul_ok (den_abs hm) (den_abs hsub) (by omega), mul_ok (mul_lt2 (den_abs hm) (den_abs hsub)) hsub2.1 (by omega), go_lfrac ?_ ?_ ?_⟩
            · exact Int.mul_pos (Int.mul_pos (by omega) (by omega)) n0
            · exact Nat.lt_of_lt_of_le (mul_lt2 (mul_lt2 (den_abs hm) (den_abs hsub)) hsub2.1) (Nat.pow_le_pow_right (by decide) (by omega))
            · simp only [hsf]
              walk_at "dl"
              refine go_lplus y1 hst (by omega) ?_
              walk_at "dl"
              exact ⟨by unfold lim; omega, _, _, _, _, rfl⟩
          · rintro ρ ⟨a', b', c', d', rfl⟩
            rw [List.length_map, List.take_length]
            walk_at "dl"
            exact h _ (.inr rfl)
        · rw [decide_eq_false k2]
          exact ⟨hstep (by unfold midR; rw [if_neg fun z => k2 z.2]), _, _, rfl⟩
      · rw [decide_eq_false k1]
        exact ⟨hstep (by unfold midR; rw [if_neg fun z => k1 z.1]), _, _, rfl⟩
    · rintro ρ ⟨hno, a, b, rfl⟩
      rw [List.length_map, List.take_length] at hno
      rw [hno] at h
      exact h _ (.inl rfl)
def sp__law_solve : Spec := mkSp (fun x : List Pan × Rat => [.val (rowD x.1), .val (fr x.2)]) fun x Q => (RowOk x.1 ∧ ∃ n, Sz n x.2 ∧ n ≤ 1000) ∧ ∀ z, IsOpt (divR x.1 x.2) z → Q z none
theorem hn__law_solve : ∀ ρ Qd, sp__law_solve ρ Qd → ρ.length = 2 := hn_mk fun _ => rfl
/- _law_solve: slots 0=row 1=width -/
def w__law_solve : DS := (dRet (dCall false sp__law_at (dACons (dCall false sp__law_corners (dACons (dVar 0) dANil)) (dACons (dVar 1) dANil))))
theorem vc__law_solve : VC sp__law_solve w__law_solve 0 := by
  rintro ρ Qd ⟨⟨r, w⟩, rfl, ⟨hr, n, hw, hn⟩, h⟩
  simp only at hr hw h
  have h8 := hr.n8
  unfold w__law_solve
  walk_at "dl"
  refine ⟨r, rfl, hr, ?_⟩
  walk_at "dl"
  have hs := knotsR_sz hr
  refine ⟨(knotsR r, w), rfl, ⟨fun c hc => ?_, Nat.le_trans (knotsR_len hr) (by decide), n, hw, Nat.le_trans hn (by decide)⟩, fun z hz => ?_⟩
  · obtain ⟨h1, h2, h3⟩ := hs c hc
    exact ⟨h1.mono (by decide), fun q hq => (h3 q hq).mono (by decide), by omega⟩
  · rw [solve_eq hr.all] at hz
    exact h z hz
end DL

namespace DL
open PySem PySem.Spec PyProof.Rows L2
local macro_rules | `(tactic| walk_at "dl") => `(tactic| try simp only [dSeq, dNext, dSet, dSetV, dRet, dRetN, dExpr, dBreak, dCont, dPar, dPar3, dAsg, dTest_S, dNot, dNotV_S, dOp, dUn, dC, dVar_S, dVarS_v, dVarS_m, dMov_S, dMovS_m, sB_b, muL_l, muT_t, isI_i, vaI_i, dF_v, dF_m, dChain, fAdd_ii, fAdd_ll, fAdd_tt, fI_ii, fI0_ii, fMul_ii, fMul_ti, fNeg_i, fEq_ii, fNe_ii, fIsN_n, fIsN_l, fIsN_t, fIsN_i, fIx_l, fIx_t, dANil, dACons, dAAt_S, agD, dTup, dLst, dCB, fAbs_i, fMax2_ii, fMin2_ii, fLen_l, fLen_t, fList_l, fInt_i, dParX_2, dParX_3, fList_t, fTuple_l, fTuple_t, dSl, dONone, dOSome, fSl_l, fSl_t, dIsi_S, dIsi2_S, isiS_s, dCall, agOne, agAll, agAt, agSl_d, agSl_s, agS_m, dBack_n, dBack_s, seqS_l, seqS_t, nos, List.replicate, List.append, List.map, List.cons_append, List.nil_append, List.getElem?_cons_zero, List.getElem?_cons_succ, List.set_cons_zero, List.set_cons_succ, ioOf, List.length_cons, List.length_nil, dYes, gdName, gdTupN, gdCons, gdNil, frzAt, frz, dBor, dBorB, flatS, flatD, Option.getD_some, wipeD, dAug_S, dApp_S, dIns_S, dSetI_S, dIxM_S, dAugL_S, ixN_30, ixN_31, ixN_32, atI_0, atI_1, atI_2, atI_3, atI_4, true_and, reduceCtorEq, false_implies, implies_true, forall_const, Bool.not_true, Bool.not_false, Nat.reduceAdd, decide_true, decide_false, Int.reduceLT, Int.reduceLE, Int.reduceEq])
local macro_rules | `(tactic| walk_at "dt") => `(tactic| (walk_at "dl"; (try simp only [dAnd, dOr, dAndV_S, dOrV_S]); walk_at "dl"))
local macro_rules | `(tactic| walk_at "di") => `(tactic| (walk_at "dl"; (try simp only [dIf, dIte]); walk_at "dl"))
local macro_rules | `(tactic| walk_at "ds") => `(tactic| (walk_at "di"; walk_at "dt"; walk_at "di"))

/-! ### a division, checked by its times -/
theorem zipD_self {f : Pan → Rat} : ∀ l : List Pan, zipD (l.map pan) ((l.map f).map fr) = l.map fun p => .tuple [pan p, fr (f p)]
  | [] => rfl
  | x :: l => by
    show _ :: zipD (l.map pan) ((l.map f).map fr) = _
    rw [zipD_self l]; rfl
theorem clamp_le_of {lo v hi : Rat} (h : lo ≤ hi) (hne : clampR lo v hi ≠ lo) : clampR lo v hi ≤ v := by
  unfold clampR at *
  split at hne
  · exact absurd rfl hne
  · rename_i c
    rw [if_neg c]
    split <;> grind
theorem clamp_ge_of {lo v hi : Rat} (h : lo ≤ hi) (hne : clampR lo v hi ≠ hi) : v ≤ clampR lo v hi := by
  unfold clampR at *
  split
  · grind
  · rename_i c
    rw [if_neg c] at hne
    split
    · rename_i c2
      rw [if_pos c2] at hne
      exact absurd rfl hne
    · grind
/-- the time of a size that is not at a bound -/
theorem time_le {p : Pan} (h : PanOk p) {g : Bool} {t : Rat} (hf : 0 < facA g p) (hne : sizeT p g t ≠ (p.lo : Rat)) : (sizeT p g t - (p.b : Rat)) / (facA g p : Rat) ≤ sgn g * t := by
  have h1 := clamp_le_of (lo_hi h) hne
  have hf2 := rat_int_pos hf
  have e : (sizeT p g t - (p.b : Rat)) / (facA g p : Rat) * (facA g p : Rat) = sizeT p g t - (p.b : Rat) := Rat.div_mul_cancel (by grind)
  rw [← Rat.not_lt]
  intro z
  have := Rat.mul_lt_mul_of_pos_right z hf2
  rw [e] at this
  unfold sizeT facP at *
  unfold sgn at this
  cases g <;> simp only [facA, if_true, Bool.false_eq_true, if_false, Rat.intCast_neg] at * <;> grind
theorem time_ge {p : Pan} (h : PanOk p) {g : Bool} {t : Rat} (hf : 0 < facA g p) (hne : sizeT p g t ≠ (p.hi : Rat)) : sgn g * t ≤ (sizeT p g t - (p.b : Rat)) / (facA g p : Rat) := by
  have h1 := clamp_ge_of (lo_hi h) hne
  have hf2 := rat_int_pos hf
  have e : (sizeT p g t - (p.b : Rat)) / (facA g p : Rat) * (facA g p : Rat) = sizeT p g t - (p.b : Rat) := Rat.div_mul_cancel (by grind)
  rw [← Rat.not_lt]
  intro z
  have := Rat.mul_lt_mul_of_pos_right z hf2
  rw [e] at this
  unfold sizeT facP at *
  unfold sgn at this
  cases g <;> simp only [facA, if_true, Bool.false_eq_true, if_false, Rat.intCast_neg] at * <;> grind
theorem size_flat {p : Pan} (h : PanOk p) {g : Bool} {t : Rat} (hf : facA g p = 0) : sizeT p g t = (natP p : Rat) := by
  have hz2 : (facP g p : Rat) = 0 := by
    cases g <;> simp only [facA, facP, if_true, Bool.false_eq_true, if_false] at hf ⊢ <;> simp [hf]
  rw [sizeT, hz2, Rat.zero_mul, Rat.add_zero]
  exact clamp_nat h.lh
def sp__law_is_division : Spec := mkSp (fun x : List Pan × Int × List Rat => [.val (rowD x.1), .val (.int x.2.1), .val (.list (x.2.2.map fr))]) fun x Q => (RowOk x.1 ∧ wOk x.2.1 ∧ divR x.1 (x.2.1 : Rat) = some x.2.2) ∧ Q (.val (.bool true)) none
theorem hn__law_is_division : ∀ ρ Qd, sp__law_is_division ρ Qd → ρ.length = 3 := hn_mk fun _ => rfl
theorem isN_opt {f : Option Rat} {Q : Sl → Prop} (h : Q (.val (.bool f.isNone))) : fIsN false (optD f) .none Q := by cases f <;> exact h
theorem notN_opt {f : Option Rat} {Q : Sl → Prop} (h : Q (.val (.bool f.isSome))) : fIsN true (optD f) .none Q := by cases f <;> exact h
theorem pick_fac {p : Pan} {g : Bool} {ρ : En} {Q : Sl → En → Prop} {i j k : Nat} (h3 : ρ[i]? = some (.val (.bool g))) (h8 : ρ[j]? = some (.val (.int p.g))) (h9 : ρ[k]? = some (.val (.int p.s))) (hQ : Q (.val (.int (facA g p))) ρ) : dIte (dTest (dVar i)) (dVar j) (dVar k) ρ Q := by
  simp only [dIte, dTest_S, dVar_S, h3, dVarS_v, sB_b]
  cases g <;> simp only [h8, h9, dVarS_v] <;> exact hQ
theorem dIf_go {t : DB} {a b : DS} {E : De} {ρ : En} (h : t ρ fun z ρ1 => match z with
  | true => a E ρ1
  | false => b E ρ1) : dIf t a b E ρ := h
/- _law_is_division: slots 0=row 1=width 2=some 3=growing 4=panel 5=first 6=last 7=basis 8=grow 9=shrink 10=low 11=high 12=size 13=factor 14=gap 15=time -/
def w__law_is_division : DS := (dSeq (dIf (dTest (dOp fNe (dCall false sp__law_total (dACons (dVar 2) dANil)) (dTup (dACons (dVar 1) (dACons (dC (.int 1)) dANil))))) (dRet (dC (.bool false))) dNext) (dSeq (dSet 3 (dOp fGe (dVar 1) (dCB fSum (dACons (dLc (diSeq (dVar 0)) (gdName 4) dYes (dCall false sp__law_natural (dACons (dVar 4) dANil)) [4]) dANil)))) (dSeq (dAsg (dTup (dACons (dC .none) (dACons (dC .none) dANil))) (gdTupN 2 (gdCons (gdName 5) (gdCons (gdName 6) gdNil)))) (dSeq (dFor (diZipX (dACons (dVar 0) (dACons (dVar 2) dANil))) (gdTupN 2 (gdCons (gdTupN 5 (gdCons (gdName 7) (gdCons (gdName 8) (gdCons (gdName 9) (gdCons (gdName 10) (gdCons (gdName 11) gdNil)))))) (gdCons (gdName 12) gdNil))) (dSeq (dSet 13 (dIte (dTest (dVar 3)) (dVar 8) (dVar 9))) (dSeq (dIf (dOr (dTest (dCall false sp__law_less (dACons (dVar 12) (dACons (dTup (dACons (dVar 10) (dACons (dC (.int 1)) dANil))) dANil)))) (dTest (dCall false sp__law_less (dACons (dTup (dACons (dVar 11) (dACons (dC (.int 1)) dANil))) (dACons (dVar 12) dANil))))) (dRet (dC (.bool false))) dNext) (dIf (dTest (dOp fEq (dVar 13) (dC (.int 0)))) (dIf (dTest (dOp fNe (dVar 12) (dTup (dACons (dCB fMax2 (dACons (dVar 10) (dACons (dCB fMin2 (dACons (dVar 11) (dACons (dVar 7) dANil))) dANil))) (dACons (dC (.int 1)) dANil))))) (dRet (dC (.bool false))) dNext) (dIf (dTest (dOp fLt (dVar 10) (dVar 11))) (dSeq (dSet 14 (dCall false sp__law_minus (dACons (dVar 12) (dACons (dTup (dACons (dVar 7) (dACons (dC (.int 1)) dANil))) dANil)))) (dSeq (dSet 15 (dCall false sp__law_fraction (dACons (dOp fIx (dVar 14) (dC (.int 0))) (dACons (dOp fMul (dOp fIx (dVar 14) (dC (.int 1))) (dVar 13)) dANil)))) (dSeq (dIf (dAnd (dTest (dOp fNe (dVar 12) (dTup (dACons (dVar 10) (dACons (dC (.int 1)) dANil))))) (dOr (dTest (dOp (fIsN false) (dVar 5) (dC .none))) (dTest (dCall false sp__law_less (dACons (dVar 5) (dACons (dVar 15) dANil)))))) (dSet 5 (dVar 15)) dNext) (dIf (dAnd (dTest (dOp fNe (dVar 12) (dTup (dACons (dVar 11) (dACons (dC (.int 1)) dANil))))) (dOr (dTest (dOp (fIsN false) (dVar 6) (dC .none))) (dTest (dCall false sp__law_less (dACons (dVar 15) (dACons (dVar 6) dANil)))))) (dSet 6 (dVar 15)) dNext)))) dNext))))) (dSeq (dIf (dAnd (dTest (dOp (fIsN true) (dVar 5) (dC .none))) (dAnd (dTest (dOp (fIsN true) (dVar 6) (dC .none))) (dTest (dCall false sp__law_less (dACons (dVar 6) (dACons (dVar 5) dANil)))))) (dRet (dC (.bool false))) dNext) (dSeq (dIf (dTest (dVar 3)) (dRet (dOrV (dOp (fIsN false) (dVar 6) (dC .none)) (dNotV (dCall false sp__law_less (dACons (dVar 6) (dACons (dTup (dACons (dC (.int 0)) (dACons (dC (.int 1)) dANil))) dANil)))))) dNext) (dRet (dOrV (dOp (fIsN false) (dVar 5) (dC .none)) (dNotV (dCall false sp__law_less (dACons (dTup (dACons (dC (.int 0)) (dACons (dC (.int 1)) dANil))) (dACons (dVar 5) dANil))))))))))))
theorem vc__law_is_division : VC sp__law_is_division w__law_is_division 13 := by
  rintro ρ Qd ⟨⟨r, w, xs⟩, rfl, ⟨hr, ⟨hw0, hw1⟩, hd⟩, h⟩
  simp only at hr hw0 hw1 hd h
  have h8 := hr.n8
  have hrl : r.length ≤ lim := by unfold lim; omega
  have hwz : Sz 12 (w : Rat) := sz_small (m := 3200) (by omega) (by decide) (by decide)
  obtain ⟨hxl, hxz⟩ := div_sz hr hwz hd
  have hdv := divR_some hr.all hd
  have hsum : sumR xs = (w : Rat) := by
    obtain ⟨_, _, _, rfl, e⟩ := hdv
    exact e
  have hat : ∃ t, 0 ≤ t ∧ xs = sizesT r (growR r (w : Rat)) t := by
    unfold divR at hd
    obtain ⟨t, ht, e⟩ := Option.map_eq_some_iff.mp hd
    refine ⟨t, ?_, e.symm⟩
    unfold atR at ht
    split at ht
    · injection ht with ht
      rw [← ht]; exact Rat.le_refl
    · exact (time_some hr.all ht).1
  obtain ⟨t, ht0, hxs⟩ := hat
  have hg : decide ((r.map natP).sum ≤ w) = growR r (w : Rat) := by
    unfold growR baseR
    rw [show (decide ((w : Rat) < ((r.map natP).sum : Int))) = decide (w < (r.map natP).sum) from decide_eq_decide.mpr rat_int_lt]
    by_cases c : w < (r.map natP).sum
    · rw [decide_eq_true c, decide_eq_false (by omega)]; rfl
    · rw [decide_eq_false c, decide_eq_true (by omega)]; rfl
  unfold w__law_is_division
  walk_at "dl"
  simp only [dIf]
  walk_at "dl"
  refine go_ltotal hxz (by rw [hxl]; omega) ?_
  walk_at "dl"
  rw [← fr_int, hsum]
  refine ⟨by decide, fNe_fr ?_⟩
  have e0 : (!decide ((w : Rat) = (w : Rat))) = false := by simp
  rw [e0]
  walk_at "dl"
  simp only [dLc, diSeq]
  unfold rowD
  walk_at "dl"
  refine ⟨mapP r (fun p => .int (natP p)) [.val (rowD r), .val (.int w), .val (.list (xs.map fr)), .no, .no, .no, .no, .no, .no, .no, .no, .no, .no, .no, .no, .no], mapP_0, ?_, ?_⟩
  · rintro i acc d ρ hi q
    obtain ⟨p, hp, rfl⟩ := map_at hi
    have q2 := q.2
    subst q2
    walk_at "dl"
    exact ⟨p, rfl, mapP_yes hrl hp q rfl rfl⟩
  · rintro acc ρ q
    obtain ⟨rfl, rfl⟩ := mapP_end q (List.length_map _)
    have eI : (r.map fun p => PyData.int (natP p)) = (r.map natP).map PyData.int := by rw [List.map_map]; rfl
    rw [eI]
    refine fSum_l ?_
    walk_at "dl"
    rw [show decide (w ≥ (r.map natP).sum) = growR r (w : Rat) from hg]
    generalize growR r (w : Rat) = g at *
    simp only [dFor, diZipX]
    walk_at "dl"
    refine ⟨by decide, ?_⟩
    unfold rowD
    walk_at "dl"
    rw [hxs]
    unfold sizesT
    rw [zipD_self]
    generalize hτ : sgn g * t = τ
    generalize PyData.tuple (r.map pan) = R
    generalize PyData.list ((r.map fun p => sizeT p g t).map fr) = X
    refine ⟨fun i ρ => ∃ f1 f2 : Option Rat, (∀ q, f1 = some q → Sz 100 q ∧ q ≤ τ) ∧ (∀ q, f2 = some q → Sz 100 q ∧ τ ≤ q) ∧ ∃ a b c d e f k l m, ρ = [.val R, .val (.int w), .val X, .val (.bool g), .no, .val (optD f1), .val (optD f2), a, b, c, d, e, f, k, l, m], ⟨none, none, (fun _ h => nomatch h), (fun _ h => nomatch h), .no, .no, .no, .no, .no, .no, .no, .no, .no, rfl⟩, ?_, ?_⟩
    · rintro i d ρ hi ⟨f1, f2, hf1, hf2, a, b, c, d', e, f, k, l, m, rfl⟩
      obtain ⟨p, hp, rfl⟩ := map_at hi
      have hpo := hr.all p (List.mem_of_getElem? hp)
      have hsz : Sz 52 (sizeT p g t) := hxz _ (by rw [hxs]; exact List.mem_map.mpr ⟨p, List.mem_of_getElem? hp, rfl⟩)
      have hlo := clamp_ge (v := (p.b : Rat) + (facP g p : Rat) * t) (lo_hi hpo)
      have hhi := clamp_le (v := (p.b : Rat) + (facP g p : Rat) * t) (lo_hi hpo)
      have hle := fun hf => time_le (g := g) (t := t) hpo hf
      have hge := fun hf => time_ge (g := g) (t := t) hpo hf
      have hfl := fun hf => size_flat (g := g) (t := t) hpo hf
      have hfs := facA_small (g := g) hpo
      have hx : sizeT p g t = clampR (p.lo : Rat) ((p.b : Rat) + (facP g p : Rat) * t) (p.hi : Rat) := rfl
      rw [← hx] at hlo hhi
      rw [hτ] at hle hge
      clear hx
      generalize sizeT p g t = x at *
      have := hpo.b0; have := hpo.b1; have := hpo.l0; have := hpo.lh; have := hpo.h1
      have hsm : ∀ i : Int, i.natAbs ≤ 400 → Sz 9 (i : Rat) := fun i hi => sz_small hi (by decide) (by decide)
      unfold pan
      walk_at "dl"
      refine pick_fac rfl rfl rfl ?_
      generalize facA g p = fa at *
      have test1 : ∀ Q : Bool → En → Prop, Q false [.val R, .val (.int w), .val X, .val (.bool g), .no, .val (optD f1), .val (optD f2), .val (.int p.b), .val (.int p.g), .val (.int p.s), .val (.int p.lo), .val (.int p.hi), .val (fr x), .val (.int fa), l, m] →
          dOr (dTest (dCall false sp__law_less (dACons (dVar 12) (dACons (dTup (dACons (dVar 10) (dACons (dC (PyData.int 1)) dANil))) dANil)))) (dTest (dCall false sp__law_less (dACons (dTup (dACons (dVar 11) (dACons (dC (PyData.int 1)) dANil))) (dACons (dVar 12) dANil))))
          [.val R, .val (.int w), .val X, .val (.bool g), .no, .val (optD f1), .val (optD f2), .val (.int p.b), .val (.int p.g), .val (.int p.s), .val (.int p.lo), .val (.int p.hi), .val (fr x), .val (.int fa), l, m] Q := fun Q hQ => by
        walk_at "dt"
        simp only [← fr_int]
        refine ⟨by decide, go_lless hsz (hsm _ (by omega)) (by decide) (by decide) ?_⟩
        rw [decide_eq_false (by grind)]
        walk_at "dt"
        refine ⟨by decide, go_lless (hsm _ (by omega)) hsz (by decide) (by decide) ?_⟩
        rw [decide_eq_false (by grind)]
        exact hQ
      walk_at "dl"
      refine dIf_go (test1 _ ?_)
      walk_at "dl"
      refine dIf_go ?_
      walk_at "dl"
      by_cases c0 : fa = 0
      · rw [decide_eq_true c0]
        refine dIf_go ?_
        walk_at "dl"
        refine ⟨by decide, ?_⟩
        rw [natP_eq]
        simp only [← fr_int]
        rw [hfl c0]
        refine fNe_fr ?_
        rw [show (!decide ((natP p : Rat) = (natP p : Rat))) = false by simp]
        exact ⟨f1, f2, hf1, hf2, _, _, _, _, _, _, _, _, _, rfl⟩
      · rw [decide_eq_false c0]
        refine dIf_go ?_
        walk_at "dl"
        by_cases c1 : p.lo < p.hi
        · rw [decide_eq_true c1]
          walk_at "dl"
          simp only [← fr_int]
          have hsb := sz_sub hsz (hsm p.b (by omega))
          have hf0 : 0 < fa := by omega
          refine ⟨by decide, go_lminus hsz (hsm _ (by omega)) (by decide) ?_⟩
          walk_at "dl"
          simp only [fIx_fr0, fIx_fr1]
          walk_at "dl"
          have hg0 := (x - (p.b : Rat)).den_pos
          refine ⟨mulR (by omega), go_lfrac (Int.mul_pos (by omega) hf0) (Nat.lt_of_lt_of_le (mul_lt2 (den_abs hsb) (Nat.lt_of_le_of_lt (by omega : fa.natAbs ≤ 100) (by decide : 100 < 2 ^ 7))) (Nat.pow_le_pow_right (by decide) (by decide))) ?_⟩
          rw [gap_div _ c0]
          have hue := hle hf0
          have hug := hge hf0
          have hus : Sz 100 ((x - (p.b : Rat)) / (fa : Rat)) := (sz_div hsb (sz_small (n := 7) (m := 100) (by omega) (by decide) (by decide)) (fun e => by
            have := rat_int_pos hf0
            grind)).mono (by decide)
          generalize (x - (p.b : Rat)) / (fa : Rat) = u at *
          have ifA : ∀ E, (∀ f1' : Option Rat, (∀ q, f1' = some q → Sz 100 q ∧ q ≤ τ) → E.nx [.val R, .val (.int w), .val X, .val (.bool g), .no, .val (optD f1'), .val (optD f2), .val (.int p.b), .val (.int p.g), .val (.int p.s), .val (.int p.lo), .val (.int p.hi), .val (fr x), .val (.int fa), .val (fr (x - (p.b : Rat))), .val (fr u)]) →
              dIf (dAnd (dTest (dOp fNe (dVar 12) (dTup (dACons (dVar 10) (dACons (dC (PyData.int 1)) dANil))))) (dOr (dTest (dOp (fIsN false) (dVar 5) (dC PyData.none))) (dTest (dCall false sp__law_less (dACons (dVar 5) (dACons (dVar 15) dANil)))))) (dSet 5 (dVar 15)) dNext E
              [.val R, .val (.int w), .val X, .val (.bool g), .no, .val (optD f1), .val (optD f2), .val (.int p.b), .val (.int p.g), .val (.int p.s), .val (.int p.lo), .val (.int p.hi), .val (fr x), .val (.int fa), .val (fr (x - (p.b : Rat))), .val (fr u)] := fun E hE => by
            simp only [dIf]
            walk_at "dt"
            simp only [← fr_int]
            refine ⟨by decide, fNe_fr ?_⟩
            by_cases z : x = (p.lo : Rat)
            · rw [show (!decide (x = (p.lo : Rat))) = false by simp [z]]
              exact hE f1 hf1
            · rw [show (!decide (x = (p.lo : Rat))) = true by simp [z]]
              walk_at "dt"
              refine isN_opt ?_
              have hu := hE (some u) fun q hq => by
                injection hq with hq
                rw [← hq]; exact ⟨hus, hue z⟩
              cases f1 with
              | none => exact hu
              | some q =>
                walk_at "dt"
                refine go_lless (hf1 q rfl).1 hus (by decide) (by decide) ?_
                by_cases c : q < u
                · rw [decide_eq_true c]; exact hu
                · rw [decide_eq_false c]; exact hE _ hf1
          have ifB : ∀ E (f1 : Option Rat), (∀ f2' : Option Rat, (∀ q, f2' = some q → Sz 100 q ∧ τ ≤ q) → E.nx [.val R, .val (.int w), .val X, .val (.bool g), .no, .val (optD f1), .val (optD f2'), .val (.int p.b), .val (.int p.g), .val (.int p.s), .val (.int p.lo), .val (.int p.hi), .val (fr x), .val (.int fa), .val (fr (x - (p.b : Rat))), .val (fr u)]) →
              dIf (dAnd (dTest (dOp fNe (dVar 12) (dTup (dACons (dVar 11) (dACons (dC (PyData.int 1)) dANil))))) (dOr (dTest (dOp (fIsN false) (dVar 6) (dC PyData.none))) (dTest (dCall false sp__law_less (dACons (dVar 15) (dACons (dVar 6) dANil)))))) (dSet 6 (dVar 15)) dNext E
              [.val R, .val (.int w), .val X, .val (.bool g), .no, .val (optD f1), .val (optD f2), .val (.int p.b), .val (.int p.g), .val (.int p.s), .val (.int p.lo), .val (.int p.hi), .val (fr x), .val (.int fa), .val (fr (x - (p.b : Rat))), .val (fr u)] := fun E f1 hE => by
            simp only [dIf]
            walk_at "dt"
            simp only [← fr_int]
            refine ⟨by decide, fNe_fr ?_⟩
            by_cases z : x = (p.hi : Rat)
            · rw [show (!decide (x = (p.hi : Rat))) = false by simp [z]]
              exact hE f2 hf2
            · rw [show (!decide (x = (p.hi : Rat))) = true by simp [z]]
              walk_at "dt"
              refine isN_opt ?_
              have hu := hE (some u) fun q hq => by
                injection hq with hq
                rw [← hq]; exact ⟨hus, hug z⟩
              cases f2 with
              | none => exact hu
              | some q =>
                walk_at "dt"
                refine go_lless hus (hf2 q rfl).1 (by decide) (by decide) ?_
                by_cases c : u < q
                · rw [decide_eq_true c]; exact hu
                · rw [decide_eq_false c]; exact hE _ hf2
          refine ifA _ fun f1' hf1' => ?_
          refine ifB _ f1' fun f2' hf2' => ?_
          exact ⟨f1', f2', hf1', hf2', _, _, _, _, _, _, _, _, _, rfl⟩
        · rw [decide_eq_false c1]
          exact ⟨f1, f2, hf1, hf2, _, _, _, _, _, _, _, _, _, rfl⟩
    · rintro ρ ⟨f1, f2, hf1, hf2, a, b, c, d, e, f, k, l, m, rfl⟩
      have ifC : ∀ E, E.nx [.val R, .val (.int w), .val X, .val (.bool g), .no, .val (optD f1), .val (optD f2), a, b, c, d, e, f, k, l, m] →
          dIf (dAnd (dTest (dOp (fIsN true) (dVar 5) (dC PyData.none))) (dAnd (dTest (dOp (fIsN true) (dVar 6) (dC PyData.none))) (dTest (dCall false sp__law_less (dACons (dVar 6) (dACons (dVar 5) dANil)))))) (dRet (dC (PyData.bool false))) dNext E
          [.val R, .val (.int w), .val X, .val (.bool g), .no, .val (optD f1), .val (optD f2), a, b, c, d, e, f, k, l, m] := fun E hE => by
        simp only [dIf]
        walk_at "dt"
        refine notN_opt ?_
        cases f1 with
        | none => exact hE
        | some q =>
          walk_at "dt"
          refine notN_opt ?_
          cases f2 with
          | none => exact hE
          | some q' =>
            obtain ⟨h1, h2⟩ := hf1 q rfl
            obtain ⟨h3, h4⟩ := hf2 q' rfl
            walk_at "dt"
            refine go_lless h3 h1 (by decide) (by decide) ?_
            rw [decide_eq_false (by grind)]
            exact hE
      walk_at "dl"
      refine ifC _ ?_
      have z0 : Sz 100 0 := ⟨Nat.lt_of_lt_of_le (by decide : (0 : Rat).num.natAbs < 2 ^ 3) (Nat.pow_le_pow_right (by decide) (by decide)), Nat.lt_of_lt_of_le (by decide : (0 : Rat).den < 2 ^ 3) (Nat.pow_le_pow_right (by decide) (by decide))⟩
      unfold sgn at hτ
      walk_at "dl"
      refine dIf_go ?_
      walk_at "dl"
      cases g
      · simp only [Bool.false_eq_true, if_false] at hτ
        walk_at "dt"
        refine isN_opt ?_
        cases f1 with
        | none => exact h
        | some q =>
          obtain ⟨h1, h2⟩ := hf1 q rfl
          walk_at "dt"
          rw [fr_zero]
          refine ⟨by decide, go_lless z0 h1 (by decide) (by decide) ?_⟩
          rw [decide_eq_false (by grind)]
          exact h
      · simp only [if_true] at hτ
        walk_at "dt"
        refine isN_opt ?_
        cases f2 with
        | none => exact h
        | some q =>
          obtain ⟨h1, h2⟩ := hf2 q rfl
          walk_at "dt"
          rw [fr_zero]
          refine ⟨by decide, go_lless h1 z0 (by decide) (by decide) ?_⟩
          rw [decide_eq_false (by grind)]
          exact h
end DL

namespace DL
open PySem PySem.Spec PyProof.Rows L2
/-! ### known things as data: their equality is that of the data -/
instance panDec : DecidableEq Pan := fun ⟨a1, a2, a3, a4, a5⟩ ⟨b1, b2, b3, b4, b5⟩ =>
  if h : a1 = b1 ∧ a2 = b2 ∧ a3 = b3 ∧ a4 = b4 ∧ a5 = b5 then isTrue (by obtain ⟨rfl, rfl, rfl, rfl, rfl⟩ := h; rfl)
  else isFalse fun e => h (by injection e with e1 e2 e3 e4 e5; exact ⟨e1, e2, e3, e4, e5⟩)
theorem eqv_same {x : D} (hx : SeqAt.shaped x = true) : PyData.eqv x x = true := by
  have h := fEq_same (x := x) (Q := fun z => z = .val (.bool true)) hx rfl
  unfold fEq at h
  split at h
  · simp [PyData.eqv]
  · have := h.2.2
    simpa using this
theorem fNe_same {x : D} {Q : Sl → Prop} (hx : SeqAt.shaped x = true) (h : Q (.val (.bool false))) : fNe x x Q := by
  unfold fNe
  split
  · simpa using h
  · exact ⟨hx, hx, by rw [eqv_same hx]; exact h⟩
theorem cut_upto (l : List D) (k : Nat) : cutD l none (some (k : Int)) = l.take k := by
  unfold cutD
  rw [HT.sIx_nat, HT.sIx_none, Nat.sub_zero, List.drop_zero]
  rcases Nat.le_total k l.length with h | h
  · rw [Nat.min_eq_left h]
  · rw [Nat.min_eq_right h, List.take_of_length_le (Nat.le_refl _), List.take_of_length_le h]
theorem cut_from (l : List D) (k : Nat) : cutD l (some (k : Int)) none = l.drop k := by
  unfold cutD
  rw [HT.sIx_nat, HT.sIx_none]
  rcases Nat.le_total k l.length with h | h
  · rw [Nat.min_eq_left h, List.take_of_length_le]
    rw [List.length_drop]; exact Nat.le_refl _
  · rw [Nat.min_eq_right h, Nat.sub_self, List.take_zero, List.drop_of_length_le h]
structure Enc {α : Type} [DecidableEq α] (f : α → D) (n : Nat) : Prop where
  lay : ∀ x, Lay n (f x)
  eq : ∀ a b, PyData.eqv (f a) (f b) = decide (a = b)
theorem enc_int : Enc PyData.int 1 := ⟨lay_int, fun a b => by by_cases h : a = b <;> simp [PyData.eqv, h]⟩
theorem enc_bool : Enc PyData.bool 1 := ⟨lay_bool, fun a b => by by_cases h : a = b <;> simp [PyData.eqv, h]⟩
theorem enc_fr : Enc fr 2 := ⟨lay_fr, eqv_fr⟩
section
variable {α β : Type} [DecidableEq α] [DecidableEq β] {f : α → D} {g : β → D} {n m : Nat}
theorem Enc.mono (e : Enc f n) (h : n ≤ m) : Enc f m := ⟨fun x => (e.lay x).mono h, e.eq⟩
theorem eqvAll_map (e : ∀ a b, PyData.eqv (f a) (f b) = decide (a = b)) : ∀ l m : List α, PyData.eqvAll (l.map f) (m.map f) = decide (l = m)
  | [], [] => by simp [PyData.eqvAll]
  | [], _ :: _ => by simp [PyData.eqvAll]
  | _ :: _, [] => by simp [PyData.eqvAll]
  | x :: l, y :: m => by
    simp only [List.map_cons, PyData.eqvAll]
    rw [e, eqvAll_map e l m]
    by_cases h1 : x = y <;> by_cases h2 : l = m <;> simp [h1, h2]
theorem Enc.list (e : Enc f n) : Enc (fun l : List α => PyData.list (l.map f)) (n + 1) := ⟨fun l => lay_mapL e.lay, fun a b => by
  simp only [PyData.eqv]
  exact eqvAll_map e.eq a b⟩
theorem Enc.tup (e : Enc f n) : Enc (fun l : List α => PyData.tuple (l.map f)) (n + 1) := ⟨fun l => lay_mapT e.lay, fun a b => by
  simp only [PyData.eqv]
  exact eqvAll_map e.eq a b⟩
theorem Enc.pair (e : Enc f n) (e' : Enc g n) : Enc (fun x : α × β => PyData.tuple [f x.1, g x.2]) (n + 1) := ⟨fun x => lay_tuple fun y hy => by
    simp only [List.mem_cons, List.mem_nil_iff, or_false] at hy
    rcases hy with rfl | rfl
    · exact e.lay _
    · exact e'.lay _, fun a b => by
  simp only [PyData.eqv, PyData.eqvAll]
  rw [e.eq, e'.eq]
  obtain ⟨a1, a2⟩ := a
  obtain ⟨b1, b2⟩ := b
  by_cases h1 : a1 = b1 <;> by_cases h2 : a2 = b2 <;> simp [h1, h2]⟩
def isNon : D → Bool
  | .none => true
  | _ => false
def optF (f : α → D) : Option α → D
  | none => .none
  | some x => f x
theorem eqv_none_l {x : D} (h : isNon x = false) : PyData.eqv .none x = false := by cases x <;> first | (simp [PyData.eqv]; done) | cases h
theorem eqv_none_r {x : D} (h : isNon x = false) : PyData.eqv x .none = false := by cases x <;> first | (simp [PyData.eqv]; done) | cases h
theorem Enc.opt (e : Enc f n) (hn : ∀ x, isNon (f x) = false) (h1 : 1 ≤ n) : Enc (optF f) n := ⟨fun x => by
    cases x with
    | none => exact lay_none.mono h1
    | some x => exact e.lay x, fun a b => by
  cases a <;> cases b
  · simp [optF, PyData.eqv]
  · simp [optF, eqv_none_l (hn _)]
  · simp [optF, eqv_none_r (hn _)]
  · simp [optF, e.eq]⟩
theorem fEq_of {x y : D} {b : Bool} {Q : Sl → Prop} (hx : SeqAt.shaped x = true) (hy : SeqAt.shaped y = true) (e : PyData.eqv x y = b) (h : Q (.val (.bool b))) : fEq x y Q := by
  unfold fEq
  split
  · rename_i i j
    rw [enc_int.eq] at e
    rw [e]; exact h
  · exact ⟨hx, hy, by rw [e]; exact h⟩
theorem fNe_of {x y : D} {b : Bool} {Q : Sl → Prop} (hx : SeqAt.shaped x = true) (hy : SeqAt.shaped y = true) (e : PyData.eqv x y = b) (h : Q (.val (.bool (!b)))) : fNe x y Q := by
  unfold fNe
  split
  · rename_i i j
    rw [enc_int.eq] at e
    rw [e]; exact h
  · exact ⟨hx, hy, by rw [e]; exact h⟩
theorem Enc.fEq (e : Enc f n) (hn : n ≤ 64) {a b : α} {Q : Sl → Prop} (h : Q (.val (.bool (decide (a = b))))) : fEq (f a) (f b) Q := fEq_of ((e.lay a).shaped hn) ((e.lay b).shaped hn) (e.eq a b) h
theorem Enc.fNe (e : Enc f n) (hn : n ≤ 64) {a b : α} {Q : Sl → Prop} (h : Q (.val (.bool (!decide (a = b))))) : fNe (f a) (f b) Q := fNe_of ((e.lay a).shaped hn) ((e.lay b).shaped hn) (e.eq a b) h
theorem Enc.any (e : Enc f n) {q : α} : ∀ l : List α, (l.map f).any (fun z => PyData.eqv z (f q)) = decide (q ∈ l)
  | [] => by simp
  | x :: l => by
    rw [List.map_cons, List.any_cons, Enc.any e l, e.eq]
    by_cases c : x = q
    · subst c; simp
    · simp [c, Ne.symm c]
theorem Enc.fNotIn (e : Enc f n) (hn : n + 1 ≤ 64) {q : α} {l : List α} {Q : Sl → Prop} (h : Q (.val (.bool (!decide (q ∈ l))))) : fInX true (f q) (.list (l.map f)) Q := .inr ⟨(e.lay q).shaped (by omega), (e.list.lay l).shaped hn, by
  rw [e.any]; exact h⟩
theorem Enc.fIn (e : Enc f n) (hn : n + 1 ≤ 64) {q : α} {l : List α} {Q : Sl → Prop} (h : Q (.val (.bool (decide (q ∈ l))))) : fInX false (f q) (.list (l.map f)) Q := .inr ⟨(e.lay q).shaped (by omega), (e.list.lay l).shaped hn, by
  rw [e.any]; exact h⟩
end
theorem enc_rats : Enc ratsD 3 := enc_fr.list
theorem enc_ints : Enc (fun l : List Int => PyData.list (l.map PyData.int)) 2 := enc_int.list
theorem enc_optR : Enc optD2 3 := by
  have h := enc_rats.opt (fun x => rfl) (by decide)
  have e : optD2 = optF ratsD := by funext x; cases x <;> rfl
  rw [e]; exact h
theorem enc_pair : Enc (fun x : Rat × Rat => PyData.tuple [fr x.1, fr x.2]) 3 := enc_fr.pair enc_fr
theorem enc_knot : Enc knotD 4 := (enc_fr.mono (by decide)).pair enc_rats
theorem enc_pan : Enc pan 2 := ⟨lay_pan, fun a b => by
  obtain ⟨a1, a2, a3, a4, a5⟩ := a
  obtain ⟨b1, b2, b3, b4, b5⟩ := b
  simp only [pan, PyData.eqv, PyData.eqvAll]
  rw [Bool.eq_iff_iff]
  simp⟩
theorem enc_row : Enc rowD 3 := enc_pan.tup
/-! ### answers -/
theorem optS_dF {o : Option (List Rat)} {K : D → Prop} (k : K (optD2 o)) : dF (optS o) K := isOpt_dF (.inr rfl) k
theorem notN_optD2 {o : Option (List Rat)} {Q : Sl → Prop} (h : Q (.val (.bool o.isSome))) : fIsN true (optD2 o) .none Q := by cases o <;> exact h
theorem isN_optD2 {o : Option (List Rat)} {Q : Sl → Prop} (h : Q (.val (.bool o.isNone))) : fIsN false (optD2 o) .none Q := by cases o <;> exact h
theorem ixI_nat {α : Type} {f : α → D} {l : List α} {j : Nat} {x : α} {Q : Sl → Prop} (hx : l[j]? = some x) (h : Q (.val (f x))) : fIx (.list (l.map f)) (.int (j : Nat)) Q := by
  rw [fIx_l, atI_map hx]
  exact h
theorem ixT_nat {α : Type} {f : α → D} {l : List α} {j : Nat} {x : α} {Q : Sl → Prop} (hx : l[j]? = some x) (h : Q (.val (f x))) : fIx (.tuple (l.map f)) (.int (j : Nat)) Q := by
  rw [fIx_t, atI_map hx]
  exact h
end DL

namespace DL
open PySem PySem.Spec PyProof.Rows L2
/-! ### plain law: one panel changes, the others move one way -/
theorem sg_mono {p : Pan} (h : PanOk p) {t u : Rat} (htu : t ≤ u) : sgP p t ≤ sgP p u := by
  by_cases c : 0 ≤ t
  · rw [sg_pos c, sg_pos (by grind)]
    exact size_up h htu
  · have e : t = -(-t) := (Rat.neg_neg t).symm
    rw [e, sg_neg (by grind)]
    by_cases d : 0 ≤ u
    · rw [sg_pos d]
      exact size_sides h (by grind) d
    · have e2 : u = -(-u) := (Rat.neg_neg u).symm
      rw [e2, sg_neg (by grind)]
      exact size_down h (by grind)
theorem Dv.sig {r : List Pan} {w : Rat} {xs : List Rat} (d : Dv r w xs) : ∃ t, xs = sigR r t ∧ sumR (sigR r t) = w := by
  obtain ⟨g, t, ht, rfl, e⟩ := d
  cases g
  · have e2 : sigR r (-t) = sizesT r false t := List.map_congr_left fun p _ => sg_neg ht
    exact ⟨-t, e2.symm, by rw [e2]; exact e⟩
  · have e2 : sigR r t = sizesT r true t := List.map_congr_left fun p _ => sg_pos ht
    exact ⟨t, e2.symm, by rw [e2]; exact e⟩
theorem sig_le {r : List Pan} (h : ∀ p ∈ r, PanOk p) {t u : Rat} (htu : t ≤ u) : sumR (sigR r t) ≤ sumR (sigR r u) := sumR_map_le fun p hp => sg_mono (h p hp) htu
theorem sig_eq {r : List Pan} (h : ∀ p ∈ r, PanOk p) {t u : Rat} (htu : t ≤ u) (e : sumR (sigR r t) = sumR (sigR r u)) : sigR r t = sigR r u := List.map_congr_left (sumR_map_eq (fun p hp => sg_mono (h p hp) htu) e)
theorem sig_app (a b : List Pan) (t : Rat) : sigR (a ++ b) t = sigR a t ++ sigR b t := List.map_append
/-- a panel that is never less wide: it takes, the others give -/
theorem change_one {a b : List Pan} {p q : Pan} (ha : ∀ x ∈ a, PanOk x) (hb : ∀ x ∈ b, PanOk x) (hq : PanOk q) (hpq : ∀ t, sgP p t ≤ sgP q t) {w : Rat} {xs ys : List Rat} (dx : Dv (a ++ p :: b) w xs) (dy : Dv (a ++ q :: b) w ys) :
    ∃ t u, xs = sigR a t ++ sgP p t :: sigR b t ∧ ys = sigR a u ++ sgP q u :: sigR b u ∧ sgP p t ≤ sgP q u ∧ (∀ x ∈ a ++ b, sgP x u ≤ sgP x t) := by
  obtain ⟨t, rfl, ex⟩ := dx.sig
  obtain ⟨u, rfl, ey⟩ := dy.sig
  have e1 : ∀ (z : Pan) (t : Rat), sigR (a ++ z :: b) t = sigR a t ++ sgP z t :: sigR b t := fun z t => List.map_append
  have s1 : ∀ (z : Pan) (t : Rat), sumR (sigR (a ++ z :: b) t) = sumR (sigR a t) + (sgP z t + sumR (sigR b t)) := fun z t => by rw [e1, sumR_app]; rfl
  rw [s1] at ex ey
  refine ⟨t, u, e1 _ _, e1 _ _, ?_⟩
  by_cases c : u ≤ t
  · have h1 := sig_le ha c
    have h2 := sig_le hb c
    refine ⟨by grind, fun x hx => sg_mono ?_ c⟩
    rcases List.mem_append.mp hx with hx | hx
    · exact ha x hx
    · exact hb x hx
  · have c2 : t ≤ u := by grind
    have h1 := sig_le ha c2
    have h2 := sig_le hb c2
    have h3 := sg_mono hq c2
    have h4 := hpq t
    have ea := sig_eq ha c2 (by grind)
    have eb := sig_eq hb c2 (by grind)
    refine ⟨by grind, fun x hx => ?_⟩
    rcases List.mem_append.mp hx with hx | hx
    · have := List.map_inj_left.mp ea x hx
      grind
    · have := List.map_inj_left.mp eb x hx
      grind
theorem sg_nonneg {p : Pan} (h : PanOk p) (t : Rat) : 0 ≤ sgP p t := by
  have h1 := clamp_ge (v := (p.b : Rat) + ((if 0 ≤ t then p.g else p.s : Int) : Rat) * t) (lo_hi h)
  have h2 := rat_int_nonneg h.l0
  unfold sgP
  grind
/-- a panel more: the others give -/
theorem add_one {a b : List Pan} {q : Pan} (ha : ∀ x ∈ a, PanOk x) (hb : ∀ x ∈ b, PanOk x) (hq : PanOk q) {w : Rat} {xs ys : List Rat} (dx : Dv (a ++ b) w xs) (dy : Dv (a ++ q :: b) w ys) :
    ∃ t u, xs = sigR a t ++ sigR b t ∧ ys = sigR a u ++ sgP q u :: sigR b u ∧ (∀ x ∈ a ++ b, sgP x u ≤ sgP x t) := by
  obtain ⟨t, rfl, ex⟩ := dx.sig
  obtain ⟨u, rfl, ey⟩ := dy.sig
  have e1 : ∀ (z : Pan) (t : Rat), sigR (a ++ z :: b) t = sigR a t ++ sgP z t :: sigR b t := fun z t => List.map_append
  rw [e1, sumR_app] at ey
  rw [sig_app, sumR_app] at ex
  have e2 : sumR (sgP q u :: sigR b u) = sgP q u + sumR (sigR b u) := rfl
  rw [e2] at ey
  have hq0 := sg_nonneg hq u
  refine ⟨t, u, sig_app _ _ _, e1 _ _, ?_⟩
  by_cases c : u ≤ t
  · intro x hx
    refine sg_mono ?_ c
    rcases List.mem_append.mp hx with hx | hx
    · exact ha x hx
    · exact hb x hx
  · have c2 : t ≤ u := by grind
    have h1 := sig_le ha c2
    have h2 := sig_le hb c2
    have ea := sig_eq ha c2 (by grind)
    have eb := sig_eq hb c2 (by grind)
    intro x hx
    rcases List.mem_append.mp hx with hx | hx
    · have := List.map_inj_left.mp ea x hx
      grind
    · have := List.map_inj_left.mp eb x hx
      grind
/-- larger numbers, larger sizes -/
theorem sg_num {p q : Pan} (hp : p.lo ≤ p.hi) (hq : q.lo ≤ q.hi) (hb : p.b ≤ q.b) (hg : p.g = q.g) (hs : p.s = q.s) (hl : p.lo ≤ q.lo) (hh : p.hi ≤ q.hi) (t : Rat) : sgP p t ≤ sgP q t := by
  have h1 := rat_int_le.mpr hp
  have h2 := rat_int_le.mpr hq
  have h3 := rat_int_le.mpr hb
  have h4 := rat_int_le.mpr hl
  have h5 := rat_int_le.mpr hh
  unfold sgP
  rw [hg, hs]
  generalize ((if 0 ≤ t then q.g else q.s : Int) : Rat) * t = z
  unfold clampR
  split <;> split <;> (repeat' split) <;> grind
end DL

namespace DL
open PySem PySem.Spec PyProof.Rows L2
/-! ### plain law: corners in order, slopes, bends -/
theorem dv_two {r : List Pan} (h : ∀ p ∈ r, PanOk p) {w w' : Rat} {xs ys : List Rat} (dx : Dv r w xs) (dy : Dv r w' ys) (hw : w ≤ w') : ∃ t u, t ≤ u ∧ xs = sigR r t ∧ ys = sigR r u ∧ sumR (sigR r t) = w ∧ sumR (sigR r u) = w' := by
  obtain ⟨t, rfl, ex⟩ := dx.sig
  obtain ⟨u, rfl, ey⟩ := dy.sig
  by_cases c : t ≤ u
  · exact ⟨t, u, c, rfl, rfl, ex, ey⟩
  · have c2 : u ≤ t := by grind
    have h1 := sig_le h c2
    have e := sig_eq h c2 (by grind)
    exact ⟨t, t, Rat.le_refl, rfl, e, ex, by grind⟩
theorem sumR_one {α : Type} {f g : α → Rat} : ∀ {l : List α}, (∀ x ∈ l, f x ≤ g x) → ∀ x ∈ l, g x - f x ≤ sumR (l.map g) - sumR (l.map f)
  | [], _, x, hx => by cases hx
  | y :: l, h, x, hx => by
    rw [List.map_cons, List.map_cons]
    have h1 := h y List.mem_cons_self
    have h2 := sumR_map_le (f := f) (g := g) (l := l) fun z hz => h z (List.mem_cons_of_mem _ hz)
    unfold sumR
    rcases List.mem_cons.mp hx with rfl | hx
    · grind
    · have h3 := sumR_one (l := l) (fun z hz => h z (List.mem_cons_of_mem _ hz)) x hx
      grind
theorem ch_pair {α : Type} {R : α → α → Prop} (tr : ∀ a b c, R a b → R b c → R a c) : ∀ {l : List α}, Ch R l → l.Pairwise R
  | [], _ => .nil
  | [_], _ => List.pairwise_singleton _ _
  | x :: y :: l, h => by
    have h2 := ch_pair tr (l := y :: l) h.2
    refine .cons (fun z hz => ?_) h2
    rcases List.mem_cons.mp hz with rfl | hz
    · exact h.1
    · exact tr _ _ _ h.1 (List.rel_of_pairwise_cons h2 hz)
theorem ch_imp {α : Type} {R S : α → α → Prop} (f : ∀ a b, R a b → S a b) : ∀ {l : List α}, Ch R l → Ch S l
  | [], _ => trivial
  | [_], _ => trivial
  | _ :: y :: l, h => ⟨f _ _ h.1, ch_imp f (l := y :: l) h.2⟩
theorem knots_sorted {r : List Pan} (h : ∀ p ∈ r, PanOk p) : (knotsR r).Pairwise fun c d => c.1 < d.1 := ch_pair (fun _ _ _ a b => by grind) (ch_imp (fun _ _ n => n.2.2.2) (knots_nb h))
theorem knots_fst {r : List Pan} (h : ∀ p ∈ r, PanOk p) : ∃ c l, knotsR r = c :: l ∧ c.1 = (endR r false : Rat) := by
  have h1 := knots_head (r := r)
  cases e : knotsR r with
  | nil => exact absurd e (knots_ne r)
  | cons c l =>
    rw [e] at h1
    injection h1 with h1
    refine ⟨c, l, rfl, ?_⟩
    rw [h1]
    exact sum_end h (sorted_last (times_sorted r false) (times_ne r false))
theorem knots_lst {r : List Pan} (h : ∀ p ∈ r, PanOk p) : ∃ d, (knotsR r).getLast? = some d ∧ d.1 = (endR r true : Rat) := by
  obtain ⟨d, h1, h2⟩ := knots_last h
  refine ⟨d, h1, ?_⟩
  rw [h2]
  exact sum_end h (sorted_last (times_sorted r true) (times_ne r true))
theorem nb_of {r : List Pan} (h : ∀ p ∈ r, PanOk p) {c d : Rat × List Rat} (k : Cons (knotsR r) c d) : Nb r c d := ch_cons (knots_nb h) k
/-- neighbours: both as sizes of the panels, the second ones at least as great -/
theorem Nb.two {r : List Pan} (h : ∀ p ∈ r, PanOk p) {c d : Rat × List Rat} (n : Nb r c d) : ∃ f g : Pan → Rat, (∀ p ∈ r, f p ≤ g p) ∧ c.2 = r.map f ∧ d.2 = r.map g := by
  obtain ⟨⟨a, b, ⟨k, e1, e2⟩ | ⟨k, e1, e2⟩⟩, _, _, _⟩ := n
  · have hab := Rat.le_of_lt (cons_lt (times_sorted r true) k)
    exact ⟨_, _, fun p hp => size_up (h p hp) hab, e1, e2⟩
  · have hab := Rat.le_of_lt (cons_lt (times_sorted r false) k)
    exact ⟨_, _, fun p hp => size_down (h p hp) hab, e1, e2⟩
/-! slopes -/
def slopeR (c d : Rat × List Rat) : List Rat := (c.2.zip d.2).map fun z => (z.2 - z.1) / (d.1 - c.1)
theorem sumR_div {α : Type} (f g : α → Rat) (k : Rat) : ∀ l : List α, sumR (l.map fun x => (g x - f x) / k) = (sumR (l.map g) - sumR (l.map f)) / k
  | [] => by simp only [List.map_nil, sumR]; grind
  | x :: l => by
    simp only [List.map_cons, sumR]
    rw [sumR_div f g k l]
    grind
theorem slope_map {r : List Pan} {c d : Rat × List Rat} {f g : Pan → Rat} (e1 : c.2 = r.map f) (e2 : d.2 = r.map g) : slopeR c d = r.map fun p => (g p - f p) / (d.1 - c.1) := by
  unfold slopeR
  rw [e1, e2, zip_maps, List.map_map]
  rfl
theorem slope_one {r : List Pan} (h : ∀ p ∈ r, PanOk p) {c d : Rat × List Rat} (n : Nb r c d) : sumR (slopeR c d) = 1 := by
  obtain ⟨f, g, _, e1, e2⟩ := n.two h
  obtain ⟨_, s1, s2, lt⟩ := n
  rw [slope_map e1 e2, sumR_div, ← e1, ← e2, ← s1, ← s2]
  grind
def segs {α : Type} (l : List α) : List (α × α) := l.zip l.tail
theorem segs_mem {α : Type} {l : List α} {z : α × α} (h : z ∈ segs l) : Cons l z.1 z.2 := cons_zip.mp h
/-- of two segments the earlier one ends before the later one begins -/
theorem segs_lt {l : List (Rat × List Rat)} (h : l.Pairwise fun c d => c.1 < d.1) {i j : Nat} {x y : (Rat × List Rat) × (Rat × List Rat)} (hij : i < j) (hx : (segs l)[i]? = some x) (hy : (segs l)[j]? = some y) : x.2.1 ≤ y.1.1 := by
  unfold segs at hx hy
  rw [List.getElem?_zip_eq_some] at hx hy
  have h1 := hx.2
  have h2 := hy.1
  rw [List.getElem?_tail] at h1
  by_cases e : i + 1 = j
  · subst e
    rw [h1] at h2
    injection h2 with h2
    rw [h2]
    exact Rat.le_refl
  · have k1 := lt_len h1
    have k2 := lt_len h2
    rw [List.getElem?_eq_getElem k1] at h1
    rw [List.getElem?_eq_getElem k2] at h2
    injection h1 with h1
    injection h2 with h2
    rw [← h1, ← h2]
    exact Rat.le_of_lt (List.pairwise_iff_getElem.mp h _ _ k1 k2 (by omega))
def inSeg (w : Rat) (z : (Rat × List Rat) × (Rat × List Rat)) : Option (List Rat) := if z.1.1 ≤ w ∧ w < z.2.1 then some (slopeR z.1 z.2) else none
def sharesR (r : List Pan) (w : Rat) : Option (List Rat) := (segs (knotsR r)).findSome? (inSeg w)
theorem find_take {α β : Type} {f : α → Option β} {l : List α} {i : Nat} {c : α} (hi : l[i]? = some c) : (l.take (i + 1)).findSome? f = ((l.take i).findSome? f).or (f c) := by
  rw [List.take_add_one, hi, List.findSome?_append]
  simp
/-- only one segment holds a width: the last one found is the first -/
theorem seg_once {l : List (Rat × List Rat)} (h : l.Pairwise fun c d => c.1 < d.1) {w : Rat} {i : Nat} {z : (Rat × List Rat) × (Rat × List Rat)} (hi : (segs l)[i]? = some z) (hz : z.1.1 ≤ w ∧ w < z.2.1) : ((segs l).take i).findSome? (inSeg w) = none := by
  rw [List.findSome?_eq_none_iff]
  intro x hx
  obtain ⟨j, hj, rfl⟩ := List.mem_take_iff_getElem.mp hx
  have hj' : j < (segs l).length := by omega
  have := segs_lt h (i := j) (j := i) (by omega) (List.getElem?_eq_getElem hj') hi
  unfold inSeg
  rw [if_neg]
  intro k
  grind
def segs3 {α : Type} (l : List α) : List (α × α × α) := l.zip (l.tail.zip l.tail.tail)
def bendK (z : (Rat × List Rat) × (Rat × List Rat) × (Rat × List Rat)) : Option Rat := if slopeR z.1 z.2.1 = slopeR z.2.1 z.2.2 then none else some z.2.1.1
def bendsR (r : List Pan) : List Rat := (segs3 (knotsR r)).filterMap bendK
theorem segs3_mem {α : Type} {l : List α} {z : α × α × α} (h : z ∈ segs3 l) : Cons l z.1 z.2.1 ∧ Cons l z.2.1 z.2.2 := by
  unfold segs3 at h
  obtain ⟨i, hi, e⟩ := List.mem_iff_getElem.mp h
  have e := (List.getElem?_eq_getElem hi).trans (congrArg some e)
  rw [List.getElem?_zip_eq_some, List.getElem?_zip_eq_some] at e
  obtain ⟨e1, e2, e3⟩ := e
  constructor
  · exact cons_zip.mp (List.mem_of_getElem? (i := i) (List.getElem?_zip_eq_some.mpr ⟨e1, e2⟩))
  · rw [List.getElem?_tail] at e2 e3
    refine cons_zip.mp (List.mem_of_getElem? (i := i + 1) (List.getElem?_zip_eq_some.mpr ⟨e2, ?_⟩))
    rw [List.getElem?_tail] at e3 ⊢
    exact e3
theorem bends_mem {r : List Pan} {w : Rat} (hw : w ∈ bendsR r) : ∃ c ∈ knotsR r, c.1 = w := by
  obtain ⟨z, hz, e⟩ := List.mem_filterMap.mp hw
  unfold bendK at e
  split at e
  · cases e
  · injection e with e
    exact ⟨z.2.1, (cons_mem (segs3_mem hz).1).2, e⟩
theorem sMom_len2 {r : List Pan} (h : ∀ p ∈ r, PanOk p) : (sMom r).length ≤ r.length * 2 + 1 := by
  rw [← sMom_eq h]
  refine Nat.le_trans (ord_len _) ?_
  have key : ∀ l : List Pan, (l.flatMap sEnds).length ≤ l.length * 2 := by
    intro l
    induction l with
    | nil => exact Nat.zero_le _
    | cons p l ih =>
      have h1 : (sEnds p).length ≤ 2 := by
        unfold sEnds
        exact Nat.le_trans (List.length_filterMap_le _ _) (by simp)
      rw [List.flatMap_cons, List.length_append, List.length_cons]
      omega
  have := key r
  unfold sList
  rw [List.length_cons]
  omega
theorem knots_len2 {r : List Pan} (h : ∀ p ∈ r, PanOk p) : (knotsR r).length ≤ r.length * 2 + 1 := by
  rw [knots_sig h, sMom_eq h]
  have h1 := knots_len ((sMom r).map (sigR r)) []
  have h2 : (sMom r).length ≤ r.length * 2 + 1 := sMom_len2 h
  rw [List.length_map, List.length_nil] at h1
  omega
theorem bends_len {r : List Pan} (h : ∀ p ∈ r, PanOk p) : (bendsR r).length ≤ r.length * 2 + 1 := by
  have h1 := List.length_filterMap_le bendK (segs3 (knotsR r))
  have h2 := knots_len2 h
  unfold bendsR
  unfold segs3 at *
  rw [List.length_zip] at h1
  omega
end DL

namespace DL
open PySem PySem.Spec PyProof.Rows L2
/-! ### plain law: widths at which a panel has a size -/
def gx (i : Nat) (xs : List Rat) : Rat := (xs[i]?).getD 0
theorem gx_map {r : List Pan} {i : Nat} {p : Pan} (hp : r[i]? = some p) (f : Pan → Rat) : gx i (r.map f) = f p := by
  unfold gx
  rw [List.getElem?_map, hp]
  rfl
abbrev Seg := (Rat × List Rat) × (Rat × List Rat)
def crossR (i : Nat) (s : Rat) (z : Seg) : Rat := z.1.1 + (s - gx i z.1.2) / (gx i z.2.2 - gx i z.1.2) * (z.2.1 - z.1.1)
def firstSeg (i : Nat) (s : Rat) (z : Seg) : Option Rat := if gx i z.1.2 < s ∧ ¬ gx i z.2.2 < s then some (crossR i s z) else none
def firstW (l : List (Rat × List Rat)) (i : Nat) (s : Rat) : Option Rat := match l.head? with
  | none => none
  | some c => if ¬ gx i c.2 < s then some c.1 else (segs l).findSome? (firstSeg i s)
def lastSeg (i : Nat) (s : Rat) (z : Seg) : Option Rat := if ¬ s < gx i z.1.2 ∧ s < gx i z.2.2 then some (crossR i s z) else none
def lastW (l : List (Rat × List Rat)) (i : Nat) (s : Rat) : Option Rat := match l.getLast? with
  | none => none
  | some c => if ¬ s < gx i c.2 then some c.1 else (segs l).findSome? (lastSeg i s)
def widthsR (l : List (Rat × List Rat)) (i : Nat) (s : Rat) : Option (Rat × Rat) := match firstW l i s, lastW l i s with
  | some a, some b => if b < a then none else some (a, b)
  | _, _ => none
def lawSeg (i : Nat) (s : Rat) (z : Seg) : Option Rat := if gx i z.1.2 < s ∧ s < gx i z.2.2 then some (crossR i s z) else none
def lawFound (l : List (Rat × List Rat)) (i : Nat) (s : Rat) : List Rat := (l.filter fun c => decide (gx i c.2 = s)).map (·.1) ++ (segs l).filterMap (lawSeg i s)
def lawRange (l : List (Rat × List Rat)) (i : Nat) (s : Rat) : Option (Rat × Rat) := match (lawFound l i s).head?, (lawFound l i s).getLast? with
  | some a, some b => some (a, b)
  | _, _ => none
theorem filter_none {α : Type} {p : α → Bool} {l : List α} (h : ∀ x ∈ l, p x = false) : l.filter p = [] := List.filter_eq_nil_iff.mpr fun x hx => by rw [h x hx]; decide
theorem split3 {α : Type} {f : α → Rat} {s : Rat} : ∀ {l : List α}, l.Pairwise (fun a b => f a ≤ f b) → l = l.filter (fun x => decide (f x < s)) ++ l.filter (fun x => decide (f x = s)) ++ l.filter (fun x => decide (s < f x))
  | [], _ => rfl
  | x :: l, h => by
    have ih := split3 (s := s) h.of_cons
    have hx : ∀ y ∈ l, f x ≤ f y := fun y hy => List.rel_of_pairwise_cons h hy
    simp only [List.filter_cons]
    by_cases c1 : f x < s
    · have c2 : ¬ f x = s := by grind
      have c3 : ¬ s < f x := by grind
      simp only [c1, c2, c3, decide_true, decide_false, if_true, Bool.false_eq_true, if_false, List.cons_append]
      rw [← ih]
    · have e1 : l.filter (fun x => decide (f x < s)) = [] := filter_none fun y hy => decide_eq_false (by have := hx y hy; grind)
      rw [e1] at ih ⊢
      by_cases c2 : f x = s
      · have c3 : ¬ s < f x := by grind
        simp only [c1, c2, c3, decide_true, decide_false, if_true, Bool.false_eq_true, if_false, List.cons_append, List.nil_append] at ih ⊢
        have c4 : ¬ s < s := by grind
        simp only [c4, decide_false, Bool.false_eq_true, if_false]
        exact congrArg (x :: ·) ih
      · have c3 : s < f x := by grind
        have e2 : l.filter (fun x => decide (f x = s)) = [] := filter_none fun y hy => decide_eq_false (by have := hx y hy; grind)
        rw [e2] at ih ⊢
        simp only [c1, c2, c3, decide_true, decide_false, if_true, Bool.false_eq_true, if_false, List.cons_append, List.nil_append] at ih ⊢
        rw [← ih]
theorem segs_split {α : Type} {u v : α} {B : List α} : ∀ A : List α, segs (A ++ u :: v :: B) = segs (A ++ [u]) ++ (u, v) :: segs (v :: B)
  | [] => rfl
  | [x] => rfl
  | x :: y :: A => by
    have ih := segs_split (u := u) (v := v) (B := B) (y :: A)
    show (x, y) :: segs (y :: A ++ u :: v :: B) = _
    rw [ih]
    rfl
theorem snoc_of {α : Type} {l : List α} (h : l ≠ []) : ∃ A u, l = A ++ [u] := ⟨l.dropLast, l.getLast h, (List.dropLast_concat_getLast h).symm⟩
theorem segs_all {α : Type} {l : List α} {z : α × α} (h : z ∈ segs l) : z.1 ∈ l ∧ z.2 ∈ l := cons_mem (segs_mem h)
section
variable {i : Nat} {s : Rat} {L M R : List (Rat × List Rat)}
theorem first_none (h : ∀ c ∈ L, gx i c.2 < s) : (segs L).findSome? (firstSeg i s) = none := by
  rw [List.findSome?_eq_none_iff]
  intro z hz
  unfold firstSeg
  rw [if_neg]
  exact fun k => k.2 (h _ (segs_all hz).2)
theorem last_none (h : ∀ c ∈ L, ¬ s < gx i c.2) : (segs L).findSome? (lastSeg i s) = none := by
  rw [List.findSome?_eq_none_iff]
  intro z hz
  unfold lastSeg
  rw [if_neg]
  exact fun k => h _ (segs_all hz).2 k.2
theorem first_cross {A B : List (Rat × List Rat)} {u v : Rat × List Rat} (h : ∀ c ∈ A ++ [u], gx i c.2 < s) (hv : ¬ gx i v.2 < s) : firstW (A ++ u :: v :: B) i s = some (crossR i s (u, v)) := by
  have hh : ∃ c, (A ++ u :: v :: B).head? = some c ∧ c ∈ A ++ [u] := by
    cases A with
    | nil => exact ⟨u, rfl, by simp⟩
    | cons x A => exact ⟨x, rfl, by simp⟩
  obtain ⟨c, h1, h2⟩ := hh
  unfold firstW
  rw [h1]
  simp only
  rw [if_neg (fun k => k (h c h2)), segs_split, List.findSome?_append, first_none h, List.findSome?_cons]
  have e : firstSeg i s (u, v) = some (crossR i s (u, v)) := if_pos ⟨h u (by simp), hv⟩
  rw [e]
  rfl
theorem last_cross {A B : List (Rat × List Rat)} {u v : Rat × List Rat} (h : ∀ c ∈ A ++ [u], ¬ s < gx i c.2) (hv : ∀ c ∈ v :: B, s < gx i c.2) : lastW (A ++ u :: v :: B) i s = some (crossR i s (u, v)) := by
  have hh : ∃ c, (A ++ u :: v :: B).getLast? = some c ∧ c ∈ v :: B := by
    have e : A ++ u :: v :: B = (A ++ [u]) ++ v :: B := by simp
    rw [e, List.getLast?_append]
    cases q : (v :: B).getLast? with
    | none => rw [List.getLast?_eq_none_iff] at q; cases q
    | some c => exact ⟨c, rfl, List.mem_of_getLast? q⟩
  obtain ⟨c, h1, h2⟩ := hh
  unfold lastW
  rw [h1]
  simp only
  rw [if_neg (fun k => k (hv c h2)), segs_split, List.findSome?_append, last_none h, List.findSome?_cons]
  have e : lastSeg i s (u, v) = some (crossR i s (u, v)) := if_pos ⟨h u (by simp), hv v (by simp)⟩
  rw [e]
  rfl
theorem law_none {l : List (Rat × List Rat)} (h : ∀ z ∈ segs l, ¬ (gx i z.1.2 < s ∧ s < gx i z.2.2)) : (segs l).filterMap (lawSeg i s) = [] := by
  rw [List.filterMap_eq_nil_iff]
  intro z hz
  unfold lawSeg
  rw [if_neg (h z hz)]
theorem cross_hi {u v : Rat × List Rat} (h1 : gx i u.2 < s) (h2 : gx i v.2 = s) : crossR i s (u, v) = v.1 := by
  unfold crossR
  simp only
  rw [h2]
  have : s - gx i u.2 ≠ 0 := by grind
  have e : (s - gx i u.2) / (s - gx i u.2) = 1 := by grind
  rw [e]
  grind
theorem cross_lo {u v : Rat × List Rat} (h2 : gx i u.2 = s) : crossR i s (u, v) = u.1 := by
  unfold crossR
  simp only
  rw [h2]
  have e : (s - s) / (gx i v.2 - s) = 0 := by grind
  rw [e]
  grind
end
theorem cons_gap2 {α : Type} {f : α → Rat} {l : List α} (h : l.Pairwise fun a b => f a ≤ f b) {a b x : α} (c : Cons l a b) (hx : x ∈ l) : f x ≤ f a ∨ f b ≤ f x := by
  obtain ⟨l1, l2, rfl⟩ := c
  rw [List.pairwise_append] at h
  obtain ⟨_, h2, h3⟩ := h
  rcases List.mem_append.mp hx with hx | hx
  · exact .inl (h3 x hx a List.mem_cons_self)
  · rcases List.mem_cons.mp hx with rfl | hx
    · exact .inl Rat.le_refl
    · rcases List.mem_cons.mp hx with rfl | hx
      · exact .inr Rat.le_refl
      · exact .inr (List.rel_of_pairwise_cons h2.of_cons hx)
theorem widths_law {i : Nat} {s : Rat} {l : List (Rat × List Rat)} (hw : l.Pairwise fun c d => c.1 < d.1) (hx : l.Pairwise fun c d => gx i c.2 ≤ gx i d.2) (hl : l ≠ []) : widthsR l i s = lawRange l i s := by
  have hs := split3 (s := s) hx
  have gap := fun (z : Seg) (hz : z ∈ segs l) (m : Rat × List Rat) (hm : m ∈ l) => cons_gap2 hx (segs_mem hz) hm
  unfold lawRange lawFound
  have hL : ∀ c ∈ l.filter (fun x => decide (gx i x.2 < s)), gx i c.2 < s := fun c hc => by simpa using (List.mem_filter.mp hc).2
  have hM : ∀ c ∈ l.filter (fun x => decide (gx i x.2 = s)), gx i c.2 = s ∧ c ∈ l := fun c hc => ⟨by simpa using (List.mem_filter.mp hc).2, (List.mem_filter.mp hc).1⟩
  have hR : ∀ c ∈ l.filter (fun x => decide (s < gx i x.2)), s < gx i c.2 := fun c hc => by simpa using (List.mem_filter.mp hc).2
  generalize l.filter (fun x => decide (gx i x.2 < s)) = L at *
  generalize l.filter (fun x => decide (gx i x.2 = s)) = M at *
  generalize l.filter (fun x => decide (s < gx i x.2)) = R at *
  cases M with
  | nil =>
    rw [List.append_nil] at hs
    rw [List.map_nil, List.nil_append]
    cases R with
    | nil =>
      rw [List.append_nil] at hs
      subst hs
      have e1 : firstW l i s = none := by
        unfold firstW
        cases q : l.head? with
        | none => rfl
        | some c =>
          simp only
          rw [if_neg (fun k => k (hL c (List.mem_of_head? q))), first_none hL]
      have e2 : (segs l).filterMap (lawSeg i s) = [] := law_none fun z hz k => by
        have := hL _ (segs_all hz).2
        grind
      unfold widthsR
      rw [e1, e2]
      rfl
    | cons v B =>
      by_cases c : L = []
      · subst c
        rw [List.nil_append] at hs
        have e1 : lastW l i s = none := by
          unfold lastW
          cases q : l.getLast? with
          | none => rfl
          | some c =>
            simp only
            rw [hs] at q
            rw [if_neg (fun k => k (hR c (List.mem_of_getLast? q))), List.findSome?_eq_none_iff]
            intro z hz
            rw [hs] at hz
            unfold lastSeg
            rw [if_neg]
            exact fun k => k.1 (hR _ (segs_all hz).1)
        have e2 : (segs l).filterMap (lawSeg i s) = [] := law_none fun z hz k => by
          rw [hs] at hz
          have := hR _ (segs_all hz).1
          grind
        unfold widthsR
        rw [e1, e2]
        cases firstW l i s <;> rfl
      · obtain ⟨A, u, rfl⟩ := snoc_of c
        have hs2 : l = A ++ u :: v :: B := by rw [hs]; simp
        have e1 : firstW l i s = some (crossR i s (u, v)) := by
          rw [hs2]
          exact first_cross hL (by have := hR v (by simp); grind)
        have e2 : lastW l i s = some (crossR i s (u, v)) := by
          rw [hs2]
          exact last_cross (fun c hc => by have := hL c hc; grind) hR
        have e3 : (segs l).filterMap (lawSeg i s) = [crossR i s (u, v)] := by
          rw [hs2, segs_split, List.filterMap_append, List.filterMap_cons]
          have k1 : (segs (A ++ [u])).filterMap (lawSeg i s) = [] := law_none fun z hz k => by
            have := hL _ (segs_all hz).2
            grind
          have k2 : (segs (v :: B)).filterMap (lawSeg i s) = [] := law_none fun z hz k => by
            have := hR _ (segs_all hz).1
            grind
          have k3 : lawSeg i s (u, v) = some (crossR i s (u, v)) := if_pos ⟨hL u (by simp), hR v (by simp)⟩
          rw [k1, k2, k3]
          rfl
        unfold widthsR
        rw [e1, e2, e3]
        simp only
        rw [if_neg (by grind)]
        rfl
  | cons m M =>
    have hm := hM m List.mem_cons_self
    have e3 : (segs l).filterMap (lawSeg i s) = [] := law_none fun z hz k => by
      have := gap z hz m hm.2
      grind
    rw [e3, List.append_nil]
    obtain ⟨M', n, hn⟩ := snoc_of (List.cons_ne_nil m M)
    have hn2 : gx i n.2 = s := (hM n (by rw [hn]; simp)).1
    have e1 : firstW l i s = some m.1 := by
      by_cases c : L = []
      · subst c
        unfold firstW
        rw [hs]
        simp only [List.nil_append, List.cons_append, List.head?_cons]
        rw [if_pos (by grind)]
      · obtain ⟨A, u, rfl⟩ := snoc_of c
        have hs2 : l = A ++ u :: m :: (M ++ R) := by rw [hs]; simp
        rw [hs2, first_cross hL (by grind), cross_hi (hL u (by simp)) hm.1]
    have e2 : lastW l i s = some n.1 := by
      cases R with
      | nil =>
        unfold lastW
        have q : l.getLast? = some n := by rw [hs, hn]; simp
        rw [q]
        simp only
        rw [if_pos (by grind)]
      | cons v B =>
        have hs2 : l = (L ++ M') ++ n :: v :: B := by rw [hs, hn]; simp
        rw [hs2, last_cross (fun c hc => ?_) hR, cross_lo hn2]
        rw [List.append_assoc, ← hn] at hc
        rcases List.mem_append.mp hc with hc | hc
        · have := hL c hc; grind
        · have := (hM c hc).1; grind
    have hle : m.1 ≤ n.1 := by
      have hsub : (m :: M).Sublist l := by
        rw [hs]
        exact (List.sublist_append_right L _).trans (List.sublist_append_left _ R)
      have hp := hw.sublist hsub
      by_cases c : M' = []
      · subst c
        injection hn with h1 h2
        rw [h1]
        exact Rat.le_refl
      · have : n ∈ M := by
          cases M' with
          | nil => exact absurd rfl c
          | cons x M' =>
            injection hn with h1 h2
            rw [h2]; simp
        exact Rat.le_of_lt (List.rel_of_pairwise_cons hp this)
    unfold widthsR
    rw [e1, e2]
    simp only
    rw [if_neg (by grind)]
    have q1 : (((m :: M).map (·.1)) : List Rat).head? = some m.1 := rfl
    have q2 : (((m :: M).map (·.1)) : List Rat).getLast? = some n.1 := by rw [hn]; simp
    rw [q1, q2]
/-! the sizes grow with the width -/
theorem knots_mono {r : List Pan} (h : ∀ p ∈ r, PanOk p) (i : Nat) : (knotsR r).Pairwise fun c d => gx i c.2 ≤ gx i d.2 := by
  refine ch_pair (R := fun c d : Rat × List Rat => gx i c.2 ≤ gx i d.2) (fun _ _ _ a b => Rat.le_trans a b) (ch_imp (fun c d n => ?_) (knots_nb h))
  obtain ⟨f, g, hfg, e1, e2⟩ := n.two h
  rw [e1, e2]
  cases q : r[i]? with
  | none =>
    unfold gx
    rw [List.getElem?_map, List.getElem?_map, q]
    exact Rat.le_refl
  | some p =>
    rw [gx_map q, gx_map q]
    exact hfg p (List.mem_of_getElem? q)
theorem gx_mono {r : List Pan} (h : ∀ p ∈ r, PanOk p) {w w' : Rat} {xs ys : List Rat} (dx : Dv r w xs) (dy : Dv r w' ys) (hw : w ≤ w') (i : Nat) : gx i xs ≤ gx i ys := by
  obtain ⟨t, u, htu, rfl, rfl, _, _⟩ := dv_two h dx dy hw
  cases q : r[i]? with
  | none =>
    unfold gx sigR
    rw [List.getElem?_map, List.getElem?_map, q]
    exact Rat.le_refl
  | some p =>
    unfold sigR
    rw [gx_map q, gx_map q]
    exact sg_mono (h p (List.mem_of_getElem? q)) htu
theorem interp_gx {r : List Pan} {c d : Rat × List Rat} {f g : Pan → Rat} (e1 : c.2 = r.map f) (e2 : d.2 = r.map g) {i : Nat} (hi : i < r.length) (w : Rat) : gx i (interp c d w) = gx i c.2 + (gx i d.2 - gx i c.2) * (w - c.1) / (d.1 - c.1) := by
  have hp := List.getElem?_eq_getElem hi
  unfold interp
  rw [e1, e2, zip_maps, List.map_map, gx_map hp, gx_map hp, gx_map hp]
  rfl
theorem cross_dv {r : List Pan} (h : ∀ p ∈ r, PanOk p) {i : Nat} (hi : i < r.length) {s : Rat} {u v : Rat × List Rat} (k : Cons (knotsR r) u v) (h1 : gx i u.2 ≤ s) (h2 : s ≤ gx i v.2) (hne : gx i u.2 < gx i v.2) :
    u.1 ≤ crossR i s (u, v) ∧ crossR i s (u, v) ≤ v.1 ∧ ∃ xs, Dv r (crossR i s (u, v)) xs ∧ gx i xs = s := by
  have n := nb_of h k
  obtain ⟨f, g, _, e1, e2⟩ := n.two h
  have hlt := n.2.2.2
  obtain ⟨q, q0, q1, qe, qz⟩ := part_of hne h1 h2
  have ew : crossR i s (u, v) = u.1 + q * (v.1 - u.1) := by
    unfold crossR
    simp only
    congr 1
    have h3 : gx i v.2 - gx i u.2 ≠ 0 := by grind
    have h4 : (s - gx i u.2) / (gx i v.2 - gx i u.2) = q := by
      rw [← qe]
      generalize gx i v.2 - gx i u.2 = b at *
      grind
    rw [h4]
  have b1 : 0 ≤ q * (v.1 - u.1) := Rat.mul_nonneg q0 (by grind)
  have b2 : 0 ≤ (1 - q) * (v.1 - u.1) := Rat.mul_nonneg (by grind) (by grind)
  have w1 : u.1 ≤ crossR i s (u, v) := by rw [ew]; grind
  have w2 : crossR i s (u, v) ≤ v.1 := by rw [ew]; grind
  refine ⟨w1, w2, _, n.interp h w1 w2, ?_⟩
  rw [interp_gx e1 e2 hi, ew]
  have h5 : (gx i v.2 - gx i u.2) * (u.1 + q * (v.1 - u.1) - u.1) / (v.1 - u.1) = (gx i v.2 - gx i u.2) * q := by
    have h6 : v.1 - u.1 ≠ 0 := by grind
    generalize v.1 - u.1 = b at *
    generalize gx i v.2 - gx i u.2 = e at *
    have h7 : u.1 + q * b - u.1 = q * b := by grind
    rw [h7]
    grind
  rw [h5]
  grind
theorem found_dv {r : List Pan} (h : ∀ p ∈ r, PanOk p) {i : Nat} (hi : i < r.length) {s w : Rat} (hw : w ∈ lawFound (knotsR r) i s) : ∃ xs, Dv r w xs ∧ gx i xs = s := by
  unfold lawFound at hw
  rcases List.mem_append.mp hw with hw | hw
  · obtain ⟨c, hc, rfl⟩ := List.mem_map.mp hw
    obtain ⟨h1, h2⟩ := List.mem_filter.mp hc
    exact ⟨c.2, knots_dv h h1, by simpa using h2⟩
  · obtain ⟨⟨u, v⟩, hz, e⟩ := List.mem_filterMap.mp hw
    unfold lawSeg at e
    split at e
    · rename_i k
      injection e with e
      rw [← e]
      exact (cross_dv h hi (segs_mem hz) (Rat.le_of_lt k.1) (Rat.le_of_lt k.2) (by grind)).2.2
    · cases e
theorem range_found {l : List (Rat × List Rat)} {i : Nat} {s a b : Rat} (h : lawRange l i s = some (a, b)) : a ∈ lawFound l i s ∧ b ∈ lawFound l i s := by
  unfold lawRange at h
  split at h
  · rename_i h1 h2
    injection h with h
    injection h with h3 h4
    subst h3 h4
    exact ⟨List.mem_of_head? h1, List.mem_of_getLast? h2⟩
  · cases h
theorem widths_le {l : List (Rat × List Rat)} {i : Nat} {s a b : Rat} (h : widthsR l i s = some (a, b)) : a ≤ b := by
  unfold widthsR at h
  split at h
  · split at h
    · cases h
    · rename_i k
      injection h with h
      injection h with h3 h4
      subst h3 h4
      grind
  · cases h
/-- between the two ends the size stays -/
theorem widths_dv {r : List Pan} (h : ∀ p ∈ r, PanOk p) {i : Nat} (hi : i < r.length) {s a b : Rat} (hw : widthsR (knotsR r) i s = some (a, b)) {w : Rat} (h1 : a ≤ w) (h2 : w ≤ b) : ∃ xs, divR r w = some xs ∧ gx i xs = s := by
  have hr := hw
  rw [widths_law (knots_sorted h) (knots_mono h i) (knots_ne r)] at hr
  obtain ⟨ha, hb⟩ := range_found hr
  obtain ⟨xs, dx, ex⟩ := found_dv h hi ha
  obtain ⟨ys, dy, ey⟩ := found_dv h hi hb
  have r1 := dx.range h
  have r2 := dy.range h
  cases q : divR r w with
  | none =>
    have := (divR_none h).mp q
    exact absurd ⟨Rat.le_trans r1.1 h1, Rat.le_trans h2 r2.2⟩ this
  | some zs =>
    have dz := divR_some h q
    have m1 := gx_mono h dx dz h1 i
    have m2 := gx_mono h dz dy h2 i
    exact ⟨zs, rfl, by grind⟩
/-! the least width at which a panel has at least a size -/
theorem first_some {r : List Pan} (h : ∀ p ∈ r, PanOk p) {i : Nat} (hi : i < r.length) {s w : Rat} (hw : firstW (knotsR r) i s = some w) : ∃ xs, Dv r w xs ∧ s ≤ gx i xs ∧ ∀ w' ys, Dv r w' ys → w' < w → gx i ys < s := by
  obtain ⟨c, l, e, ec⟩ := knots_fst h
  have hc : c ∈ knotsR r := by rw [e]; simp
  unfold firstW at hw
  have hh : (knotsR r).head? = some c := by rw [e]; rfl
  rw [hh] at hw
  simp only at hw
  by_cases k : gx i c.2 < s
  · rw [if_neg (fun z => z k)] at hw
    obtain ⟨⟨u, v⟩, hz, ez⟩ := List.exists_of_findSome?_eq_some hw
    unfold firstSeg at ez
    split at ez
    · rename_i q
      injection ez with ez
      simp only at q
      have cs := segs_mem hz
      obtain ⟨w1, w2, xs, dx, ex⟩ := cross_dv h hi cs (Rat.le_of_lt q.1) (by grind) (by grind)
      rw [ez] at w1 w2 dx
      refine ⟨xs, dx, by grind, fun w' ys dy hlt => ?_⟩
      have n := nb_of h cs
      obtain ⟨f, g, _, e1, e2⟩ := n.two h
      by_cases k2 : w' ≤ u.1
      · have := gx_mono h dy (knots_dv h (cons_mem cs).1) k2 i
        grind
      · have d2 := n.interp h (w := w') (by grind) (by grind)
        have d3 := n.interp h (w := w) w1 w2
        rw [dy.unique h d2, interp_gx e1 e2 hi]
        rw [dx.unique h d3, interp_gx e1 e2 hi] at ex
        have hlt2 := n.2.2.2
        simp only at *
        obtain ⟨q1, _, _, qe1, qz1⟩ := part_of hlt2 (by grind : u.1 ≤ w') (by grind : w' ≤ v.1)
        obtain ⟨q2, _, _, qe2, qz2⟩ := part_of hlt2 w1 w2
        rw [qz1]
        rw [qz2] at ex
        have hq : q1 < q2 := by
          have hp : 0 < v.1 - u.1 := by grind
          have h1 : q1 * (v.1 - u.1) < q2 * (v.1 - u.1) := by grind
          exact Rat.lt_of_mul_lt_mul_right h1 (Rat.le_of_lt hp)
        have h3 := Rat.mul_pos (a := gx i v.2 - gx i u.2) (b := q2 - q1) (by grind) (by grind)
        grind
    · cases ez
  · rw [if_pos k] at hw
    injection hw with hw
    subst hw
    refine ⟨c.2, knots_dv h hc, by grind, fun w' ys dy hlt => ?_⟩
    have := (dy.range h).1
    rw [ec] at hlt
    grind
theorem first_nil {r : List Pan} (h : ∀ p ∈ r, PanOk p) {i : Nat} {s : Rat} (hw : firstW (knotsR r) i s = none) {w : Rat} {xs : List Rat} (dx : Dv r w xs) : gx i xs < s := by
  obtain ⟨d, hd, ed⟩ := knots_lst h
  have hdm := List.mem_of_getLast? hd
  have hk := gx_mono h dx (knots_dv h hdm) (by have := (dx.range h).2; grind) i
  have key : gx i d.2 < s := by
    by_cases c : gx i d.2 < s
    · exact c
    · exfalso
      obtain ⟨b, l, e, _⟩ := knots_fst h
      unfold firstW at hw
      have hh : (knotsR r).head? = some b := by rw [e]; rfl
      rw [hh] at hw
      simp only at hw
      by_cases k : gx i b.2 < s
      · rw [if_neg (fun z => z k)] at hw
        rw [e] at hd
        obtain ⟨u, v, cs, h1, h2⟩ := crossingA (fun c : Rat × List Rat => gx i c.2) s l b k (by
          have : (b :: l).getLast (List.cons_ne_nil _ _) = d := by
            rw [List.getLast?_eq_some_getLast (List.cons_ne_nil _ _)] at hd
            injection hd
          rw [this]; grind)
        rw [← e] at cs
        rw [List.findSome?_eq_none_iff] at hw
        have := hw (u, v) (cons_zip.mpr cs)
        unfold firstSeg at this
        rw [if_pos ⟨h1, by simp only at h2 ⊢; grind⟩] at this
        cases this
      · rw [if_pos k] at hw
        cases hw
  grind
end DL

namespace DL
open PySem PySem.Spec PyProof.Rows L2
/-! ### plain law: parts of the width -/
theorem ch_split {l : List (Rat × List Rat)} {r : List Pan} (h : ∀ p ∈ r, PanOk p) {w : Rat} (h1 : (endR r false : Rat) ≤ w) (h2 : w ≤ (endR r true : Rat)) : (∃ c ∈ knotsR r, c.1 = w) ∨ ∃ u v, Cons (knotsR r) u v ∧ u.1 < w ∧ w < v.1 := by
  obtain ⟨c, l, e, ec⟩ := knots_fst h
  obtain ⟨d, hd, ed⟩ := knots_lst h
  by_cases k : c.1 = w
  · exact .inl ⟨c, by rw [e]; simp, k⟩
  · rw [e] at hd
    obtain ⟨u, v, cs, k1, k2⟩ := crossingA (fun c : Rat × List Rat => c.1) w l c (by grind) (by
      have : (c :: l).getLast (List.cons_ne_nil _ _) = d := by
        rw [List.getLast?_eq_some_getLast (List.cons_ne_nil _ _)] at hd
        injection hd
      rw [this]; grind)
    rw [← e] at cs
    by_cases k3 : v.1 = w
    · exact .inl ⟨v, (cons_mem cs).2, k3⟩
    · exact .inr ⟨u, v, cs, k1, by grind⟩
/-- a width between two corners: each size is a mean of those at the corners -/
theorem dv_mean {r : List Pan} (h : ∀ p ∈ r, PanOk p) {u v : Rat × List Rat} (k : Cons (knotsR r) u v) {w : Rat} {xs : List Rat} (dx : Dv r w xs) (h1 : u.1 ≤ w) (h2 : w ≤ v.1) : ∃ q, 0 ≤ q ∧ q ≤ 1 ∧ w = u.1 + q * (v.1 - u.1) ∧ ∀ i, i < r.length → gx i xs = gx i u.2 + (gx i v.2 - gx i u.2) * q := by
  have n := nb_of h k
  obtain ⟨f, g, _, e1, e2⟩ := n.two h
  have hlt := n.2.2.2
  obtain ⟨q, q0, q1, qe, qz⟩ := part_of hlt h1 h2
  refine ⟨q, q0, q1, by grind, fun i hi => ?_⟩
  rw [dx.unique h (n.interp h h1 h2), interp_gx e1 e2 hi, qz]
theorem line_between {a b x y lo k : Rat} (hk : 0 ≤ k) (hk1 : k ≤ 1) (h1 : lo * a ≤ x) (h2 : lo * b ≤ y) : lo * (a + k * (b - a)) ≤ x + (y - x) * k := by
  have m1 := Rat.mul_nonneg (a := 1 - k) (b := x - lo * a) (by grind) (by grind)
  have m2 := Rat.mul_nonneg (a := k) (b := y - lo * b) hk (by grind)
  grind
theorem line_between2 {a b x y lo k : Rat} (hk : 0 ≤ k) (hk1 : k ≤ 1) (h1 : x ≤ lo * a) (h2 : y ≤ lo * b) : x + (y - x) * k ≤ lo * (a + k * (b - a)) := by
  have m1 := Rat.mul_nonneg (a := 1 - k) (b := lo * a - x) (by grind) (by grind)
  have m2 := Rat.mul_nonneg (a := k) (b := lo * b - y) hk (by grind)
  grind
theorem parts_between {r : List Pan} (h : ∀ p ∈ r, PanOk p) {i : Nat} (hi : i < r.length) {lo hi' : Rat} (hc : ∀ c ∈ knotsR r, lo * c.1 ≤ gx i c.2 ∧ gx i c.2 ≤ hi' * c.1) {w : Rat} {xs : List Rat} (dx : Dv r w xs) : lo * w ≤ gx i xs ∧ gx i xs ≤ hi' * w := by
  have hr := dx.range h
  rcases ch_split (l := []) h hr.1 hr.2 with ⟨c, hcm, rfl⟩ | ⟨u, v, cs, k1, k2⟩
  · rw [dx.unique h (knots_dv h hcm)]
    exact hc c hcm
  · obtain ⟨q, q0, q1, ew, eg⟩ := dv_mean h cs dx (Rat.le_of_lt k1) (Rat.le_of_lt k2)
    have c1 := hc u (cons_mem cs).1
    have c2 := hc v (cons_mem cs).2
    rw [eg i hi, ew]
    exact ⟨line_between q0 q1 c1.1 c2.1, line_between2 q0 q1 c1.2 c2.2⟩
theorem sumR_nonneg {α : Type} {f : α → Rat} : ∀ {l : List α}, (∀ x ∈ l, 0 ≤ f x) → 0 ≤ sumR (l.map f)
  | [], _ => by simp only [List.map_nil, sumR]; exact Rat.le_refl
  | x :: l, h => by
    rw [List.map_cons]
    unfold sumR
    have h1 := h x List.mem_cons_self
    have h2 := sumR_nonneg (l := l) fun y hy => h y (List.mem_cons_of_mem _ hy)
    grind
theorem sumR_ge {α : Type} {f : α → Rat} : ∀ {l : List α}, (∀ x ∈ l, 0 ≤ f x) → ∀ x ∈ l, f x ≤ sumR (l.map f)
  | [], _, x, hx => by cases hx
  | y :: l, h, x, hx => by
    rw [List.map_cons]
    unfold sumR
    have h1 := h y List.mem_cons_self
    have h2 := sumR_nonneg (l := l) fun y hy => h y (List.mem_cons_of_mem _ hy)
    rcases List.mem_cons.mp hx with rfl | hx
    · grind
    · have := sumR_ge (l := l) (fun y hy => h y (List.mem_cons_of_mem _ hy)) x hx
      grind
theorem dv_small {r : List Pan} (h : ∀ p ∈ r, PanOk p) {w : Rat} {xs : List Rat} (dx : Dv r w xs) {i : Nat} (hi : i < r.length) : 0 ≤ gx i xs ∧ gx i xs ≤ w := by
  obtain ⟨t, rfl, e⟩ := dx.sig
  have hp := List.getElem?_eq_getElem hi
  unfold sigR at *
  rw [gx_map hp, ← e]
  exact ⟨sg_nonneg (h _ (List.getElem_mem hi)) t, sumR_ge (f := fun p => sgP p t) (fun p hp => sg_nonneg (h p hp) t) _ (List.getElem_mem hi)⟩
theorem dv_nonneg {r : List Pan} (h : ∀ p ∈ r, PanOk p) {w : Rat} {xs : List Rat} (dx : Dv r w xs) : 0 ≤ w := by
  obtain ⟨t, rfl, e⟩ := dx.sig
  rw [← e]
  exact sumR_nonneg fun p hp => sg_nonneg (h p hp) t
def partsR (l : List (Rat × List Rat)) (i : Nat) : List Rat := l.filterMap fun c => if 0 < c.1 then some (gx i c.2 / c.1) else none
def minF (a : Rat) (l : List Rat) : Rat := l.foldl (fun a x => if x < a then x else a) a
def maxF (a : Rat) (l : List Rat) : Rat := l.foldl (fun a x => if a < x then x else a) a
theorem rat_le_div {a b c : Rat} (hc : 0 < c) : a ≤ b / c ↔ a * c ≤ b := by
  have e : b / c * c = b := Rat.div_mul_cancel (by grind)
  constructor
  · intro h
    have := Rat.mul_nonneg (a := b / c - a) (b := c) (by grind) (by grind)
    grind
  · intro h
    by_cases k : a ≤ b / c
    · exact k
    · have := Rat.mul_pos (a := a - b / c) (b := c) (by grind) hc
      grind
theorem rat_div_le {a b c : Rat} (hc : 0 < c) : b / c ≤ a ↔ b ≤ a * c := by
  have e : b / c * c = b := Rat.div_mul_cancel (by grind)
  constructor
  · intro h
    have := Rat.mul_nonneg (a := a - b / c) (b := c) (by grind) (by grind)
    grind
  · intro h
    by_cases k : b / c ≤ a
    · exact k
    · have := Rat.mul_pos (a := b / c - a) (b := c) (by grind) hc
      grind
theorem minF_le : ∀ (l : List Rat) (a : Rat), minF a l ≤ a ∧ (∀ x ∈ l, minF a l ≤ x) ∧ (minF a l = a ∨ minF a l ∈ l)
  | [], a => ⟨Rat.le_refl, (fun x hx => by cases hx), .inl rfl⟩
  | y :: l, a => by
    have ih := minF_le l (if y < a then y else a)
    have e : minF a (y :: l) = minF (if y < a then y else a) l := rfl
    rw [e]
    obtain ⟨h1, h2, h3⟩ := ih
    refine ⟨by split at h1 <;> grind, fun x hx => ?_, ?_⟩
    · rcases List.mem_cons.mp hx with rfl | hx
      · split at h1 <;> grind
      · exact h2 x hx
    · rcases h3 with h3 | h3
      · by_cases c : y < a
        · rw [if_pos c] at h3 ⊢
          exact .inr (by rw [h3]; simp)
        · rw [if_neg c] at h3 ⊢
          exact .inl h3
      · exact .inr (List.mem_cons_of_mem _ h3)
theorem maxF_ge : ∀ (l : List Rat) (a : Rat), a ≤ maxF a l ∧ (∀ x ∈ l, x ≤ maxF a l) ∧ (maxF a l = a ∨ maxF a l ∈ l)
  | [], a => ⟨Rat.le_refl, (fun x hx => by cases hx), .inl rfl⟩
  | y :: l, a => by
    have ih := maxF_ge l (if a < y then y else a)
    have e : maxF a (y :: l) = maxF (if a < y then y else a) l := rfl
    rw [e]
    obtain ⟨h1, h2, h3⟩ := ih
    refine ⟨by split at h1 <;> grind, fun x hx => ?_, ?_⟩
    · rcases List.mem_cons.mp hx with rfl | hx
      · split at h1 <;> grind
      · exact h2 x hx
    · rcases h3 with h3 | h3
      · by_cases c : a < y
        · rw [if_pos c] at h3 ⊢
          exact .inr (by rw [h3]; simp)
        · rw [if_neg c] at h3 ⊢
          exact .inl h3
      · exact .inr (List.mem_cons_of_mem _ h3)
theorem ord_head {a : Rat} {l : List Rat} : (ordR (a :: l)).head? = some (minF a (a :: l)) := by
  have hs := ord_sorted (a :: l)
  have hm := fun x => ord_mem (x := x) (l := a :: l)
  obtain ⟨h1, h2, h3⟩ := minF_le (a :: l) a
  have h4 : minF a (a :: l) ∈ a :: l := by
    rcases h3 with h3 | h3
    · rw [h3]; simp
    · exact h3
  have h5 := (hm _).mpr h4
  cases e : ordR (a :: l) with
  | nil => rw [e] at h5; cases h5
  | cons y m =>
    rw [e] at h5 hs hm
    have h6 := h2 y ((hm y).mp List.mem_cons_self)
    rw [List.head?_cons]
    rcases List.mem_cons.mp h5 with h7 | h7
    · rw [h7]
    · have := List.rel_of_pairwise_cons hs h7
      exact absurd this (by grind)
theorem ord_last {a : Rat} {l : List Rat} : (ordR (a :: l)).getLast? = some (maxF a (a :: l)) := by
  have hs := ord_sorted (a :: l)
  have hm := fun x => ord_mem (x := x) (l := a :: l)
  obtain ⟨h1, h2, h3⟩ := maxF_ge (a :: l) a
  have h4 : maxF a (a :: l) ∈ a :: l := by
    rcases h3 with h3 | h3
    · rw [h3]; simp
    · exact h3
  have h5 := (hm _).mpr h4
  have hne : ordR (a :: l) ≠ [] := fun e => by rw [e] at h5; cases h5
  obtain ⟨m, y, e⟩ := snoc_of hne
  rw [e] at h5 hs hm ⊢
  have h6 := h2 y ((hm y).mp (by simp))
  rw [List.getLast?_concat]
  rcases List.mem_append.mp h5 with h7 | h7
  · rw [List.pairwise_append] at hs
    have := hs.2.2 _ h7 y (by simp)
    exact absurd this (by grind)
  · rw [List.mem_singleton.mp h7]
/-- what the law asks of the parts at widths between -/
theorem parts_ok {r : List Pan} (h : ∀ p ∈ r, PanOk p) {i : Nat} (hi : i < r.length) {a : Rat} {l : List Rat} (e : partsR (knotsR r) i = a :: l) {w : Rat} {xs : List Rat} (dx : Dv r w xs) (hw : 0 < w) : minF a (a :: l) ≤ gx i xs / w ∧ gx i xs / w ≤ maxF a (a :: l) := by
  obtain ⟨_, h1, _⟩ := minF_le (a :: l) a
  obtain ⟨_, h2, _⟩ := maxF_ge (a :: l) a
  have key := parts_between h hi (lo := minF a (a :: l)) (hi' := maxF a (a :: l)) (fun c hc => ?_) dx
  · generalize minF a (a :: l) = lo at *
    generalize maxF a (a :: l) = hi' at *
    constructor
    · exact (rat_le_div hw).mpr key.1
    · exact (rat_div_le hw).mpr key.2
  · have dc := knots_dv h hc
    have c0 := dv_nonneg h dc
    by_cases c1 : 0 < c.1
    · have hm : gx i c.2 / c.1 ∈ a :: l := by
        rw [← e]
        exact List.mem_filterMap.mpr ⟨c, hc, if_pos c1⟩
      have k1 := h1 _ hm
      have k2 := h2 _ hm
      exact ⟨(rat_le_div c1).mp k1, (rat_div_le c1).mp k2⟩
    · have e0 : c.1 = 0 := by grind
      have hs := dv_small h dc hi
      rw [e0] at hs ⊢
      constructor <;> grind
end DL

namespace DL
open PySem PySem.Spec PyProof.Rows L2
/-! ### plain law: rows compared -/
def Whole (q : Rat) : Prop := ∃ m : Int, q = (m : Rat)
theorem Whole.int (m : Int) : Whole (m : Rat) := ⟨m, rfl⟩
theorem Whole.add {p q : Rat} : Whole p → Whole q → Whole (p + q)
  | ⟨a, h⟩, ⟨b, k⟩ => ⟨a + b, by rw [h, k, Rat.intCast_add]⟩
theorem Whole.sub {p q : Rat} : Whole p → Whole q → Whole (p - q)
  | ⟨a, h⟩, ⟨b, k⟩ => ⟨a - b, by rw [h, k, Rat.intCast_sub]⟩
theorem Whole.mul {p q : Rat} : Whole p → Whole q → Whole (p * q)
  | ⟨a, h⟩, ⟨b, k⟩ => ⟨a * b, by rw [h, k, Rat.intCast_mul]⟩
theorem whole_small {q : Rat} (h : Whole q) (h1 : -1 < q) (h2 : q < 1) : q = 0 := by
  obtain ⟨m, rfl⟩ := h
  have e1 : ((-1 : Int) : Rat) < (m : Rat) := by simpa using h1
  have e2 : (m : Rat) < ((1 : Int) : Rat) := by simpa using h2
  rw [rat_int_lt] at e1 e2
  have : m = 0 := by omega
  rw [this]; rfl
theorem whole_sumR {f : Rat} : ∀ {l : List Rat}, (∀ x ∈ l, Whole (x * f)) → Whole (sumR l * f)
  | [], _ => by
    unfold sumR
    exact ⟨0, by grind⟩
  | x :: l, h => by
    unfold sumR
    have h1 := h x List.mem_cons_self
    have h2 := whole_sumR (l := l) fun y hy => h y (List.mem_cons_of_mem _ hy)
    have e : (x + sumR l) * f = x * f + sumR l * f := by grind
    rw [e]
    exact h1.add h2
theorem whole_clamp {f lo v hi : Rat} (h1 : Whole (lo * f)) (h2 : Whole (v * f)) (h3 : Whole (hi * f)) : Whole (clampR lo v hi * f) := by
  unfold clampR
  split
  · exact h1
  · split
    · exact h3
    · exact h2
theorem whole_size {f t : Rat} (hf : Whole f) (ht : Whole (t * f)) (p : Pan) (g : Bool) : Whole (sizeT p g t * f) := by
  unfold sizeT
  refine whole_clamp ((Whole.int _).mul hf) ?_ ((Whole.int _).mul hf)
  have e : ((p.b : Rat) + (facP g p : Rat) * t) * f = (p.b : Rat) * f + (facP g p : Rat) * (t * f) := by grind
  rw [e]
  exact ((Whole.int _).mul hf).add ((Whole.int _).mul ht)
theorem whole_sizes {f t : Rat} (hf : Whole f) (ht : Whole (t * f)) (r : List Pan) (g : Bool) : ∀ x ∈ sizesT r g t, Whole (x * f) := fun x hx => by
  obtain ⟨p, _, rfl⟩ := List.mem_map.mp hx
  exact whole_size hf ht p g
theorem times_den {r : List Pan} (h : ∀ p ∈ r, PanOk p) {g : Bool} {t : Rat} (ht : t ∈ timesR r g) : ∃ f : Int, 1 ≤ f ∧ f ≤ 100 ∧ Whole (t * (f : Rat)) := by
  rcases mom_mem.mp ht with rfl | ⟨p, hp, hf, e, _, _, rfl⟩
  · exact ⟨1, by decide, by decide, 0, by grind⟩
  · refine ⟨facA g p, by omega, (facA_small (h p hp)).2, e, ?_⟩
    have : (facA g p : Rat) ≠ 0 := by
      have := rat_int_pos hf
      grind
    exact Rat.div_mul_cancel this
theorem corner_den {r : List Pan} (h : ∀ p ∈ r, PanOk p) {c : Rat × List Rat} (hc : c ∈ knotsR r) : ∃ f : Int, 1 ≤ f ∧ f ≤ 100 ∧ Whole (c.1 * (f : Rat)) := by
  have hm := fold_mem (l := rowsR r) (acc := []) hc
  rcases hm with hm | ⟨x, hx, rfl⟩
  · cases hm
  · unfold rowsR at hx
    have key : ∃ g, ∃ t ∈ timesR r g, x = sizesT r g t := by
      rcases List.mem_append.mp hx with hx | hx
      · obtain ⟨t, ht, rfl⟩ := List.mem_map.mp hx
        exact ⟨false, t, List.mem_reverse.mp ht, rfl⟩
      · obtain ⟨t, ht, rfl⟩ := List.mem_map.mp hx
        exact ⟨true, t, List.mem_of_mem_tail ht, rfl⟩
    obtain ⟨g, t, ht, rfl⟩ := key
    obtain ⟨f, h1, h2, h3⟩ := times_den h ht
    exact ⟨f, h1, h2, whole_sumR (whole_sizes (Whole.int f) h3 r g)⟩
/-- two unequal corners are not near each other -/
theorem corner_gap {r s : List Pan} (hr : ∀ p ∈ r, PanOk p) (hs : ∀ p ∈ s, PanOk p) {c d : Rat × List Rat} (hc : c ∈ knotsR r) (hd : d ∈ knotsR s) (h : c.1 < d.1) : c.1 + 1 / 10000 ≤ d.1 := by
  obtain ⟨f, f1, f2, fw⟩ := corner_den hr hc
  obtain ⟨k, k1, k2, kw⟩ := corner_den hs hd
  by_cases q : c.1 + 1 / 10000 ≤ d.1
  · exact q
  · exfalso
    have q : d.1 - c.1 < 1 / 10000 := by grind
    have hw : Whole ((d.1 - c.1) * ((f : Rat) * (k : Rat))) := by
      have e : (d.1 - c.1) * ((f : Rat) * (k : Rat)) = (d.1 * (k : Rat)) * (f : Rat) - (c.1 * (f : Rat)) * (k : Rat) := by grind
      rw [e]
      exact (kw.mul (Whole.int f)).sub (fw.mul (Whole.int k))
    have p1 : (1 : Rat) ≤ (f : Rat) := rat_int_le.mpr f1
    have p2 : (1 : Rat) ≤ (k : Rat) := rat_int_le.mpr k1
    have p3 : (f : Rat) ≤ 100 := rat_int_le.mpr f2
    have p4 : (k : Rat) ≤ 100 := rat_int_le.mpr k2
    generalize (f : Rat) = F at *
    generalize (k : Rat) = K at *
    have m1 := Rat.mul_nonneg (a := 100 - F) (b := K) (by grind) (by grind)
    have m0 := Rat.mul_nonneg (a := F - 1) (b := K) (by grind) (by grind)
    have b1 : F * K ≤ 10000 := by grind
    have b0 : 0 < F * K := by grind
    have e0 : 0 < d.1 - c.1 := by grind
    generalize F * K = G at *
    generalize d.1 - c.1 = e at *
    have m2 := Rat.mul_nonneg (a := 10000 - G) (b := e) (by grind) (by grind)
    have m3 := Rat.mul_pos (a := e) (b := G) (by grind) b0
    have := whole_small hw (by grind) (by grind)
    grind
/-- at an integer width all sizes are fractions with one small bottom -/
theorem div_den {r : List Pan} (h : RowOk r) {w : Int} {xs : List Rat} (hx : divR r (w : Rat) = some xs) : ∃ f : Int, 1 ≤ f ∧ f ≤ 800 ∧ ∀ x ∈ xs, Whole (x * (f : Rat)) := by
  unfold divR at hx
  cases e : atR r (w : Rat) with
  | none => rw [e] at hx; cases hx
  | some t =>
    rw [e] at hx
    injection hx with hx
    subst hx
    have key : ∃ f : Int, 1 ≤ f ∧ f ≤ 800 ∧ Whole (t * (f : Rat)) := by
      unfold atR at e
      split at e
      · injection e with e
        subst e
        exact ⟨1, by decide, by decide, 0, by grind⟩
      · obtain ⟨c, _, hc⟩ := List.exists_of_findSome?_eq_some e
        obtain ⟨h1, h2, h3⟩ := seg_small h c.1 c.2 (growR r w)
        unfold tryT at hc
        generalize growR r (w : Rat) = g at *
        generalize segR r c.1 c.2 g = S at *
        simp only at hc
        split at hc
        · rename_i c1
          split at hc
          · cases hc
          · injection hc with hc
            have hS : ((S.2 : Int) : Rat) ≠ 0 := by
              have := rat_int_pos c1
              grind
            refine ⟨S.2, by omega, by omega, ?_⟩
            rw [← hc, Rat.div_mul_cancel hS]
            unfold gapR
            split
            · exact (Whole.int _).sub (Whole.int _)
            · exact (Whole.int _).sub (Whole.int _)
        · cases hc
    obtain ⟨f, h1, h2, h3⟩ := key
    exact ⟨f, h1, h2, whole_sizes (Whole.int f) h3 r _⟩
def commonR (r s : List Pan) : List Rat := (ordR ((knotsR r).map (·.1) ++ (knotsR s).map (·.1))).filter fun w => (divR r w).isSome && (divR s w).isSome
theorem common_sorted (r s : List Pan) : (commonR r s).Pairwise (· < ·) := (ord_sorted _).filter _
theorem common_mem {r s : List Pan} {w : Rat} : w ∈ commonR r s ↔ ((∃ c ∈ knotsR r, c.1 = w) ∨ ∃ c ∈ knotsR s, c.1 = w) ∧ (divR r w).isSome = true ∧ (divR s w).isSome = true := by
  unfold commonR
  rw [List.mem_filter, ord_mem, List.mem_append, List.mem_map, List.mem_map, Bool.and_eq_true]
theorem common_comm (r s : List Pan) : commonR r s = commonR s r := sorted_ext (common_sorted r s) (common_sorted s r) fun x => by
  rw [common_mem, common_mem]
  constructor <;> rintro ⟨h | h, h1, h2⟩
  · exact ⟨.inr h, h2, h1⟩
  · exact ⟨.inl h, h2, h1⟩
  · exact ⟨.inr h, h2, h1⟩
  · exact ⟨.inl h, h2, h1⟩
/-- the first width of a list at which something holds, or the one before it -/
def fdiff (p : Rat → Bool) : Option Rat → List Rat → Option Rat
  | _, [] => none
  | b, w :: l => if p w then some (b.getD w) else fdiff p (some w) l
def diffP (r s : List Pan) (w : Rat) : Bool := !decide (divR r w = divR s w)
def diffR (r s : List Pan) : Option Rat := fdiff (diffP r s) none (commonR r s)
theorem fdiff_some {p : Rat → Bool} {x : Rat} : ∀ {l : List Rat} {b : Option Rat}, fdiff p b l = some x → (∃ w l2, l = w :: l2 ∧ p w = true ∧ x = b.getD w) ∨ ∃ u v, Cons l u v ∧ p u = false ∧ p v = true ∧ x = u
  | [], b, h => by cases h
  | w :: l, b, h => by
    unfold fdiff at h
    by_cases c : p w = true
    · rw [if_pos c] at h
      injection h with h
      exact .inl ⟨w, l, rfl, c, h.symm⟩
    · rw [if_neg c] at h
      rcases fdiff_some h with ⟨v, l2, rfl, h1, h2⟩ | ⟨u, v, ⟨l1, l2, e⟩, h1, h2, h3⟩
      · exact .inr ⟨w, v, ⟨[], l2, rfl⟩, by simpa using c, h1, h2⟩
      · exact .inr ⟨u, v, ⟨w :: l1, l2, by rw [e]; rfl⟩, h1, h2, h3⟩
theorem fdiff_none {p : Rat → Bool} : ∀ {l : List Rat} {b : Option Rat}, fdiff p b l = none ↔ ∀ w ∈ l, p w = false
  | [], b => by simp [fdiff]
  | w :: l, b => by
    unfold fdiff
    by_cases c : p w = true
    · rw [if_pos c]
      simp [c]
    · rw [if_neg c, fdiff_none (l := l)]
      simp at c
      simp [c]
theorem isSome_range {r : List Pan} (h : ∀ p ∈ r, PanOk p) {w : Rat} : (divR r w).isSome = true ↔ (endR r false : Rat) ≤ w ∧ w ≤ (endR r true : Rat) := by
  have := divR_none h (w := w)
  cases e : divR r w with
  | none => rw [e] at this; simp only [Option.isSome_none]; simp at this ⊢; exact fun k => by have := this k; grind
  | some xs =>
    have := (divR_some h e).range h
    simp [this]
/-- no corner between two widths: one line -/
theorem seg_hold {r : List Pan} (h : ∀ p ∈ r, PanOk p) {b w : Rat} (hb : (endR r false : Rat) ≤ b) (hw : w ≤ (endR r true : Rat)) (hbw : b < w) (hn : ∀ c ∈ knotsR r, ¬ (b < c.1 ∧ c.1 < w)) : ∃ u v, Cons (knotsR r) u v ∧ u.1 ≤ b ∧ w ≤ v.1 := by
  obtain ⟨c, l, e, ec⟩ := knots_fst h
  obtain ⟨d, hd, ed⟩ := knots_lst h
  rw [e] at hd
  obtain ⟨u, v, cs, k1, k2⟩ := crossingA (fun c : Rat × List Rat => c.1) w l c (by grind) (by
    have : (c :: l).getLast (List.cons_ne_nil _ _) = d := by
      rw [List.getLast?_eq_some_getLast (List.cons_ne_nil _ _)] at hd
      injection hd
    rw [this]; grind)
  rw [← e] at cs
  have := hn u (cons_mem cs).1
  exact ⟨u, v, cs, by grind, k2⟩
/-- on one line the size at a width between follows from those at both ends -/
theorem on_line {r : List Pan} (h : ∀ p ∈ r, PanOk p) {b n w : Rat} {xb xn xw : List Rat} (db : Dv r b xb) (dn : Dv r n xn) (dw : Dv r w xw) (h1 : b < n) (h2 : n < w) (hn : ∀ c ∈ knotsR r, ¬ (b < c.1 ∧ c.1 < w)) {i : Nat} (hi : i < r.length) :
    (gx i xn - gx i xb) * (w - b) = (gx i xw - gx i xb) * (n - b) := by
  obtain ⟨u, v, cs, k1, k2⟩ := seg_hold h (db.range h).1 (dw.range h).2 (by grind) hn
  obtain ⟨q1, _, _, e1, g1⟩ := dv_mean h cs db k1 (by grind)
  obtain ⟨q2, _, _, e2, g2⟩ := dv_mean h cs dn (by grind) (by grind)
  obtain ⟨q3, _, _, e3, g3⟩ := dv_mean h cs dw (by grind) k2
  rw [g1 i hi, g2 i hi, g3 i hi, e1, e2, e3]
  grind
theorem ext_gx {xs ys : List Rat} (hl : xs.length = ys.length) (h : ∀ i, i < xs.length → gx i xs = gx i ys) : xs = ys := by
  refine List.ext_getElem hl fun i h1 h2 => ?_
  have := h i h1
  unfold gx at this
  rw [List.getElem?_eq_getElem h1, List.getElem?_eq_getElem h2] at this
  exact this
theorem Dv.len {r : List Pan} {w : Rat} {xs : List Rat} (d : Dv r w xs) : xs.length = r.length := by
  obtain ⟨g, t, _, rfl, _⟩ := d
  exact List.length_map _
theorem gx_lip {r : List Pan} (h : ∀ p ∈ r, PanOk p) {w w' : Rat} {xs ys : List Rat} (dx : Dv r w xs) (dy : Dv r w' ys) (hw : w ≤ w') {i : Nat} (hi : i < r.length) : gx i xs ≤ gx i ys ∧ gx i ys - gx i xs ≤ w' - w := by
  refine ⟨gx_mono h dx dy hw i, ?_⟩
  obtain ⟨t, u, htu, rfl, rfl, e1, e2⟩ := dv_two h dx dy hw
  have hp := List.getElem?_eq_getElem hi
  have := sumR_one (f := fun p => sgP p t) (g := fun p => sgP p u) (fun p hp => sg_mono (h p hp) htu) _ (List.getElem_mem hi)
  unfold sigR at *
  rw [gx_map hp, gx_map hp, ← e1, ← e2]
  exact this
/-- just above the number the divisions differ -/
theorem near_diff {r s : List Pan} (hr : RowOk r) (hs : RowOk s) (hl : r.length = s.length) {x : Rat} (hx : diffR r s = some x) {xs : List Rat} (h1 : divR r (x + 1 / 1000000) = some xs) (h2 : divR s (x + 1 / 1000000) = some xs) : False := by
  have d1 := divR_some hr.all h1
  have d2 := divR_some hs.all h2
  have g1 := d1.range hr.all
  have g2 := d2.range hs.all
  have hsort := common_sorted r s
  rcases fdiff_some hx with ⟨w, l2, e, hp, ex⟩ | ⟨u, v, cs, hu, hv, rfl⟩
  · -- the first common width: an integer
    have ex : x = w := ex
    subst ex
    have hw : x ∈ commonR r s := by rw [e]; simp
    obtain ⟨_, k1, k2⟩ := common_mem.mp hw
    have r1 := (isSome_range hr.all).mp k1
    have r2 := (isSome_range hs.all).mp k2
    have hint : ∃ m : Int, x = (m : Rat) := by
      obtain ⟨c, lc, e3, ec⟩ := knots_fst hr.all
      obtain ⟨d, ld, e4, ed⟩ := knots_fst hs.all
      have first : ∀ y ∈ commonR r s, x ≤ y := fun y hy => by
        rw [e] at hy hsort
        rcases List.mem_cons.mp hy with rfl | hy
        · exact Rat.le_refl
        · exact Rat.le_of_lt (List.rel_of_pairwise_cons hsort hy)
      by_cases q : (endR r false : Rat) ≤ (endR s false : Rat)
      · have hm : (endR s false : Rat) ∈ commonR r s := common_mem.mpr ⟨.inr ⟨d, by rw [e4]; simp, ed⟩, (isSome_range hr.all).mpr ⟨q, Rat.le_trans r2.1 r1.2⟩, (isSome_range hs.all).mpr ⟨Rat.le_refl, Rat.le_trans r2.1 r2.2⟩⟩
        exact ⟨_, Rat.le_antisymm (first _ hm) r2.1⟩
      · have q2 : (endR s false : Rat) ≤ (endR r false : Rat) := by grind
        have hm : (endR r false : Rat) ∈ commonR r s := common_mem.mpr ⟨.inl ⟨c, by rw [e3]; simp, ec⟩, (isSome_range hr.all).mpr ⟨Rat.le_refl, Rat.le_trans r1.1 r1.2⟩, (isSome_range hs.all).mpr ⟨q2, Rat.le_trans r1.1 r2.2⟩⟩
        exact ⟨_, Rat.le_antisymm (first _ hm) r1.1⟩
    obtain ⟨m, rfl⟩ := hint
    obtain ⟨as, ea⟩ := Option.isSome_iff_exists.mp k1
    obtain ⟨bs, eb⟩ := Option.isSome_iff_exists.mp k2
    obtain ⟨f, f1, f2, fw⟩ := div_den hr ea
    obtain ⟨k, k1', k2', kw⟩ := div_den hs eb
    have da := divR_some hr.all ea
    have db := divR_some hs.all eb
    have heq : as = bs := by
      refine ext_gx (by rw [da.len, db.len, hl]) fun i hi => ?_
      rw [da.len] at hi
      have l1 := gx_lip hr.all da d1 (by grind) hi
      have l2 := gx_lip hs.all db d2 (by grind) (by omega : i < s.length)
      have hwa : Whole (gx i as * (f : Rat)) := fw _ (by
        unfold gx
        rw [List.getElem?_eq_getElem (by rw [da.len]; exact hi)]
        exact List.getElem_mem _)
      have hwb : Whole (gx i bs * (k : Rat)) := kw _ (by
        unfold gx
        rw [List.getElem?_eq_getElem (by rw [db.len]; omega)]
        exact List.getElem_mem _)
      have hw : Whole ((gx i as - gx i bs) * ((f : Rat) * (k : Rat))) := by
        have e : (gx i as - gx i bs) * ((f : Rat) * (k : Rat)) = (gx i as * (f : Rat)) * (k : Rat) - (gx i bs * (k : Rat)) * (f : Rat) := by grind
        rw [e]
        exact (hwa.mul (Whole.int k)).sub (hwb.mul (Whole.int f))
      have p1 : (1 : Rat) ≤ (f : Rat) := rat_int_le.mpr f1
      have p2 : (1 : Rat) ≤ (k : Rat) := rat_int_le.mpr k1'
      have p3 : (f : Rat) ≤ 800 := rat_int_le.mpr f2
      have p4 : (k : Rat) ≤ 800 := rat_int_le.mpr k2'
      generalize (f : Rat) = F at *
      generalize (k : Rat) = K at *
      have m1 := Rat.mul_nonneg (a := 800 - F) (b := K) (by grind) (by grind)
      have m0 := Rat.mul_nonneg (a := F - 1) (b := K) (by grind) (by grind)
      have b1 : F * K ≤ 640000 := by grind
      have b0 : 0 < F * K := by grind
      generalize F * K = G at *
      have c1 : gx i as - gx i bs ≤ 1 / 1000000 := by grind
      have c2 : -(1 / 1000000) ≤ gx i as - gx i bs := by grind
      generalize hz : gx i as - gx i bs = z at *
      have m2 := Rat.mul_nonneg (a := 1 / 1000000 - z) (b := G) (by grind) (by grind)
      have m3 := Rat.mul_nonneg (a := 1 / 1000000 + z) (b := G) (by grind) (by grind)
      have z0 := whole_small hw (by grind) (by grind)
      have : z = 0 := by
        rcases Rat.mul_eq_zero.mp z0 with q | q
        · exact q
        · grind
      grind
    unfold diffP at hp
    rw [ea, eb, heq] at hp
    simp at hp
  · obtain ⟨hum, hvm⟩ := cons_mem cs
    obtain ⟨uc, u1, u2⟩ := common_mem.mp hum
    obtain ⟨vc, v1, v2⟩ := common_mem.mp hvm
    have huv := cons_lt hsort cs
    have hgap : x + 1 / 10000 ≤ v := by
      rcases uc with ⟨c, hc, rfl⟩ | ⟨c, hc, rfl⟩ <;> rcases vc with ⟨d, hd, rfl⟩ | ⟨d, hd, rfl⟩
      · exact corner_gap hr.all hr.all hc hd huv
      · exact corner_gap hr.all hs.all hc hd huv
      · exact corner_gap hs.all hr.all hc hd huv
      · exact corner_gap hs.all hs.all hc hd huv
    have ru1 := (isSome_range hr.all).mp u1
    have ru2 := (isSome_range hs.all).mp u2
    have rv1 := (isSome_range hr.all).mp v1
    have rv2 := (isSome_range hs.all).mp v2
    have none1 : ∀ c ∈ knotsR r, ¬ (x < c.1 ∧ c.1 < v) := fun c hc k => by
      have hm : c.1 ∈ commonR r s := common_mem.mpr ⟨.inl ⟨c, hc, rfl⟩, (isSome_range hr.all).mpr ⟨by grind, by grind⟩, (isSome_range hs.all).mpr ⟨by grind, by grind⟩⟩
      have := cons_gap hsort cs hm
      grind
    have none2 : ∀ c ∈ knotsR s, ¬ (x < c.1 ∧ c.1 < v) := fun c hc k => by
      have hm : c.1 ∈ commonR r s := common_mem.mpr ⟨.inr ⟨c, hc, rfl⟩, (isSome_range hr.all).mpr ⟨by grind, by grind⟩, (isSome_range hs.all).mpr ⟨by grind, by grind⟩⟩
      have := cons_gap hsort cs hm
      grind
    obtain ⟨as, ea⟩ := Option.isSome_iff_exists.mp u1
    obtain ⟨bs, eb⟩ := Option.isSome_iff_exists.mp u2
    obtain ⟨cs', ec⟩ := Option.isSome_iff_exists.mp v1
    obtain ⟨ds, ed⟩ := Option.isSome_iff_exists.mp v2
    have eab : as = bs := by
      unfold diffP at hu
      rw [ea, eb] at hu
      simpa using hu
    subst eab
    have da := divR_some hr.all ea
    have db := divR_some hs.all eb
    have dc := divR_some hr.all ec
    have dd := divR_some hs.all ed
    have heq : cs' = ds := by
      refine ext_gx (by rw [dc.len, dd.len, hl]) fun i hi => ?_
      rw [dc.len] at hi
      have l1 := on_line hr.all da d1 dc (by grind) (by grind) none1 hi
      have l2 := on_line hs.all db d2 dd (by grind) (by grind) none2 (by omega : i < s.length)
      have e0 : x + 1 / 1000000 - x = 1 / 1000000 := by grind
      rw [e0] at l1 l2
      grind
    unfold diffP at hv
    rw [ec, ed, heq] at hv
    simp at hv
end DL

--@law k10
namespace DL
open PySem PySem.Spec PyProof.Rows L2
/-! ### calls ready to use -/
theorem go_minus {p q : Rat} {n m : Nat} {K : Sl → Option Ct → Prop} (hp : Sz n p) (hq : Sz m q) (hn : n + m ≤ 7999) (k : K (.val (fr (p - q))) none) : sp_minus [.val (fr p), .val (fr q)] K := ⟨(p, q), rfl, ⟨n, m, hp, hq, hn⟩, k⟩
theorem go_over {p q : Rat} {n m : Nat} {K : Sl → Option Ct → Prop} (h0 : q ≠ 0) (hp : Sz n p) (hq : Sz m q) (hn : n + m ≤ 7999) (k : K (.val (fr (p / q))) none) : sp_over [.val (fr p), .val (fr q)] K := ⟨(p, q), rfl, ⟨h0, n, m, hp, hq, hn⟩, k⟩
theorem go_less {p q : Rat} {n m : Nat} {K : Sl → Option Ct → Prop} (hp : Sz n p) (hq : Sz m q) (hn : n ≤ 8000) (hm : m ≤ 8000) (k : K (.val (.bool (decide (p < q)))) none) : sp_less [.val (fr p), .val (fr q)] K := ⟨(p, q), rfl, ⟨hp.mono hn, hq.mono hm⟩, k⟩
theorem go_whole {i : Int} {K : Sl → Option Ct → Prop} (k : K (.val (fr (i : Rat))) none) : sp_whole [.val (.int i)] K := ⟨i, rfl, k⟩
theorem go_checkrow {r : List Pan} {K : Sl → Option Ct → Prop} (hr : RowOk r) (k : K (.val .none) none) : sp_check_row [.val (rowD r)] K := ⟨_, rfl, ⟨row_lay r, isRowD_row hr⟩, k⟩
theorem go_checkwidth {w : Int} {K : Sl → Option Ct → Prop} (hw : wOk w) (k : K (.val .none) none) : sp_check_width [.val (.int w)] K := ⟨w, rfl, hw, k⟩
theorem go_knots {r : List Pan} {K : Sl → Option Ct → Prop} (hr : RowOk r) (k : K (.mu true (.lst ((knotsR r).map knotD))) none) : sp_knots [.val (rowD r)] K := ⟨r, rfl, hr, k⟩
theorem go_corners {r : List Pan} {K : Sl → Option Ct → Prop} (hr : RowOk r) (k : K (.mu true (.lst ((knotsR r).map knotD))) none) : sp__law_corners [.val (rowD r)] K := ⟨r, rfl, hr, k⟩
theorem sz_wid {w : Int} (hw : wOk w) : Sz 12 (w : Rat) := sz_small (m := 3200) (by have := hw.1; have := hw.2; omega) (by decide) (by decide)
theorem go_plus {p q : Rat} {n m : Nat} {K : Sl → Option Ct → Prop} (hp : Sz n p) (hq : Sz m q) (hn : n + m ≤ 7999) (k : K (.val (fr (p + q))) none) : sp_plus [.val (fr p), .val (fr q)] K := ⟨(p, q), rfl, ⟨n, m, hp, hq, hn⟩, k⟩
theorem go_times {p q : Rat} {n m : Nat} {K : Sl → Option Ct → Prop} (hp : Sz n p) (hq : Sz m q) (hn : n + m ≤ 7999) (k : K (.val (fr (p * q))) none) : sp_times [.val (fr p), .val (fr q)] K := ⟨(p, q), rfl, ⟨n, m, hp, hq, hn⟩, k⟩
theorem go_checkindex {r : List Pan} {i : Nat} {K : Sl → Option Ct → Prop} (hi : i < r.length) (k : K (.val .none) none) : sp_check_index [.val (rowD r), .val (.int i)] K := ⟨(r.map pan, (i : Int)), rfl, ⟨by show (0 : Int) ≤ (i : Int); omega, by show (i : Int) < ((r.map pan).length : Nat); rw [List.length_map]; omega⟩, k⟩
theorem gx_at {l : List Rat} {i : Nat} (h : i < l.length) : l[i]? = some (gx i l) := by
  unfold gx
  rw [List.getElem?_eq_getElem h]
  rfl
theorem ix_rat {l : List Rat} {i : Nat} {Q : Sl → Prop} (h : i < l.length) (k : Q (.val (fr (gx i l)))) : fIx (.list (l.map fr)) (.int (i : Nat)) Q := ixI_nat (gx_at h) k
theorem go_at {r : List Pan} {w : Rat} {n : Nat} {K : Sl → Option Ct → Prop} (hr : RowOk r) (hw : Sz n w) (hn : n ≤ 2500) (k : ∀ z, IsOpt (divR r w) z → K z none) : sp__law_at [.val (.list ((knotsR r).map knotD)), .val (fr w)] K := ⟨(knotsR r, w), rfl, ⟨fun c hc => by
    obtain ⟨h1, h2, h3⟩ := knotsR_sz hr c hc
    have := hr.n8
    exact ⟨h1.mono (by decide), fun q hq => (h3 q hq).mono (by decide), by omega⟩, Nat.le_trans (knotsR_len hr) (by decide), n, hw, hn⟩, fun z hz => k z (by rw [← solve_eq hr.all]; exact hz)⟩
theorem go_limitsof {r : List Pan} {K : Sl → Option Ct → Prop} (hr : RowOk r) (k : K (.val (.tuple [.int (endR r false), .int (endR r true)])) none) : sp_limits_of [.val (rowD r)] K := ⟨r, rfl, hr, by rw [limits_eq hr.all]; exact k⟩
theorem go_divide {r : List Pan} {w : Rat} {n : Nat} {K : Sl → Option Ct → Prop} (hr : RowOk r) (hw : Sz n w) (hn : n ≤ 900) (k : K (optS (divR r w)) none) : sp_divide [.val (rowD r), .val (fr w)] K := ⟨(r, w), rfl, ⟨hr, n, hw, hn⟩, k⟩
theorem end_wok {r : List Pan} (hr : RowOk r) {w : Int} (h1 : endR r false ≤ w) (h2 : w ≤ endR r true) : wOk w := by
  have := endR_small hr false
  have := endR_small hr true
  exact ⟨by omega, by omega⟩
def rangeL (a b : Int) : List Int := (List.range (b - a).toNat).map fun i => a + (i : Nat)
theorem range_mem {a b x : Int} : x ∈ rangeL a b ↔ a ≤ x ∧ x < b := by
  unfold rangeL
  rw [List.mem_map]
  constructor
  · rintro ⟨i, hi, rfl⟩
    have := List.mem_range.mp hi
    omega
  · intro h
    exact ⟨(x - a).toNat, List.mem_range.mpr (by omega), by omega⟩
theorem range_sorted (a b : Int) : (rangeL a b).Pairwise (· < ·) := by
  unfold rangeL
  rw [List.pairwise_map]
  exact List.pairwise_lt_range.imp fun h => by omega
theorem range_len (a b : Int) : (rangeL a b).length = (b - a).toNat := by
  unfold rangeL
  rw [List.length_map, List.length_range]
theorem rngD_range (a b : Int) : rngD a (b - a).toNat = (rangeL a b).map PyData.int := by
  unfold rngD rangeL
  rw [List.map_map]
  rfl
theorem range_get {a b x : Int} {i : Nat} (h : (rangeL a b)[i]? = some x) : x = a + (i : Nat) ∧ a ≤ x ∧ x < b := by
  have hm := range_mem.mp (List.mem_of_getElem? h)
  unfold rangeL at h
  rw [List.getElem?_map] at h
  cases q : (List.range (b - a).toNat)[i]? with
  | none => rw [q] at h; cases h
  | some j =>
    rw [q] at h
    have hj := lt_len q
    rw [List.length_range] at hj
    rw [List.getElem?_range hj] at q
    injection q with q
    injection h with h
    subst q
    exact ⟨h.symm, hm⟩
theorem num_pos {q : Rat} : 0 < q.num ↔ 0 < q := by
  constructor
  · intro h
    by_cases c : 0 < q
    · exact c
    · have := (Rat.num_nonneg (q := -q)).mpr (by grind)
      rw [Rat.neg_num] at this
      omega
  · intro h
    by_cases c : 0 < q.num
    · exact c
    · have := (Rat.num_nonneg (q := -q)).mp (by rw [Rat.neg_num]; omega)
      grind
theorem fr_self (q : Rat) : ((q.num : Int) : Rat) / ((q.den : Int) : Rat) = q := by rw [← Rat.divInt_eq_div, Rat.num_divInt_den]
theorem fIsN_fr {n : Bool} {q : Rat} {Q : Sl → Prop} : fIsN n (fr q) .none Q = Q (.val (.bool n)) := rfl
/-- a test, shown with nothing of what follows in sight -/
theorem cutF0 {t : DB} {ρ : En} {b : Bool} {K : Bool → En → Prop} (k : ∀ R : Bool → En → Prop, R b ρ → t ρ R) (h : K b ρ) : t ρ K := k K h
theorem dIf_F {t : DB} {a b : DS} {E : De} {ρ : En} (k : ∀ R : Bool → En → Prop, R false ρ → t ρ R) (h : b E ρ) : dIf t a b E ρ := k _ h
theorem dIf_T {t : DB} {a b : DS} {E : De} {ρ : En} (k : ∀ R : Bool → En → Prop, R true ρ → t ρ R) (h : a E ρ) : dIf t a b E ρ := k _ h
theorem next_go {E : De} {ρ : En} (h : E.nx ρ) : dNext E ρ := h
theorem seq_go {s1 s2 : DS} {E : De} {ρ : En} (h : s1 { E with nx := s2 E } ρ) : dSeq s1 s2 E ρ := h
/-- what is needed of the rest -/
theorem cutR {s : DS} {E : De} {ρ : En} (C : (En → Prop) → Prop) (h : C E.nx) (k : ∀ R : En → Prop, C R → s { nx := R, rt := E.rt, bk := E.bk, ct := E.ct } ρ) : s E ρ := k E.nx h
end DL

--@law k05
namespace DL
open PySem PySem.Spec PyProof.Rows L2
local macro_rules | `(tactic| walk_at "dl") => `(tactic| try simp only [↓dSeq, ↓dNext, ↓dSet, ↓dSetV, ↓dFrzS, ↓dRet, ↓dRetN, ↓dExpr, ↓dBreak, ↓dCont, ↓dPar, ↓dPar3, ↓dAsg, ↓dTest_S, ↓dNot, ↓dNotV_S, ↓dOp, ↓dUn, ↓dC, ↓dVar_S, ↓dVarS_v, ↓dVarS_m, ↓dMov_S, ↓dMovS_m, ↓sB_b, ↓muL_l, ↓muT_t, ↓isI_i, ↓vaI_i, ↓dF_v, ↓dF_m, ↓dChain, ↓fAdd_ii, ↓fAdd_ll, ↓fAdd_tt, ↓fI_ii, ↓fI0_ii, ↓fMul_ii, ↓fMul_ti, ↓fNeg_i, ↓fEq_ii, ↓fNe_ii, ↓fIsN_n, ↓fIsN_l, ↓fIsN_t, ↓fIsN_i, ↓fIx_l, ↓fIx_t, ↓dANil, ↓dACons, ↓dAAt_S, ↓agD, ↓dTup, ↓dLst, ↓dCB, ↓fAbs_i, ↓fMax2_ii, ↓fMin2_ii, ↓fLen_l, ↓fLen_t, ↓fList_l, ↓fInt_i, ↓dParX_2, ↓dParX_3, ↓fList_t, ↓fTuple_l, ↓fTuple_t, ↓dSl, ↓dONone, ↓dOSome, ↓fSl_l, ↓fSl_t, ↓dIsi_S, ↓dIsi2_S, ↓isiS_s, ↓dCall, ↓agOne, ↓agAll, ↓agAt, ↓agSl_d, ↓agSl_s, ↓agS_m, ↓dBack_n, ↓dBack_s, ↓seqS_l, ↓seqS_t, ↓nos, List.replicate, List.append, List.map, List.cons_append, List.nil_append, List.getElem?_cons_zero, List.getElem?_cons_succ, List.set_cons_zero, List.set_cons_succ, ↓ioOf, List.length_cons, List.length_nil, ↓dYes, ↓gdName, ↓gdTupN, ↓gdCons, ↓gdNil, ↓frzAt, ↓frz, ↓flatS, ↓flatD, ↓Option.getD_some, ↓wipeD, ↓dAug_S, ↓dApp_S, ↓dIns_S, ↓dSetI_S, ↓dIxM_S, ↓dAugL_S, ↓ixN_30, ↓ixN_31, ↓ixN_32, ↓atI_0, ↓atI_1, ↓atI_2, ↓atI_3, ↓atI_4, true_and, reduceCtorEq, false_implies, implies_true, forall_const, Bool.not_true, Bool.not_false, Nat.reduceAdd, decide_true, decide_false, Int.reduceLT, Int.reduceLE, Int.reduceEq])
local macro_rules | `(tactic| walk_at "dt") => `(tactic| (walk_at "dl"; (try simp only [dAnd, dOr, dAndV_S, dOrV_S]); walk_at "dl"))
local macro_rules | `(tactic| walk_at "di") => `(tactic| (walk_at "dl"; (try simp only [dIf, dIte]); walk_at "dl"))
local macro_rules | `(tactic| walk_at "ds") => `(tactic| (walk_at "di"; walk_at "dt"; walk_at "di"))

local macro_rules | `(tactic| walk_at "db") => `(tactic| (simp only [dBorB, dBor, dBorL]; walk_at "dl"))

/-! ### slopes between corners, shares, bends -/
structure CornOk (c : Rat × List Rat) : Prop where
  w : Sz 300 c.1
  s : ∀ q ∈ c.2, Sz 300 q
  l : c.2.length ≤ 8
theorem corn_ok {r : List Pan} (h : RowOk r) : ∀ c ∈ knotsR r, CornOk c := fun c hc => by
  obtain ⟨h1, h2, h3⟩ := knotsR_sz h c hc
  have := h.n8
  exact ⟨h1.mono (by decide), fun q hq => (h3 q hq).mono (by decide), by omega⟩
def sp_slopes : Spec := mkSp (fun x : (Rat × List Rat) × (Rat × List Rat) => [.val (knotD x.1), .val (knotD x.2)]) fun x Q => (CornOk x.1 ∧ CornOk x.2 ∧ x.1.1 < x.2.1) ∧ Q (.mu true (.lst ((slopeR x.1 x.2).map fr))) none
theorem hn_slopes : ∀ ρ Qd, sp_slopes ρ Qd → ρ.length = 2 := hn_mk fun _ => rfl
def sp__law_slopes : Spec := mkSp (fun x : (Rat × List Rat) × (Rat × List Rat) => [.val (knotD x.1), .val (knotD x.2)]) fun x Q => (CornOk x.1 ∧ CornOk x.2 ∧ x.1.1 < x.2.1) ∧ Q (.mu true (.lst ((slopeR x.1 x.2).map fr))) none
theorem hn__law_slopes : ∀ ρ Qd, sp__law_slopes ρ Qd → ρ.length = 2 := hn_mk fun _ => rfl
theorem go_slopes {c d : Rat × List Rat} {K : Sl → Option Ct → Prop} (hc : CornOk c) (hd : CornOk d) (hlt : c.1 < d.1) (k : K (.mu true (.lst ((slopeR c d).map fr))) none) : sp_slopes [.val (knotD c), .val (knotD d)] K := ⟨(c, d), rfl, ⟨hc, hd, hlt⟩, k⟩
theorem go_lslopes {c d : Rat × List Rat} {K : Sl → Option Ct → Prop} (hc : CornOk c) (hd : CornOk d) (hlt : c.1 < d.1) (k : K (.mu true (.lst ((slopeR c d).map fr))) none) : sp__law_slopes [.val (knotD c), .val (knotD d)] K := ⟨(c, d), rfl, ⟨hc, hd, hlt⟩, k⟩
theorem slope_sz {c d : Rat × List Rat} (hc : CornOk c) (hd : CornOk d) (hlt : c.1 < d.1) : (slopeR c d).length ≤ 8 ∧ ∀ q ∈ slopeR c d, Sz 1202 q := by
  unfold slopeR
  have := hc.l
  refine ⟨by rw [List.length_map, List.length_zip]; omega, fun q hq => ?_⟩
  obtain ⟨z, hz, rfl⟩ := List.mem_map.mp hq
  have hm := List.of_mem_zip (a := z.1) (b := z.2) hz
  exact sz_div (sz_sub (hd.s _ hm.2) (hc.s _ hm.1)) (sz_sub hd.w hc.w) (by grind)
/- slopes: slots 0=first 1=second 2=width 3=before 4=after -/
def w_slopes : DS := (dSeq (dSet 2 (dCall false sp_minus (dACons (dOp fIx (dVar 1) (dC (.int 0))) (dACons (dOp fIx (dVar 0) (dC (.int 0))) dANil)))) (dRet (dLc (diZipX (dACons (dOp fIx (dVar 0) (dC (.int 1))) (dACons (dOp fIx (dVar 1) (dC (.int 1))) dANil))) (gdTupN 2 (gdCons (gdName 3) (gdCons (gdName 4) gdNil))) dYes (dCall false sp_over (dACons (dCall false sp_minus (dACons (dVar 4) (dACons (dVar 3) dANil))) (dACons (dVar 2) dANil))) [3, 4])))
/- _law_slopes: slots 0=one 1=other 2=whole_ 3=found 4=before 5=after 6=more -/
def w__law_slopes : DS := (dSeq (dSet 2 (dCall false sp__law_minus (dACons (dOp fIx (dVar 1) (dC (.int 0))) (dACons (dOp fIx (dVar 0) (dC (.int 0))) dANil)))) (dSeq (dSet 3 (dLst dANil)) (dSeq (dFor (diZipX (dACons (dOp fIx (dVar 0) (dC (.int 1))) (dACons (dOp fIx (dVar 1) (dC (.int 1))) dANil))) (gdTupN 2 (gdCons (gdName 4) (gdCons (gdName 5) gdNil))) (dSeq (dSet 6 (dCall false sp__law_minus (dACons (dVar 5) (dACons (dVar 4) dANil)))) (dApp 3 (dCall false sp__law_fraction (dACons (dOp fMul (dOp fIx (dVar 6) (dC (.int 0))) (dOp fIx (dVar 2) (dC (.int 1)))) (dACons (dOp fMul (dOp fIx (dVar 6) (dC (.int 1))) (dOp fIx (dVar 2) (dC (.int 0)))) dANil)))))) (dRet (dMov 3)))))
theorem vc_slopes : VC sp_slopes w_slopes 3 := by
  rintro ρ Qd ⟨⟨⟨c1, cx⟩, ⟨d1, dx⟩⟩, rfl, ⟨hc, hd, hlt⟩, h⟩
  simp only at hlt h
  have s1 : Sz 300 c1 := hc.w
  have s4 : Sz 300 d1 := hd.w
  have s2 : ∀ q ∈ cx, Sz 300 q := hc.s
  have s5 : ∀ q ∈ dx, Sz 300 q := hd.s
  have s3 : cx.length ≤ 8 := hc.l
  unfold w_slopes knotD
  walk_at "dl"
  refine go_minus s4 s1 (by decide) ?_
  have hsub := sz_sub s4 s1
  have hpos : 0 < d1 - c1 := by grind
  unfold slopeR at h
  simp only at h
  generalize d1 - c1 = wh at *
  walk_at "dl"
  simp only [dLc, diZipX]
  walk_at "dl"
  rw [zipD_map]
  have hY : ∀ c ∈ cx.zip dx, Sz 300 c.1 ∧ Sz 300 c.2 := fun c hc' => by
    have := List.of_mem_zip (a := c.1) (b := c.2) hc'
    exact ⟨s2 _ this.1, s5 _ this.2⟩
  have hYl : (cx.zip dx).length ≤ 8 := by rw [List.length_zip]; omega
  generalize cx.zip dx = Y at *
  refine ⟨mapP Y (fun z => fr ((z.2 - z.1) / wh)) [.val (.tuple [fr c1, .list (cx.map fr)]), .val (.tuple [fr d1, .list (dx.map fr)]), .val (fr wh), .no, .no], mapP_0, ?_, ?_⟩
  · rintro j acc d ρ hj q
    obtain ⟨⟨x, y⟩, hy, rfl⟩ := map_at hj
    obtain ⟨y1, y2⟩ := hY _ (List.mem_of_getElem? hy)
    have q2 := q.2
    subst q2
    simp only at y1 y2
    walk_at "dl"
    refine go_minus y2 y1 (by decide) ?_
    walk_at "dl"
    exact go_over (by grind) (sz_sub y2 y1) hsub (by decide) (mapP_yes (by unfold lim; omega) hy q rfl rfl)
  · rintro acc ρ q
    obtain ⟨rfl, rfl⟩ := mapP_end q (List.length_map _)
    rw [List.map_map] at h
    exact h
theorem vc__law_slopes : VC sp__law_slopes w__law_slopes 5 := by
  rintro ρ Qd ⟨⟨⟨c1, cx⟩, ⟨d1, dx⟩⟩, rfl, ⟨hc, hd, hlt⟩, h⟩
  simp only at hlt h
  have s1 : Sz 300 c1 := hc.w
  have s4 : Sz 300 d1 := hd.w
  have s2 : ∀ q ∈ cx, Sz 300 q := hc.s
  have s5 : ∀ q ∈ dx, Sz 300 q := hd.s
  have s3 : cx.length ≤ 8 := hc.l
  unfold w__law_slopes knotD
  walk_at "dl"
  refine go_lminus s4 s1 (by decide) ?_
  have hsub := sz_sub s4 s1
  have hpos : 0 < d1 - c1 := by grind
  unfold slopeR at h
  simp only at h
  generalize d1 - c1 = wh at *
  walk_at "dl"
  refine ⟨Nat.zero_le _, ?_⟩
  simp only [dFor, diZipX]
  walk_at "dl"
  rw [zipD_map]
  have hY : ∀ c ∈ cx.zip dx, Sz 300 c.1 ∧ Sz 300 c.2 := fun c hc' => by
    have := List.of_mem_zip (a := c.1) (b := c.2) hc'
    exact ⟨s2 _ this.1, s5 _ this.2⟩
  have hYl : (cx.zip dx).length ≤ 8 := by rw [List.length_zip]; omega
  generalize cx.zip dx = Y at *
  refine ⟨fun i ρ => ∃ a b c, ρ = [.val (.tuple [fr c1, .list (cx.map fr)]), .val (.tuple [fr d1, .list (dx.map fr)]), .val (fr wh), .mu true (.lst (((Y.take i).map fun z => (z.2 - z.1) / wh).map fr)), a, b, c], ⟨.no, .no, .no, rfl⟩, ?_, ?_⟩
  · rintro j d ρ hj ⟨a, b, c, rfl⟩
    obtain ⟨⟨x, y⟩, hy, rfl⟩ := map_at hj
    obtain ⟨y1, y2⟩ := hY _ (List.mem_of_getElem? hy)
    have hjl := lt_len hy
    have e1 : ((Y.take (j + 1)).map fun z => (z.2 - z.1) / wh).map fr = ((Y.take j).map fun z => (z.2 - z.1) / wh).map fr ++ [fr ((y - x) / wh)] := by
      rw [List.take_add_one, hy]; simp
    simp only [e1]
    have hGl : (((Y.take j).map fun z => (z.2 - z.1) / wh).map fr).length ≤ 8 := by rw [List.length_map, List.length_map, List.length_take]; omega
    generalize ((Y.take j).map fun z => (z.2 - z.1) / wh).map fr = G at *
    simp only at y1 y2
    walk_at "dl"
    refine go_lminus y2 y1 (by decide) ?_
    have hm := sz_sub y2 y1
    generalize y - x = m at *
    have n0 : 0 < wh.num := by
      have h1 : ¬ wh.num ≤ 0 := fun z => by
        have := Rat.num_nonneg (q := -wh)
        rw [Rat.neg_num] at this
        have := this.mp (by omega)
        grind
      omega
    have d1' := m.den_pos
    walk_at "dl"
    simp only [fIx_fr0, fIx_fr1]
    walk_at "dl"
    refine ⟨mul_ok hm.1 (den_abs hsub) (by decide), mul_ok (den_abs hm) hsub.1 (by decide), go_lfrac ?_ ?_ ?_⟩
    · exact Int.mul_pos (by omega) n0
    · exact Nat.lt_of_lt_of_le (mul_lt2 (den_abs hm) hsub.1) (Nat.pow_le_pow_right (by decide) (by decide))
    · rw [← rat_div_eq]
      walk_at "dl"
      exact ⟨by unfold lim; omega, _, _, _, rfl⟩
  · rintro ρ ⟨a, b, c, rfl⟩
    rw [List.length_map, List.take_length]
    walk_at "dl"
    exact h
/-! shares -/
def sp_shares : Spec := mkSp (fun x : List Pan × Int => [.val (rowD x.1), .val (.int x.2)]) fun x Q => (RowOk x.1 ∧ wOk x.2) ∧ ∀ z, IsOpt (sharesR x.1 (x.2 : Rat)) z → Q z none
theorem hn_shares : ∀ ρ Qd, sp_shares ρ Qd → ρ.length = 2 := hn_mk fun _ => rfl
/- shares: slots 0=row 1=width 2=rows 3=first 4=second -/
def w_shares : DS := (dSeq (dExpr (dCall false sp_check_row (dACons (dVar 0) dANil))) (dSeq (dExpr (dCall false sp_check_width (dACons (dVar 1) dANil))) (dSeq (dSet 2 (dCall false sp_knots (dACons (dVar 0) dANil))) (dSeq (dFor (diZipX (dACons (dVar 2) (dACons (dSl (dVar 2) (dOSome (dC (.int 1))) dONone) dANil))) (gdTupN 2 (gdCons (gdName 3) (gdCons (gdName 4) gdNil))) (dIf (dAnd (dNot (dTest (dCall false sp_less (dACons (dCall false sp_whole (dACons (dVar 1) dANil)) (dACons (dOp fIx (dVar 3) (dC (.int 0))) dANil))))) (dTest (dCall false sp_less (dACons (dCall false sp_whole (dACons (dVar 1) dANil)) (dACons (dOp fIx (dVar 4) (dC (.int 0))) dANil))))) (dRet (dCall false sp_slopes (dACons (dVar 3) (dACons (dVar 4) dANil)))) dNext)) (dRet (dC .none))))))
theorem segs_ok {r : List Pan} (h : RowOk r) : ∀ z ∈ segs (knotsR r), CornOk z.1 ∧ CornOk z.2 ∧ z.1.1 < z.2.1 := fun z hz => by
  have c := segs_mem hz
  have m := cons_mem c
  exact ⟨corn_ok h _ m.1, corn_ok h _ m.2, (nb_of h.all c).2.2.2⟩
theorem vc_shares : VC sp_shares w_shares 3 := by
  rintro ρ Qd ⟨⟨r, w⟩, rfl, ⟨hr, hw⟩, h⟩
  simp only at hr hw h
  have hwz := sz_wid hw
  unfold w_shares
  walk_at "dl"
  refine go_checkrow hr ?_
  walk_at "dl"
  refine go_checkwidth hw ?_
  walk_at "dl"
  refine go_knots hr ?_
  walk_at "dl"
  simp only [dFor, diZipX]
  walk_at "dl"
  rw [cut_tail, ← List.map_tail, zipD_map]
  have hS := segs_ok hr
  unfold sharesR at h
  unfold segs at h hS
  generalize hZ : (knotsR r).zip (knotsR r).tail = Z at *
  refine ⟨fun i ρ => (Z.take i).findSome? (inSeg w) = none ∧ ∃ a b, ρ = [.val (rowD r), .val (.int w), .val (.list ((knotsR r).map knotD)), a, b], ⟨rfl, .no, .no, rfl⟩, ?_, ?_⟩
  · rintro i d ρ hi ⟨hno, a, b, rfl⟩
    obtain ⟨⟨c, d⟩, hk, rfl⟩ := map_at hi
    have hstep := fun hc => find_step hno hk hc
    have hhit := fun t hc => find_hit (t := t) hno hk hc
    obtain ⟨hc, hd, hlt⟩ := hS _ (List.mem_of_getElem? hk)
    simp only at hc hd hlt
    generalize rowD r = R at *
    generalize (knotsR r).map knotD = KN at *
    walk_at "dl"
    refine dIf_go ?_
    simp only [dAnd]
    walk_at "dl"
    refine go_whole ?_
    have ec : knotD c = .tuple [fr c.1, .list (c.2.map fr)] := rfl
    have ed : knotD d = .tuple [fr d.1, .list (d.2.map fr)] := rfl
    rw [ec, ed]
    walk_at "dl"
    refine go_less hwz hc.w (by decide) (by decide) ?_
    by_cases k1 : (w : Rat) < c.1
    · rw [decide_eq_true k1]
      exact ⟨hstep (by unfold inSeg; rw [if_neg fun z => by grind]), _, _, rfl⟩
    · rw [decide_eq_false k1]
      walk_at "dl"
      refine go_whole ?_
      walk_at "dl"
      refine go_less hwz hd.w (by decide) (by decide) ?_
      by_cases k2 : (w : Rat) < d.1
      · rw [decide_eq_true k2]
        have hm := hhit _ (by unfold inSeg; rw [if_pos ⟨by grind, k2⟩])
        rw [hm] at h
        walk_at "dl"
        rw [← ec, ← ed]
        exact ⟨(c, d), rfl, ⟨hc, hd, hlt⟩, h _ (.inr rfl)⟩
      · rw [decide_eq_false k2]
        exact ⟨hstep (by unfold inSeg; rw [if_neg fun z => k2 z.2]), _, _, rfl⟩
  · rintro ρ ⟨hno, a, b, rfl⟩
    rw [List.length_map, List.take_length] at hno
    rw [hno] at h
    walk_at "dl"
    exact h _ (.inl rfl)
/-! bends -/
def sp_bends : Spec := mkSp (fun r : List Pan => [.val (rowD r)]) fun r Q => RowOk r ∧ Q (.mu true (.lst ((bendsR r).map fr))) none
theorem hn_bends : ∀ ρ Qd, sp_bends ρ Qd → ρ.length = 1 := hn_mk fun _ => rfl
theorem zip3D_map {α β γ : Type} {f : α → D} {g : β → D} {k : γ → D} : ∀ {l : List α} {m : List β} {n : List γ}, zip3D (l.map f) (m.map g) (n.map k) = (l.zip (m.zip n)).map fun c => .tuple [f c.1, g c.2.1, k c.2.2]
  | [], _, _ => by simp [zip3D]
  | _ :: _, [], _ => by simp [zip3D]
  | _ :: _, _ :: _, [] => by simp [zip3D]
  | x :: l, y :: m, z :: n => by
    simp only [List.map_cons, zip3D, List.zip_cons_cons]
    rw [zip3D_map]
theorem cut_two (l : List D) : cutD l (some 2) none = l.tail.tail := by
  have := cut_from l 2
  rw [show ((2 : Nat) : Int) = 2 from rfl] at this
  rw [this]
  simp [← List.drop_one]
theorem segs3_ok {r : List Pan} (h : RowOk r) : ∀ z ∈ segs3 (knotsR r), CornOk z.1 ∧ CornOk z.2.1 ∧ CornOk z.2.2 ∧ z.1.1 < z.2.1.1 ∧ z.2.1.1 < z.2.2.1 := fun z hz => by
  obtain ⟨c1, c2⟩ := segs3_mem hz
  have m1 := cons_mem c1
  have m2 := cons_mem c2
  exact ⟨corn_ok h _ m1.1, corn_ok h _ m1.2, corn_ok h _ m2.2, (nb_of h.all c1).2.2.2, (nb_of h.all c2).2.2.2⟩
theorem fil_take {α β : Type} {f : α → Option β} {l : List α} {i : Nat} {c : α} (hi : l[i]? = some c) : (l.take (i + 1)).filterMap f = (l.take i).filterMap f ++ (f c).toList := by
  rw [List.take_add_one, hi, List.filterMap_append]
  cases h : f c <;> simp [h]
theorem fNe_rats {xs ys : List Rat} {Q : Sl → Prop} (h : Q (.val (.bool (!decide (xs = ys))))) : fNe (.list (xs.map fr)) (.list (ys.map fr)) Q := enc_rats.fNe (by decide) h
/- bends: slots 0=row 1=rows 2=found 3=before 4=knot 5=after -/
def w_bends : DS := (dSeq (dExpr (dCall false sp_check_row (dACons (dVar 0) dANil))) (dSeq (dSet 1 (dCall false sp_knots (dACons (dVar 0) dANil))) (dSeq (dSet 2 (dLst dANil)) (dSeq (dFor (diZip3 (dACons (dVar 1) (dACons (dSl (dVar 1) (dOSome (dC (.int 1))) dONone) (dACons (dSl (dVar 1) (dOSome (dC (.int 2))) dONone) dANil)))) (gdTupN 3 (gdCons (gdName 3) (gdCons (gdName 4) (gdCons (gdName 5) gdNil)))) (dIf (dTest (dOp fNe (dCall false sp_slopes (dACons (dVar 3) (dACons (dVar 4) dANil))) (dCall false sp_slopes (dACons (dVar 4) (dACons (dVar 5) dANil))))) (dApp 2 (dOp fIx (dVar 4) (dC (.int 0)))) dNext)) (dRet (dMov 2))))))
theorem vc_bends : VC sp_bends w_bends 5 := by
  rintro ρ Qd ⟨r, rfl, hr, h⟩
  unfold w_bends
  walk_at "dl"
  refine go_checkrow hr ?_
  walk_at "dl"
  refine go_knots hr ?_
  walk_at "dl"
  refine ⟨Nat.zero_le _, ?_⟩
  simp only [dFor, diZip3]
  walk_at "dl"
  rw [cut_tail, cut_two, ← List.map_tail, ← List.map_tail, zip3D_map]
  have hS := segs3_ok hr
  have hl := bends_len hr.all
  have h8 := hr.n8
  have hkl := knotsR_len hr
  unfold bendsR at h hl
  unfold segs3 at h hS hl
  have hZl : ((knotsR r).zip ((knotsR r).tail.zip (knotsR r).tail.tail)).length ≤ 34 := by rw [List.length_zip]; omega
  generalize hZ : (knotsR r).zip ((knotsR r).tail.zip (knotsR r).tail.tail) = Z at *
  refine ⟨fun i ρ => ∃ a b c, ρ = [.val (rowD r), .val (.list ((knotsR r).map knotD)), .mu true (.lst (((Z.take i).filterMap bendK).map fr)), a, b, c], ⟨.no, .no, .no, rfl⟩, ?_, ?_⟩
  · rintro i d ρ hi ⟨a, b, c, rfl⟩
    obtain ⟨⟨x, y, z⟩, hk, rfl⟩ := map_at hi
    obtain ⟨hx, hy, hz, l1, l2⟩ := hS _ (List.mem_of_getElem? hk)
    simp only at hx hy hz l1 l2
    have e1 := fil_take (f := bendK) hk
    have hGl := List.length_filterMap_le bendK (Z.take i)
    rw [List.length_take] at hGl
    simp only [e1]
    generalize (Z.take i).filterMap bendK = G at *
    generalize rowD r = R at *
    generalize (knotsR r).map knotD = KN at *
    walk_at "dl"
    refine dIf_go ?_
    walk_at "dl"
    refine go_slopes hx hy l1 ?_
    walk_at "dl"
    refine go_slopes hy hz l2 ?_
    walk_at "dl"
    refine fNe_rats ?_
    unfold bendK
    by_cases k : slopeR x y = slopeR y z
    · rw [decide_eq_true k]
      simp only [k, if_true, Option.toList_none, List.append_nil]
      exact ⟨_, _, _, rfl⟩
    · rw [decide_eq_false k]
      simp only [k, if_false]
      have ey : knotD y = .tuple [fr y.1, .list (y.2.map fr)] := rfl
      rw [ey]
      walk_at "dl"
      rw [List.map_append]
      exact ⟨by rw [List.length_map]; unfold lim; omega, _, _, _, rfl⟩
  · rintro ρ ⟨a, b, c, rfl⟩
    rw [List.length_map, List.take_length]
    walk_at "dl"
    exact h
end DL

--@law k27
namespace DL
open PySem PySem.Spec PyProof.Rows L2
local macro_rules | `(tactic| walk_at "dl") => `(tactic| try simp only [↓dSeq, ↓dNext, ↓dSet, ↓dSetV, ↓dFrzS, ↓dRet, ↓dRetN, ↓dExpr, ↓dBreak, ↓dCont, ↓dPar, ↓dPar3, ↓dAsg, ↓dTest_S, ↓dNot, ↓dNotV_S, ↓dOp, ↓dUn, ↓dC, ↓dVar_S, ↓dVarS_v, ↓dVarS_m, ↓dMov_S, ↓dMovS_m, ↓sB_b, ↓muL_l, ↓muT_t, ↓isI_i, ↓vaI_i, ↓dF_v, ↓dF_m, ↓dChain, ↓fAdd_ii, ↓fAdd_ll, ↓fAdd_tt, ↓fI_ii, ↓fI0_ii, ↓fMul_ii, ↓fMul_ti, ↓fNeg_i, ↓fEq_ii, ↓fNe_ii, ↓fIsN_n, ↓fIsN_l, ↓fIsN_t, ↓fIsN_i, ↓fIx_l, ↓fIx_t, ↓dANil, ↓dACons, ↓dAAt_S, ↓agD, ↓dTup, ↓dLst, ↓dCB, ↓fAbs_i, ↓fMax2_ii, ↓fMin2_ii, ↓fLen_l, ↓fLen_t, ↓fList_l, ↓fInt_i, ↓dParX_2, ↓dParX_3, ↓fList_t, ↓fTuple_l, ↓fTuple_t, ↓dSl, ↓dONone, ↓dOSome, ↓fSl_l, ↓fSl_t, ↓dIsi_S, ↓dIsi2_S, ↓isiS_s, ↓dCall, ↓agOne, ↓agAll, ↓agAt, ↓agSl_d, ↓agSl_s, ↓agS_m, ↓dBack_n, ↓dBack_s, ↓seqS_l, ↓seqS_t, ↓nos, List.replicate, List.append, List.map, List.cons_append, List.nil_append, List.getElem?_cons_zero, List.getElem?_cons_succ, List.set_cons_zero, List.set_cons_succ, ↓ioOf, List.length_cons, List.length_nil, ↓dYes, ↓gdName, ↓gdTupN, ↓gdCons, ↓gdNil, ↓frzAt, ↓frz, ↓flatS, ↓flatD, ↓Option.getD_some, ↓wipeD, ↓dAug_S, ↓dApp_S, ↓dIns_S, ↓dSetI_S, ↓dIxM_S, ↓dAugL_S, ↓ixN_30, ↓ixN_31, ↓ixN_32, ↓atI_0, ↓atI_1, ↓atI_2, ↓atI_3, ↓atI_4, true_and, reduceCtorEq, false_implies, implies_true, forall_const, Bool.not_true, Bool.not_false, Nat.reduceAdd, decide_true, decide_false, Int.reduceLT, Int.reduceLE, Int.reduceEq])
local macro_rules | `(tactic| walk_at "dt") => `(tactic| (walk_at "dl"; (try simp only [dAnd, dOr, dAndV_S, dOrV_S]); walk_at "dl"))
local macro_rules | `(tactic| walk_at "di") => `(tactic| (walk_at "dl"; (try simp only [dIf, dIte]); walk_at "dl"))
local macro_rules | `(tactic| walk_at "ds") => `(tactic| (walk_at "di"; walk_at "dt"; walk_at "di"))

local macro_rules | `(tactic| walk_at "db") => `(tactic| (simp only [dBorB, dBor, dBorL]; walk_at "dl"))

/-! ### products and quotients of the laws -/
def sp__law_times : Spec := mkSp (fun x : Rat × Rat => [.val (fr x.1), .val (fr x.2)]) fun x Q => (∃ n m, Sz n x.1 ∧ Sz m x.2 ∧ n + m ≤ 7999) ∧ Q (.val (fr (x.1 * x.2))) none
def sp__law_over : Spec := mkSp (fun x : Rat × Rat => [.val (fr x.1), .val (fr x.2)]) fun x Q => (0 < x.2 ∧ ∃ n m, Sz n x.1 ∧ Sz m x.2 ∧ n + m ≤ 7999) ∧ Q (.val (fr (x.1 / x.2))) none
def sp__law_middle : Spec := mkSp (fun x : Rat × Rat => [.val (fr x.1), .val (fr x.2)]) fun x Q => (∃ n m, Sz n x.1 ∧ Sz m x.2 ∧ n + m ≤ 3000) ∧ Q (.val (fr ((x.1 + x.2) * (1 / 2)))) none
theorem hn__law_times : ∀ ρ Qd, sp__law_times ρ Qd → ρ.length = 2 := hn_mk fun _ => rfl
theorem hn__law_over : ∀ ρ Qd, sp__law_over ρ Qd → ρ.length = 2 := hn_mk fun _ => rfl
theorem hn__law_middle : ∀ ρ Qd, sp__law_middle ρ Qd → ρ.length = 2 := hn_mk fun _ => rfl
theorem go_ltimes {p q : Rat} {n m : Nat} {K : Sl → Option Ct → Prop} (hp : Sz n p) (hq : Sz m q) (hn : n + m ≤ 7999) (k : K (.val (fr (p * q))) none) : sp__law_times [.val (fr p), .val (fr q)] K := ⟨(p, q), rfl, ⟨n, m, hp, hq, hn⟩, k⟩
theorem go_lover {p q : Rat} {n m : Nat} {K : Sl → Option Ct → Prop} (h0 : 0 < q) (hp : Sz n p) (hq : Sz m q) (hn : n + m ≤ 7999) (k : K (.val (fr (p / q))) none) : sp__law_over [.val (fr p), .val (fr q)] K := ⟨(p, q), rfl, ⟨h0, n, m, hp, hq, hn⟩, k⟩
theorem go_lmiddle {p q : Rat} {n m : Nat} {K : Sl → Option Ct → Prop} (hp : Sz n p) (hq : Sz m q) (hn : n + m ≤ 3000) (k : K (.val (fr ((p + q) * (1 / 2)))) none) : sp__law_middle [.val (fr p), .val (fr q)] K := ⟨(p, q), rfl, ⟨n, m, hp, hq, hn⟩, k⟩
/- _law_times: slots 0=one 1=other -/
def w__law_times : DS := (dRet (dCall false sp__law_fraction (dACons (dOp fMul (dOp fIx (dVar 0) (dC (.int 0))) (dOp fIx (dVar 1) (dC (.int 0)))) (dACons (dOp fMul (dOp fIx (dVar 0) (dC (.int 1))) (dOp fIx (dVar 1) (dC (.int 1)))) dANil))))
/- _law_over: slots 0=one 1=other -/
def w__law_over : DS := (dRet (dCall false sp__law_fraction (dACons (dOp fMul (dOp fIx (dVar 0) (dC (.int 0))) (dOp fIx (dVar 1) (dC (.int 1)))) (dACons (dOp fMul (dOp fIx (dVar 0) (dC (.int 1))) (dOp fIx (dVar 1) (dC (.int 0)))) dANil))))
/- _law_middle: slots 0=one 1=other -/
def w__law_middle : DS := (dRet (dCall false sp__law_times (dACons (dCall false sp__law_plus (dACons (dVar 0) (dACons (dVar 1) dANil))) (dACons (dTup (dACons (dC (.int 1)) (dACons (dC (.int 2)) dANil))) dANil))))
theorem vc__law_times : VC sp__law_times w__law_times 0 := by
  rintro ρ Qd ⟨⟨p, q⟩, rfl, ⟨n, m, hp, hq, hn⟩, h⟩
  simp only at hp hq h
  unfold w__law_times
  walk_at "dl"
  simp only [fIx_fr0, fIx_fr1]
  walk_at "dl"
  refine ⟨mul_ok hp.1 hq.1 (by omega), mul_ok (den_abs hp) (den_abs hq) (by omega), go_lfrac (den_posI p q) (Nat.lt_of_lt_of_le (mul_lt2 (den_abs hp) (den_abs hq)) (Nat.pow_le_pow_right (by decide) (by omega))) ?_⟩
  rw [← rat_mul_eq]
  exact h
theorem vc__law_over : VC sp__law_over w__law_over 0 := by
  rintro ρ Qd ⟨⟨p, q⟩, rfl, ⟨h0, n, m, hp, hq, hn⟩, h⟩
  simp only at hp hq h h0
  unfold w__law_over
  walk_at "dl"
  simp only [fIx_fr0, fIx_fr1]
  walk_at "dl"
  have := num_pos.mpr h0
  have := p.den_pos
  refine ⟨mul_ok hp.1 (den_abs hq) (by omega), mul_ok (den_abs hp) hq.1 (by omega), go_lfrac (Int.mul_pos (by omega) (by omega)) (Nat.lt_of_lt_of_le (mul_lt2 (den_abs hp) hq.1) (Nat.pow_le_pow_right (by decide) (by omega))) ?_⟩
  rw [← rat_div_eq]
  exact h
theorem fr_half : PyData.tuple [.int 1, .int 2] = fr (1 / 2) := by
  have e1 : ((1 : Rat) / 2).num = 1 := by decide +kernel
  have e2 : ((1 : Rat) / 2).den = 2 := by decide +kernel
  unfold fr
  rw [e1, e2]; rfl
theorem sz_half : Sz 2 (1 / 2) := by
  have e1 : ((1 : Rat) / 2).num = 1 := by decide +kernel
  have e2 : ((1 : Rat) / 2).den = 2 := by decide +kernel
  unfold Sz
  rw [e1, e2]; exact ⟨by decide, by decide⟩
theorem vc__law_middle : VC sp__law_middle w__law_middle 0 := by
  rintro ρ Qd ⟨⟨p, q⟩, rfl, ⟨n, m, hp, hq, hn⟩, h⟩
  simp only at hp hq h
  unfold w__law_middle
  walk_at "dl"
  refine go_lplus hp hq (by omega) ?_
  walk_at "dl"
  rw [fr_half]
  refine ⟨by decide, go_ltimes (sz_add hp hq) sz_half (by omega) ?_⟩
  exact h
/-! ### part_range -/
def pairD (x : Rat × Rat) : D := .tuple [fr x.1, fr x.2]
def partRange (r : List Pan) (i : Nat) : Option (Rat × Rat) := match partsR (knotsR r) i with
  | [] => none
  | a :: l => some (minF a (a :: l), maxF a (a :: l))
theorem enc_optPair : Enc (optF pairD) 3 := enc_pair.opt (fun x => rfl) (by decide)
def sp_part_range : Spec := mkSp (fun x : List Pan × Nat => [.val (rowD x.1), .val (.int x.2)]) fun x Q => (RowOk x.1 ∧ x.2 < x.1.length) ∧ Q (.val (optF pairD (partRange x.1 x.2))) none
theorem hn_part_range : ∀ ρ Qd, sp_part_range ρ Qd → ρ.length = 2 := hn_mk fun _ => rfl
def partK (i : Nat) (c : Rat × List Rat) : Option D := if 0 < c.1 then some (fr (gx i c.2 / c.1)) else none
theorem partK_fil (i : Nat) : ∀ l : List (Rat × List Rat), l.filterMap (partK i) = (partsR l i).map fr
  | [] => rfl
  | c :: l => by
    have ih := partK_fil i l
    unfold partsR at ih ⊢
    rw [List.filterMap_cons, List.filterMap_cons, partK]
    by_cases k : 0 < c.1
    · rw [if_pos k, if_pos k]
      simp only [List.map_cons]
      rw [ih]
    · rw [if_neg k, if_neg k]
      exact ih
theorem gx_sz {r : List Pan} (h : RowOk r) {c : Rat × List Rat} (hc : c ∈ knotsR r) {i : Nat} (hi : i < r.length) : i < c.2.length ∧ Sz 26 (gx i c.2) := by
  obtain ⟨h1, h2, h3⟩ := knotsR_sz h c hc
  refine ⟨by omega, h3 _ (List.mem_of_getElem? (gx_at (by omega)))⟩
theorem parts_sz {r : List Pan} (h : RowOk r) {i : Nat} (hi : i < r.length) : (partsR (knotsR r) i).length ≤ 34 ∧ ∀ q ∈ partsR (knotsR r) i, Sz 243 q := by
  refine ⟨Nat.le_trans (List.length_filterMap_le _ _) (knotsR_len h), fun q hq => ?_⟩
  obtain ⟨c, hc, e⟩ := List.mem_filterMap.mp hq
  split at e
  · rename_i k
    injection e with e
    subst e
    have h1 := (gx_sz h hc hi).2
    have h2 := (knotsR_sz h c hc).1
    exact sz_div h1 h2 (by grind)
  · cases e
/- part_range: slots 0=row 1=index 2=found 3=width 4=sizes -/
def w_part_range : DS := (dSeq (dExpr (dCall false sp_check_row (dACons (dVar 0) dANil))) (dSeq (dExpr (dCall false sp_check_index (dACons (dVar 0) (dACons (dVar 1) dANil)))) (dSeq (dSet 2 (dCall false sp_ordered (dACons (dLc (diSeq (dCall false sp_knots (dACons (dVar 0) dANil))) (gdTupN 2 (gdCons (gdName 3) (gdCons (gdName 4) gdNil))) (dTest (dOp fGt (dOp fIx (dVar 3) (dC (.int 0))) (dC (.int 0)))) (dCall false sp_over (dACons (dOp fIx (dVar 4) (dVar 1)) (dACons (dVar 3) dANil))) [3, 4]) dANil))) (dRet (dIte (dTest (dOp fNe (dVar 2) (dLst dANil))) (dTup (dACons (dOp fIx (dVar 2) (dC (.int 0))) (dACons (dOp fIx (dVar 2) (dUn fNeg (dC (.int 1)))) dANil))) (dC .none))))))
theorem vc_part_range : VC sp_part_range w_part_range 3 := by
  rintro ρ Qd ⟨⟨r, i⟩, rfl, ⟨hr, hi⟩, h⟩
  simp only at hr hi h
  unfold w_part_range
  walk_at "dl"
  refine go_checkrow hr ?_
  walk_at "dl"
  refine go_checkindex hi ?_
  walk_at "dl"
  simp only [dLc, diSeq]
  walk_at "dl"
  refine go_knots hr ?_
  walk_at "dl"
  have hkl := knotsR_len hr
  refine ⟨filP (knotsR r) (partK i) [.val (rowD r), .val (.int i), .no, .no, .no], filP_0, ?_, ?_⟩
  · rintro j acc d ρ hj q
    obtain ⟨c, hc, rfl⟩ := map_at hj
    have q2 := q.2
    subst q2
    have hm := List.mem_of_getElem? hc
    have hg := gx_sz hr hm hi
    have hz := (knotsR_sz hr c hm).1
    generalize rowD r = R at *
    unfold knotD
    walk_at "dl"
    rw [fIx_fr0]
    walk_at "dl"
    by_cases k : 0 < c.1
    · rw [decide_eq_true (num_pos.mpr k)]
      walk_at "dl"
      rw [atI_map (gx_at hg.1)]
      walk_at "dl"
      exact go_over (by grind) hg.2 hz (by decide) (filP_yes (by unfold lim; omega) hc q (if_pos k) rfl)
    · rw [decide_eq_false (fun z => k (num_pos.mp z))]
      exact filP_no hc q (if_neg k) rfl
  · rintro acc ρ q
    obtain ⟨rfl, rfl⟩ := filP_end q (List.length_map _)
    rw [partK_fil]
    walk_at "dl"
    obtain ⟨p1, p2⟩ := parts_sz hr hi
    refine ⟨_, rfl, ⟨fun q hq => (p2 q hq).mono (by decide), by unfold lim; omega⟩, ?_⟩
    walk_at "di"
    refine ⟨Nat.zero_le _, fNe_nil (n := 2) (fun x hx => ?_) (by decide) ?_⟩
    · obtain ⟨y, _, rfl⟩ := List.mem_map.mp hx
      exact lay_fr y
    unfold partRange at h
    cases e : partsR (knotsR r) i with
    | nil =>
      rw [e] at h
      exact h
    | cons a l =>
      rw [e] at h
      have h1 := ord_head (a := a) (l := l)
      have h2 := ord_last (a := a) (l := l)
      generalize ordR (a :: l) = O at *
      cases O with
      | nil => cases h1
      | cons y O =>
        injection h1 with h1
        subst h1
        simp only [List.map_cons, List.isEmpty_cons]
        walk_at "di"
        rw [← List.map_cons, atI_last, List.getLast?_map, h2]
        exact ⟨by decide, h⟩
end DL

--@law k05
namespace DL
open PySem PySem.Spec PyProof.Rows L2
local macro_rules | `(tactic| walk_at "dl") => `(tactic| try simp only [↓dSeq, ↓dNext, ↓dSet, ↓dSetV, ↓dFrzS, ↓dRet, ↓dRetN, ↓dExpr, ↓dBreak, ↓dCont, ↓dPar, ↓dPar3, ↓dAsg, ↓dTest_S, ↓dNot, ↓dNotV_S, ↓dOp, ↓dUn, ↓dC, ↓dVar_S, ↓dVarS_v, ↓dVarS_m, ↓dMov_S, ↓dMovS_m, ↓sB_b, ↓muL_l, ↓muT_t, ↓isI_i, ↓vaI_i, ↓dF_v, ↓dF_m, ↓dChain, ↓fAdd_ii, ↓fAdd_ll, ↓fAdd_tt, ↓fI_ii, ↓fI0_ii, ↓fMul_ii, ↓fMul_ti, ↓fNeg_i, ↓fEq_ii, ↓fNe_ii, ↓fIsN_n, ↓fIsN_l, ↓fIsN_t, ↓fIsN_i, ↓fIx_l, ↓fIx_t, ↓dANil, ↓dACons, ↓dAAt_S, ↓agD, ↓dTup, ↓dLst, ↓dCB, ↓fAbs_i, ↓fMax2_ii, ↓fMin2_ii, ↓fLen_l, ↓fLen_t, ↓fList_l, ↓fInt_i, ↓dParX_2, ↓dParX_3, ↓fList_t, ↓fTuple_l, ↓fTuple_t, ↓dSl, ↓dONone, ↓dOSome, ↓fSl_l, ↓fSl_t, ↓dIsi_S, ↓dIsi2_S, ↓isiS_s, ↓dCall, ↓agOne, ↓agAll, ↓agAt, ↓agSl_d, ↓agSl_s, ↓agS_m, ↓dBack_n, ↓dBack_s, ↓seqS_l, ↓seqS_t, ↓nos, List.replicate, List.append, List.map, List.cons_append, List.nil_append, List.getElem?_cons_zero, List.getElem?_cons_succ, List.set_cons_zero, List.set_cons_succ, ↓ioOf, List.length_cons, List.length_nil, ↓dYes, ↓gdName, ↓gdTupN, ↓gdCons, ↓gdNil, ↓frzAt, ↓frz, ↓flatS, ↓flatD, ↓Option.getD_some, ↓wipeD, ↓dAug_S, ↓dApp_S, ↓dIns_S, ↓dSetI_S, ↓dIxM_S, ↓dAugL_S, ↓ixN_30, ↓ixN_31, ↓ixN_32, ↓atI_0, ↓atI_1, ↓atI_2, ↓atI_3, ↓atI_4, true_and, reduceCtorEq, false_implies, implies_true, forall_const, Bool.not_true, Bool.not_false, Nat.reduceAdd, decide_true, decide_false, Int.reduceLT, Int.reduceLE, Int.reduceEq])
local macro_rules | `(tactic| walk_at "dt") => `(tactic| (walk_at "dl"; (try simp only [dAnd, dOr, dAndV_S, dOrV_S]); walk_at "dl"))
local macro_rules | `(tactic| walk_at "di") => `(tactic| (walk_at "dl"; (try simp only [dIf, dIte]); walk_at "dl"))
local macro_rules | `(tactic| walk_at "ds") => `(tactic| (walk_at "di"; walk_at "dt"; walk_at "di"))

local macro_rules | `(tactic| walk_at "db") => `(tactic| (simp only [dBorB, dBor, dBorL]; walk_at "dl"))

/- law: slots 0=script 1=cell 2=source 3=turn 4=row 5=corners 6=expected 7=before 8=corner 9=after 10=result 11=some 12=bend 13=width 14=slopes_ 15=one 16=other -/
def wl_exp : DS := (dFor (diZip3 (dACons (dVar 5) (dACons (dSl (dVar 5) (dOSome (dC (.int 1))) dONone) (dACons (dSl (dVar 5) (dOSome (dC (.int 2))) dONone) dANil)))) (gdTupN 3 (gdCons (gdName 7) (gdCons (gdName 8) (gdCons (gdName 9) gdNil)))) (dIf (dTest (dOp fNe (dCall false sp__law_slopes (dACons (dVar 7) (dACons (dVar 8) dANil))) (dCall false sp__law_slopes (dACons (dVar 8) (dACons (dVar 9) dANil))))) (dApp 6 (dOp fIx (dVar 8) (dC (.int 0)))) dNext))
def wl_chk : DS := (dIf (dBorB [6, 10] (dOr (dNot (dTest (dCall true (sp__law_equal 8) (dACons (dVar 10) (dACons (dVar 6) dANil))))) (dTest (dOp fGt (dCB fLen (dACons (dVar 10) dANil)) (dOp fAdd (dOp fMul (dC (.int 2)) (dCB fLen (dACons (dVar 4) dANil))) (dC (.int 1))))))) (dRet (dC (.bool false))) dNext)
def wl_some : DS := (dSetV 11 (dOp fAdd (dCall false sp__law_some_widths (dAAt 2 (dACons (dVar 4) (dACons (dC (.int 4)) dANil)))) (dBorL [10] (dLc (diSeq (dVar 10)) (gdName 12) (dTest (dOp fEq (dOp fIx (dVar 12) (dC (.int 1))) (dC (.int 1)))) (dOp fIx (dVar 12) (dC (.int 0))) [12]))))
def wl_again : DS := (dIf (dBorB [6] (dTest (dOp fNe (dCall true sp_bends (dACons (dVar 4) dANil)) (dVar 6)))) (dRet (dC (.bool false))) dNext)
def wl_find : DS := (dFor (diZipX (dACons (dVar 5) (dACons (dSl (dVar 5) (dOSome (dC (.int 1))) dONone) dANil))) (gdTupN 2 (gdCons (gdName 15) (gdCons (gdName 16) gdNil))) (dIf (dAnd (dNot (dTest (dCall false sp__law_less (dACons (dTup (dACons (dVar 13) (dACons (dC (.int 1)) dANil))) (dACons (dOp fIx (dVar 15) (dC (.int 0))) dANil))))) (dTest (dCall false sp__law_less (dACons (dTup (dACons (dVar 13) (dACons (dC (.int 1)) dANil))) (dACons (dOp fIx (dVar 16) (dC (.int 0))) dANil))))) (dSetV 14 (dCall false sp__law_slopes (dACons (dVar 15) (dACons (dVar 16) dANil)))) dNext))
def wl_cmp : DS := (dIf (dNot (dTest (dCall false (sp__law_equal 8) (dACons (dCall false sp_shares (dACons (dVar 4) (dACons (dVar 13) dANil))) (dACons (dVar 14) dANil))))) (dRet (dC (.bool false))) dNext)
def wl_sum : DS := (dIf (dAnd (dTest (dOp (fIsN true) (dVar 14) (dC .none))) (dTest (dOp fNe (dCall false sp__law_total (dACons (dVar 14) dANil)) (dTup (dACons (dC (.int 1)) (dACons (dC (.int 1)) dANil)))))) (dRet (dC (.bool false))) dNext)
def wl_width : DS := (dFor (diSeq (dVar 11)) (gdName 13) (dSeq (dSetV 14 (dC .none)) (dSeq wl_find (dSeq wl_cmp wl_sum))))
def wl_turn : DS := (dFor (diR1 (dACons (dC (.int 3)) dANil)) (gdName 3) (dSeq (dSetV 4 (dCall false sp__law_row (dAAt 2 (dACons (dC (.int 8)) (dACons (dCall false sp__law_choice (dAAt 2 (dACons (dLst (dACons (dC (.int 20)) (dACons (dC (.int 400)) dANil))) dANil))) dANil))))) (dSeq (dParX [5, 6] (dbCons (dCall false sp__law_corners (dACons (dVar 4) dANil)) (dbCons (dLst dANil) dbNil))) (dSeq wl_exp (dSeq (dSet 10 (dCall false sp_bends (dACons (dVar 4) dANil))) (dSeq wl_chk (dSeq wl_some (dSeq (dApp 10 (dC .none)) (dSeq wl_again wl_width)))))))))
def wl_end : DS := (dRet (dOp fEq (dCall false sp_shares (dACons (dTup (dACons (dTup (dACons (dC (.int 1)) (dACons (dC (.int 1)) (dACons (dC (.int 1)) (dACons (dC (.int 0)) (dACons (dC (.int 5)) dANil)))))) (dACons (dTup (dACons (dC (.int 1)) (dACons (dC (.int 3)) (dACons (dC (.int 1)) (dACons (dC (.int 0)) (dACons (dC (.int 5)) dANil)))))) dANil))) (dACons (dC (.int 2)) dANil))) (dLst (dACons (dTup (dACons (dC (.int 1)) (dACons (dC (.int 4)) dANil))) (dACons (dTup (dACons (dC (.int 3)) (dACons (dC (.int 4)) dANil))) dANil)))))
def w_law : DS := (dSeq (dFor (diSeq (dSl (dOp fAdd (dLst (dACons (dC (.int 0)) dANil)) (dVar 0)) dONone (dOSome (dC (.int 10))))) (gdName 1) (dSeq (dSet 2 (dCall false sp__law_source (dACons (dVar 1) (dACons (dC (.int 5)) dANil)))) wl_turn)) wl_end)
theorem back_two {L : En} {i : Nat} {t : Ct} {Q : En → Prop} {b : Bool} {t0 : Ct} (h : L[i]? = some (.mu b t0)) (k : Q (L.set i (.mu b t))) : dBack L (some i) (some t) Q := by
  unfold dBack
  simp only [h]
  exact k
theorem dF_val {d : D} {Q : D → Prop} (k : Q d) : dF (.val d) Q := k
theorem exp_core {r : List Pan} (hr : RowOk r) {a0 a1 a2 a3 a7 a8 a9 a10 a11 a12 a13 a14 a15 a16 : Sl} {E : De}
    (hnx : ∀ b7 b8 b9, E.nx [a0, a1, a2, a3, .val (rowD r), .val (.list ((knotsR r).map knotD)), .mu true (.lst ((bendsR r).map fr)), b7, b8, b9, a10, a11, a12, a13, a14, a15, a16]) :
    wl_exp E [a0, a1, a2, a3, .val (rowD r), .mu true (.lst ((knotsR r).map knotD)), .mu true (.lst []), a7, a8, a9, a10, a11, a12, a13, a14, a15, a16] := by
  unfold wl_exp
  simp only [dFor, diZip3]
  walk_at "dl"
  rw [cut_tail, cut_two, ← List.map_tail, ← List.map_tail, zip3D_map]
  have hS := segs3_ok hr
  have hl := bends_len hr.all
  have h8 := hr.n8
  have hkl := knotsR_len hr
  unfold bendsR at hnx hl
  unfold segs3 at hnx hS hl
  have hZl : ((knotsR r).zip ((knotsR r).tail.zip (knotsR r).tail.tail)).length ≤ 34 := by rw [List.length_zip]; omega
  generalize hZ : (knotsR r).zip ((knotsR r).tail.zip (knotsR r).tail.tail) = Z at *
  generalize PyData.list ((knotsR r).map knotD) = KN at *
  refine ⟨fun i ρ => ∃ b7 b8 b9, ρ = [a0, a1, a2, a3, .val (rowD r), .val KN, .mu true (.lst (((Z.take i).filterMap bendK).map fr)), b7, b8, b9, a10, a11, a12, a13, a14, a15, a16], ⟨_, _, _, rfl⟩, ?_, ?_⟩
  · rintro i d ρ hi ⟨b7, b8, b9, rfl⟩
    obtain ⟨⟨x, y, z⟩, hk, rfl⟩ := map_at hi
    obtain ⟨hx, hy, hz, l1, l2⟩ := hS _ (List.mem_of_getElem? hk)
    simp only at hx hy hz l1 l2
    have e1 := fil_take (f := bendK) hk
    have hGl := List.length_filterMap_le bendK (Z.take i)
    rw [List.length_take] at hGl
    simp only [e1]
    generalize (Z.take i).filterMap bendK = G at *
    generalize rowD r = R at *
    walk_at "dl"
    refine dIf_go ?_
    walk_at "dl"
    refine go_lslopes hx hy l1 ?_
    walk_at "dl"
    refine go_lslopes hy hz l2 ?_
    walk_at "dl"
    refine fNe_rats ?_
    unfold bendK
    by_cases k : slopeR x y = slopeR y z
    · rw [decide_eq_true k]
      simp only [k, if_true, Option.toList_none, List.append_nil]
      exact ⟨_, _, _, rfl⟩
    · rw [decide_eq_false k]
      simp only [k, if_false]
      have ey : knotD y = .tuple [fr y.1, .list (y.2.map fr)] := rfl
      rw [ey]
      walk_at "dl"
      rw [List.map_append]
      exact ⟨by rw [List.length_map]; unfold lim; omega, _, _, _, rfl⟩
  · rintro ρ ⟨b7, b8, b9, rfl⟩
    rw [List.length_map, List.take_length]
    exact hnx _ _ _
def slO : Option (List Rat) → D := optD2
theorem find_core {r : List Pan} (hr : RowOk r) {w : Int} (hw : wOk w) {a0 a1 a2 a3 a4 a6 a7 a8 a9 a10 a11 a12 a15 a16 : Sl} {E : De}
    (hnx : ∀ b15 b16, E.nx [a0, a1, a2, a3, a4, .val (.list ((knotsR r).map knotD)), a6, a7, a8, a9, a10, a11, a12, .val (.int w), .val (optD2 (sharesR r (w : Rat))), b15, b16]) :
    wl_find E [a0, a1, a2, a3, a4, .val (.list ((knotsR r).map knotD)), a6, a7, a8, a9, a10, a11, a12, .val (.int w), .val .none, a15, a16] := by
  unfold wl_find
  have hwz := sz_wid hw
  have hS := segs_ok hr
  have hso := knots_sorted hr.all
  have once := fun {i z} => seg_once (w := (w : Rat)) hso (i := i) (z := z)
  unfold sharesR at hnx
  simp only [dFor, diZipX]
  walk_at "dl"
  rw [cut_tail, ← List.map_tail, zipD_map]
  rw [show (knotsR r).zip (knotsR r).tail = segs (knotsR r) from rfl]
  generalize segs (knotsR r) = Z at *
  generalize PyData.list ((knotsR r).map knotD) = KN at *
  refine ⟨fun i ρ => ∃ b15 b16, ρ = [a0, a1, a2, a3, a4, .val KN, a6, a7, a8, a9, a10, a11, a12, .val (.int w), .val (optD2 ((Z.take i).findSome? (inSeg (w : Rat)))), b15, b16], ⟨_, _, rfl⟩, ?_, ?_⟩
  · rintro i d ρ hi ⟨b15, b16, rfl⟩
    obtain ⟨⟨c, d⟩, hk, rfl⟩ := map_at hi
    obtain ⟨hc, hd, hlt⟩ := hS _ (List.mem_of_getElem? hk)
    simp only at hc hd hlt
    have e1 := find_take (f := inSeg (w : Rat)) hk
    have hon := fun h => once hk h
    simp only at hon
    simp only [e1]
    generalize (Z.take i).findSome? (inSeg (w : Rat)) = G at *
    have ec : knotD c = .tuple [fr c.1, .list (c.2.map fr)] := rfl
    have ed : knotD d = .tuple [fr d.1, .list (d.2.map fr)] := rfl
    walk_at "dl"
    have test : ∀ (R : Bool → En → Prop), R (decide (c.1 ≤ (w : Rat) ∧ (w : Rat) < d.1)) [a0, a1, a2, a3, a4, .val KN, a6, a7, a8, a9, a10, a11, a12, .val (.int w), .val (optD2 G), .val (knotD c), .val (knotD d)] →
        dAnd (dNot (dTest (dCall false sp__law_less (dACons (dTup (dACons (dVar 13) (dACons (dC (.int 1)) dANil))) (dACons (dOp fIx (dVar 15) (dC (.int 0))) dANil))))) (dTest (dCall false sp__law_less (dACons (dTup (dACons (dVar 13) (dACons (dC (.int 1)) dANil))) (dACons (dOp fIx (dVar 16) (dC (.int 0))) dANil)))) [a0, a1, a2, a3, a4, .val KN, a6, a7, a8, a9, a10, a11, a12, .val (.int w), .val (optD2 G), .val (knotD c), .val (knotD d)] R := by
      intro R hR
      rw [ec, ed] at *
      walk_at "dt"
      refine ⟨by decide, ?_⟩
      rw [← fr_int]
      refine go_lless hwz hc.w (by decide) (by decide) ?_
      by_cases k1 : (w : Rat) < c.1
      · rw [decide_eq_true k1]
        rw [decide_eq_false (fun z => by have := z.1; grind)] at hR
        exact hR
      · rw [decide_eq_false k1]
        walk_at "dt"
        refine ⟨by decide, ?_⟩
        refine go_lless hwz hd.w (by decide) (by decide) ?_
        by_cases k2 : (w : Rat) < d.1
        · rw [decide_eq_true k2]
          rw [decide_eq_true ⟨by grind, k2⟩] at hR
          exact hR
        · rw [decide_eq_false k2]
          rw [decide_eq_false (fun z => k2 z.2)] at hR
          exact hR
    by_cases k : c.1 ≤ (w : Rat) ∧ (w : Rat) < d.1
    · refine dIf_T (fun R hR => test R (by rw [decide_eq_true k]; exact hR)) ?_
      walk_at "dl"
      refine go_lslopes hc hd hlt ?_
      walk_at "dl"
      rw [hon k]
      have e2 : inSeg (w : Rat) (c, d) = some (slopeR c d) := if_pos k
      rw [e2]
      exact ⟨_, _, rfl⟩
    · refine dIf_F (fun R hR => test R (by rw [decide_eq_false k]; exact hR)) (next_go ?_)
      have e2 : inSeg (w : Rat) (c, d) = none := if_neg k
      rw [e2, Option.or_none]
      exact ⟨_, _, rfl⟩
  · rintro ρ ⟨b15, b16, rfl⟩
    rw [List.length_map, List.take_length]
    exact hnx _ _
theorem shares_sz {r : List Pan} (hr : RowOk r) {w : Rat} {xs : List Rat} (h : sharesR r w = some xs) : (∀ q ∈ xs, Sz 488 q) ∧ xs.length ≤ 8 ∧ sumR xs = 1 := by
  obtain ⟨z, hz, hw⟩ := List.exists_of_findSome?_eq_some h
  unfold inSeg at hw
  split at hw
  · cases hw
    have cs := segs_mem hz
    have m := cons_mem cs
    obtain ⟨c1, c2, c3⟩ := knotsR_sz hr _ m.1
    obtain ⟨d1, d2, d3⟩ := knotsR_sz hr _ m.2
    have nb := nb_of hr.all cs
    have hlt := nb.2.2.2
    refine ⟨fun q hq => ?_, ?_, slope_one hr.all nb⟩
    · unfold slopeR at hq
      obtain ⟨y, hy, rfl⟩ := List.mem_map.mp hq
      have hm := List.of_mem_zip (a := y.1) (b := y.2) hy
      exact sz_div (sz_sub (d3 _ hm.2) (c3 _ hm.1)) (sz_sub d1 c1) (by grind)
    · unfold slopeR
      rw [List.length_map, List.length_zip]
      have := hr.n8
      omega
  · cases hw
theorem width_core {r : List Pan} (hr : RowOk r) {W : List Int} (hW : ∀ w ∈ W, wOk w) {a0 a1 a2 a3 a6 a7 a8 a9 a10 a12 a13 a14 a15 a16 : Sl} {E : De}
    (hnx : ∀ b13 b14 b15 b16, E.nx [a0, a1, a2, a3, .val (rowD r), .val (.list ((knotsR r).map knotD)), a6, a7, a8, a9, a10, .val (.list (W.map PyData.int)), a12, b13, b14, b15, b16]) :
    wl_width E [a0, a1, a2, a3, .val (rowD r), .val (.list ((knotsR r).map knotD)), a6, a7, a8, a9, a10, .val (.list (W.map PyData.int)), a12, a13, a14, a15, a16] := by
  unfold wl_width
  generalize hKN : PyData.list ((knotsR r).map knotD) = KN at *
  generalize hF : wl_find = WF at *
  simp only [dFor, diSeq]
  walk_at "dl"
  refine ⟨fun i ρ => ∃ b13 b14 b15 b16, ρ = [a0, a1, a2, a3, .val (rowD r), .val KN, a6, a7, a8, a9, a10, .val (.list (W.map PyData.int)), a12, b13, b14, b15, b16], ⟨_, _, _, _, rfl⟩, ?_, ?_⟩
  · rintro i d ρ hi ⟨b13, b14, b15, b16, rfl⟩
    obtain ⟨w, hw, rfl⟩ := map_at hi
    have hwo := hW w (List.mem_of_getElem? hw)
    generalize PyData.list (W.map PyData.int) = WD at *
    walk_at "dl"
    rw [← hF, ← hKN] at *
    refine find_core hr hwo fun b15 b16 => ?_
    have hss := fun xs => shares_sz hr (w := (w : Rat)) (xs := xs)
    have hsp : ∀ {K : Sl → Option Ct → Prop}, (∀ z, IsOpt (sharesR r (w : Rat)) z → K z none) → sp_shares [.val (rowD r), .val (.int w)] K := fun k => ⟨(r, w), rfl, ⟨hr, hwo⟩, k⟩
    generalize sharesR r (w : Rat) = SO at *
    generalize PyData.list ((knotsR r).map knotD) = KN2 at *
    dsimp only
    refine seq_go ?_
    unfold wl_cmp
    refine dIf_F (fun Z hZ => ?_) (next_go ?_)
    · walk_at "dl"
      refine hsp fun z hz => isOpt_dF hz ?_
      walk_at "dl"
      refine go_equal ((enc_optR.lay _).mono (by decide)) ?_
      exact hZ
    dsimp only
    unfold wl_sum
    refine dIf_F (fun Z hZ => ?_) (next_go ?_)
    · walk_at "dt"
      refine notN_optD2 ?_
      cases SO with
      | none => exact hZ
      | some xs =>
        obtain ⟨h1, h2, h3⟩ := hss xs rfl
        walk_at "dt"
        refine go_ltotal h1 (by omega) ?_
        rw [h3]
        walk_at "dt"
        refine ⟨by decide, ?_⟩
        rw [← fr_int]
        exact fNe_same ((lay_fr _).shaped (by decide)) hZ
    · exact ⟨_, _, _, _, rfl⟩
  · rintro ρ ⟨b13, b14, b15, b16, rfl⟩
    exact hnx _ _ _ _
def oneK (b : Rat) : Option D := if b.den = 1 then some (.int b.num) else none
theorem oneK_all : ∀ l : List Rat, l.filterMap oneK = ((l.filter fun b => decide (b.den = 1)).map (·.num)).map PyData.int
  | [] => rfl
  | b :: l => by
    rw [List.filterMap_cons, List.filter_cons]
    unfold oneK
    by_cases h : b.den = 1
    · rw [if_pos h, if_pos (decide_eq_true h)]
      simp only [List.map_cons]
      exact congrArg _ (oneK_all l)
    · rw [if_neg h, if_neg (by simpa using h)]
      exact oneK_all l
theorem bend_wok {r : List Pan} (hr : RowOk r) {b : Rat} (hb : b ∈ bendsR r) (h1 : b.den = 1) : wOk b.num := by
  obtain ⟨c, hc, e⟩ := bends_mem hb
  have hr2 := (knots_dv hr.all hc).range hr.all
  rw [e] at hr2
  have eb : ((b.num : Int) : Rat) = b := by
    have := fr_self b
    rw [h1] at this
    have e1 : (((1 : Nat) : Int) : Rat) = 1 := rfl
    rw [e1] at this
    grind
  rw [← eb] at hr2
  exact end_wok hr (rat_int_le.mp hr2.1) (rat_int_le.mp hr2.2)
theorem some_core {r : List Pan} (hr : RowOk r) {t : Ct} {n : Nat} (hs : Src n t) (hn : n + 100 < drawMax) {a0 a1 a3 a5 a6 a7 a8 a9 a11 a13 a14 a15 a16 : Sl} {E : De}
    (hnx : ∀ (W : List Int) t, (∀ w ∈ W, wOk w) → Src (n + 100) t → E.nx [a0, a1, .mu true t, a3, .val (rowD r), a5, a6, a7, a8, a9, .mu true (.lst ((bendsR r).map fr)), .val (.list (W.map PyData.int)), .no, a13, a14, a15, a16]) :
    wl_some E [a0, a1, .mu true t, a3, .val (rowD r), a5, a6, a7, a8, a9, .mu true (.lst ((bendsR r).map fr)), a11, .no, a13, a14, a15, a16] := by
  have hbl := bends_len hr.all
  have h8 := hr.n8
  have hbw := fun b hb h1 => bend_wok hr (b := b) hb h1
  unfold wl_some
  generalize bendsR r = B at *
  walk_at "dl"
  refine go_widths hr (by decide) hs hn fun ws t1 hws hwl hs1 => ?_
  walk_at "dl"
  simp only [dBorL, dLc, diSeq]
  walk_at "dl"
  refine ⟨filP B oneK [a0, a1, .mu true t1, a3, .val (rowD r), a5, a6, a7, a8, a9, .val (.list (B.map fr)), a11, .no, a13, a14, a15, a16], filP_0, ?_, ?_⟩
  · rintro j acc d ρ hj q
    obtain ⟨b, hb, rfl⟩ := map_at hj
    have q2 := q.2
    subst q2
    walk_at "dl"
    simp only [fIx_fr0, fIx_fr1]
    walk_at "dl"
    by_cases k : b.den = 1
    · rw [decide_eq_true (by omega : ((b.den : Nat) : Int) = 1)]
      walk_at "dl"
      exact filP_yes (by unfold lim; omega) hb q (if_pos k) rfl
    · rw [decide_eq_false (by omega : ¬ ((b.den : Nat) : Int) = 1)]
      exact filP_no hb q (if_neg k) rfl
  · rintro acc ρ q
    obtain ⟨rfl, rfl⟩ := filP_end q (List.length_map _)
    rw [oneK_all]
    have hV : ∀ w ∈ (B.filter fun b => decide (b.den = 1)).map (·.num), wOk w := fun w hw => by
      obtain ⟨b, hb, rfl⟩ := List.mem_map.mp hw
      obtain ⟨h1, h2⟩ := List.mem_filter.mp hb
      exact hbw b h1 (of_decide_eq_true h2)
    have hVl : ((B.filter fun b => decide (b.den = 1)).map (·.num)).length ≤ 17 := by
      rw [List.length_map]
      have := List.length_filter_le (fun b : Rat => decide (b.den = 1)) B
      omega
    generalize (B.filter fun b => decide (b.den = 1)).map (·.num) = V at *
    refine ⟨?_, by simp [muKeep], by rw [List.length_map, List.length_map]; unfold lim; omega, ?_⟩
    · show (V.map PyData.int).all flatD = true
      rw [List.all_map]
      exact List.all_eq_true.mpr fun _ _ => rfl
    · rw [← List.map_append]
      exact hnx (ws ++ V) t1 (fun w hw => (List.mem_append.mp hw).elim (hws w) (hV w)) hs1
theorem fLen_row5 {r : List Pan} {Q : Sl → Prop} (k : Q (.val (.int (r.length : Nat)))) : fLen [rowD r] Q := by
  show Q (.val (.int ((r.map pan).length : Nat)))
  rw [List.length_map]
  exact k
theorem chk_core {r : List Pan} (hr : RowOk r) {a0 a1 a2 a3 a5 a7 a8 a9 a11 a12 a13 a14 a15 a16 : Sl} {E : De}
    (hnx : E.nx [a0, a1, a2, a3, .val (rowD r), a5, .mu true (.lst ((bendsR r).map fr)), a7, a8, a9, .mu true (.lst ((bendsR r).map fr)), a11, a12, a13, a14, a15, a16]) :
    wl_chk E [a0, a1, a2, a3, .val (rowD r), a5, .mu true (.lst ((bendsR r).map fr)), a7, a8, a9, .mu true (.lst ((bendsR r).map fr)), a11, a12, a13, a14, a15, a16] := by
  have hbl := bends_len hr.all
  unfold wl_chk
  have lB := lay_rats (bendsR r)
  unfold ratsD at lB
  have lBl : ((bendsR r).map fr).length = (bendsR r).length := List.length_map _
  generalize (bendsR r).map fr = BD at *
  refine dIf_F (fun Z hZ => ?_) (next_go hnx)
  simp only [dBorB, dBor, dBorL]
  walk_at "dt"
  refine go_equal (lB.mono (by decide)) ?_
  walk_at "dt"
  refine fLen_row5 ?_
  walk_at "dt"
  refine ⟨mulL (by decide), ?_⟩
  rw [decide_eq_false (by omega)]
  exact hZ
theorem again_core {r : List Pan} (hr : RowOk r) {a0 a1 a2 a3 a5 a7 a8 a9 a10 a11 a12 a13 a14 a15 a16 : Sl} {E : De}
    (hnx : E.nx [a0, a1, a2, a3, .val (rowD r), a5, .mu true (.lst ((bendsR r).map fr)), a7, a8, a9, a10, a11, a12, a13, a14, a15, a16]) :
    wl_again E [a0, a1, a2, a3, .val (rowD r), a5, .mu true (.lst ((bendsR r).map fr)), a7, a8, a9, a10, a11, a12, a13, a14, a15, a16] := by
  unfold wl_again
  have lB := lay_rats (bendsR r)
  unfold ratsD at lB
  have hsp : ∀ {K : Sl → Option Ct → Prop}, K (.mu true (.lst ((bendsR r).map fr))) none → sp_bends [.val (rowD r)] K := fun k => ⟨r, rfl, hr, k⟩
  generalize (bendsR r).map fr = BD at *
  refine dIf_F (fun Z hZ => ?_) (next_go hnx)
  walk_at "db"
  refine hsp ?_
  walk_at "dl"
  exact fNe_same (lB.shaped (by decide)) hZ
theorem turn_core {t : Ct} (hs : Src 1000 t) {a0 a1 a3 a4 a5 a6 a7 a8 a9 a10 a11 a13 a14 a15 a16 : Sl} {E : De}
    (hnx : ∀ t b3 b4 b5 b6 b7 b8 b9 b10 b11 b13 b14 b15 b16, E.nx [a0, a1, .mu true t, b3, b4, b5, b6, b7, b8, b9, b10, b11, .no, b13, b14, b15, b16]) :
    wl_turn E [a0, a1, .mu true t, a3, a4, a5, a6, a7, a8, a9, a10, a11, .no, a13, a14, a15, a16] := by
  have hmax : drawMax = 2 ^ 38 := rfl
  unfold wl_turn
  generalize hWe : wl_exp = We
  generalize hWc : wl_chk = Wc
  generalize hWs : wl_some = Ws
  generalize hWa : wl_again = Wa
  generalize hWw : wl_width = Ww
  simp only [dFor, diR1]
  walk_at "dl"
  refine ⟨by constructor <;> decide, fun i ρ => ∃ t b3 b4 b5 b6 b7 b8 b9 b10 b11 b13 b14 b15 b16, Src (1000 + 1000 * i) t ∧ ρ = [a0, a1, .mu true t, b3, b4, b5, b6, b7, b8, b9, b10, b11, .no, b13, b14, b15, b16], ⟨t, _, _, _, _, _, _, _, _, _, _, _, _, _, hs, rfl⟩, ?_, ?_⟩
  · rintro i d ρ hd ⟨t, b3, b4, b5, b6, b7, b8, b9, b10, b11, b13, b14, b15, b16, hs, rfl⟩
    obtain ⟨hi, rfl⟩ := rng_get hd
    have hi3 : i < 3 := hi
    walk_at "dl"
    refine ⟨by decide, go_choiceI [20, 400] (fun i => 0 ≤ i ∧ i ≤ 400) (List.cons_ne_nil _ _) (by simp) (by simp only [List.mem_cons, List.mem_nil_iff, or_false]; rintro i (rfl | rfl) <;> omega) hs (by omega) fun most t1 hm hs1 => ?_⟩
    walk_at "dl"
    refine go_row (by decide) hm hs1 (by omega) fun r t2 hr hrl hrm hs2 => ?_
    refine back_two (t0 := t1) (b := true) rfl (dF_val ?_)
    walk_at "dl"
    refine go_corners hr ?_
    walk_at "dl"
    rw [← hWe]
    refine ⟨Nat.zero_le _, exp_core hr fun c7 c8 c9 => ?_⟩
    walk_at "dl"
    refine ⟨r, rfl, hr, ?_⟩
    walk_at "dl"
    rw [← hWc]
    refine chk_core hr ?_
    dsimp only
    refine seq_go ?_
    rw [← hWs]
    refine some_core hr hs2 (by omega) fun W t3 hW hs3 => ?_
    have hbl := bends_len hr.all
    have h8 := hr.n8
    walk_at "dl"
    refine ⟨by rw [List.length_map]; unfold lim; omega, ?_⟩
    rw [← hWa]
    refine again_core hr ?_
    dsimp only
    rw [← hWw]
    refine width_core hr hW fun b13 b14 b15 b16 => ?_
    exact ⟨t3, _, _, _, _, _, _, _, _, _, _, _, _, _, hs3.mono (by omega), rfl⟩
  · rintro ρ ⟨t, b3, b4, b5, b6, b7, b8, b9, b10, b11, b13, b14, b15, b16, hs, rfl⟩
    exact hnx _ _ _ _ _ _ _ _ _ _ _ _ _ _
theorem shares_doc : sharesR [⟨1, 1, 1, 0, 5⟩, ⟨1, 3, 1, 0, 5⟩] ((2 : Int) : Rat) = some [1 / 4, 3 / 4] := by decide +kernel
theorem fr_q1 : fr (1 / 4) = .tuple [.int 1, .int 4] := by
  have e1 : ((1 : Rat) / 4).num = 1 := by decide +kernel
  have e2 : ((1 : Rat) / 4).den = 4 := by decide +kernel
  simp only [fr, e1, e2]
  rfl
theorem fr_q3 : fr (3 / 4) = .tuple [.int 3, .int 4] := by
  have e1 : ((3 : Rat) / 4).num = 3 := by decide +kernel
  have e2 : ((3 : Rat) / 4).den = 4 := by decide +kernel
  simp only [fr, e1, e2]
  rfl
theorem end_core {E : De} {a0 a1 a2 a3 a4 a5 a6 a7 a8 a9 a10 a11 a12 a13 a14 a15 a16 : Sl} (hrt : ∀ ρ', E.rt (.val (.bool true)) ρ') : wl_end E [a0, a1, a2, a3, a4, a5, a6, a7, a8, a9, a10, a11, a12, a13, a14, a15, a16] := by
  unfold wl_end
  have r1 : RowOk [⟨1, 1, 1, 0, 5⟩, ⟨1, 3, 1, 0, 5⟩] := ⟨by decide, by decide, fun p hp => by
    simp only [List.mem_cons, List.mem_nil_iff, or_false] at hp
    rcases hp with rfl | rfl <;> constructor <;> decide⟩
  walk_at "dl"
  refine ⟨by decide, by decide, by decide, ([⟨1, 1, 1, 0, 5⟩, ⟨1, 3, 1, 0, 5⟩], 2), rfl, ⟨r1, by decide, by decide⟩, fun z hz => isOpt_dF hz ?_⟩
  rw [shares_doc]
  walk_at "dl"
  refine ⟨by decide, by decide, by decide, ?_⟩
  rw [← fr_q1, ← fr_q3]
  exact fEq_same ((lay_rats [1 / 4, 3 / 4]).shaped (by decide)) (hrt _)
theorem vc_law : VC sp_law w_law 16 := by
  rintro ρ Qd ⟨⟨ns, hns⟩, rfl, h⟩
  unfold w_law
  generalize hWt : wl_turn = Wt
  generalize hWe : wl_end = We
  walk_at "dl"
  generalize hS : PyData.list (ns.map PyData.int) = S
  simp only [dFor, diSeq]
  rw [← hS]
  walk_at "dl"
  rw [hS]
  refine ⟨by decide, ?_⟩
  walk_at "dl"
  refine ⟨by rw [List.length_map]; unfold lim; omega, fun i ρ => ∃ a b c d e f g k l m n p q u v, ρ = [.val S, a, b, c, d, e, f, g, k, l, m, n, .no, p, q, u, v], ⟨_, _, _, _, _, _, _, _, _, _, _, _, _, _, _, rfl⟩, ?_, ?_⟩
  · rintro i d ρ hi ⟨a, b, c, d', e, f, g, k, l, m, n, p, q, u, v, rfl⟩
    obtain ⟨cell, rfl⟩ := script_int hi
    walk_at "dl"
    refine go_source (by decide) (by decide) fun t0 hs0 => ?_
    walk_at "dl"
    rw [← hWt]
    refine turn_core hs0 fun t b3 b4 b5 b6 b7 b8 b9 b10 b11 b13 b14 b15 b16 => ?_
    exact ⟨_, _, _, _, _, _, _, _, _, _, _, _, _, _, _, rfl⟩
  · rintro ρ ⟨a, b, c, d, e, f, g, k, l, m, n, p, q, u, v, rfl⟩
    rw [← hWe]
    exact end_core fun _ => h
end DL

/-! ### the text of flexrow_k05_whole_shares_and_bends -/
namespace DL
open PySem PySem.Spec PyProof.Rows L2
def topS (i : Nat) : Stmt := PySem.Challenge.pw_flexrow_k05_whole_shares_and_bends.main.body.getD i (.Pass ⟨0, 0, 0, 0⟩)
abbrev s_make : Stmt := topS 1
abbrev N_make : List Str := ["top", "bottom", "one", "other", "sign"]
theorem sc_make : FnScope N_make ["top", "bottom"] (defScope s_make) := ⟨rfl, rfl, rfl, by decide +kernel, rfl, by decide +kernel, by decide +kernel⟩
abbrev s_whole : Stmt := topS 2
abbrev N_whole : List Str := ["value"]
theorem sc_whole : FnScope N_whole ["value"] (defScope s_whole) := ⟨rfl, rfl, rfl, by decide +kernel, rfl, by decide +kernel, by decide +kernel⟩
abbrev s_plus : Stmt := topS 3
abbrev N_plus : List Str := ["one", "other"]
theorem sc_plus : FnScope N_plus ["one", "other"] (defScope s_plus) := ⟨rfl, rfl, rfl, by decide +kernel, rfl, by decide +kernel, by decide +kernel⟩
abbrev s_minus : Stmt := topS 4
abbrev N_minus : List Str := ["one", "other"]
theorem sc_minus : FnScope N_minus ["one", "other"] (defScope s_minus) := ⟨rfl, rfl, rfl, by decide +kernel, rfl, by decide +kernel, by decide +kernel⟩
abbrev s_over : Stmt := topS 5
abbrev N_over : List Str := ["one", "other"]
theorem sc_over : FnScope N_over ["one", "other"] (defScope s_over) := ⟨rfl, rfl, rfl, by decide +kernel, rfl, by decide +kernel, by decide +kernel⟩
abbrev s_less : Stmt := topS 6
abbrev N_less : List Str := ["one", "other"]
theorem sc_less : FnScope N_less ["one", "other"] (defScope s_less) := ⟨rfl, rfl, rfl, by decide +kernel, rfl, by decide +kernel, by decide +kernel⟩
abbrev s_clamp : Stmt := topS 7
abbrev N_clamp : List Str := ["low", "value", "high"]
theorem sc_clamp : FnScope N_clamp ["low", "value", "high"] (defScope s_clamp) := ⟨rfl, rfl, rfl, by decide +kernel, rfl, by decide +kernel, by decide +kernel⟩
abbrev s_total : Stmt := topS 8
abbrev N_total : List Str := ["values", "found", "value"]
theorem sc_total : FnScope N_total ["values"] (defScope s_total) := ⟨rfl, rfl, rfl, by decide +kernel, rfl, by decide +kernel, by decide +kernel⟩
abbrev s_ordered : Stmt := topS 9
abbrev N_ordered : List Str := ["values", "found", "value", "at"]
theorem sc_ordered : FnScope N_ordered ["values"] (defScope s_ordered) := ⟨rfl, rfl, rfl, by decide +kernel, rfl, by decide +kernel, by decide +kernel⟩
abbrev s_is_between : Stmt := topS 19
abbrev N_is_between : List Str := ["value", "low", "high"]
theorem sc_is_between : FnScope N_is_between ["value", "low", "high"] (defScope s_is_between) := ⟨rfl, rfl, rfl, by decide +kernel, rfl, by decide +kernel, by decide +kernel⟩
abbrev s_is_panel : Stmt := topS 20
abbrev N_is_panel : List Str := ["value"]
theorem sc_is_panel : FnScope N_is_panel ["value"] (defScope s_is_panel) := ⟨rfl, rfl, rfl, by decide +kernel, rfl, by decide +kernel, by decide +kernel⟩
abbrev s_is_row : Stmt := topS 21
abbrev N_is_row : List Str := ["value", "panel"]
theorem sc_is_row : FnScope N_is_row ["value"] (defScope s_is_row) := ⟨rfl, rfl, rfl, by decide +kernel, rfl, by decide +kernel, by decide +kernel⟩
abbrev s_check_row : Stmt := topS 22
abbrev N_check_row : List Str := ["row"]
theorem sc_check_row : FnScope N_check_row ["row"] (defScope s_check_row) := ⟨rfl, rfl, rfl, by decide +kernel, rfl, by decide +kernel, by decide +kernel⟩
abbrev s_check_width : Stmt := topS 23
abbrev N_check_width : List Str := ["width"]
theorem sc_check_width : FnScope N_check_width ["width"] (defScope s_check_width) := ⟨rfl, rfl, rfl, by decide +kernel, rfl, by decide +kernel, by decide +kernel⟩
abbrev s_size_at : Stmt := topS 24
abbrev N_size_at : List Str := ["panel", "time", "growing", "basis", "grow", "shrink", "low", "high", "top", "bottom", "factor"]
theorem sc_size_at : FnScope N_size_at ["panel", "time", "growing"] (defScope s_size_at) := ⟨rfl, rfl, rfl, by decide +kernel, rfl, by decide +kernel, by decide +kernel⟩
abbrev s_times_of : Stmt := topS 25
abbrev N_times_of : List Str := ["row", "growing", "found", "basis", "grow", "shrink", "low", "high", "factor", "ends", "end"]
theorem sc_times_of : FnScope N_times_of ["row", "growing"] (defScope s_times_of) := ⟨rfl, rfl, rfl, by decide +kernel, rfl, by decide +kernel, by decide +kernel⟩
abbrev s_knots : Stmt := topS 26
abbrev N_knots : List Str := ["row", "rows", "time", "panel", "found", "sizes", "width"]
theorem sc_knots : FnScope N_knots ["row"] (defScope s_knots) := ⟨rfl, rfl, rfl, by decide +kernel, rfl, by decide +kernel, by decide +kernel⟩
abbrev s_slopes : Stmt := topS 28
abbrev N_slopes : List Str := ["first", "second", "width", "before", "after"]
theorem sc_slopes : FnScope N_slopes ["first", "second"] (defScope s_slopes) := ⟨rfl, rfl, rfl, by decide +kernel, rfl, by decide +kernel, by decide +kernel⟩
abbrev s_shares : Stmt := topS 29
abbrev N_shares : List Str := ["row", "width", "rows", "first", "second"]
theorem sc_shares : FnScope N_shares ["row", "width"] (defScope s_shares) := ⟨rfl, rfl, rfl, by decide +kernel, rfl, by decide +kernel, by decide +kernel⟩
abbrev s_bends : Stmt := topS 30
abbrev N_bends : List Str := ["row", "rows", "found", "before", "knot", "after"]
theorem sc_bends : FnScope N_bends ["row"] (defScope s_bends) := ⟨rfl, rfl, rfl, by decide +kernel, rfl, by decide +kernel, by decide +kernel⟩
abbrev s__law_source : Stmt := topS 32
abbrev N__law_source : List Str := ["cell", "turn"]
theorem sc__law_source : FnScope N__law_source ["cell", "turn"] (defScope s__law_source) := ⟨rfl, rfl, rfl, by decide +kernel, rfl, by decide +kernel, by decide +kernel⟩
abbrev s__law_draw : Stmt := topS 33
abbrev N__law_draw : List Str := ["source", "size", "drawn", "number"]
theorem sc__law_draw : FnScope N__law_draw ["source", "size"] (defScope s__law_draw) := ⟨rfl, rfl, rfl, by decide +kernel, rfl, by decide +kernel, by decide +kernel⟩
abbrev s__law_choice : Stmt := topS 34
abbrev N__law_choice : List Str := ["source", "items"]
theorem sc__law_choice : FnScope N__law_choice ["source", "items"] (defScope s__law_choice) := ⟨rfl, rfl, rfl, by decide +kernel, rfl, by decide +kernel, by decide +kernel⟩
abbrev s__law_kind : Stmt := topS 35
abbrev N__law_kind : List Str := ["value"]
theorem sc__law_kind : FnScope N__law_kind ["value"] (defScope s__law_kind) := ⟨rfl, rfl, rfl, by decide +kernel, rfl, by decide +kernel, by decide +kernel⟩
abbrev s__law_equal : Stmt := topS 36
abbrev N__law_equal : List Str := ["value", "expected", "k", "part"]
theorem sc__law_equal : FnScope N__law_equal ["value", "expected"] (defScope s__law_equal) := ⟨rfl, rfl, rfl, by decide +kernel, rfl, by decide +kernel, by decide +kernel⟩
abbrev s__law_panel : Stmt := topS 37
abbrev N__law_panel : List Str := ["source", "most", "high", "low", "inside", "basis", "wide", "factors", "k"]
theorem sc__law_panel : FnScope N__law_panel ["source", "most"] (defScope s__law_panel) := ⟨rfl, rfl, rfl, by decide +kernel, rfl, by decide +kernel, by decide +kernel⟩
abbrev s__law_row : Stmt := topS 38
abbrev N__law_row : List Str := ["source", "many", "most", "turn"]
theorem sc__law_row : FnScope N__law_row ["source", "many", "most"] (defScope s__law_row) := ⟨rfl, rfl, rfl, by decide +kernel, rfl, by decide +kernel, by decide +kernel⟩
abbrev s__law_natural : Stmt := topS 39
abbrev N__law_natural : List Str := ["panel"]
theorem sc__law_natural : FnScope N__law_natural ["panel"] (defScope s__law_natural) := ⟨rfl, rfl, rfl, by decide +kernel, rfl, by decide +kernel, by decide +kernel⟩
abbrev s__law_limits : Stmt := topS 40
abbrev N__law_limits : List Str := ["row", "least", "panel"]
theorem sc__law_limits : FnScope N__law_limits ["row"] (defScope s__law_limits) := ⟨rfl, rfl, rfl, by decide +kernel, rfl, by decide +kernel, by decide +kernel⟩
abbrev s__law_some_widths : Stmt := topS 41
abbrev N__law_some_widths : List Str := ["source", "row", "many", "least", "greatest", "natural_width", "panel", "found", "turn", "width"]
theorem sc__law_some_widths : FnScope N__law_some_widths ["source", "row", "many"] (defScope s__law_some_widths) := ⟨rfl, rfl, rfl, by decide +kernel, rfl, by decide +kernel, by decide +kernel⟩
abbrev s__law_fraction : Stmt := topS 42
abbrev N__law_fraction : List Str := ["top", "bottom", "one", "other"]
theorem sc__law_fraction : FnScope N__law_fraction ["top", "bottom"] (defScope s__law_fraction) := ⟨rfl, rfl, rfl, by decide +kernel, rfl, by decide +kernel, by decide +kernel⟩
abbrev s__law_plus : Stmt := topS 43
abbrev N__law_plus : List Str := ["one", "other"]
theorem sc__law_plus : FnScope N__law_plus ["one", "other"] (defScope s__law_plus) := ⟨rfl, rfl, rfl, by decide +kernel, rfl, by decide +kernel, by decide +kernel⟩
abbrev s__law_minus : Stmt := topS 44
abbrev N__law_minus : List Str := ["one", "other"]
theorem sc__law_minus : FnScope N__law_minus ["one", "other"] (defScope s__law_minus) := ⟨rfl, rfl, rfl, by decide +kernel, rfl, by decide +kernel, by decide +kernel⟩
abbrev s__law_less : Stmt := topS 45
abbrev N__law_less : List Str := ["one", "other"]
theorem sc__law_less : FnScope N__law_less ["one", "other"] (defScope s__law_less) := ⟨rfl, rfl, rfl, by decide +kernel, rfl, by decide +kernel, by decide +kernel⟩
abbrev s__law_total : Stmt := topS 46
abbrev N__law_total : List Str := ["values", "found", "value"]
theorem sc__law_total : FnScope N__law_total ["values"] (defScope s__law_total) := ⟨rfl, rfl, rfl, by decide +kernel, rfl, by decide +kernel, by decide +kernel⟩
abbrev s__law_size : Stmt := topS 47
abbrev N__law_size : List Str := ["panel", "time", "basis", "grow", "shrink", "low", "high", "value"]
theorem sc__law_size : FnScope N__law_size ["panel", "time"] (defScope s__law_size) := ⟨rfl, rfl, rfl, by decide +kernel, rfl, by decide +kernel, by decide +kernel⟩
abbrev s__law_moments : Stmt := topS 48
abbrev N__law_moments : List Str := ["row", "found", "basis", "grow", "shrink", "low", "high", "bound", "factor", "ordered_", "time", "after", "one"]
theorem sc__law_moments : FnScope N__law_moments ["row"] (defScope s__law_moments) := ⟨rfl, rfl, rfl, by decide +kernel, rfl, by decide +kernel, by decide +kernel⟩
abbrev s__law_corners : Stmt := topS 49
abbrev N__law_corners : List Str := ["row", "found", "time", "some", "panel", "width"]
theorem sc__law_corners : FnScope N__law_corners ["row"] (defScope s__law_corners) := ⟨rfl, rfl, rfl, by decide +kernel, rfl, by decide +kernel, by decide +kernel⟩
abbrev s__law_slopes : Stmt := topS 50
abbrev N__law_slopes : List Str := ["one", "other", "whole_", "found", "before", "after", "more"]
theorem sc__law_slopes : FnScope N__law_slopes ["one", "other"] (defScope s__law_slopes) := ⟨rfl, rfl, rfl, by decide +kernel, rfl, by decide +kernel, by decide +kernel⟩
abbrev s_law : Stmt := topS 51
abbrev N_law : List Str := ["script", "cell", "source", "turn", "row", "corners", "expected", "before", "corner", "after", "result", "some", "bend", "width", "slopes_", "one", "other"]
theorem sc_law : FnScope N_law ["script"] (defScope s_law) := ⟨rfl, rfl, rfl, by decide +kernel, rfl, by decide +kernel, by decide +kernel⟩
structure Txt (K : PySem.W.Frag) (mg : Str → Option Value) where
  make : Df K mg "make" s_make ["top", "bottom"]
  whole : Df K mg "whole" s_whole ["value"]
  plus : Df K mg "plus" s_plus ["one", "other"]
  minus : Df K mg "minus" s_minus ["one", "other"]
  over : Df K mg "over" s_over ["one", "other"]
  less : Df K mg "less" s_less ["one", "other"]
  clamp : Df K mg "clamp" s_clamp ["low", "value", "high"]
  total : Df K mg "total" s_total ["values"]
  ordered : Df K mg "ordered" s_ordered ["values"]
  is_between : Df K mg "is_between" s_is_between ["value", "low", "high"]
  is_panel : Df K mg "is_panel" s_is_panel ["value"]
  is_row : Df K mg "is_row" s_is_row ["value"]
  check_row : Df K mg "check_row" s_check_row ["row"]
  check_width : Df K mg "check_width" s_check_width ["width"]
  size_at : Df K mg "size_at" s_size_at ["panel", "time", "growing"]
  times_of : Df K mg "times_of" s_times_of ["row", "growing"]
  knots : Df K mg "knots" s_knots ["row"]
  slopes : Df K mg "slopes" s_slopes ["first", "second"]
  shares : Df K mg "shares" s_shares ["row", "width"]
  bends : Df K mg "bends" s_bends ["row"]
  _law_source : Df K mg "_law_source" s__law_source ["cell", "turn"]
  _law_draw : Df K mg "_law_draw" s__law_draw ["source", "size"]
  _law_choice : Df K mg "_law_choice" s__law_choice ["source", "items"]
  _law_kind : Df K mg "_law_kind" s__law_kind ["value"]
  _law_equal : Df K mg "_law_equal" s__law_equal ["value", "expected"]
  _law_panel : Df K mg "_law_panel" s__law_panel ["source", "most"]
  _law_row : Df K mg "_law_row" s__law_row ["source", "many", "most"]
  _law_natural : Df K mg "_law_natural" s__law_natural ["panel"]
  _law_limits : Df K mg "_law_limits" s__law_limits ["row"]
  _law_some_widths : Df K mg "_law_some_widths" s__law_some_widths ["source", "row", "many"]
  _law_fraction : Df K mg "_law_fraction" s__law_fraction ["top", "bottom"]
  _law_plus : Df K mg "_law_plus" s__law_plus ["one", "other"]
  _law_minus : Df K mg "_law_minus" s__law_minus ["one", "other"]
  _law_less : Df K mg "_law_less" s__law_less ["one", "other"]
  _law_total : Df K mg "_law_total" s__law_total ["values"]
  _law_size : Df K mg "_law_size" s__law_size ["panel", "time"]
  _law_moments : Df K mg "_law_moments" s__law_moments ["row"]
  _law_corners : Df K mg "_law_corners" s__law_corners ["row"]
  _law_slopes : Df K mg "_law_slopes" s__law_slopes ["one", "other"]
  law : Df K mg "law" s_law ["script"]
  z_abs : mg "abs" = none
  z_all : mg "all" = none
  z_bool : mg "bool" = none
  z_enumerate : mg "enumerate" = none
  z_int : mg "int" = none
  z_isinstance : mg "isinstance" = none
  z_len : mg "len" = none
  z_list : mg "list" = none
  z_max : mg "max" = none
  z_min : mg "min" = none
  z_range : mg "range" = none
  z_str : mg "str" = none
  z_sum : mg "sum" = none
  z_tuple : mg "tuple" = none
  z_zip : mg "zip" = none
  c_MAX_FACTOR : ∃ t, mg "MAX_FACTOR" = some (.int 100 t)
  c_MAX_PANELS : ∃ t, mg "MAX_PANELS" = some (.int 8 t)
  c_MAX_SIZE : ∃ t, mg "MAX_SIZE" = some (.int 400 t)
  c_MAX_WIDTH : ∃ t, mg "MAX_WIDTH" = some (.int 3200 t)
section
variable {P : Program} {w : World} {K : PySem.W.Frag} {mg : Str → Option Value} {base : Heap}
section
variable (T : Txt K mg)
include T
theorem ok_make : FnOk P w K mg base CX0 1 T.make.f T.make.fd ["top", "bottom"] (spOf K 2 sp_make) :=
  okD0 T.make.F sc_make hn_make (fun cdv A outer s H E F0 M hr => ⟨w_make,
    (dss_cons (dst_par sc_make.nd (da_cons (de_cb cb_abs T.z_abs bt_abs (da_cons (de_var 0) da_nil)) (da_cons (de_cb cb_abs T.z_abs bt_abs (da_cons (de_var 1) da_nil)) da_nil)))
      (dss_cons (dst_while PassesOwn.never (dt_cmp1 cs_gt (de_var 3) de_int)
      (dss_one (dst_par sc_make.nd (da_cons (de_var 3) (da_cons (de_mod (de_var 2) (de_var 3)) da_nil)))))
      (dss_cons (dst_set sc_make.nd (de_ite (dt_cmp1 cs_gt (de_var 1) de_int) de_int (de_neg de_int)))
      (dss_one (dst_ret (de_tup (da_cons (de_div (de_mul (de_var 4) (de_var 0)) (de_var 2)) (da_cons (de_div (de_mul (de_var 4) (de_var 1)) (de_var 2)) da_nil)))))))),
    vc_make⟩)
theorem ok_whole : FnOk P w K mg base CX0 1 T.whole.f T.whole.fd ["value"] (spOf K 1 sp_whole) :=
  okD0 T.whole.F sc_whole hn_whole (fun cdv A outer s H E F0 M hr => ⟨w_whole,
    (dss_one (dst_ret (de_tup (da_cons (de_var 0) (da_cons de_int da_nil))))),
    vc_whole⟩)
theorem ok_plus : FnOk P w K mg base CX0 2 T.plus.f T.plus.fd ["one", "other"] (spOf K 2 sp_plus) :=
  okD0 T.plus.F sc_plus hn_plus (fun cdv A outer s H E F0 M hr => ⟨w_plus,
    (dss_one (dst_ret (de_call (ok_make T) (hr.mono (by decide)) hn_make T.make.m T.make.F.kp T.make.b (da_cons (de_add (de_mul (de_ix (de_var 0) de_int) (de_ix (de_var 1) de_int)) (de_mul (de_ix (de_var 1) de_int) (de_ix (de_var 0) de_int))) (da_cons (de_mul (de_ix (de_var 0) de_int) (de_ix (de_var 1) de_int)) da_nil))))),
    vc_plus⟩)
theorem ok_minus : FnOk P w K mg base CX0 2 T.minus.f T.minus.fd ["one", "other"] (spOf K 2 sp_minus) :=
  okD0 T.minus.F sc_minus hn_minus (fun cdv A outer s H E F0 M hr => ⟨w_minus,
    (dss_one (dst_ret (de_call (ok_make T) (hr.mono (by decide)) hn_make T.make.m T.make.F.kp T.make.b (da_cons (de_sub (de_mul (de_ix (de_var 0) de_int) (de_ix (de_var 1) de_int)) (de_mul (de_ix (de_var 1) de_int) (de_ix (de_var 0) de_int))) (da_cons (de_mul (de_ix (de_var 0) de_int) (de_ix (de_var 1) de_int)) da_nil))))),
    vc_minus⟩)
theorem ok_over : FnOk P w K mg base CX0 2 T.over.f T.over.fd ["one", "other"] (spOf K 2 sp_over) :=
  okD0 T.over.F sc_over hn_over (fun cdv A outer s H E F0 M hr => ⟨w_over,
    (dss_one (dst_ret (de_call (ok_make T) (hr.mono (by decide)) hn_make T.make.m T.make.F.kp T.make.b (da_cons (de_mul (de_ix (de_var 0) de_int) (de_ix (de_var 1) de_int)) (da_cons (de_mul (de_ix (de_var 0) de_int) (de_ix (de_var 1) de_int)) da_nil))))),
    vc_over⟩)
theorem ok_less : FnOk P w K mg base CX0 1 T.less.f T.less.fd ["one", "other"] (spOf K 2 sp_less) :=
  okD0 T.less.F sc_less hn_less (fun cdv A outer s H E F0 M hr => ⟨w_less,
    (dss_one (dst_ret (de_cmp1 cs_lt (de_mul (de_ix (de_var 0) de_int) (de_ix (de_var 1) de_int)) (de_mul (de_ix (de_var 1) de_int) (de_ix (de_var 0) de_int))))),
    vc_less⟩)
theorem ok_clamp : FnOk P w K mg base CX0 2 T.clamp.f T.clamp.fd ["low", "value", "high"] (spOf K 3 sp_clamp) :=
  okD0 T.clamp.F sc_clamp hn_clamp (fun cdv A outer s H E F0 M hr => ⟨w_clamp,
    (dss_cons (dst_if (dt_val (de_call (ok_less T) (hr.mono (by decide)) hn_less T.less.m T.less.F.kp T.less.b (da_cons (de_var 1) (da_cons (de_var 0) da_nil))))
      (dss_one (dst_ret (de_var 0)))
      dss_nil)
      (dss_one (dst_ret (de_ite (dt_val (de_call (ok_less T) (hr.mono (by decide)) hn_less T.less.m T.less.F.kp T.less.b (da_cons (de_var 2) (da_cons (de_var 1) da_nil)))) (de_var 2) (de_var 1))))),
    vc_clamp⟩)
theorem ok_total : FnOk P w K mg base CX0 3 T.total.f T.total.fd ["values"] (spOf K 1 sp_total) :=
  okD0 T.total.F sc_total hn_total (fun cdv A outer s H E F0 M hr => ⟨w_total,
    (dss_cons (dst_set sc_total.nd (de_tup (da_cons de_int (da_cons de_int da_nil))))
      (dss_cons (dst_for PassesOwn.never (di_seq (de_var 0)) (dg_name 2 sc_total.nd)
      (dss_one (dst_set sc_total.nd (de_call (ok_plus T) (hr.mono (by decide)) hn_plus T.plus.m T.plus.F.kp T.plus.b (da_cons (de_var 1) (da_cons (de_var 2) da_nil))))))
      (dss_one (dst_ret (de_var 1))))),
    vc_total⟩)
theorem ok_ordered : FnOk P w K mg base CX0 2 T.ordered.f T.ordered.fd ["values"] (spOf K 1 sp_ordered) :=
  okD0 T.ordered.F sc_ordered hn_ordered (fun cdv A outer s H E F0 M hr => ⟨w_ordered,
    (dss_cons (dst_set sc_ordered.nd (de_lst da_nil))
      (dss_cons (dst_for PassesOwn.never (di_seq (de_var 0)) (dg_name 2 sc_ordered.nd)
      (dss_cons (dst_set sc_ordered.nd de_int)
      (dss_cons (dst_while PassesOwn.never (dt_bor [1] (PW.pt (dw_and (dt_cmp1 cs_lt (de_var 3) (de_cb cb_len T.z_len bt_len (da_cons (de_var 1) da_nil))) (dw_and1 (dt_val (de_call (ok_less T) (hr.mono (by decide)) hn_less T.less.m T.less.F.kp T.less.b (da_cons (de_ix (de_var 1) (de_var 3)) (da_cons (de_var 2) da_nil))))))))
      (dss_one (dst_aug 3 sc_ordered.nd de_int ip_add)))
      (dss_one (dst_if (dt_bor [1] (PW.pt (dw_or (dt_cmp1 (cs_eq hr) (de_var 3) (de_cb cb_len T.z_len bt_len (da_cons (de_var 1) da_nil))) (dw_or1 (dt_cmp1 (cs_ne hr) (de_ix (de_var 1) (de_var 3)) (de_var 2))))))
      (dss_one (dst_ins 1 rfl (ps_expr (pe_bm PySem.F.plainAttrs_list PySem.F.slot_list_insert PySem.F.type_list_insert mt_insert (pv 1) (pa_cons (de_var 3) (pa_cons (de_var 2) pa_nil))))))
      dss_nil)))))
      (dss_one (dst_ret (de_mov 1))))),
    vc_ordered⟩)
theorem ok_is_between : FnOk P w K mg base CX0 1 T.is_between.f T.is_between.fd ["value", "low", "high"] (spOf K 3 sp_is_between) :=
  okD0 T.is_between.F sc_is_between hn_is_between (fun cdv A outer s H E F0 M hr => ⟨w_is_between,
    (dss_one (dst_ret (de_and (de_isi (de_var 0) T.z_isinstance T.z_int bt_int) (de_and (de_not (de_isi (de_var 0) T.z_isinstance T.z_bool bt_bool)) (de_and1 (de_chain cs_le cs_le (de_var 1) (de_var 0) (de_var 2))))))),
    vc_is_between⟩)
theorem ok_is_panel : FnOk P w K mg base CX0 2 T.is_panel.f T.is_panel.fd ["value"] (spOf K 1 sp_is_panel) :=
  okD0 T.is_panel.F sc_is_panel hn_is_panel (fun cdv A outer s H E F0 M hr => ⟨w_is_panel,
    (dss_cons (dst_if (PW.pt (dw_or (dt_not (dt_val (de_isi (de_var 0) T.z_isinstance T.z_tuple bt_tuple))) (dw_or1 (dt_cmp1 (cs_ne hr) (de_cb cb_len T.z_len bt_len (da_cons (de_var 0) da_nil)) de_int))))
      (dss_one (dst_ret de_bl))
      dss_nil)
      (dss_cons (dst_if (PW.pt (dw_or (dt_not (dt_val (de_call (ok_is_between T) (hr.mono (by decide)) hn_is_between T.is_between.m T.is_between.F.kp T.is_between.b (da_cons (de_ix (de_var 0) de_int) (da_cons de_int (da_cons (de_globI' T.c_MAX_FACTOR) da_nil)))))) (dw_or1 (dt_not (dt_val (de_call (ok_is_between T) (hr.mono (by decide)) hn_is_between T.is_between.m T.is_between.F.kp T.is_between.b (da_cons (de_ix (de_var 0) de_int) (da_cons de_int (da_cons (de_globI' T.c_MAX_FACTOR) da_nil)))))))))
      (dss_one (dst_ret de_bl))
      dss_nil)
      (dss_cons (dst_if (PW.pt (dw_or (dt_not (dt_val (de_call (ok_is_between T) (hr.mono (by decide)) hn_is_between T.is_between.m T.is_between.F.kp T.is_between.b (da_cons (de_ix (de_var 0) de_int) (da_cons de_int (da_cons (de_globI' T.c_MAX_SIZE) da_nil)))))) (dw_or1 (dt_not (dt_val (de_call (ok_is_between T) (hr.mono (by decide)) hn_is_between T.is_between.m T.is_between.F.kp T.is_between.b (da_cons (de_ix (de_var 0) de_int) (da_cons de_int (da_cons (de_globI' T.c_MAX_SIZE) da_nil)))))))))
      (dss_one (dst_ret de_bl))
      dss_nil)
      (dss_one (dst_ret (de_call (ok_is_between T) (hr.mono (by decide)) hn_is_between T.is_between.m T.is_between.F.kp T.is_between.b (da_cons (de_ix (de_var 0) de_int) (da_cons de_int (da_cons (de_ix (de_var 0) de_int) da_nil))))))))),
    vc_is_panel⟩)
theorem ok_is_row : FnOk P w K mg base CX0 3 T.is_row.f T.is_row.fd ["value"] (spOf K 1 sp_is_row) :=
  okD0 T.is_row.F sc_is_row hn_is_row (fun cdv A outer s H E F0 M hr => ⟨w_is_row,
    (dss_cons (dst_if (PW.pt (dw_or (dt_not (dt_val (de_isi (de_var 0) T.z_isinstance T.z_tuple bt_tuple))) (dw_or1 (dt_not (dt_chain cs_le cs_le de_int (de_cb cb_len T.z_len bt_len (da_cons (de_var 0) da_nil)) (de_globI' T.c_MAX_PANELS))))))
      (dss_one (dst_ret de_bl))
      dss_nil)
      (dss_one (dst_ret (de_cb cb_all T.z_all bt_all (da_cons (de_lc [("panel", 1)] sc_is_row.nd (blkOk_by (own := [("panel", 1)]) (N := N_is_row) (sc := defScope s_is_row) (by decide +kernel)) (di_seq (de_var 0)) (fun _ _ _ _ _ _ _ => (dg_name 1 sc_is_row.nd)) (fun _ _ _ _ _ _ _ => dts_nil) (fun _ _ _ _ _ _ _ => (de_call (ok_is_panel T) (hr.mono (by decide)) hn_is_panel T.is_panel.m T.is_panel.F.kp T.is_panel.b (da_cons (de_var 1) da_nil)))) da_nil))))),
    vc_is_row⟩)
theorem ok_check_row : FnOk P w K mg base CX0 4 T.check_row.f T.check_row.fd ["row"] (spOf K 1 sp_check_row) :=
  okD0 T.check_row.F sc_check_row hn_check_row (fun cdv A outer s H E F0 M hr => ⟨w_check_row,
    (dss_one (dst_if (dt_not (dt_val (de_call (ok_is_row T) (hr.mono (by decide)) hn_is_row T.is_row.m T.is_row.F.kp T.is_row.b (da_cons (de_var 0) da_nil))))
      (dss_one dst_never)
      dss_nil)),
    vc_check_row⟩)
theorem ok_check_width : FnOk P w K mg base CX0 2 T.check_width.f T.check_width.fd ["width"] (spOf K 1 sp_check_width) :=
  okD0 T.check_width.F sc_check_width hn_check_width (fun cdv A outer s H E F0 M hr => ⟨w_check_width,
    (dss_one (dst_if (dt_not (dt_val (de_call (ok_is_between T) (hr.mono (by decide)) hn_is_between T.is_between.m T.is_between.F.kp T.is_between.b (da_cons (de_var 0) (da_cons de_int (da_cons (de_globI' T.c_MAX_WIDTH) da_nil))))))
      (dss_one dst_never)
      dss_nil)),
    vc_check_width⟩)
theorem ok_size_at : FnOk P w K mg base CX0 3 T.size_at.f T.size_at.fd ["panel", "time", "growing"] (spOf K 3 sp_size_at) :=
  okD0 T.size_at.F sc_size_at hn_size_at (fun cdv A outer s H E F0 M hr => ⟨w_size_at,
    (dss_cons (dst_asg (de_var 0) (dg_tup (dgs_cons (dg_name 3 sc_size_at.nd) (dgs_cons (dg_name 4 sc_size_at.nd) (dgs_cons (dg_name 5 sc_size_at.nd) (dgs_cons (dg_name 6 sc_size_at.nd) (dgs_cons (dg_name 7 sc_size_at.nd) dgs_nil)))))))
      (dss_cons (dst_asg (de_var 1) (dg_tup (dgs_cons (dg_name 8 sc_size_at.nd) (dgs_cons (dg_name 9 sc_size_at.nd) dgs_nil))))
      (dss_cons (dst_set sc_size_at.nd (de_ite (dt_val (de_var 2)) (de_var 4) (de_neg (de_var 5))))
      (dss_one (dst_ret (de_call (ok_clamp T) (hr.mono (by decide)) hn_clamp T.clamp.m T.clamp.F.kp T.clamp.b (da_cons (de_call (ok_whole T) (hr.mono (by decide)) hn_whole T.whole.m T.whole.F.kp T.whole.b (da_cons (de_var 6) da_nil)) (da_cons (de_call (ok_make T) (hr.mono (by decide)) hn_make T.make.m T.make.F.kp T.make.b (da_cons (de_add (de_mul (de_var 3) (de_var 9)) (de_mul (de_var 10) (de_var 8))) (da_cons (de_var 9) da_nil))) (da_cons (de_call (ok_whole T) (hr.mono (by decide)) hn_whole T.whole.m T.whole.F.kp T.whole.b (da_cons (de_var 7) da_nil)) da_nil))))))))),
    vc_size_at⟩)
theorem ok_times_of : FnOk P w K mg base CX0 3 T.times_of.f T.times_of.fd ["row", "growing"] (spOf K 2 sp_times_of) :=
  okD0 T.times_of.F sc_times_of hn_times_of (fun cdv A outer s H E F0 M hr => ⟨w_times_of,
    (dss_cons (dst_set sc_times_of.nd (de_lst (da_cons (de_tup (da_cons de_int (da_cons de_int da_nil))) da_nil)))
      (dss_cons (dst_for PassesOwn.never (di_seq (de_var 0)) (dg_tup (dgs_cons (dg_name 3 sc_times_of.nd) (dgs_cons (dg_name 4 sc_times_of.nd) (dgs_cons (dg_name 5 sc_times_of.nd) (dgs_cons (dg_name 6 sc_times_of.nd) (dgs_cons (dg_name 7 sc_times_of.nd) dgs_nil))))))
      (dss_cons (dst_set sc_times_of.nd (de_ite (dt_val (de_var 1)) (de_var 4) (de_var 5)))
      (dss_one (dst_if (dt_cmp1 cs_gt (de_var 8) de_int)
      (dss_cons (dst_set sc_times_of.nd (de_ite (dt_val (de_var 1)) (de_lst (da_cons (de_sub (de_var 6) (de_var 3)) (da_cons (de_sub (de_var 7) (de_var 3)) da_nil))) (de_lst (da_cons (de_sub (de_var 3) (de_var 6)) (da_cons (de_sub (de_var 3) (de_var 7)) da_nil)))))
      (dss_one (dst_augL 2 (ps_aug (i := 2) sc_times_of.nd rfl (by first | exact .inl rfl | exact .inr rfl) (de_lc [("end", 10)] sc_times_of.nd (blkOk_by (own := [("end", 10)]) (N := N_times_of) (sc := defScope s_times_of) (by decide +kernel)) (di_seq (de_var 9)) (fun _ _ _ _ _ _ _ => (dg_name 10 sc_times_of.nd)) (fun _ _ _ _ _ _ _ => (dts_one (dt_cmp1 cs_gt (de_var 10) de_int))) (fun _ _ _ _ _ _ _ => (de_call (ok_make T) (hr.mono (by decide)) hn_make T.make.m T.make.F.kp T.make.b (da_cons (de_var 10) (da_cons (de_var 8) da_nil))))) iop_ext))))
      dss_nil))))
      (dss_one (dst_ret (de_call (ok_ordered T) (hr.mono (by decide)) hn_ordered T.ordered.m T.ordered.F.kp T.ordered.b (da_cons (de_var 2) da_nil)))))),
    vc_times_of⟩)
theorem ok_knots : FnOk P w K mg base CX0 4 T.knots.f T.knots.fd ["row"] (spOf K 1 sp_knots) :=
  okD0 T.knots.F sc_knots hn_knots (fun cdv A outer s H E F0 M hr => ⟨w_knots,
    (dss_cons (dst_set sc_knots.nd (de_lst da_nil))
      (dss_cons (dst_for PassesOwn.never (di_seq (de_rev (de_call (ok_times_of T) (hr.mono (by decide)) hn_times_of T.times_of.m T.times_of.F.kp T.times_of.b (da_cons (de_var 0) (da_cons de_bl da_nil))))) (dg_name 2 sc_knots.nd)
      (dss_one (dst_app 1 rfl (ps_expr (pe_bm PySem.F.plainAttrs_list PySem.F.slot_list_append PySem.F.type_list_append mt_append (pv 1) (pa_cons (de_lc [("panel", 3)] sc_knots.nd (blkOk_by (own := [("panel", 3)]) (N := N_knots) (sc := defScope s_knots) (by decide +kernel)) (di_seq (de_var 0)) (fun _ _ _ _ _ _ _ => (dg_name 3 sc_knots.nd)) (fun _ _ _ _ _ _ _ => dts_nil) (fun _ _ _ _ _ _ _ => (de_call (ok_size_at T) (hr.mono (by decide)) hn_size_at T.size_at.m T.size_at.F.kp T.size_at.b (da_cons (de_var 3) (da_cons (de_var 2) (da_cons de_bl da_nil)))))) pa_nil))))))
      (dss_cons (dst_for PassesOwn.never (di_seq (de_slice (de_call (ok_times_of T) (hr.mono (by decide)) hn_times_of T.times_of.m T.times_of.F.kp T.times_of.b (da_cons (de_var 0) (da_cons de_bl da_nil))) (do_some de_int) do_none)) (dg_name 2 sc_knots.nd)
      (dss_one (dst_app 1 rfl (ps_expr (pe_bm PySem.F.plainAttrs_list PySem.F.slot_list_append PySem.F.type_list_append mt_append (pv 1) (pa_cons (de_lc [("panel", 3)] sc_knots.nd (blkOk_by (own := [("panel", 3)]) (N := N_knots) (sc := defScope s_knots) (by decide +kernel)) (di_seq (de_var 0)) (fun _ _ _ _ _ _ _ => (dg_name 3 sc_knots.nd)) (fun _ _ _ _ _ _ _ => dts_nil) (fun _ _ _ _ _ _ _ => (de_call (ok_size_at T) (hr.mono (by decide)) hn_size_at T.size_at.m T.size_at.F.kp T.size_at.b (da_cons (de_var 3) (da_cons (de_var 2) (da_cons de_bl da_nil)))))) pa_nil))))))
      (dss_cons (dst_set sc_knots.nd (de_lst da_nil))
      (dss_cons (dst_for PassesOwn.never (di_seq (de_var 1)) (dg_name 5 sc_knots.nd)
      (dss_cons (dst_set sc_knots.nd (de_call (ok_total T) (hr.mono (by decide)) hn_total T.total.m T.total.F.kp T.total.b (da_cons (de_var 5) da_nil)))
      (dss_one (dst_if (dt_bor [4] (PW.pt (dw_or (dt_cmp1 (cs_eq hr) (de_var 4) (de_lst da_nil)) (dw_or1 (dt_val (de_call (ok_less T) (hr.mono (by decide)) hn_less T.less.m T.less.F.kp T.less.b (da_cons (de_ix (de_ix (de_var 4) (de_neg de_int)) de_int) (da_cons (de_var 6) da_nil))))))))
      (dss_one (dst_app 4 rfl (ps_expr (pe_bm PySem.F.plainAttrs_list PySem.F.slot_list_append PySem.F.type_list_append mt_append (pv 4) (pa_cons (de_tup (da_cons (de_var 6) (da_cons (de_var 5) da_nil))) pa_nil)))))
      dss_nil))))
      (dss_one (dst_ret (de_mov 4)))))))),
    vc_knots⟩)
theorem ok_slopes : FnOk P w K mg base CX0 3 T.slopes.f T.slopes.fd ["first", "second"] (spOf K 2 sp_slopes) :=
  okD0 T.slopes.F sc_slopes hn_slopes (fun cdv A outer s H E F0 M hr => ⟨w_slopes,
    (dss_cons (dst_set sc_slopes.nd (de_call (ok_minus T) (hr.mono (by decide)) hn_minus T.minus.m T.minus.F.kp T.minus.b (da_cons (de_ix (de_var 1) de_int) (da_cons (de_ix (de_var 0) de_int) da_nil))))
      (dss_one (dst_ret (de_lc [("before", 3), ("after", 4)] sc_slopes.nd (blkOk_by (own := [("before", 3), ("after", 4)]) (N := N_slopes) (sc := defScope s_slopes) (by decide +kernel)) (di_zipx T.z_zip (da_cons (de_ix (de_var 0) de_int) (da_cons (de_ix (de_var 1) de_int) da_nil))) (fun _ _ _ _ _ _ _ => (dg_tup (dgs_cons (dg_name 3 sc_slopes.nd) (dgs_cons (dg_name 4 sc_slopes.nd) dgs_nil)))) (fun _ _ _ _ _ _ _ => dts_nil) (fun _ _ _ _ _ _ _ => (de_call (ok_over T) (hr.mono (by decide)) hn_over T.over.m T.over.F.kp T.over.b (da_cons (de_call (ok_minus T) (hr.mono (by decide)) hn_minus T.minus.m T.minus.F.kp T.minus.b (da_cons (de_var 4) (da_cons (de_var 3) da_nil))) (da_cons (de_var 2) da_nil)))))))),
    vc_slopes⟩)
theorem ok_shares : FnOk P w K mg base CX0 5 T.shares.f T.shares.fd ["row", "width"] (spOf K 2 sp_shares) :=
  okD0 T.shares.F sc_shares hn_shares (fun cdv A outer s H E F0 M hr => ⟨w_shares,
    (dss_cons (dst_expr (de_call (ok_check_row T) (hr.mono (by decide)) hn_check_row T.check_row.m T.check_row.F.kp T.check_row.b (da_cons (de_var 0) da_nil)))
      (dss_cons (dst_expr (de_call (ok_check_width T) (hr.mono (by decide)) hn_check_width T.check_width.m T.check_width.F.kp T.check_width.b (da_cons (de_var 1) da_nil)))
      (dss_cons (dst_set sc_shares.nd (de_call (ok_knots T) (hr.mono (by decide)) hn_knots T.knots.m T.knots.F.kp T.knots.b (da_cons (de_var 0) da_nil)))
      (dss_cons (dst_for PassesOwn.never (di_zipx T.z_zip (da_cons (de_var 2) (da_cons (de_slice (de_var 2) (do_some de_int) do_none) da_nil))) (dg_tup (dgs_cons (dg_name 3 sc_shares.nd) (dgs_cons (dg_name 4 sc_shares.nd) dgs_nil)))
      (dss_one (dst_if (PW.pt (dw_and (dt_not (dt_val (de_call (ok_less T) (hr.mono (by decide)) hn_less T.less.m T.less.F.kp T.less.b (da_cons (de_call (ok_whole T) (hr.mono (by decide)) hn_whole T.whole.m T.whole.F.kp T.whole.b (da_cons (de_var 1) da_nil)) (da_cons (de_ix (de_var 3) de_int) da_nil))))) (dw_and1 (dt_val (de_call (ok_less T) (hr.mono (by decide)) hn_less T.less.m T.less.F.kp T.less.b (da_cons (de_call (ok_whole T) (hr.mono (by decide)) hn_whole T.whole.m T.whole.F.kp T.whole.b (da_cons (de_var 1) da_nil)) (da_cons (de_ix (de_var 4) de_int) da_nil)))))))
      (dss_one (dst_ret (de_call (ok_slopes T) (hr.mono (by decide)) hn_slopes T.slopes.m T.slopes.F.kp T.slopes.b (da_cons (de_var 3) (da_cons (de_var 4) da_nil)))))
      dss_nil)))
      (dss_one (dst_ret de_non)))))),
    vc_shares⟩)
theorem ok_bends : FnOk P w K mg base CX0 5 T.bends.f T.bends.fd ["row"] (spOf K 1 sp_bends) :=
  okD0 T.bends.F sc_bends hn_bends (fun cdv A outer s H E F0 M hr => ⟨w_bends,
    (dss_cons (dst_expr (de_call (ok_check_row T) (hr.mono (by decide)) hn_check_row T.check_row.m T.check_row.F.kp T.check_row.b (da_cons (de_var 0) da_nil)))
      (dss_cons (dst_set sc_bends.nd (de_call (ok_knots T) (hr.mono (by decide)) hn_knots T.knots.m T.knots.F.kp T.knots.b (da_cons (de_var 0) da_nil)))
      (dss_cons (dst_set sc_bends.nd (de_lst da_nil))
      (dss_cons (dst_for PassesOwn.never (di_zip3 T.z_zip (da_cons (de_var 1) (da_cons (de_slice (de_var 1) (do_some de_int) do_none) (da_cons (de_slice (de_var 1) (do_some de_int) do_none) da_nil)))) (dg_tup (dgs_cons (dg_name 3 sc_bends.nd) (dgs_cons (dg_name 4 sc_bends.nd) (dgs_cons (dg_name 5 sc_bends.nd) dgs_nil))))
      (dss_one (dst_if (dt_cmp1 (cs_ne hr) (de_call (ok_slopes T) (hr.mono (by decide)) hn_slopes T.slopes.m T.slopes.F.kp T.slopes.b (da_cons (de_var 3) (da_cons (de_var 4) da_nil))) (de_call (ok_slopes T) (hr.mono (by decide)) hn_slopes T.slopes.m T.slopes.F.kp T.slopes.b (da_cons (de_var 4) (da_cons (de_var 5) da_nil))))
      (dss_one (dst_app 2 rfl (ps_expr (pe_bm PySem.F.plainAttrs_list PySem.F.slot_list_append PySem.F.type_list_append mt_append (pv 2) (pa_cons (de_ix (de_var 4) de_int) pa_nil)))))
      dss_nil)))
      (dss_one (dst_ret (de_mov 2))))))),
    vc_bends⟩)
theorem ok__law_source : FnOk P w K mg base CX0 1 T._law_source.f T._law_source.fd ["cell", "turn"] (spOf K 2 sp__law_source) :=
  okD0 T._law_source.F sc__law_source hn__law_source (fun cdv A outer s H E F0 M hr => ⟨w__law_source,
    (dss_cons (dst_if (dt_cmp1 cs_ge (de_var 0) (de_pow de_int de_int))
      (dss_one (dst_ret (de_lst (da_cons (de_sub (de_var 0) (de_pow de_int de_int)) (da_cons (de_mod (de_var 0) de_int) (da_cons (de_var 1) da_nil))))))
      dss_nil)
      (dss_one (dst_ret (de_lst (da_cons de_int (da_cons (de_mod (de_var 0) de_int) (da_cons (de_var 1) da_nil))))))),
    vc__law_source⟩)
theorem ok__law_draw : FnOk P w K mg base CX0 1 T._law_draw.f T._law_draw.fd ["source", "size"] (spOf K 2 sp__law_draw) :=
  okDio T._law_draw.F sc__law_draw hn__law_draw (fun cdv A outer s H E F0 M hr => ⟨w__law_draw,
    (dss_cons (dst_if (dt_cmp1 cs_gt (de_ixM 0 (pv 0) de_int) de_int)
      (dss_cons (dst_set sc__law_draw.nd (de_mod (de_ixM 0 (pv 0) de_int) (de_var 1)))
      (dss_cons (dst_setI 0 (ps_asg (de_div (de_ixM 0 (pv 0) de_int) (de_var 1)) (pg_sub (pv 0) de_int set_list)))
      (dss_one (dst_ret (de_var 2)))))
      dss_nil)
      (dss_cons (dst_setI 0 (ps_asg (de_add (de_ixM 0 (pv 0) de_int) de_int) (pg_sub (pv 0) de_int set_list)))
      (dss_cons (dst_set sc__law_draw.nd (de_mod (de_pow (de_add (de_ixM 0 (pv 0) de_int) (de_mul de_int (de_ixM 0 (pv 0) de_int))) de_int) de_int))
      (dss_cons (dst_set sc__law_draw.nd (de_div (de_mod (de_pow (de_add (de_var 3) (de_mul de_int (de_ixM 0 (pv 0) de_int))) de_int) de_int) de_int))
      (dss_one (dst_ret (de_mod (de_var 2) (de_var 1)))))))),
    vc__law_draw⟩)
theorem ok__law_choice : FnOk P w K mg base CX0 2 T._law_choice.f T._law_choice.fd ["source", "items"] (spOf K 2 sp__law_choice) :=
  okDio T._law_choice.F sc__law_choice hn__law_choice (fun cdv A outer s H E F0 M hr => ⟨w__law_choice,
    (dss_one (dst_ret (de_ix (de_var 1) (de_call (ok__law_draw T) (hr.mono (by decide)) hn__law_draw T._law_draw.m T._law_draw.F.kp T._law_draw.b (da_at (x := "source") 0 (pv 0) (da_cons (de_cb cb_len T.z_len bt_len (da_cons (de_var 1) da_nil)) da_nil)))))),
    vc__law_choice⟩)
theorem ok__law_kind : FnOk P w K mg base CX0 1 T._law_kind.f T._law_kind.fd ["value"] (spOf K 1 sp__law_kind) :=
  okD0 T._law_kind.F sc__law_kind hn__law_kind (fun cdv A outer s H E F0 M hr => ⟨w__law_kind,
    (dss_cons (dst_if (dt_val (de_isi (de_var 0) T.z_isinstance T.z_bool bt_bool))
      (dss_one (dst_ret de_int))
      dss_nil)
      (dss_cons (dst_if (dt_val (de_isi (de_var 0) T.z_isinstance T.z_int bt_int))
      (dss_one (dst_ret de_int))
      dss_nil)
      (dss_cons (dst_if (dt_val (de_isi (de_var 0) T.z_isinstance T.z_str bt_str))
      (dss_one (dst_ret de_int))
      dss_nil)
      (dss_cons (dst_if (dt_val (de_isi (de_var 0) T.z_isinstance T.z_list bt_list))
      (dss_one (dst_ret de_int))
      dss_nil)
      (dss_one (dst_ret (de_ite (dt_val (de_isi (de_var 0) T.z_isinstance T.z_tuple bt_tuple)) de_int de_int))))))),
    vc__law_kind⟩)
theorem ok__law_equal : ∀ n : Nat, FnOk P w K mg base CX0 (n + 2) T._law_equal.f T._law_equal.fd ["value", "expected"] (spOf K 2 (sp__law_equal n))
  | 0 => ⟨fun _ _ _ _ h => h.1, fun _ _ _ _ _ _ _ _ _ _ _ _ _ h => by obtain ⟨_, _, _, _, _, _, _, h, _⟩ := h; exact (sp__law_equal_0 h).elim⟩
  | n + 1 => okD0 (k := n + 2) T._law_equal.F sc__law_equal (hn__law_equal (n + 1)) (fun cdv A outer s H E F0 M hr => ⟨w__law_equal n, have ih := ok__law_equal n;
    (dss_cons (dst_if (dt_cmp1 (cs_ne hr) (de_call (ok__law_kind T) (hr.mono (by omega)) hn__law_kind T._law_kind.m T._law_kind.F.kp T._law_kind.b (da_cons (de_var 0) da_nil)) (de_call (ok__law_kind T) (hr.mono (by omega)) hn__law_kind T._law_kind.m T._law_kind.F.kp T._law_kind.b (da_cons (de_var 1) da_nil)))
      (dss_one (dst_ret de_bl))
      dss_nil)
      (dss_cons (dst_if (PW.pt (dw_and (dt_cmp1 cs_gt (de_call (ok__law_kind T) (hr.mono (by omega)) hn__law_kind T._law_kind.m T._law_kind.F.kp T._law_kind.b (da_cons (de_var 0) da_nil)) de_int) (dw_and1 (dt_cmp1 cs_lt (de_call (ok__law_kind T) (hr.mono (by omega)) hn__law_kind T._law_kind.m T._law_kind.F.kp T._law_kind.b (da_cons (de_var 0) da_nil)) de_int))))
      (dss_cons (dst_if (dt_cmp1 (cs_ne hr) (de_cb cb_len T.z_len bt_len (da_cons (de_var 0) da_nil)) (de_cb cb_len T.z_len bt_len (da_cons (de_var 1) da_nil)))
      (dss_one (dst_ret de_bl))
      dss_nil)
      (dss_one (dst_ret (de_cmp1 (cs_eq hr) (de_lc [("k", 2), ("part", 3)] sc__law_equal.nd (blkOk_by (own := [("k", 2), ("part", 3)]) (N := N__law_equal) (sc := defScope s__law_equal) (by decide +kernel)) (di_enumx T.z_enumerate (da_cons (de_var 0) da_nil)) (fun _ _ _ _ _ _ _ => (dg_tup (dgs_cons (dg_name 2 sc__law_equal.nd) (dgs_cons (dg_name 3 sc__law_equal.nd) dgs_nil)))) (fun _ _ _ _ _ _ _ => (dts_one (dt_not (dt_val (de_call ih (hr.mono (by omega)) (hn__law_equal n) T._law_equal.m T._law_equal.F.kp T._law_equal.b (da_cons (de_var 3) (da_cons (de_ix (de_var 1) (de_var 2)) da_nil))))))) (fun _ _ _ _ _ _ _ => (de_var 2))) (de_lst da_nil)))))
      dss_nil)
      (dss_one (dst_ret (de_cmp1 (cs_eq hr) (de_var 0) (de_var 1)))))),
    vc__law_equal n⟩)
theorem ok__law_panel : FnOk P w K mg base CX0 3 T._law_panel.f T._law_panel.fd ["source", "most"] (spOf K 2 sp__law_panel) :=
  okDio T._law_panel.F sc__law_panel hn__law_panel (fun cdv A outer s H E F0 M hr => ⟨w__law_panel,
    (dss_cons (dst_set sc__law_panel.nd (de_call (ok__law_choice T) (hr.mono (by decide)) hn__law_choice T._law_choice.m T._law_choice.F.kp T._law_choice.b (da_at (x := "source") 0 (pv 0) (da_cons (de_lst (da_cons (de_call (ok__law_draw T) (hr.mono (by decide)) hn__law_draw T._law_draw.m T._law_draw.F.kp T._law_draw.b (da_at (x := "source") 0 (pv 0) (da_cons (de_add (de_var 1) de_int) da_nil))) (da_cons (de_var 1) (da_cons (de_call (ok__law_draw T) (hr.mono (by decide)) hn__law_draw T._law_draw.m T._law_draw.F.kp T._law_draw.b (da_at (x := "source") 0 (pv 0) (da_cons (de_add (de_var 1) de_int) da_nil))) da_nil)))) da_nil))))
      (dss_cons (dst_set sc__law_panel.nd (de_call (ok__law_choice T) (hr.mono (by decide)) hn__law_choice T._law_choice.m T._law_choice.F.kp T._law_choice.b (da_at (x := "source") 0 (pv 0) (da_cons (de_lst (da_cons de_int (da_cons (de_call (ok__law_draw T) (hr.mono (by decide)) hn__law_draw T._law_draw.m T._law_draw.F.kp T._law_draw.b (da_at (x := "source") 0 (pv 0) (da_cons (de_add (de_var 2) de_int) da_nil))) (da_cons (de_call (ok__law_draw T) (hr.mono (by decide)) hn__law_draw T._law_draw.m T._law_draw.F.kp T._law_draw.b (da_at (x := "source") 0 (pv 0) (da_cons (de_add (de_var 2) de_int) da_nil))) (da_cons (de_var 2) da_nil))))) da_nil))))
      (dss_cons (dst_set sc__law_panel.nd (de_add (de_var 3) (de_call (ok__law_draw T) (hr.mono (by decide)) hn__law_draw T._law_draw.m T._law_draw.F.kp T._law_draw.b (da_at (x := "source") 0 (pv 0) (da_cons (de_add (de_sub (de_var 2) (de_var 3)) de_int) da_nil)))))
      (dss_cons (dst_set sc__law_panel.nd (de_call (ok__law_choice T) (hr.mono (by decide)) hn__law_choice T._law_choice.m T._law_choice.F.kp T._law_choice.b (da_at (x := "source") 0 (pv 0) (da_cons (de_lst (da_cons (de_var 4) (da_cons (de_var 4) (da_cons (de_var 4) (da_cons (de_call (ok__law_draw T) (hr.mono (by decide)) hn__law_draw T._law_draw.m T._law_draw.F.kp T._law_draw.b (da_at (x := "source") 0 (pv 0) (da_cons (de_add (de_var 1) de_int) da_nil))) da_nil))))) da_nil))))
      (dss_cons (dst_set sc__law_panel.nd (de_call (ok__law_choice T) (hr.mono (by decide)) hn__law_choice T._law_choice.m T._law_choice.F.kp T._law_choice.b (da_at (x := "source") 0 (pv 0) (da_cons (de_lst (da_cons de_int (da_cons de_int (da_cons de_int da_nil)))) da_nil))))
      (dss_cons (dst_setLc 7 [("k", 8)] sc__law_panel.nd (blkOk_by (own := [("k", 8)]) (N := N__law_panel) (sc := defScope s__law_panel) (by decide +kernel)) (sw_true rfl rfl rfl (by decide +kernel)) (di_r1 T.z_range (da_cons de_int da_nil)) (fun _ _ _ _ _ _ _ => (dg_name 8 sc__law_panel.nd)) (fun _ _ _ _ _ _ _ => dts_nil) (fun _ _ _ _ _ _ _ => (de_call (ok__law_choice T) (hr.mono (by decide)) hn__law_choice T._law_choice.m T._law_choice.F.kp T._law_choice.b (da_at (x := "source") 0 (pv 0) (da_cons (de_lst (da_cons (de_call (ok__law_draw T) (hr.mono (by decide)) hn__law_draw T._law_draw.m T._law_draw.F.kp T._law_draw.b (da_at (x := "source") 0 (pv 0) (da_cons (de_var 6) da_nil))) (da_cons de_int (da_cons (de_call (ok__law_draw T) (hr.mono (by decide)) hn__law_draw T._law_draw.m T._law_draw.F.kp T._law_draw.b (da_at (x := "source") 0 (pv 0) (da_cons (de_var 6) da_nil))) da_nil)))) da_nil)))))
      (dss_one (dst_ret (de_tup (da_cons (de_var 5) (da_cons (de_ix (de_var 7) de_int) (da_cons (de_ix (de_var 7) de_int) (da_cons (de_var 3) (da_cons (de_var 2) da_nil)))))))))))))),
    vc__law_panel⟩)
theorem ok__law_row : FnOk P w K mg base CX0 4 T._law_row.f T._law_row.fd ["source", "many", "most"] (spOf K 3 sp__law_row) :=
  okDio T._law_row.F sc__law_row hn__law_row (fun cdv A outer s H E F0 M hr => ⟨w__law_row,
    (dss_one (dst_ret (de_ct cb_tuple T.z_tuple bt_tuple (da_cons (de_lc [("turn", 3)] sc__law_row.nd (blkOk_by (own := [("turn", 3)]) (N := N__law_row) (sc := defScope s__law_row) (by decide +kernel)) (di_r1 T.z_range (da_cons (de_add de_int (de_call (ok__law_draw T) (hr.mono (by decide)) hn__law_draw T._law_draw.m T._law_draw.F.kp T._law_draw.b (da_at (x := "source") 0 (pv 0) (da_cons (de_var 1) da_nil)))) da_nil)) (fun _ _ _ _ _ _ _ => (dg_name 3 sc__law_row.nd)) (fun _ _ _ _ _ _ _ => dts_nil) (fun _ _ _ _ _ _ _ => (de_call (ok__law_panel T) (hr.mono (by decide)) hn__law_panel T._law_panel.m T._law_panel.F.kp T._law_panel.b (da_at (x := "source") 0 (pv 0) (da_cons (de_var 2) da_nil))))) da_nil)))),
    vc__law_row⟩)
theorem ok__law_natural : FnOk P w K mg base CX0 1 T._law_natural.f T._law_natural.fd ["panel"] (spOf K 1 sp__law_natural) :=
  okD0 T._law_natural.F sc__law_natural hn__law_natural (fun cdv A outer s H E F0 M hr => ⟨w__law_natural,
    (dss_one (dst_ret (de_cb cb_max2 T.z_max bt_max (da_cons (de_ix (de_var 0) de_int) (da_cons (de_cb cb_min2 T.z_min bt_min (da_cons (de_ix (de_var 0) de_int) (da_cons (de_ix (de_var 0) de_int) da_nil))) da_nil))))),
    vc__law_natural⟩)
theorem ok__law_limits : FnOk P w K mg base CX0 2 T._law_limits.f T._law_limits.fd ["row"] (spOf K 1 sp__law_limits) :=
  okD0 T._law_limits.F sc__law_limits hn__law_limits (fun cdv A outer s H E F0 M hr => ⟨w__law_limits,
    (dss_cons (dst_set sc__law_limits.nd (de_cb cb_sum T.z_sum bt_sum (da_cons (de_lc [("panel", 2)] sc__law_limits.nd (blkOk_by (own := [("panel", 2)]) (N := N__law_limits) (sc := defScope s__law_limits) (by decide +kernel)) (di_seq (de_var 0)) (fun _ _ _ _ _ _ _ => (dg_name 2 sc__law_limits.nd)) (fun _ _ _ _ _ _ _ => dts_nil) (fun _ _ _ _ _ _ _ => (de_ite (dt_cmp1 cs_gt (de_ix (de_var 2) de_int) de_int) (de_ix (de_var 2) de_int) (de_call (ok__law_natural T) (hr.mono (by decide)) hn__law_natural T._law_natural.m T._law_natural.F.kp T._law_natural.b (da_cons (de_var 2) da_nil))))) da_nil)))
      (dss_one (dst_ret (de_tup (da_cons (de_var 1) (da_cons (de_cb cb_sum T.z_sum bt_sum (da_cons (de_lc [("panel", 2)] sc__law_limits.nd (blkOk_by (own := [("panel", 2)]) (N := N__law_limits) (sc := defScope s__law_limits) (by decide +kernel)) (di_seq (de_var 0)) (fun _ _ _ _ _ _ _ => (dg_name 2 sc__law_limits.nd)) (fun _ _ _ _ _ _ _ => dts_nil) (fun _ _ _ _ _ _ _ => (de_ite (dt_cmp1 cs_gt (de_ix (de_var 2) de_int) de_int) (de_ix (de_var 2) de_int) (de_call (ok__law_natural T) (hr.mono (by decide)) hn__law_natural T._law_natural.m T._law_natural.F.kp T._law_natural.b (da_cons (de_var 2) da_nil))))) da_nil)) da_nil)))))),
    vc__law_limits⟩)
theorem ok__law_some_widths : FnOk P w K mg base CX0 3 T._law_some_widths.f T._law_some_widths.fd ["source", "row", "many"] (spOf K 3 sp__law_some_widths) :=
  okDio T._law_some_widths.F sc__law_some_widths hn__law_some_widths (fun cdv A outer s H E F0 M hr => ⟨w__law_some_widths,
    (dss_cons (dst_asg (de_call (ok__law_limits T) (hr.mono (by decide)) hn__law_limits T._law_limits.m T._law_limits.F.kp T._law_limits.b (da_cons (de_var 1) da_nil)) (dg_tup (dgs_cons (dg_name 3 sc__law_some_widths.nd) (dgs_cons (dg_name 4 sc__law_some_widths.nd) dgs_nil))))
      (dss_cons (dst_set sc__law_some_widths.nd (de_cb cb_sum T.z_sum bt_sum (da_cons (de_lc [("panel", 6)] sc__law_some_widths.nd (blkOk_by (own := [("panel", 6)]) (N := N__law_some_widths) (sc := defScope s__law_some_widths) (by decide +kernel)) (di_seq (de_var 1)) (fun _ _ _ _ _ _ _ => (dg_name 6 sc__law_some_widths.nd)) (fun _ _ _ _ _ _ _ => dts_nil) (fun _ _ _ _ _ _ _ => (de_call (ok__law_natural T) (hr.mono (by decide)) hn__law_natural T._law_natural.m T._law_natural.F.kp T._law_natural.b (da_cons (de_var 6) da_nil)))) da_nil)))
      (dss_cons (dst_set sc__law_some_widths.nd (de_lst (da_cons (de_var 3) (da_cons (de_var 4) (da_cons (de_var 5) (da_cons (de_add (de_var 4) de_int) da_nil))))))
      (dss_cons (dst_for PassesOwn.never (di_r1 T.z_range (da_cons (de_var 2) da_nil)) (dg_name 8 sc__law_some_widths.nd)
      (dss_one (dst_app 7 rfl (ps_expr (pe_bm PySem.F.plainAttrs_list PySem.F.slot_list_append PySem.F.type_list_append mt_append (pv 7) (pa_cons (de_add (de_var 3) (de_call (ok__law_draw T) (hr.mono (by decide)) hn__law_draw T._law_draw.m T._law_draw.F.kp T._law_draw.b (da_at (x := "source") 0 (pv 0) (da_cons (de_add (de_sub (de_var 4) (de_var 3)) de_int) da_nil)))) pa_nil))))))
      (dss_one (dst_ret (de_lc [("width", 9)] sc__law_some_widths.nd (blkOk_by (own := [("width", 9)]) (N := N__law_some_widths) (sc := defScope s__law_some_widths) (by decide +kernel)) (di_seq (de_var 7)) (fun _ _ _ _ _ _ _ => (dg_name 9 sc__law_some_widths.nd)) (fun _ _ _ _ _ _ _ => (dts_one (dt_chain cs_le cs_le de_int (de_var 9) de_int))) (fun _ _ _ _ _ _ _ => (de_var 9))))))))),
    vc__law_some_widths⟩)
theorem ok__law_fraction : FnOk P w K mg base CX0 1 T._law_fraction.f T._law_fraction.fd ["top", "bottom"] (spOf K 2 sp__law_fraction) :=
  okD0 T._law_fraction.F sc__law_fraction hn__law_fraction (fun cdv A outer s H E F0 M hr => ⟨w__law_fraction,
    (dss_cons (dst_par sc__law_fraction.nd (da_cons (de_cb cb_abs T.z_abs bt_abs (da_cons (de_var 0) da_nil)) (da_cons (de_var 1) da_nil)))
      (dss_cons (dst_while PassesOwn.never (dt_cmp1 cs_gt (de_var 3) de_int)
      (dss_one (dst_par sc__law_fraction.nd (da_cons (de_var 3) (da_cons (de_mod (de_var 2) (de_var 3)) da_nil)))))
      (dss_one (dst_ret (de_tup (da_cons (de_div (de_var 0) (de_var 2)) (da_cons (de_div (de_var 1) (de_var 2)) da_nil))))))),
    vc__law_fraction⟩)
theorem ok__law_plus : FnOk P w K mg base CX0 2 T._law_plus.f T._law_plus.fd ["one", "other"] (spOf K 2 sp__law_plus) :=
  okD0 T._law_plus.F sc__law_plus hn__law_plus (fun cdv A outer s H E F0 M hr => ⟨w__law_plus,
    (dss_one (dst_ret (de_call (ok__law_fraction T) (hr.mono (by decide)) hn__law_fraction T._law_fraction.m T._law_fraction.F.kp T._law_fraction.b (da_cons (de_add (de_mul (de_ix (de_var 0) de_int) (de_ix (de_var 1) de_int)) (de_mul (de_ix (de_var 1) de_int) (de_ix (de_var 0) de_int))) (da_cons (de_mul (de_ix (de_var 0) de_int) (de_ix (de_var 1) de_int)) da_nil))))),
    vc__law_plus⟩)
theorem ok__law_minus : FnOk P w K mg base CX0 2 T._law_minus.f T._law_minus.fd ["one", "other"] (spOf K 2 sp__law_minus) :=
  okD0 T._law_minus.F sc__law_minus hn__law_minus (fun cdv A outer s H E F0 M hr => ⟨w__law_minus,
    (dss_one (dst_ret (de_call (ok__law_fraction T) (hr.mono (by decide)) hn__law_fraction T._law_fraction.m T._law_fraction.F.kp T._law_fraction.b (da_cons (de_sub (de_mul (de_ix (de_var 0) de_int) (de_ix (de_var 1) de_int)) (de_mul (de_ix (de_var 1) de_int) (de_ix (de_var 0) de_int))) (da_cons (de_mul (de_ix (de_var 0) de_int) (de_ix (de_var 1) de_int)) da_nil))))),
    vc__law_minus⟩)
theorem ok__law_less : FnOk P w K mg base CX0 1 T._law_less.f T._law_less.fd ["one", "other"] (spOf K 2 sp__law_less) :=
  okD0 T._law_less.F sc__law_less hn__law_less (fun cdv A outer s H E F0 M hr => ⟨w__law_less,
    (dss_one (dst_ret (de_cmp1 cs_lt (de_mul (de_ix (de_var 0) de_int) (de_ix (de_var 1) de_int)) (de_mul (de_ix (de_var 1) de_int) (de_ix (de_var 0) de_int))))),
    vc__law_less⟩)
theorem ok__law_total : FnOk P w K mg base CX0 3 T._law_total.f T._law_total.fd ["values"] (spOf K 1 sp__law_total) :=
  okD0 T._law_total.F sc__law_total hn__law_total (fun cdv A outer s H E F0 M hr => ⟨w__law_total,
    (dss_cons (dst_set sc__law_total.nd (de_tup (da_cons de_int (da_cons de_int da_nil))))
      (dss_cons (dst_for PassesOwn.never (di_seq (de_var 0)) (dg_name 2 sc__law_total.nd)
      (dss_one (dst_set sc__law_total.nd (de_call (ok__law_plus T) (hr.mono (by decide)) hn__law_plus T._law_plus.m T._law_plus.F.kp T._law_plus.b (da_cons (de_var 1) (da_cons (de_var 2) da_nil))))))
      (dss_one (dst_ret (de_var 1))))),
    vc__law_total⟩)
theorem ok__law_size : FnOk P w K mg base CX0 2 T._law_size.f T._law_size.fd ["panel", "time"] (spOf K 2 sp__law_size) :=
  okD0 T._law_size.F sc__law_size hn__law_size (fun cdv A outer s H E F0 M hr => ⟨w__law_size,
    (dss_cons (dst_asg (de_var 0) (dg_tup (dgs_cons (dg_name 2 sc__law_size.nd) (dgs_cons (dg_name 3 sc__law_size.nd) (dgs_cons (dg_name 4 sc__law_size.nd) (dgs_cons (dg_name 5 sc__law_size.nd) (dgs_cons (dg_name 6 sc__law_size.nd) dgs_nil)))))))
      (dss_cons (dst_set sc__law_size.nd (de_call (ok__law_fraction T) (hr.mono (by decide)) hn__law_fraction T._law_fraction.m T._law_fraction.F.kp T._law_fraction.b (da_cons (de_add (de_mul (de_var 2) (de_ix (de_var 1) de_int)) (de_mul (de_ite (dt_cmp1 cs_ge (de_ix (de_var 1) de_int) de_int) (de_var 3) (de_var 4)) (de_ix (de_var 1) de_int))) (da_cons (de_ix (de_var 1) de_int) da_nil))))
      (dss_cons (dst_if (dt_val (de_call (ok__law_less T) (hr.mono (by decide)) hn__law_less T._law_less.m T._law_less.F.kp T._law_less.b (da_cons (de_var 7) (da_cons (de_tup (da_cons (de_var 5) (da_cons de_int da_nil))) da_nil))))
      (dss_one (dst_ret (de_tup (da_cons (de_var 5) (da_cons de_int da_nil)))))
      dss_nil)
      (dss_one (dst_ret (de_ite (dt_val (de_call (ok__law_less T) (hr.mono (by decide)) hn__law_less T._law_less.m T._law_less.F.kp T._law_less.b (da_cons (de_tup (da_cons (de_var 6) (da_cons de_int da_nil))) (da_cons (de_var 7) da_nil)))) (de_tup (da_cons (de_var 6) (da_cons de_int da_nil))) (de_var 7))))))),
    vc__law_size⟩)
theorem ok__law_moments : FnOk P w K mg base CX0 2 T._law_moments.f T._law_moments.fd ["row"] (spOf K 1 sp__law_moments) :=
  okD0 T._law_moments.F sc__law_moments hn__law_moments (fun cdv A outer s H E F0 M hr => ⟨w__law_moments,
    (dss_cons (dst_set sc__law_moments.nd (de_lst (da_cons (de_tup (da_cons de_int (da_cons de_int da_nil))) da_nil)))
      (dss_cons (dst_for PassesOwn.never (di_seq (de_var 0)) (dg_tup (dgs_cons (dg_name 2 sc__law_moments.nd) (dgs_cons (dg_name 3 sc__law_moments.nd) (dgs_cons (dg_name 4 sc__law_moments.nd) (dgs_cons (dg_name 5 sc__law_moments.nd) (dgs_cons (dg_name 6 sc__law_moments.nd) dgs_nil))))))
      (dss_one (dst_for PassesOwn.never (di_seq (de_tup (da_cons (de_sub (de_var 5) (de_var 2)) (da_cons (de_sub (de_var 6) (de_var 2)) da_nil)))) (dg_name 7 sc__law_moments.nd)
      (dss_cons (dst_set sc__law_moments.nd (de_ite (dt_cmp1 cs_ge (de_var 7) de_int) (de_var 3) (de_var 4)))
      (dss_one (dst_if (dt_cmp1 cs_gt (de_var 8) de_int)
      (dss_one (dst_app 1 rfl (ps_expr (pe_bm PySem.F.plainAttrs_list PySem.F.slot_list_append PySem.F.type_list_append mt_append (pv 1) (pa_cons (de_call (ok__law_fraction T) (hr.mono (by decide)) hn__law_fraction T._law_fraction.m T._law_fraction.F.kp T._law_fraction.b (da_cons (de_var 7) (da_cons (de_var 8) da_nil))) pa_nil)))))
      dss_nil))))))
      (dss_cons (dst_set sc__law_moments.nd (de_lst da_nil))
      (dss_cons (dst_for PassesOwn.never (di_seq (de_var 1)) (dg_name 10 sc__law_moments.nd)
      (dss_cons (dst_setLc 11 [("one", 12)] sc__law_moments.nd (blkOk_by (own := [("one", 12)]) (N := N__law_moments) (sc := defScope s__law_moments) (by decide +kernel)) (sw_true rfl rfl rfl (by decide +kernel)) (di_seq (de_var 9)) (fun _ _ _ _ _ _ _ => (dg_name 12 sc__law_moments.nd)) (fun _ _ _ _ _ _ _ => (dts_one (dt_val (de_call (ok__law_less T) (hr.mono (by decide)) hn__law_less T._law_less.m T._law_less.F.kp T._law_less.b (da_cons (de_var 10) (da_cons (de_var 12) da_nil)))))) (fun _ _ _ _ _ _ _ => (de_var 12)))
      (dss_one (dst_if (dt_cmp1 (cs_notinX hr) (de_var 10) (de_var 9))
      (dss_one (dst_set sc__law_moments.nd (de_add (de_add (de_slice (de_var 9) do_none (do_some (de_sub (de_cb cb_len T.z_len bt_len (da_cons (de_var 9) da_nil)) (de_cb cb_len T.z_len bt_len (da_cons (de_var 11) da_nil))))) (de_lst (da_cons (de_var 10) da_nil))) (de_var 11))))
      dss_nil))))
      (dss_one (dst_ret (de_var 9))))))),
    vc__law_moments⟩)
theorem ok__law_corners : FnOk P w K mg base CX0 4 T._law_corners.f T._law_corners.fd ["row"] (spOf K 1 sp__law_corners) :=
  okD0 T._law_corners.F sc__law_corners hn__law_corners (fun cdv A outer s H E F0 M hr => ⟨w__law_corners,
    (dss_cons (dst_set sc__law_corners.nd (de_lst da_nil))
      (dss_cons (dst_for PassesOwn.never (di_seq (de_call (ok__law_moments T) (hr.mono (by decide)) hn__law_moments T._law_moments.m T._law_moments.F.kp T._law_moments.b (da_cons (de_var 0) da_nil))) (dg_name 2 sc__law_corners.nd)
      (dss_cons (dst_setLc 3 [("panel", 4)] sc__law_corners.nd (blkOk_by (own := [("panel", 4)]) (N := N__law_corners) (sc := defScope s__law_corners) (by decide +kernel)) (sw_true rfl rfl rfl (by decide +kernel)) (di_seq (de_var 0)) (fun _ _ _ _ _ _ _ => (dg_name 4 sc__law_corners.nd)) (fun _ _ _ _ _ _ _ => dts_nil) (fun _ _ _ _ _ _ _ => (de_call (ok__law_size T) (hr.mono (by decide)) hn__law_size T._law_size.m T._law_size.F.kp T._law_size.b (da_cons (de_var 4) (da_cons (de_var 2) da_nil)))))
      (dss_cons (dst_set sc__law_corners.nd (de_call (ok__law_total T) (hr.mono (by decide)) hn__law_total T._law_total.m T._law_total.F.kp T._law_total.b (da_cons (de_var 3) da_nil)))
      (dss_one (dst_if (dt_bor [1] (PW.pt (dw_or (dt_cmp1 (cs_eq hr) (de_var 1) (de_lst da_nil)) (dw_or1 (dt_val (de_call (ok__law_less T) (hr.mono (by decide)) hn__law_less T._law_less.m T._law_less.F.kp T._law_less.b (da_cons (de_ix (de_ix (de_var 1) (de_neg de_int)) de_int) (da_cons (de_var 5) da_nil))))))))
      (dss_one (dst_app 1 rfl (ps_expr (pe_bm PySem.F.plainAttrs_list PySem.F.slot_list_append PySem.F.type_list_append mt_append (pv 1) (pa_cons (de_tup (da_cons (de_var 5) (da_cons (de_var 3) da_nil))) pa_nil)))))
      dss_nil)))))
      (dss_one (dst_ret (de_mov 1))))),
    vc__law_corners⟩)
theorem ok__law_slopes : FnOk P w K mg base CX0 3 T._law_slopes.f T._law_slopes.fd ["one", "other"] (spOf K 2 sp__law_slopes) :=
  okD0 T._law_slopes.F sc__law_slopes hn__law_slopes (fun cdv A outer s H E F0 M hr => ⟨w__law_slopes,
    (dss_cons (dst_set sc__law_slopes.nd (de_call (ok__law_minus T) (hr.mono (by decide)) hn__law_minus T._law_minus.m T._law_minus.F.kp T._law_minus.b (da_cons (de_ix (de_var 1) de_int) (da_cons (de_ix (de_var 0) de_int) da_nil))))
      (dss_cons (dst_set sc__law_slopes.nd (de_lst da_nil))
      (dss_cons (dst_for PassesOwn.never (di_zipx T.z_zip (da_cons (de_ix (de_var 0) de_int) (da_cons (de_ix (de_var 1) de_int) da_nil))) (dg_tup (dgs_cons (dg_name 4 sc__law_slopes.nd) (dgs_cons (dg_name 5 sc__law_slopes.nd) dgs_nil)))
      (dss_cons (dst_set sc__law_slopes.nd (de_call (ok__law_minus T) (hr.mono (by decide)) hn__law_minus T._law_minus.m T._law_minus.F.kp T._law_minus.b (da_cons (de_var 5) (da_cons (de_var 4) da_nil))))
      (dss_one (dst_app 3 rfl (ps_expr (pe_bm PySem.F.plainAttrs_list PySem.F.slot_list_append PySem.F.type_list_append mt_append (pv 3) (pa_cons (de_call (ok__law_fraction T) (hr.mono (by decide)) hn__law_fraction T._law_fraction.m T._law_fraction.F.kp T._law_fraction.b (da_cons (de_mul (de_ix (de_var 6) de_int) (de_ix (de_var 2) de_int)) (da_cons (de_mul (de_ix (de_var 6) de_int) (de_ix (de_var 2) de_int)) da_nil))) pa_nil)))))))
      (dss_one (dst_ret (de_mov 3)))))),
    vc__law_slopes⟩)
theorem ok_law : FnOk P w K mg base CX0 11 T.law.f T.law.fd ["script"] (spOf K 1 sp_law) :=
  okD0 T.law.F sc_law hn_law (fun cdv A outer s H E F0 M hr => ⟨w_law,
    (dss_cons (dst_for PassesOwn.never (di_seq (de_slice (de_add (de_lst (da_cons de_int da_nil)) (de_var 0)) do_none (do_some de_int))) (dg_name 1 sc_law.nd)
      (dss_cons (dst_set sc_law.nd (de_call (ok__law_source T) (hr.mono (by decide)) hn__law_source T._law_source.m T._law_source.F.kp T._law_source.b (da_cons (de_var 1) (da_cons de_int da_nil))))
      (dss_one (dst_for PassesOwn.never (di_r1 T.z_range (da_cons de_int da_nil)) (dg_name 3 sc_law.nd)
      (dss_cons (dst_setV sc_law.nd (de_call (ok__law_row T) (hr.mono (by decide)) hn__law_row T._law_row.m T._law_row.F.kp T._law_row.b (da_at (x := "source") 2 (pv 2) (da_cons de_int (da_cons (de_call (ok__law_choice T) (hr.mono (by decide)) hn__law_choice T._law_choice.m T._law_choice.F.kp T._law_choice.b (da_at (x := "source") 2 (pv 2) (da_cons (de_lst (da_cons de_int (da_cons de_int da_nil))) da_nil))) da_nil)))))
      (dss_cons (dst_parX sc_law.nd (db_cons (de_call (ok__law_corners T) (hr.mono (by decide)) hn__law_corners T._law_corners.m T._law_corners.F.kp T._law_corners.b (da_cons (de_var 4) da_nil)) (db_cons (de_lst da_nil) db_nil (fun _ _ => db_nil)) (fun _ _ => (db_cons (de_lst da_nil) db_nil (fun _ _ => db_nil)))))
      (dss_cons (dst_for PassesOwn.never (di_zip3 T.z_zip (da_cons (de_var 5) (da_cons (de_slice (de_var 5) (do_some de_int) do_none) (da_cons (de_slice (de_var 5) (do_some de_int) do_none) da_nil)))) (dg_tup (dgs_cons (dg_name 7 sc_law.nd) (dgs_cons (dg_name 8 sc_law.nd) (dgs_cons (dg_name 9 sc_law.nd) dgs_nil))))
      (dss_one (dst_if (dt_cmp1 (cs_ne hr) (de_call (ok__law_slopes T) (hr.mono (by decide)) hn__law_slopes T._law_slopes.m T._law_slopes.F.kp T._law_slopes.b (da_cons (de_var 7) (da_cons (de_var 8) da_nil))) (de_call (ok__law_slopes T) (hr.mono (by decide)) hn__law_slopes T._law_slopes.m T._law_slopes.F.kp T._law_slopes.b (da_cons (de_var 8) (da_cons (de_var 9) da_nil))))
      (dss_one (dst_app 6 rfl (ps_expr (pe_bm PySem.F.plainAttrs_list PySem.F.slot_list_append PySem.F.type_list_append mt_append (pv 6) (pa_cons (de_ix (de_var 8) de_int) pa_nil)))))
      dss_nil)))
      (dss_cons (dst_set sc_law.nd (de_call (ok_bends T) (hr.mono (by decide)) hn_bends T.bends.m T.bends.F.kp T.bends.b (da_cons (de_var 4) da_nil)))
      (dss_cons (dst_if (dt_bor [6, 10] (PW.pt (dw_or (dt_not (dt_val (de_call (ok__law_equal T 8) (hr.mono (by decide)) (hn__law_equal 8) T._law_equal.m T._law_equal.F.kp T._law_equal.b (da_cons (de_var 10) (da_cons (de_var 6) da_nil))))) (dw_or1 (dt_cmp1 cs_gt (de_cb cb_len T.z_len bt_len (da_cons (de_var 10) da_nil)) (de_add (de_mul de_int (de_cb cb_len T.z_len bt_len (da_cons (de_var 4) da_nil))) de_int))))))
      (dss_one (dst_ret de_bl))
      dss_nil)
      (dss_cons (dst_setV sc_law.nd (de_add (de_call (ok__law_some_widths T) (hr.mono (by decide)) hn__law_some_widths T._law_some_widths.m T._law_some_widths.F.kp T._law_some_widths.b (da_at (x := "source") 2 (pv 2) (da_cons (de_var 4) (da_cons de_int da_nil)))) (de_borL [10] (de_lc [("bend", 12)] sc_law.nd (blkOk_by (own := [("bend", 12)]) (N := N_law) (sc := defScope s_law) (by decide +kernel)) (di_seq (de_var 10)) (fun _ _ _ _ _ _ _ => (dg_name 12 sc_law.nd)) (fun _ _ _ _ _ _ _ => (dts_one (dt_cmp1 (cs_eq hr) (de_ix (de_var 12) de_int) de_int))) (fun _ _ _ _ _ _ _ => (de_ix (de_var 12) de_int))))))
      (dss_cons (dst_app 10 rfl (ps_expr (pe_bm PySem.F.plainAttrs_list PySem.F.slot_list_append PySem.F.type_list_append mt_append (pv 10) (pa_cons de_non pa_nil))))
      (dss_cons (dst_if (dt_bor [6] (dt_cmp1 (cs_ne hr) (de_call (ok_bends T) (hr.mono (by decide)) hn_bends T.bends.m T.bends.F.kp T.bends.b (da_cons (de_var 4) da_nil)) (de_var 6)))
      (dss_one (dst_ret de_bl))
      dss_nil)
      (dss_one (dst_for PassesOwn.never (di_seq (de_var 11)) (dg_name 13 sc_law.nd)
      (dss_cons (dst_setV sc_law.nd de_non)
      (dss_cons (dst_for PassesOwn.never (di_zipx T.z_zip (da_cons (de_var 5) (da_cons (de_slice (de_var 5) (do_some de_int) do_none) da_nil))) (dg_tup (dgs_cons (dg_name 15 sc_law.nd) (dgs_cons (dg_name 16 sc_law.nd) dgs_nil)))
      (dss_one (dst_if (PW.pt (dw_and (dt_not (dt_val (de_call (ok__law_less T) (hr.mono (by decide)) hn__law_less T._law_less.m T._law_less.F.kp T._law_less.b (da_cons (de_tup (da_cons (de_var 13) (da_cons de_int da_nil))) (da_cons (de_ix (de_var 15) de_int) da_nil))))) (dw_and1 (dt_val (de_call (ok__law_less T) (hr.mono (by decide)) hn__law_less T._law_less.m T._law_less.F.kp T._law_less.b (da_cons (de_tup (da_cons (de_var 13) (da_cons de_int da_nil))) (da_cons (de_ix (de_var 16) de_int) da_nil)))))))
      (dss_one (dst_setV sc_law.nd (de_call (ok__law_slopes T) (hr.mono (by decide)) hn__law_slopes T._law_slopes.m T._law_slopes.F.kp T._law_slopes.b (da_cons (de_var 15) (da_cons (de_var 16) da_nil)))))
      dss_nil)))
      (dss_cons (dst_if (dt_not (dt_val (de_call (ok__law_equal T 8) (hr.mono (by decide)) (hn__law_equal 8) T._law_equal.m T._law_equal.F.kp T._law_equal.b (da_cons (de_call (ok_shares T) (hr.mono (by decide)) hn_shares T.shares.m T.shares.F.kp T.shares.b (da_cons (de_var 4) (da_cons (de_var 13) da_nil))) (da_cons (de_var 14) da_nil)))))
      (dss_one (dst_ret de_bl))
      dss_nil)
      (dss_one (dst_if (PW.pt (dw_and (dt_cmp1 cs_isnot (de_var 14) de_non) (dw_and1 (dt_cmp1 (cs_ne hr) (de_call (ok__law_total T) (hr.mono (by decide)) hn__law_total T._law_total.m T._law_total.F.kp T._law_total.b (da_cons (de_var 14) da_nil)) (de_tup (da_cons de_int (da_cons de_int da_nil)))))))
      (dss_one (dst_ret de_bl))
      dss_nil)))))))))))))))))))
      (dss_one (dst_ret (de_cmp1 (cs_eq hr) (de_call (ok_shares T) (hr.mono (by decide)) hn_shares T.shares.m T.shares.F.kp T.shares.b (da_cons (de_tup (da_cons (de_tup (da_cons de_int (da_cons de_int (da_cons de_int (da_cons de_int (da_cons de_int da_nil)))))) (da_cons (de_tup (da_cons de_int (da_cons de_int (da_cons de_int (da_cons de_int (da_cons de_int da_nil)))))) da_nil))) (da_cons de_int da_nil))) (de_lst (da_cons (de_tup (da_cons de_int (da_cons de_int da_nil))) (da_cons (de_tup (da_cons de_int (da_cons de_int da_nil))) da_nil))))))),
    vc_law⟩)
end
theorem all_mk {l : PySem.W.OpenLaw} {K : PySem.W.Frag} {h : Heap} {mg : Str → Option Value} {fa : Addr} (X : K.In h) (G : h.Ns mainGlobals mg) (hfa : mg "law" = some (.ref fa))
    {f_make : Addr} {od0 an0 : Option Addr} {sl0 : Array (Option Value)} {oc0 kV0 dc0 pm0 cd0 ct0 : Value}
    (a0 : PySem.W.nsIn K mainGlobals "make" = some (some (.ref f_make))) (l0 : K.lookup f_make = some ⟨oc0, od0, .func (PySem.W.fnOf "make" "make" (defArgs s_make) (defBody s_make) (defScope s_make) .none kV0 dc0 pm0 an0 cd0 ct0), sl0⟩) (c0 : PySem.W.codeIn K cd0 "make" = true) (k0 : PySem.W.keepIn K (.ref f_make) = true)
    {f_whole : Addr} {od1 an1 : Option Addr} {sl1 : Array (Option Value)} {oc1 kV1 dc1 pm1 cd1 ct1 : Value}
    (a1 : PySem.W.nsIn K mainGlobals "whole" = some (some (.ref f_whole))) (l1 : K.lookup f_whole = some ⟨oc1, od1, .func (PySem.W.fnOf "whole" "whole" (defArgs s_whole) (defBody s_whole) (defScope s_whole) .none kV1 dc1 pm1 an1 cd1 ct1), sl1⟩) (c1 : PySem.W.codeIn K cd1 "whole" = true) (k1 : PySem.W.keepIn K (.ref f_whole) = true)
    {f_plus : Addr} {od2 an2 : Option Addr} {sl2 : Array (Option Value)} {oc2 kV2 dc2 pm2 cd2 ct2 : Value}
    (a2 : PySem.W.nsIn K mainGlobals "plus" = some (some (.ref f_plus))) (l2 : K.lookup f_plus = some ⟨oc2, od2, .func (PySem.W.fnOf "plus" "plus" (defArgs s_plus) (defBody s_plus) (defScope s_plus) .none kV2 dc2 pm2 an2 cd2 ct2), sl2⟩) (c2 : PySem.W.codeIn K cd2 "plus" = true) (k2 : PySem.W.keepIn K (.ref f_plus) = true)
    {f_minus : Addr} {od3 an3 : Option Addr} {sl3 : Array (Option Value)} {oc3 kV3 dc3 pm3 cd3 ct3 : Value}
    (a3 : PySem.W.nsIn K mainGlobals "minus" = some (some (.ref f_minus))) (l3 : K.lookup f_minus = some ⟨oc3, od3, .func (PySem.W.fnOf "minus" "minus" (defArgs s_minus) (defBody s_minus) (defScope s_minus) .none kV3 dc3 pm3 an3 cd3 ct3), sl3⟩) (c3 : PySem.W.codeIn K cd3 "minus" = true) (k3 : PySem.W.keepIn K (.ref f_minus) = true)
    {f_over : Addr} {od4 an4 : Option Addr} {sl4 : Array (Option Value)} {oc4 kV4 dc4 pm4 cd4 ct4 : Value}
    (a4 : PySem.W.nsIn K mainGlobals "over" = some (some (.ref f_over))) (l4 : K.lookup f_over = some ⟨oc4, od4, .func (PySem.W.fnOf "over" "over" (defArgs s_over) (defBody s_over) (defScope s_over) .none kV4 dc4 pm4 an4 cd4 ct4), sl4⟩) (c4 : PySem.W.codeIn K cd4 "over" = true) (k4 : PySem.W.keepIn K (.ref f_over) = true)
    {f_less : Addr} {od5 an5 : Option Addr} {sl5 : Array (Option Value)} {oc5 kV5 dc5 pm5 cd5 ct5 : Value}
    (a5 : PySem.W.nsIn K mainGlobals "less" = some (some (.ref f_less))) (l5 : K.lookup f_less = some ⟨oc5, od5, .func (PySem.W.fnOf "less" "less" (defArgs s_less) (defBody s_less) (defScope s_less) .none kV5 dc5 pm5 an5 cd5 ct5), sl5⟩) (c5 : PySem.W.codeIn K cd5 "less" = true) (k5 : PySem.W.keepIn K (.ref f_less) = true)
    {f_clamp : Addr} {od6 an6 : Option Addr} {sl6 : Array (Option Value)} {oc6 kV6 dc6 pm6 cd6 ct6 : Value}
    (a6 : PySem.W.nsIn K mainGlobals "clamp" = some (some (.ref f_clamp))) (l6 : K.lookup f_clamp = some ⟨oc6, od6, .func (PySem.W.fnOf "clamp" "clamp" (defArgs s_clamp) (defBody s_clamp) (defScope s_clamp) .none kV6 dc6 pm6 an6 cd6 ct6), sl6⟩) (c6 : PySem.W.codeIn K cd6 "clamp" = true) (k6 : PySem.W.keepIn K (.ref f_clamp) = true)
    {f_total : Addr} {od7 an7 : Option Addr} {sl7 : Array (Option Value)} {oc7 kV7 dc7 pm7 cd7 ct7 : Value}
    (a7 : PySem.W.nsIn K mainGlobals "total" = some (some (.ref f_total))) (l7 : K.lookup f_total = some ⟨oc7, od7, .func (PySem.W.fnOf "total" "total" (defArgs s_total) (defBody s_total) (defScope s_total) .none kV7 dc7 pm7 an7 cd7 ct7), sl7⟩) (c7 : PySem.W.codeIn K cd7 "total" = true) (k7 : PySem.W.keepIn K (.ref f_total) = true)
    {f_ordered : Addr} {od8 an8 : Option Addr} {sl8 : Array (Option Value)} {oc8 kV8 dc8 pm8 cd8 ct8 : Value}
    (a8 : PySem.W.nsIn K mainGlobals "ordered" = some (some (.ref f_ordered))) (l8 : K.lookup f_ordered = some ⟨oc8, od8, .func (PySem.W.fnOf "ordered" "ordered" (defArgs s_ordered) (defBody s_ordered) (defScope s_ordered) .none kV8 dc8 pm8 an8 cd8 ct8), sl8⟩) (c8 : PySem.W.codeIn K cd8 "ordered" = true) (k8 : PySem.W.keepIn K (.ref f_ordered) = true)
    {f_is_between : Addr} {od9 an9 : Option Addr} {sl9 : Array (Option Value)} {oc9 kV9 dc9 pm9 cd9 ct9 : Value}
    (a9 : PySem.W.nsIn K mainGlobals "is_between" = some (some (.ref f_is_between))) (l9 : K.lookup f_is_between = some ⟨oc9, od9, .func (PySem.W.fnOf "is_between" "is_between" (defArgs s_is_between) (defBody s_is_between) (defScope s_is_between) .none kV9 dc9 pm9 an9 cd9 ct9), sl9⟩) (c9 : PySem.W.codeIn K cd9 "is_between" = true) (k9 : PySem.W.keepIn K (.ref f_is_between) = true)
    {f_is_panel : Addr} {od10 an10 : Option Addr} {sl10 : Array (Option Value)} {oc10 kV10 dc10 pm10 cd10 ct10 : Value}
    (a10 : PySem.W.nsIn K mainGlobals "is_panel" = some (some (.ref f_is_panel))) (l10 : K.lookup f_is_panel = some ⟨oc10, od10, .func (PySem.W.fnOf "is_panel" "is_panel" (defArgs s_is_panel) (defBody s_is_panel) (defScope s_is_panel) .none kV10 dc10 pm10 an10 cd10 ct10), sl10⟩) (c10 : PySem.W.codeIn K cd10 "is_panel" = true) (k10 : PySem.W.keepIn K (.ref f_is_panel) = true)
    {f_is_row : Addr} {od11 an11 : Option Addr} {sl11 : Array (Option Value)} {oc11 kV11 dc11 pm11 cd11 ct11 : Value}
    (a11 : PySem.W.nsIn K mainGlobals "is_row" = some (some (.ref f_is_row))) (l11 : K.lookup f_is_row = some ⟨oc11, od11, .func (PySem.W.fnOf "is_row" "is_row" (defArgs s_is_row) (defBody s_is_row) (defScope s_is_row) .none kV11 dc11 pm11 an11 cd11 ct11), sl11⟩) (c11 : PySem.W.codeIn K cd11 "is_row" = true) (k11 : PySem.W.keepIn K (.ref f_is_row) = true)
    {f_check_row : Addr} {od12 an12 : Option Addr} {sl12 : Array (Option Value)} {oc12 kV12 dc12 pm12 cd12 ct12 : Value}
    (a12 : PySem.W.nsIn K mainGlobals "check_row" = some (some (.ref f_check_row))) (l12 : K.lookup f_check_row = some ⟨oc12, od12, .func (PySem.W.fnOf "check_row" "check_row" (defArgs s_check_row) (defBody s_check_row) (defScope s_check_row) .none kV12 dc12 pm12 an12 cd12 ct12), sl12⟩) (c12 : PySem.W.codeIn K cd12 "check_row" = true) (k12 : PySem.W.keepIn K (.ref f_check_row) = true)
    {f_check_width : Addr} {od13 an13 : Option Addr} {sl13 : Array (Option Value)} {oc13 kV13 dc13 pm13 cd13 ct13 : Value}
    (a13 : PySem.W.nsIn K mainGlobals "check_width" = some (some (.ref f_check_width))) (l13 : K.lookup f_check_width = some ⟨oc13, od13, .func (PySem.W.fnOf "check_width" "check_width" (defArgs s_check_width) (defBody s_check_width) (defScope s_check_width) .none kV13 dc13 pm13 an13 cd13 ct13), sl13⟩) (c13 : PySem.W.codeIn K cd13 "check_width" = true) (k13 : PySem.W.keepIn K (.ref f_check_width) = true)
    {f_size_at : Addr} {od14 an14 : Option Addr} {sl14 : Array (Option Value)} {oc14 kV14 dc14 pm14 cd14 ct14 : Value}
    (a14 : PySem.W.nsIn K mainGlobals "size_at" = some (some (.ref f_size_at))) (l14 : K.lookup f_size_at = some ⟨oc14, od14, .func (PySem.W.fnOf "size_at" "size_at" (defArgs s_size_at) (defBody s_size_at) (defScope s_size_at) .none kV14 dc14 pm14 an14 cd14 ct14), sl14⟩) (c14 : PySem.W.codeIn K cd14 "size_at" = true) (k14 : PySem.W.keepIn K (.ref f_size_at) = true)
    {f_times_of : Addr} {od15 an15 : Option Addr} {sl15 : Array (Option Value)} {oc15 kV15 dc15 pm15 cd15 ct15 : Value}
    (a15 : PySem.W.nsIn K mainGlobals "times_of" = some (some (.ref f_times_of))) (l15 : K.lookup f_times_of = some ⟨oc15, od15, .func (PySem.W.fnOf "times_of" "times_of" (defArgs s_times_of) (defBody s_times_of) (defScope s_times_of) .none kV15 dc15 pm15 an15 cd15 ct15), sl15⟩) (c15 : PySem.W.codeIn K cd15 "times_of" = true) (k15 : PySem.W.keepIn K (.ref f_times_of) = true)
    {f_knots : Addr} {od16 an16 : Option Addr} {sl16 : Array (Option Value)} {oc16 kV16 dc16 pm16 cd16 ct16 : Value}
    (a16 : PySem.W.nsIn K mainGlobals "knots" = some (some (.ref f_knots))) (l16 : K.lookup f_knots = some ⟨oc16, od16, .func (PySem.W.fnOf "knots" "knots" (defArgs s_knots) (defBody s_knots) (defScope s_knots) .none kV16 dc16 pm16 an16 cd16 ct16), sl16⟩) (c16 : PySem.W.codeIn K cd16 "knots" = true) (k16 : PySem.W.keepIn K (.ref f_knots) = true)
    {f_slopes : Addr} {od17 an17 : Option Addr} {sl17 : Array (Option Value)} {oc17 kV17 dc17 pm17 cd17 ct17 : Value}
    (a17 : PySem.W.nsIn K mainGlobals "slopes" = some (some (.ref f_slopes))) (l17 : K.lookup f_slopes = some ⟨oc17, od17, .func (PySem.W.fnOf "slopes" "slopes" (defArgs s_slopes) (defBody s_slopes) (defScope s_slopes) .none kV17 dc17 pm17 an17 cd17 ct17), sl17⟩) (c17 : PySem.W.codeIn K cd17 "slopes" = true) (k17 : PySem.W.keepIn K (.ref f_slopes) = true)
    {f_shares : Addr} {od18 an18 : Option Addr} {sl18 : Array (Option Value)} {oc18 kV18 dc18 pm18 cd18 ct18 : Value}
    (a18 : PySem.W.nsIn K mainGlobals "shares" = some (some (.ref f_shares))) (l18 : K.lookup f_shares = some ⟨oc18, od18, .func (PySem.W.fnOf "shares" "shares" (defArgs s_shares) (defBody s_shares) (defScope s_shares) .none kV18 dc18 pm18 an18 cd18 ct18), sl18⟩) (c18 : PySem.W.codeIn K cd18 "shares" = true) (k18 : PySem.W.keepIn K (.ref f_shares) = true)
    {f_bends : Addr} {od19 an19 : Option Addr} {sl19 : Array (Option Value)} {oc19 kV19 dc19 pm19 cd19 ct19 : Value}
    (a19 : PySem.W.nsIn K mainGlobals "bends" = some (some (.ref f_bends))) (l19 : K.lookup f_bends = some ⟨oc19, od19, .func (PySem.W.fnOf "bends" "bends" (defArgs s_bends) (defBody s_bends) (defScope s_bends) .none kV19 dc19 pm19 an19 cd19 ct19), sl19⟩) (c19 : PySem.W.codeIn K cd19 "bends" = true) (k19 : PySem.W.keepIn K (.ref f_bends) = true)
    {f__law_source : Addr} {od20 an20 : Option Addr} {sl20 : Array (Option Value)} {oc20 kV20 dc20 pm20 cd20 ct20 : Value}
    (a20 : PySem.W.nsIn K mainGlobals "_law_source" = some (some (.ref f__law_source))) (l20 : K.lookup f__law_source = some ⟨oc20, od20, .func (PySem.W.fnOf "_law_source" "_law_source" (defArgs s__law_source) (defBody s__law_source) (defScope s__law_source) .none kV20 dc20 pm20 an20 cd20 ct20), sl20⟩) (c20 : PySem.W.codeIn K cd20 "_law_source" = true) (k20 : PySem.W.keepIn K (.ref f__law_source) = true)
    {f__law_draw : Addr} {od21 an21 : Option Addr} {sl21 : Array (Option Value)} {oc21 kV21 dc21 pm21 cd21 ct21 : Value}
    (a21 : PySem.W.nsIn K mainGlobals "_law_draw" = some (some (.ref f__law_draw))) (l21 : K.lookup f__law_draw = some ⟨oc21, od21, .func (PySem.W.fnOf "_law_draw" "_law_draw" (defArgs s__law_draw) (defBody s__law_draw) (defScope s__law_draw) .none kV21 dc21 pm21 an21 cd21 ct21), sl21⟩) (c21 : PySem.W.codeIn K cd21 "_law_draw" = true) (k21 : PySem.W.keepIn K (.ref f__law_draw) = true)
    {f__law_choice : Addr} {od22 an22 : Option Addr} {sl22 : Array (Option Value)} {oc22 kV22 dc22 pm22 cd22 ct22 : Value}
    (a22 : PySem.W.nsIn K mainGlobals "_law_choice" = some (some (.ref f__law_choice))) (l22 : K.lookup f__law_choice = some ⟨oc22, od22, .func (PySem.W.fnOf "_law_choice" "_law_choice" (defArgs s__law_choice) (defBody s__law_choice) (defScope s__law_choice) .none kV22 dc22 pm22 an22 cd22 ct22), sl22⟩) (c22 : PySem.W.codeIn K cd22 "_law_choice" = true) (k22 : PySem.W.keepIn K (.ref f__law_choice) = true)
    {f__law_kind : Addr} {od23 an23 : Option Addr} {sl23 : Array (Option Value)} {oc23 kV23 dc23 pm23 cd23 ct23 : Value}
    (a23 : PySem.W.nsIn K mainGlobals "_law_kind" = some (some (.ref f__law_kind))) (l23 : K.lookup f__law_kind = some ⟨oc23, od23, .func (PySem.W.fnOf "_law_kind" "_law_kind" (defArgs s__law_kind) (defBody s__law_kind) (defScope s__law_kind) .none kV23 dc23 pm23 an23 cd23 ct23), sl23⟩) (c23 : PySem.W.codeIn K cd23 "_law_kind" = true) (k23 : PySem.W.keepIn K (.ref f__law_kind) = true)
    {f__law_equal : Addr} {od24 an24 : Option Addr} {sl24 : Array (Option Value)} {oc24 kV24 dc24 pm24 cd24 ct24 : Value}
    (a24 : PySem.W.nsIn K mainGlobals "_law_equal" = some (some (.ref f__law_equal))) (l24 : K.lookup f__law_equal = some ⟨oc24, od24, .func (PySem.W.fnOf "_law_equal" "_law_equal" (defArgs s__law_equal) (defBody s__law_equal) (defScope s__law_equal) .none kV24 dc24 pm24 an24 cd24 ct24), sl24⟩) (c24 : PySem.W.codeIn K cd24 "_law_equal" = true) (k24 : PySem.W.keepIn K (.ref f__law_equal) = true)
    {f__law_panel : Addr} {od25 an25 : Option Addr} {sl25 : Array (Option Value)} {oc25 kV25 dc25 pm25 cd25 ct25 : Value}
    (a25 : PySem.W.nsIn K mainGlobals "_law_panel" = some (some (.ref f__law_panel))) (l25 : K.lookup f__law_panel = some ⟨oc25, od25, .func (PySem.W.fnOf "_law_panel" "_law_panel" (defArgs s__law_panel) (defBody s__law_panel) (defScope s__law_panel) .none kV25 dc25 pm25 an25 cd25 ct25), sl25⟩) (c25 : PySem.W.codeIn K cd25 "_law_panel" = true) (k25 : PySem.W.keepIn K (.ref f__law_panel) = true)
    {f__law_row : Addr} {od26 an26 : Option Addr} {sl26 : Array (Option Value)} {oc26 kV26 dc26 pm26 cd26 ct26 : Value}
    (a26 : PySem.W.nsIn K mainGlobals "_law_row" = some (some (.ref f__law_row))) (l26 : K.lookup f__law_row = some ⟨oc26, od26, .func (PySem.W.fnOf "_law_row" "_law_row" (defArgs s__law_row) (defBody s__law_row) (defScope s__law_row) .none kV26 dc26 pm26 an26 cd26 ct26), sl26⟩) (c26 : PySem.W.codeIn K cd26 "_law_row" = true) (k26 : PySem.W.keepIn K (.ref f__law_row) = true)
    {f__law_natural : Addr} {od27 an27 : Option Addr} {sl27 : Array (Option Value)} {oc27 kV27 dc27 pm27 cd27 ct27 : Value}
    (a27 : PySem.W.nsIn K mainGlobals "_law_natural" = some (some (.ref f__law_natural))) (l27 : K.lookup f__law_natural = some ⟨oc27, od27, .func (PySem.W.fnOf "_law_natural" "_law_natural" (defArgs s__law_natural) (defBody s__law_natural) (defScope s__law_natural) .none kV27 dc27 pm27 an27 cd27 ct27), sl27⟩) (c27 : PySem.W.codeIn K cd27 "_law_natural" = true) (k27 : PySem.W.keepIn K (.ref f__law_natural) = true)
    {f__law_limits : Addr} {od28 an28 : Option Addr} {sl28 : Array (Option Value)} {oc28 kV28 dc28 pm28 cd28 ct28 : Value}
    (a28 : PySem.W.nsIn K mainGlobals "_law_limits" = some (some (.ref f__law_limits))) (l28 : K.lookup f__law_limits = some ⟨oc28, od28, .func (PySem.W.fnOf "_law_limits" "_law_limits" (defArgs s__law_limits) (defBody s__law_limits) (defScope s__law_limits) .none kV28 dc28 pm28 an28 cd28 ct28), sl28⟩) (c28 : PySem.W.codeIn K cd28 "_law_limits" = true) (k28 : PySem.W.keepIn K (.ref f__law_limits) = true)
    {f__law_some_widths : Addr} {od29 an29 : Option Addr} {sl29 : Array (Option Value)} {oc29 kV29 dc29 pm29 cd29 ct29 : Value}
    (a29 : PySem.W.nsIn K mainGlobals "_law_some_widths" = some (some (.ref f__law_some_widths))) (l29 : K.lookup f__law_some_widths = some ⟨oc29, od29, .func (PySem.W.fnOf "_law_some_widths" "_law_some_widths" (defArgs s__law_some_widths) (defBody s__law_some_widths) (defScope s__law_some_widths) .none kV29 dc29 pm29 an29 cd29 ct29), sl29⟩) (c29 : PySem.W.codeIn K cd29 "_law_some_widths" = true) (k29 : PySem.W.keepIn K (.ref f__law_some_widths) = true)
    {f__law_fraction : Addr} {od30 an30 : Option Addr} {sl30 : Array (Option Value)} {oc30 kV30 dc30 pm30 cd30 ct30 : Value}
    (a30 : PySem.W.nsIn K mainGlobals "_law_fraction" = some (some (.ref f__law_fraction))) (l30 : K.lookup f__law_fraction = some ⟨oc30, od30, .func (PySem.W.fnOf "_law_fraction" "_law_fraction" (defArgs s__law_fraction) (defBody s__law_fraction) (defScope s__law_fraction) .none kV30 dc30 pm30 an30 cd30 ct30), sl30⟩) (c30 : PySem.W.codeIn K cd30 "_law_fraction" = true) (k30 : PySem.W.keepIn K (.ref f__law_fraction) = true)
    {f__law_plus : Addr} {od31 an31 : Option Addr} {sl31 : Array (Option Value)} {oc31 kV31 dc31 pm31 cd31 ct31 : Value}
    (a31 : PySem.W.nsIn K mainGlobals "_law_plus" = some (some (.ref f__law_plus))) (l31 : K.lookup f__law_plus = some ⟨oc31, od31, .func (PySem.W.fnOf "_law_plus" "_law_plus" (defArgs s__law_plus) (defBody s__law_plus) (defScope s__law_plus) .none kV31 dc31 pm31 an31 cd31 ct31), sl31⟩) (c31 : PySem.W.codeIn K cd31 "_law_plus" = true) (k31 : PySem.W.keepIn K (.ref f__law_plus) = true)
    {f__law_minus : Addr} {od32 an32 : Option Addr} {sl32 : Array (Option Value)} {oc32 kV32 dc32 pm32 cd32 ct32 : Value}
    (a32 : PySem.W.nsIn K mainGlobals "_law_minus" = some (some (.ref f__law_minus))) (l32 : K.lookup f__law_minus = some ⟨oc32, od32, .func (PySem.W.fnOf "_law_minus" "_law_minus" (defArgs s__law_minus) (defBody s__law_minus) (defScope s__law_minus) .none kV32 dc32 pm32 an32 cd32 ct32), sl32⟩) (c32 : PySem.W.codeIn K cd32 "_law_minus" = true) (k32 : PySem.W.keepIn K (.ref f__law_minus) = true)
    {f__law_less : Addr} {od33 an33 : Option Addr} {sl33 : Array (Option Value)} {oc33 kV33 dc33 pm33 cd33 ct33 : Value}
    (a33 : PySem.W.nsIn K mainGlobals "_law_less" = some (some (.ref f__law_less))) (l33 : K.lookup f__law_less = some ⟨oc33, od33, .func (PySem.W.fnOf "_law_less" "_law_less" (defArgs s__law_less) (defBody s__law_less) (defScope s__law_less) .none kV33 dc33 pm33 an33 cd33 ct33), sl33⟩) (c33 : PySem.W.codeIn K cd33 "_law_less" = true) (k33 : PySem.W.keepIn K (.ref f__law_less) = true)
    {f__law_total : Addr} {od34 an34 : Option Addr} {sl34 : Array (Option Value)} {oc34 kV34 dc34 pm34 cd34 ct34 : Value}
    (a34 : PySem.W.nsIn K mainGlobals "_law_total" = some (some (.ref f__law_total))) (l34 : K.lookup f__law_total = some ⟨oc34, od34, .func (PySem.W.fnOf "_law_total" "_law_total" (defArgs s__law_total) (defBody s__law_total) (defScope s__law_total) .none kV34 dc34 pm34 an34 cd34 ct34), sl34⟩) (c34 : PySem.W.codeIn K cd34 "_law_total" = true) (k34 : PySem.W.keepIn K (.ref f__law_total) = true)
    {f__law_size : Addr} {od35 an35 : Option Addr} {sl35 : Array (Option Value)} {oc35 kV35 dc35 pm35 cd35 ct35 : Value}
    (a35 : PySem.W.nsIn K mainGlobals "_law_size" = some (some (.ref f__law_size))) (l35 : K.lookup f__law_size = some ⟨oc35, od35, .func (PySem.W.fnOf "_law_size" "_law_size" (defArgs s__law_size) (defBody s__law_size) (defScope s__law_size) .none kV35 dc35 pm35 an35 cd35 ct35), sl35⟩) (c35 : PySem.W.codeIn K cd35 "_law_size" = true) (k35 : PySem.W.keepIn K (.ref f__law_size) = true)
    {f__law_moments : Addr} {od36 an36 : Option Addr} {sl36 : Array (Option Value)} {oc36 kV36 dc36 pm36 cd36 ct36 : Value}
    (a36 : PySem.W.nsIn K mainGlobals "_law_moments" = some (some (.ref f__law_moments))) (l36 : K.lookup f__law_moments = some ⟨oc36, od36, .func (PySem.W.fnOf "_law_moments" "_law_moments" (defArgs s__law_moments) (defBody s__law_moments) (defScope s__law_moments) .none kV36 dc36 pm36 an36 cd36 ct36), sl36⟩) (c36 : PySem.W.codeIn K cd36 "_law_moments" = true) (k36 : PySem.W.keepIn K (.ref f__law_moments) = true)
    {f__law_corners : Addr} {od37 an37 : Option Addr} {sl37 : Array (Option Value)} {oc37 kV37 dc37 pm37 cd37 ct37 : Value}
    (a37 : PySem.W.nsIn K mainGlobals "_law_corners" = some (some (.ref f__law_corners))) (l37 : K.lookup f__law_corners = some ⟨oc37, od37, .func (PySem.W.fnOf "_law_corners" "_law_corners" (defArgs s__law_corners) (defBody s__law_corners) (defScope s__law_corners) .none kV37 dc37 pm37 an37 cd37 ct37), sl37⟩) (c37 : PySem.W.codeIn K cd37 "_law_corners" = true) (k37 : PySem.W.keepIn K (.ref f__law_corners) = true)
    {f__law_slopes : Addr} {od38 an38 : Option Addr} {sl38 : Array (Option Value)} {oc38 kV38 dc38 pm38 cd38 ct38 : Value}
    (a38 : PySem.W.nsIn K mainGlobals "_law_slopes" = some (some (.ref f__law_slopes))) (l38 : K.lookup f__law_slopes = some ⟨oc38, od38, .func (PySem.W.fnOf "_law_slopes" "_law_slopes" (defArgs s__law_slopes) (defBody s__law_slopes) (defScope s__law_slopes) .none kV38 dc38 pm38 an38 cd38 ct38), sl38⟩) (c38 : PySem.W.codeIn K cd38 "_law_slopes" = true) (k38 : PySem.W.keepIn K (.ref f__law_slopes) = true)
    {f_law : Addr} {od39 an39 : Option Addr} {sl39 : Array (Option Value)} {oc39 kV39 dc39 pm39 cd39 ct39 : Value}
    (a39 : PySem.W.nsIn K mainGlobals "law" = some (some (.ref f_law))) (l39 : K.lookup f_law = some ⟨oc39, od39, .func (PySem.W.fnOf "law" "law" (defArgs s_law) (defBody s_law) (defScope s_law) .none kV39 dc39 pm39 an39 cd39 ct39), sl39⟩) (c39 : PySem.W.codeIn K cd39 "law" = true) (k39 : PySem.W.keepIn K (.ref f_law) = true)
    (z_abs : PySem.W.nsIn K mainGlobals "abs" = some none)
    (z_all : PySem.W.nsIn K mainGlobals "all" = some none)
    (z_bool : PySem.W.nsIn K mainGlobals "bool" = some none)
    (z_enumerate : PySem.W.nsIn K mainGlobals "enumerate" = some none)
    (z_int : PySem.W.nsIn K mainGlobals "int" = some none)
    (z_isinstance : PySem.W.nsIn K mainGlobals "isinstance" = some none)
    (z_len : PySem.W.nsIn K mainGlobals "len" = some none)
    (z_list : PySem.W.nsIn K mainGlobals "list" = some none)
    (z_max : PySem.W.nsIn K mainGlobals "max" = some none)
    (z_min : PySem.W.nsIn K mainGlobals "min" = some none)
    (z_range : PySem.W.nsIn K mainGlobals "range" = some none)
    (z_str : PySem.W.nsIn K mainGlobals "str" = some none)
    (z_sum : PySem.W.nsIn K mainGlobals "sum" = some none)
    (z_tuple : PySem.W.nsIn K mainGlobals "tuple" = some none)
    (z_zip : PySem.W.nsIn K mainGlobals "zip" = some none)
    {t_MAX_FACTOR : Tok} (g_MAX_FACTOR : PySem.W.nsIn K mainGlobals "MAX_FACTOR" = some (some (.int 100 t_MAX_FACTOR)))
    {t_MAX_PANELS : Tok} (g_MAX_PANELS : PySem.W.nsIn K mainGlobals "MAX_PANELS" = some (some (.int 8 t_MAX_PANELS)))
    {t_MAX_SIZE : Tok} (g_MAX_SIZE : PySem.W.nsIn K mainGlobals "MAX_SIZE" = some (some (.int 400 t_MAX_SIZE)))
    {t_MAX_WIDTH : Tok} (g_MAX_WIDTH : PySem.W.nsIn K mainGlobals "MAX_WIDTH" = some (some (.int 3200 t_MAX_WIDTH)))
    : ∃ fd : FuncData, (∀ (s : Shared) (v : Value), BindsTo s fd ⟨[v], []⟩ [("script", v)]) ∧ ∀ base : Heap, K.In base → base.Ns mainGlobals mg → FnOk l.prog w K mg base CX0 11 fa fd ["script"] (spLaw K) := by
  have e := hfa.symm.trans (PySem.W.mg_of X G a39)
  cases e
  have F0 := fun_mk (st := s_make) l0 c0 k0
  have b0 := F0.binds (ps := ["top", "bottom"]) fun _ _ _ _ _ _ us hl => match us, hl with | [_, _], _ => rfl
  have F1 := fun_mk (st := s_whole) l1 c1 k1
  have b1 := F1.binds (ps := ["value"]) fun _ _ _ _ _ _ us hl => match us, hl with | [_], _ => rfl
  have F2 := fun_mk (st := s_plus) l2 c2 k2
  have b2 := F2.binds (ps := ["one", "other"]) fun _ _ _ _ _ _ us hl => match us, hl with | [_, _], _ => rfl
  have F3 := fun_mk (st := s_minus) l3 c3 k3
  have b3 := F3.binds (ps := ["one", "other"]) fun _ _ _ _ _ _ us hl => match us, hl with | [_, _], _ => rfl
  have F4 := fun_mk (st := s_over) l4 c4 k4
  have b4 := F4.binds (ps := ["one", "other"]) fun _ _ _ _ _ _ us hl => match us, hl with | [_, _], _ => rfl
  have F5 := fun_mk (st := s_less) l5 c5 k5
  have b5 := F5.binds (ps := ["one", "other"]) fun _ _ _ _ _ _ us hl => match us, hl with | [_, _], _ => rfl
  have F6 := fun_mk (st := s_clamp) l6 c6 k6
  have b6 := F6.binds (ps := ["low", "value", "high"]) fun _ _ _ _ _ _ us hl => match us, hl with | [_, _, _], _ => rfl
  have F7 := fun_mk (st := s_total) l7 c7 k7
  have b7 := F7.binds (ps := ["values"]) fun _ _ _ _ _ _ us hl => match us, hl with | [_], _ => rfl
  have F8 := fun_mk (st := s_ordered) l8 c8 k8
  have b8 := F8.binds (ps := ["values"]) fun _ _ _ _ _ _ us hl => match us, hl with | [_], _ => rfl
  have F9 := fun_mk (st := s_is_between) l9 c9 k9
  have b9 := F9.binds (ps := ["value", "low", "high"]) fun _ _ _ _ _ _ us hl => match us, hl with | [_, _, _], _ => rfl
  have F10 := fun_mk (st := s_is_panel) l10 c10 k10
  have b10 := F10.binds (ps := ["value"]) fun _ _ _ _ _ _ us hl => match us, hl with | [_], _ => rfl
  have F11 := fun_mk (st := s_is_row) l11 c11 k11
  have b11 := F11.binds (ps := ["value"]) fun _ _ _ _ _ _ us hl => match us, hl with | [_], _ => rfl
  have F12 := fun_mk (st := s_check_row) l12 c12 k12
  have b12 := F12.binds (ps := ["row"]) fun _ _ _ _ _ _ us hl => match us, hl with | [_], _ => rfl
  have F13 := fun_mk (st := s_check_width) l13 c13 k13
  have b13 := F13.binds (ps := ["width"]) fun _ _ _ _ _ _ us hl => match us, hl with | [_], _ => rfl
  have F14 := fun_mk (st := s_size_at) l14 c14 k14
  have b14 := F14.binds (ps := ["panel", "time", "growing"]) fun _ _ _ _ _ _ us hl => match us, hl with | [_, _, _], _ => rfl
  have F15 := fun_mk (st := s_times_of) l15 c15 k15
  have b15 := F15.binds (ps := ["row", "growing"]) fun _ _ _ _ _ _ us hl => match us, hl with | [_, _], _ => rfl
  have F16 := fun_mk (st := s_knots) l16 c16 k16
  have b16 := F16.binds (ps := ["row"]) fun _ _ _ _ _ _ us hl => match us, hl with | [_], _ => rfl
  have F17 := fun_mk (st := s_slopes) l17 c17 k17
  have b17 := F17.binds (ps := ["first", "second"]) fun _ _ _ _ _ _ us hl => match us, hl with | [_, _], _ => rfl
  have F18 := fun_mk (st := s_shares) l18 c18 k18
  have b18 := F18.binds (ps := ["row", "width"]) fun _ _ _ _ _ _ us hl => match us, hl with | [_, _], _ => rfl
  have F19 := fun_mk (st := s_bends) l19 c19 k19
  have b19 := F19.binds (ps := ["row"]) fun _ _ _ _ _ _ us hl => match us, hl with | [_], _ => rfl
  have F20 := fun_mk (st := s__law_source) l20 c20 k20
  have b20 := F20.binds (ps := ["cell", "turn"]) fun _ _ _ _ _ _ us hl => match us, hl with | [_, _], _ => rfl
  have F21 := fun_mk (st := s__law_draw) l21 c21 k21
  have b21 := F21.binds (ps := ["source", "size"]) fun _ _ _ _ _ _ us hl => match us, hl with | [_, _], _ => rfl
  have F22 := fun_mk (st := s__law_choice) l22 c22 k22
  have b22 := F22.binds (ps := ["source", "items"]) fun _ _ _ _ _ _ us hl => match us, hl with | [_, _], _ => rfl
  have F23 := fun_mk (st := s__law_kind) l23 c23 k23
  have b23 := F23.binds (ps := ["value"]) fun _ _ _ _ _ _ us hl => match us, hl with | [_], _ => rfl
  have F24 := fun_mk (st := s__law_equal) l24 c24 k24
  have b24 := F24.binds (ps := ["value", "expected"]) fun _ _ _ _ _ _ us hl => match us, hl with | [_, _], _ => rfl
  have F25 := fun_mk (st := s__law_panel) l25 c25 k25
  have b25 := F25.binds (ps := ["source", "most"]) fun _ _ _ _ _ _ us hl => match us, hl with | [_, _], _ => rfl
  have F26 := fun_mk (st := s__law_row) l26 c26 k26
  have b26 := F26.binds (ps := ["source", "many", "most"]) fun _ _ _ _ _ _ us hl => match us, hl with | [_, _, _], _ => rfl
  have F27 := fun_mk (st := s__law_natural) l27 c27 k27
  have b27 := F27.binds (ps := ["panel"]) fun _ _ _ _ _ _ us hl => match us, hl with | [_], _ => rfl
  have F28 := fun_mk (st := s__law_limits) l28 c28 k28
  have b28 := F28.binds (ps := ["row"]) fun _ _ _ _ _ _ us hl => match us, hl with | [_], _ => rfl
  have F29 := fun_mk (st := s__law_some_widths) l29 c29 k29
  have b29 := F29.binds (ps := ["source", "row", "many"]) fun _ _ _ _ _ _ us hl => match us, hl with | [_, _, _], _ => rfl
  have F30 := fun_mk (st := s__law_fraction) l30 c30 k30
  have b30 := F30.binds (ps := ["top", "bottom"]) fun _ _ _ _ _ _ us hl => match us, hl with | [_, _], _ => rfl
  have F31 := fun_mk (st := s__law_plus) l31 c31 k31
  have b31 := F31.binds (ps := ["one", "other"]) fun _ _ _ _ _ _ us hl => match us, hl with | [_, _], _ => rfl
  have F32 := fun_mk (st := s__law_minus) l32 c32 k32
  have b32 := F32.binds (ps := ["one", "other"]) fun _ _ _ _ _ _ us hl => match us, hl with | [_, _], _ => rfl
  have F33 := fun_mk (st := s__law_less) l33 c33 k33
  have b33 := F33.binds (ps := ["one", "other"]) fun _ _ _ _ _ _ us hl => match us, hl with | [_, _], _ => rfl
  have F34 := fun_mk (st := s__law_total) l34 c34 k34
  have b34 := F34.binds (ps := ["values"]) fun _ _ _ _ _ _ us hl => match us, hl with | [_], _ => rfl
  have F35 := fun_mk (st := s__law_size) l35 c35 k35
  have b35 := F35.binds (ps := ["panel", "time"]) fun _ _ _ _ _ _ us hl => match us, hl with | [_, _], _ => rfl
  have F36 := fun_mk (st := s__law_moments) l36 c36 k36
  have b36 := F36.binds (ps := ["row"]) fun _ _ _ _ _ _ us hl => match us, hl with | [_], _ => rfl
  have F37 := fun_mk (st := s__law_corners) l37 c37 k37
  have b37 := F37.binds (ps := ["row"]) fun _ _ _ _ _ _ us hl => match us, hl with | [_], _ => rfl
  have F38 := fun_mk (st := s__law_slopes) l38 c38 k38
  have b38 := F38.binds (ps := ["one", "other"]) fun _ _ _ _ _ _ us hl => match us, hl with | [_, _], _ => rfl
  have F39 := fun_mk (st := s_law) l39 c39 k39
  have b39 := F39.binds (ps := ["script"]) fun _ _ _ _ _ _ us hl => match us, hl with | [_], _ => rfl
  let T : Txt K mg := {
    make := ⟨_, _, F0, b0, PySem.W.mg_of X G a0⟩
    whole := ⟨_, _, F1, b1, PySem.W.mg_of X G a1⟩
    plus := ⟨_, _, F2, b2, PySem.W.mg_of X G a2⟩
    minus := ⟨_, _, F3, b3, PySem.W.mg_of X G a3⟩
    over := ⟨_, _, F4, b4, PySem.W.mg_of X G a4⟩
    less := ⟨_, _, F5, b5, PySem.W.mg_of X G a5⟩
    clamp := ⟨_, _, F6, b6, PySem.W.mg_of X G a6⟩
    total := ⟨_, _, F7, b7, PySem.W.mg_of X G a7⟩
    ordered := ⟨_, _, F8, b8, PySem.W.mg_of X G a8⟩
    is_between := ⟨_, _, F9, b9, PySem.W.mg_of X G a9⟩
    is_panel := ⟨_, _, F10, b10, PySem.W.mg_of X G a10⟩
    is_row := ⟨_, _, F11, b11, PySem.W.mg_of X G a11⟩
    check_row := ⟨_, _, F12, b12, PySem.W.mg_of X G a12⟩
    check_width := ⟨_, _, F13, b13, PySem.W.mg_of X G a13⟩
    size_at := ⟨_, _, F14, b14, PySem.W.mg_of X G a14⟩
    times_of := ⟨_, _, F15, b15, PySem.W.mg_of X G a15⟩
    knots := ⟨_, _, F16, b16, PySem.W.mg_of X G a16⟩
    slopes := ⟨_, _, F17, b17, PySem.W.mg_of X G a17⟩
    shares := ⟨_, _, F18, b18, PySem.W.mg_of X G a18⟩
    bends := ⟨_, _, F19, b19, PySem.W.mg_of X G a19⟩
    _law_source := ⟨_, _, F20, b20, PySem.W.mg_of X G a20⟩
    _law_draw := ⟨_, _, F21, b21, PySem.W.mg_of X G a21⟩
    _law_choice := ⟨_, _, F22, b22, PySem.W.mg_of X G a22⟩
    _law_kind := ⟨_, _, F23, b23, PySem.W.mg_of X G a23⟩
    _law_equal := ⟨_, _, F24, b24, PySem.W.mg_of X G a24⟩
    _law_panel := ⟨_, _, F25, b25, PySem.W.mg_of X G a25⟩
    _law_row := ⟨_, _, F26, b26, PySem.W.mg_of X G a26⟩
    _law_natural := ⟨_, _, F27, b27, PySem.W.mg_of X G a27⟩
    _law_limits := ⟨_, _, F28, b28, PySem.W.mg_of X G a28⟩
    _law_some_widths := ⟨_, _, F29, b29, PySem.W.mg_of X G a29⟩
    _law_fraction := ⟨_, _, F30, b30, PySem.W.mg_of X G a30⟩
    _law_plus := ⟨_, _, F31, b31, PySem.W.mg_of X G a31⟩
    _law_minus := ⟨_, _, F32, b32, PySem.W.mg_of X G a32⟩
    _law_less := ⟨_, _, F33, b33, PySem.W.mg_of X G a33⟩
    _law_total := ⟨_, _, F34, b34, PySem.W.mg_of X G a34⟩
    _law_size := ⟨_, _, F35, b35, PySem.W.mg_of X G a35⟩
    _law_moments := ⟨_, _, F36, b36, PySem.W.mg_of X G a36⟩
    _law_corners := ⟨_, _, F37, b37, PySem.W.mg_of X G a37⟩
    _law_slopes := ⟨_, _, F38, b38, PySem.W.mg_of X G a38⟩
    law := ⟨_, _, F39, b39, PySem.W.mg_of X G a39⟩
    z_abs := PySem.W.mg_none_of X G z_abs
    z_all := PySem.W.mg_none_of X G z_all
    z_bool := PySem.W.mg_none_of X G z_bool
    z_enumerate := PySem.W.mg_none_of X G z_enumerate
    z_int := PySem.W.mg_none_of X G z_int
    z_isinstance := PySem.W.mg_none_of X G z_isinstance
    z_len := PySem.W.mg_none_of X G z_len
    z_list := PySem.W.mg_none_of X G z_list
    z_max := PySem.W.mg_none_of X G z_max
    z_min := PySem.W.mg_none_of X G z_min
    z_range := PySem.W.mg_none_of X G z_range
    z_str := PySem.W.mg_none_of X G z_str
    z_sum := PySem.W.mg_none_of X G z_sum
    z_tuple := PySem.W.mg_none_of X G z_tuple
    z_zip := PySem.W.mg_none_of X G z_zip
    c_MAX_FACTOR := ⟨_, PySem.W.mg_of X G g_MAX_FACTOR⟩
    c_MAX_PANELS := ⟨_, PySem.W.mg_of X G g_MAX_PANELS⟩
    c_MAX_SIZE := ⟨_, PySem.W.mg_of X G g_MAX_SIZE⟩
    c_MAX_WIDTH := ⟨_, PySem.W.mg_of X G g_MAX_WIDTH⟩
  }
  exact ⟨T.law.fd, fun s v => .of_eq rfl, fun base _ _ => law_of (ok_law T)⟩
end
end DL
open PySem PySem.W PyProof.Rows
set_option maxHeartbeats 0 in
theorem PySem.Challenge.cw_flexrow_k05_whole_shares_and_bends_holds : PySem.Challenge.rw_flexrow_k05_whole_shares_and_bends.Holds := by
  w_on; o_law; k_head; (case hw => w_witness2)
  k_fill
  refine L2.walk_of (l := PySem.Challenge.rw_flexrow_k05_whole_shares_and_bends) (n := 63) (k := 11) (x := "script") (CX := fun _ => L2.CX0) (sp := fun w => DL.spLaw _) rfl (by decide) rfl ⟨rfl, by decide, by decide⟩ (fun w h Y => PySem.W.kIn_of Y) ?F (fun _ _ a ns hl _ hS => ⟨a, ns, rfl, hS, hl, fun _ => rfl⟩) (fun _ _ _ _ _ h => h)
  case F =>
    intro w mg fa h KX G hmg
    refine' DL.all_mk KX G hmg ?a0 ?l0 ?c0 ?k0 ?a1 ?l1 ?c1 ?k1 ?a2 ?l2 ?c2 ?k2 ?a3 ?l3 ?c3 ?k3 ?a4 ?l4 ?c4 ?k4 ?a5 ?l5 ?c5 ?k5 ?a6 ?l6 ?c6 ?k6 ?a7 ?l7 ?c7 ?k7 ?a8 ?l8 ?c8 ?k8 ?a9 ?l9 ?c9 ?k9 ?a10 ?l10 ?c10 ?k10 ?a11 ?l11 ?c11 ?k11 ?a12 ?l12 ?c12 ?k12 ?a13 ?l13 ?c13 ?k13 ?a14 ?l14 ?c14 ?k14 ?a15 ?l15 ?c15 ?k15 ?a16 ?l16 ?c16 ?k16 ?a17 ?l17 ?c17 ?k17 ?a18 ?l18 ?c18 ?k18 ?a19 ?l19 ?c19 ?k19 ?a20 ?l20 ?c20 ?k20 ?a21 ?l21 ?c21 ?k21 ?a22 ?l22 ?c22 ?k22 ?a23 ?l23 ?c23 ?k23 ?a24 ?l24 ?c24 ?k24 ?a25 ?l25 ?c25 ?k25 ?a26 ?l26 ?c26 ?k26 ?a27 ?l27 ?c27 ?k27 ?a28 ?l28 ?c28 ?k28 ?a29 ?l29 ?c29 ?k29 ?a30 ?l30 ?c30 ?k30 ?a31 ?l31 ?c31 ?k31 ?a32 ?l32 ?c32 ?k32 ?a33 ?l33 ?c33 ?k33 ?a34 ?l34 ?c34 ?k34 ?a35 ?l35 ?c35 ?k35 ?a36 ?l36 ?c36 ?k36 ?a37 ?l37 ?c37 ?k37 ?a38 ?l38 ?c38 ?k38 ?a39 ?l39 ?c39 ?k39 ?z_abs ?z_all ?z_bool ?z_enumerate ?z_int ?z_isinstance ?z_len ?z_list ?z_max ?z_min ?z_range ?z_str ?z_sum ?z_tuple ?z_zip ?g_MAX_FACTOR ?g_MAX_PANELS ?g_MAX_SIZE ?g_MAX_WIDTH
    (case a0 => k_is)
    (case l0 => k_is)
    (case c0 => k_is)
    (case k0 => k_is)
    (case a1 => k_is)
    (case l1 => k_is)
    (case c1 => k_is)
    (case k1 => k_is)
    (case a2 => k_is)
    (case l2 => k_is)
    (case c2 => k_is)
    (case k2 => k_is)
    (case a3 => k_is)
    (case l3 => k_is)
    (case c3 => k_is)
    (case k3 => k_is)
    (case a4 => k_is)
    (case l4 => k_is)
    (case c4 => k_is)
    (case k4 => k_is)
    (case a5 => k_is)
    (case l5 => k_is)
    (case c5 => k_is)
    (case k5 => k_is)
    (case a6 => k_is)
    (case l6 => k_is)
    (case c6 => k_is)
    (case k6 => k_is)
    (case a7 => k_is)
    (case l7 => k_is)
    (case c7 => k_is)
    (case k7 => k_is)
    (case a8 => k_is)
    (case l8 => k_is)
    (case c8 => k_is)
    (case k8 => k_is)
    (case a9 => k_is)
    (case l9 => k_is)
    (case c9 => k_is)
    (case k9 => k_is)
    (case a10 => k_is)
    (case l10 => k_is)
    (case c10 => k_is)
    (case k10 => k_is)
    (case a11 => k_is)
    (case l11 => k_is)
    (case c11 => k_is)
    (case k11 => k_is)
    (case a12 => k_is)
    (case l12 => k_is)
    (case c12 => k_is)
    (case k12 => k_is)
    (case a13 => k_is)
    (case l13 => k_is)
    (case c13 => k_is)
    (case k13 => k_is)
    (case a14 => k_is)
    (case l14 => k_is)
    (case c14 => k_is)
    (case k14 => k_is)
    (case a15 => k_is)
    (case l15 => k_is)
    (case c15 => k_is)
    (case k15 => k_is)
    (case a16 => k_is)
    (case l16 => k_is)
    (case c16 => k_is)
    (case k16 => k_is)
    (case a17 => k_is)
    (case l17 => k_is)
    (case c17 => k_is)
    (case k17 => k_is)
    (case a18 => k_is)
    (case l18 => k_is)
    (case c18 => k_is)
    (case k18 => k_is)
    (case a19 => k_is)
    (case l19 => k_is)
    (case c19 => k_is)
    (case k19 => k_is)
    (case a20 => k_is)
    (case l20 => k_is)
    (case c20 => k_is)
    (case k20 => k_is)
    (case a21 => k_is)
    (case l21 => k_is)
    (case c21 => k_is)
    (case k21 => k_is)
    (case a22 => k_is)
    (case l22 => k_is)
    (case c22 => k_is)
    (case k22 => k_is)
    (case a23 => k_is)
    (case l23 => k_is)
    (case c23 => k_is)
    (case k23 => k_is)
    (case a24 => k_is)
    (case l24 => k_is)
    (case c24 => k_is)
    (case k24 => k_is)
    (case a25 => k_is)
    (case l25 => k_is)
    (case c25 => k_is)
    (case k25 => k_is)
    (case a26 => k_is)
    (case l26 => k_is)
    (case c26 => k_is)
    (case k26 => k_is)
    (case a27 => k_is)
    (case l27 => k_is)
    (case c27 => k_is)
    (case k27 => k_is)
    (case a28 => k_is)
    (case l28 => k_is)
    (case c28 => k_is)
    (case k28 => k_is)
    (case a29 => k_is)
    (case l29 => k_is)
    (case c29 => k_is)
    (case k29 => k_is)
    (case a30 => k_is)
    (case l30 => k_is)
    (case c30 => k_is)
    (case k30 => k_is)
    (case a31 => k_is)
    (case l31 => k_is)
    (case c31 => k_is)
    (case k31 => k_is)
    (case a32 => k_is)
    (case l32 => k_is)
    (case c32 => k_is)
    (case k32 => k_is)
    (case a33 => k_is)
    (case l33 => k_is)
    (case c33 => k_is)
    (case k33 => k_is)
    (case a34 => k_is)
    (case l34 => k_is)
    (case c34 => k_is)
    (case k34 => k_is)
    (case a35 => k_is)
    (case l35 => k_is)
    (case c35 => k_is)
    (case k35 => k_is)
    (case a36 => k_is)
    (case l36 => k_is)
    (case c36 => k_is)
    (case k36 => k_is)
    (case a37 => k_is)
    (case l37 => k_is)
    (case c37 => k_is)
    (case k37 => k_is)
    (case a38 => k_is)
    (case l38 => k_is)
    (case c38 => k_is)
    (case k38 => k_is)
    (case a39 => k_is)
    (case l39 => k_is)
    (case c39 => k_is)
    (case k39 => k_is)
    (case z_abs => k_is)
    (case z_all => k_is)
    (case z_bool => k_is)
    (case z_enumerate => k_is)
    (case z_int => k_is)
    (case z_isinstance => k_is)
    (case z_len => k_is)
    (case z_list => k_is)
    (case z_max => k_is)
    (case z_min => k_is)
    (case z_range => k_is)
    (case z_str => k_is)
    (case z_sum => k_is)
    (case z_tuple => k_is)
    (case z_zip => k_is)
    (case g_MAX_FACTOR => k_is)
    (case g_MAX_PANELS => k_is)
    (case g_MAX_SIZE => k_is)
    (case g_MAX_WIDTH => k_is)
