import PyProof.Rows.All
import Wide.All
import OpenK.AllK
import Wide.FinOn
import HandS.Conv
import HandS.Deep
import HandS.DictComp
import HandS.Flow
import HandS.ForMost
import HandS.IsInst
import HandS.Iter
import HandS.More
import HandS.RaiseMore
import HandS.Small
import HandS.SortInts
import HandS.Style
import HandS.TupAny
import HandS.TupMul
import HandS.Walk
import HandS.Zip
import KE.DataMinMax
import KE.GoesEnum
import KE.SortData
import PyProof.ReprRoads
import PySem.Challenge.RW_workhall_k74_whole_offers_apart
set_option Elab.async false
set_option linter.all false
set_option maxRecDepth 100000
set_option maxHeartbeats 1000000
/-! # Data as a whole: D, how the heap holds it (rep), steps of the heap (Stp), the slots' words (relE) -/
namespace Z
open PySem L2

/-- data of Python without addresses; o: held by one owner, may be changed -/
inductive D where
  | non | bl (b : Bool) | int (i : Int) | str (s : Str) | gl (x : Str)
  | tup (l : List D)
  | lst (o : Bool) (l : List D)
  | dk (o : Bool) (ks : List Key) (ds : List D)
  | dt (o : Bool) (ks : List (List Key)) (ds : List D)
  | ob (o : Bool) (c : Str) (fs : List Str) (ds : List D)
  | scr (ns : List Int)
  | ty (n : String)

/-- what is fixed: the written part, the module's names -/
structure RC where
  K : PySem.W.Frag
  mg : Str → Option Value

/-- how often an address is held -/
abbrev Fp := Addr → Nat
def f0 : Fp := fun _ => 0
def f1 (a : Addr) : Fp := fun x => if x = a then 1 else 0
def fadd (F G : Fp) : Fp := fun x => F x + G x
theorem f0_at (a : Addr) : f0 a = 0 := rfl
theorem fadd_at (F G : Fp) (a : Addr) : fadd F G a = F a + G a := rfl
theorem f1_same (a : Addr) : f1 a a = 1 := by simp [f1]
theorem f1_at (a b : Addr) : f1 a b = if b = a then 1 else 0 := rfl
theorem fadd_f0 (F : Fp) : fadd F f0 = F := by funext x; simp [fadd, f0]
theorem f0_fadd (F : Fp) : fadd f0 F = F := by funext x; simp [fadd, f0]
theorem fadd_comm (F G : Fp) : fadd F G = fadd G F := by funext x; simp [fadd]; omega
theorem fadd_assoc (F G K : Fp) : fadd (fadd F G) K = fadd F (fadd G K) := by funext x; simp [fadd]; omega

def Ext (H H' : Hp) : Prop := ∀ a o, H a = some o → H' a = some o
theorem Ext.refl (H : Hp) : Ext H H := fun _ _ h => h
theorem Ext.trans {H H1 H2 : Hp} (a : Ext H H1) (b : Ext H1 H2) : Ext H H2 := fun x o h => b x o (a x o h)
theorem Ext.rd {H H' : Hp} {a : Addr} {u : HO} (e : Ext H H') (h : Rd H a u) : Rd H' a u := by
  rcases h with h | ⟨o, h⟩
  · exact .inl (e a _ h)
  · exact .inr ⟨o, e a _ h⟩

/-- a list is met plain; other things may be locked by a walk -/
def Rq (H : Hp) (a : Addr) (u : HO) : Prop := match u with
  | .lst _ => H a = some u
  | .ins _ _ _ => H a = some u
  | _ => Rd H a u
theorem Rq.rd {H : Hp} {a : Addr} {u : HO} (h : Rq H a u) : Rd H a u := by
  cases u <;> first | exact .inl h | exact h
theorem Rq.map {H H' : Hp} {a : Addr} {u : HO} (h : Rq H a u) (f : ∀ o, H a = some o → H' a = some o) : Rq H' a u := by
  have g : Rd H a u → Rd H' a u := fun h => h.elim (fun z => .inl (f _ z)) fun ⟨o, z⟩ => .inr ⟨o, f _ z⟩
  cases u <;> first | exact f _ h | exact g h
theorem Rq.some {H : Hp} {a : Addr} {u : HO} (h : Rq H a u) : ∃ o, H a = some o := by
  rcases h.rd with z | ⟨o, z⟩
  · exact ⟨_, z⟩
  · exact ⟨_, z⟩
theorem Rq.of {H : Hp} {a : Addr} {u : HO} (h : H a = Option.some u) : Rq H a u := by
  cases u <;> first | exact h | exact .inl h
/-- the object at a is u: held (o) or frozen -/
def Hold (S H : Hp) (o : Bool) (a : Addr) (u : HO) (F F' : Fp) : Prop :=
  match o with
  | true => H a = some u ∧ S a = none ∧ F = fadd (f1 a) F'
  | false => Rq S a u ∧ F' = f0 ∧ F = f0

mutual
def rep (R : RC) (S H : Hp) : D → V → Fp → Prop
  | .non, v, F => v = .non ∧ F = f0
  | .bl b, v, F => v = .bl b ∧ F = f0
  | .int i, v, F => v = .int i ∧ F = f0
  | .str s, v, F => v = .str s ∧ F = f0
  | .ty s, v, F => v = .ty s ∧ F = f0
  | .gl x, v, F => (∃ u, R.mg x = some u ∧ RelV v u) ∧ F = f0
  | .tup l, v, F => ∃ a vs, v = .ref a ∧ SqT R.K H a vs ∧ reps R S H l vs F
  | .lst o l, v, F => ∃ a vs F', v = .ref a ∧ Hold S H o a (.lst vs) F F' ∧ reps R S H l vs F'
  | .dk o ks ds, v, F => ∃ a kvs F', v = .ref a ∧ Hold S H o a (.dK kvs) F F' ∧ kvs.map (·.1) = ks ∧ reps R S H ds (kvs.map (·.2)) F'
  | .dt o ks ds, v, F => ∃ a kvs F', v = .ref a ∧ Hold S H o a (.dT kvs) F F' ∧ kvs.map (·.1) = ks ∧ reps R S H ds (kvs.map (·.2)) F'
  | .ob o c fs ds, v, F => ∃ a C dx kvs F', v = .ref a ∧ R.mg c = some (.ref C) ∧ Hold S H o a (.ins C dx kvs) F F' ∧ kvs.map (·.1) = fs ∧ reps R S H ds (kvs.map (·.2)) F'
  | .scr ns, v, F => (∃ a, v = .ref a ∧ SqL R.K S a (ns.map V.int)) ∧ F = f0
def reps (R : RC) (S H : Hp) : List D → List V → Fp → Prop
  | [], vs, F => vs = [] ∧ F = f0
  | d :: l, vs, F => ∃ v vr F1 F2, vs = v :: vr ∧ rep R S H d v F1 ∧ reps R S H l vr F2 ∧ F = fadd F1 F2
end

/-- a step of the heap: what is frozen stays, what F does not hold stays, what F' holds is held by F or new -/
structure Stp (S H : Hp) (F : Fp) (S' H' : Hp) (F' : Fp) : Prop where
  es : Ext S S'
  sh : Ext S' H'
  kp : ∀ a o, H a = some o → (F a = 0 ∨ ¬ Mut (some o)) → H' a = some o
  ft : ∀ a, 0 < F' a → 0 < F a ∨ H a = none
  st : ∀ a o, S' a = some o → S a = some o ∨ 0 < F a ∨ H a = none

theorem Stp.refl {S H : Hp} {F : Fp} (e : Ext S H) : Stp S H F S H F :=
  ⟨Ext.refl S, e, fun _ _ h _ => h, fun _ h => .inl h, fun _ _ h => .inl h⟩
theorem Stp.refl0 {S H : Hp} (e : Ext S H) : Stp S H f0 S H f0 := Stp.refl e
/-- pure steps keep all -/
theorem Stp.ext {S H S' H' : Hp} {F' : Fp} (t : Stp S H f0 S' H' F') : Ext H H' := fun a o h => t.kp a o h (.inl rfl)
theorem Stp.trans {S H S1 H1 S2 H2 : Hp} {F F1 F2 : Fp} (a : Stp S H F S1 H1 F1) (b : Stp S1 H1 F1 S2 H2 F2) : Stp S H F S2 H2 F2 := by
  refine ⟨a.es.trans b.es, b.sh, fun x o h hf => ?_, fun x hx => ?_, fun x o h => ?_⟩
  · refine b.kp x o (a.kp x o h hf) ?_
    rcases hf with hf | hf
    · refine .inl ?_
      rcases Nat.eq_zero_or_pos (F1 x) with z | z
      · exact z
      · rcases a.ft x z with q | q
        · omega
        · rw [h] at q; cases q
    · exact .inr hf
  · rcases b.ft x hx with q | q
    · exact a.ft x q
    · cases e : H x with
      | none => exact .inr rfl
      | some o =>
        rcases Nat.eq_zero_or_pos (F x) with z | z
        · have := a.kp x o e (.inl z); rw [q] at this; cases this
        · exact .inl z
  · rcases b.st x o h with q | q | q
    · exact a.st x o q
    · rcases a.ft x q with z | z
      · exact .inr (.inl z)
      · exact .inr (.inr z)
    · cases e : H x with
      | none => exact .inr (.inr rfl)
      | some u =>
        rcases Nat.eq_zero_or_pos (F x) with z | z
        · have := a.kp x u e (.inl z); rw [q] at this; cases this
        · exact .inr (.inl z)
/-- more is held than needed -/
theorem Stp.weak {S H S' H' : Hp} {F F' G : Fp} (t : Stp S H F S' H' F') (h : ∀ a, 0 < F a → 0 < G a) : Stp S H G S' H' F' :=
  ⟨t.es, t.sh, fun x o e hf => t.kp x o e (hf.elim (fun z => .inl (by rcases Nat.eq_zero_or_pos (F x) with q | q; exact q; have := h x q; omega)) .inr),
   fun x hx => (t.ft x hx).elim (fun z => .inl (h x z)) .inr, fun x o e => (t.st x o e).elim .inl fun q => q.elim (fun z => .inr (.inl (h x z))) fun z => .inr (.inr z)⟩
theorem Stp.less {S H S' H' : Hp} {F F' G : Fp} (t : Stp S H F S' H' F') (h : ∀ a, 0 < G a → 0 < F' a ∨ 0 < F a) : Stp S H F S' H' G :=
  ⟨t.es, t.sh, t.kp, fun x hx => (h x hx).elim (t.ft x) .inl, t.st⟩
/-- a part more is carried along -/
theorem Stp.frame {S H S' H' : Hp} {F F' : Fp} (t : Stp S H F S' H' F') (G : Fp) : Stp S H (fadd G F) S' H' (fadd G F') := by
  refine (t.weak (G := fadd G F) fun a h => by rw [fadd_at]; omega).less fun a h => ?_
  rw [fadd_at] at h ⊢
  omega

section
variable {R : RC} {S H S' H' : Hp} {F F' G G' : Fp} {d : D} {v : V} {a : Addr} {u : HO} {o : Bool}

theorem Hold.step (h : Hold S H o a u F F') (t : Stp S H G S' H' G') (hd : ∀ x, 0 < F x → G x = 0) : Hold S' H' o a u F F' := by
  cases o with
  | true =>
    obtain ⟨h1, h2, h3⟩ := h
    have ga : G a = 0 := hd a (by rw [h3, fadd_at, f1_same]; omega)
    refine ⟨t.kp a _ h1 (.inl ga), ?_, h3⟩
    cases e : S' a with
    | none => rfl
    | some q =>
      rcases t.st a q e with z | z | z
      · rw [h2] at z; cases z
      · omega
      · rw [h1] at z; cases z
  | false => exact ⟨h.1.map fun o q => t.es a o q, h.2⟩
theorem Hold.sub (h : Hold S H o a u F F') : ∀ x, 0 < F' x → 0 < F x := by
  cases o with
  | true => intro x hx; rw [h.2.2, fadd_at]; omega
  | false => intro x hx; rw [h.2.1] at hx; exact absurd hx (Nat.lt_irrefl 0)
theorem Ext.sql {K : PySem.W.Frag} {H H' : Hp} {a : Addr} {vs : List V} (e : Ext H H') (h : SqL K H a vs) : SqL K H' a vs := h.elim (fun z => .inl (e.rd z)) .inr
theorem sqt_step {K : PySem.W.Frag} {vs : List V} (h : SqT K H a vs) (t : Stp S H G S' H' G') : SqT K H' a vs := by
  rcases h with (h | ⟨ob, h⟩) | h
  · exact .inl (.inl (t.kp a _ h (.inr (fun z => z))))
  · exact .inl (.inr ⟨ob, t.kp a _ h (.inr (fun z => z))⟩)
  · exact .inr h
mutual
theorem rep_step (t : Stp S H G S' H' G') : ∀ (d : D) (v : V) (F : Fp), rep R S H d v F → (∀ x, 0 < F x → G x = 0) → rep R S' H' d v F
  | .non, _, _, h, _ => by simpa only [rep] using h
  | .bl _, _, _, h, _ => by simpa only [rep] using h
  | .int _, _, _, h, _ => by simpa only [rep] using h
  | .str _, _, _, h, _ => by simpa only [rep] using h
  | .ty _, _, _, h, _ => by simpa only [rep] using h
  | .gl _, _, _, h, _ => by simpa only [rep] using h
  | .tup l, v, F, h, hd => by
    simp only [rep] at h ⊢
    obtain ⟨a, vs, e, h1, h2⟩ := h
    exact ⟨a, vs, e, sqt_step h1 t, reps_step t l vs F h2 hd⟩
  | .lst o l, v, F, h, hd => by
    simp only [rep] at h ⊢
    obtain ⟨a, vs, F', e, h1, h2⟩ := h
    exact ⟨a, vs, F', e, h1.step t hd, reps_step t l vs F' h2 fun x hx => hd x (h1.sub x hx)⟩
  | .dk o ks ds, v, F, h, hd => by
    simp only [rep] at h ⊢
    obtain ⟨a, vs, F', e, h1, h3, h2⟩ := h
    exact ⟨a, vs, F', e, h1.step t hd, h3, reps_step t ds _ F' h2 fun x hx => hd x (h1.sub x hx)⟩
  | .dt o ks ds, v, F, h, hd => by
    simp only [rep] at h ⊢
    obtain ⟨a, vs, F', e, h1, h3, h2⟩ := h
    exact ⟨a, vs, F', e, h1.step t hd, h3, reps_step t ds _ F' h2 fun x hx => hd x (h1.sub x hx)⟩
  | .ob o c fs ds, v, F, h, hd => by
    simp only [rep] at h ⊢
    obtain ⟨a, C, dx, vs, F', e, hc, h1, h3, h2⟩ := h
    exact ⟨a, C, dx, vs, F', e, hc, h1.step t hd, h3, reps_step t ds _ F' h2 fun x hx => hd x (h1.sub x hx)⟩
  | .scr ns, v, F, h, hd => by
    simp only [rep] at h ⊢
    obtain ⟨⟨a, e, h1⟩, h2⟩ := h
    exact ⟨⟨a, e, t.es.sql h1⟩, h2⟩
theorem reps_step (t : Stp S H G S' H' G') : ∀ (l : List D) (vs : List V) (F : Fp), reps R S H l vs F → (∀ x, 0 < F x → G x = 0) → reps R S' H' l vs F
  | [], _, _, h, _ => by simpa only [reps] using h
  | d :: l, vs, F, h, hd => by
    simp only [reps] at h ⊢
    obtain ⟨v, vr, F1, F2, e, h1, h2, e2⟩ := h
    refine ⟨v, vr, F1, F2, e, rep_step t d v F1 h1 fun x hx => hd x ?_, reps_step t l vr F2 h2 fun x hx => hd x ?_, e2⟩
    · rw [e2, fadd_at]; omega
    · rw [e2, fadd_at]; omega
end
/-- what a footprint holds is there, not frozen -/
theorem Hold.dom {xs : Fp} (h : Hold S H o a u F F') (hi : ∀ x, 0 < F' x → (∃ w, H x = some w) ∧ S x = none) :
    ∀ x, 0 < F x → (∃ w, H x = some w) ∧ S x = none := by
  cases o with
  | true =>
    obtain ⟨h1, h2, h3⟩ := h
    intro x hx
    rw [h3, fadd_at, f1_at] at hx
    by_cases e : x = a
    · subst e
      exact ⟨⟨_, h1⟩, h2⟩
    · rw [if_neg e] at hx; exact hi x (by omega)
  | false => intro x hx; rw [h.2.2] at hx; exact absurd hx (Nat.lt_irrefl 0)
mutual
theorem rep_dom : ∀ (d : D) (v : V) (F : Fp), rep R S H d v F → ∀ x, 0 < F x → (∃ w, H x = some w) ∧ S x = none
  | .non, _, _, h, x, hx => by simp only [rep] at h; rw [h.2] at hx; exact absurd hx (Nat.lt_irrefl 0)
  | .bl _, _, _, h, x, hx => by simp only [rep] at h; rw [h.2] at hx; exact absurd hx (Nat.lt_irrefl 0)
  | .int _, _, _, h, x, hx => by simp only [rep] at h; rw [h.2] at hx; exact absurd hx (Nat.lt_irrefl 0)
  | .str _, _, _, h, x, hx => by simp only [rep] at h; rw [h.2] at hx; exact absurd hx (Nat.lt_irrefl 0)
  | .ty _, _, _, h, x, hx => by simp only [rep] at h; rw [h.2] at hx; exact absurd hx (Nat.lt_irrefl 0)
  | .gl _, _, _, h, x, hx => by simp only [rep] at h; rw [h.2] at hx; exact absurd hx (Nat.lt_irrefl 0)
  | .tup l, v, F, h, x, hx => by
    simp only [rep] at h
    obtain ⟨a, vs, e, h1, h2⟩ := h
    exact reps_dom l vs F h2 x hx
  | .lst o l, v, F, h, x, hx => by
    simp only [rep] at h
    obtain ⟨a, vs, F', e, h1, h2⟩ := h
    exact h1.dom (xs := f0) (fun x hx => reps_dom l vs F' h2 x hx) x hx
  | .dk o ks ds, v, F, h, x, hx => by
    simp only [rep] at h
    obtain ⟨a, vs, F', e, h1, h3, h2⟩ := h
    exact h1.dom (xs := f0) (fun x hx => reps_dom ds _ F' h2 x hx) x hx
  | .dt o ks ds, v, F, h, x, hx => by
    simp only [rep] at h
    obtain ⟨a, vs, F', e, h1, h3, h2⟩ := h
    exact h1.dom (xs := f0) (fun x hx => reps_dom ds _ F' h2 x hx) x hx
  | .ob o c fs ds, v, F, h, x, hx => by
    simp only [rep] at h
    obtain ⟨a, C, dx, vs, F', e, hc, h1, h3, h2⟩ := h
    exact h1.dom (xs := f0) (fun x hx => reps_dom ds _ F' h2 x hx) x hx
  | .scr _, _, _, h, x, hx => by simp only [rep] at h; rw [h.2] at hx; exact absurd hx (Nat.lt_irrefl 0)
theorem reps_dom : ∀ (l : List D) (vs : List V) (F : Fp), reps R S H l vs F → ∀ x, 0 < F x → (∃ w, H x = some w) ∧ S x = none
  | [], _, _, h, x, hx => by simp only [reps] at h; rw [h.2] at hx; exact absurd hx (Nat.lt_irrefl 0)
  | d :: l, vs, F, h, x, hx => by
    simp only [reps] at h
    obtain ⟨v, vr, F1, F2, e, h1, h2, e2⟩ := h
    rw [e2, fadd_at] at hx
    rcases Nat.eq_zero_or_pos (F1 x) with z | z
    · exact reps_dom l vr F2 h2 x (by omega)
    · exact rep_dom d v F1 h1 x z
end

/-! ### frozen data -/
mutual
def fz : D → D
  | .tup l => .tup (fzs l)
  | .lst _ l => .lst false (fzs l)
  | .dk _ ks ds => .dk false ks (fzs ds)
  | .dt _ ks ds => .dt false ks (fzs ds)
  | .ob _ c fs ds => .ob false c fs (fzs ds)
  | .non => .non | .bl b => .bl b | .int i => .int i | .str s => .str s | .gl x => .gl x | .scr ns => .scr ns | .ty n => .ty n
def fzs : List D → List D
  | [] => []
  | d :: l => fz d :: fzs l
end
mutual
def isFz : D → Bool
  | .tup l => isFzs l
  | .lst o l => !o && isFzs l
  | .dk o _ ds => !o && isFzs ds
  | .dt o _ ds => !o && isFzs ds
  | .ob o _ _ ds => !o && isFzs ds
  | .non => true | .bl _ => true | .int _ => true | .str _ => true | .gl _ => true | .scr _ => true | .ty _ => true
def isFzs : List D → Bool
  | [] => true
  | d :: l => isFz d && isFzs l
end
/-! no frozen list, dict or object within: nothing of it leans on what is frozen -/
mutual
def noFz : D → Bool
  | .tup l => noFzs l
  | .lst o l => o && noFzs l
  | .dk o _ ds => o && noFzs ds
  | .dt o _ ds => o && noFzs ds
  | .ob o _ _ ds => o && noFzs ds
  | .non => true | .bl _ => true | .int _ => true | .str _ => true | .gl _ => true | .scr _ => false | .ty _ => true
def noFzs : List D → Bool
  | [] => true
  | d :: l => noFz d && noFzs l
end
theorem fadd_zero (h : fadd F G = f0) : F = f0 ∧ G = f0 := by
  constructor <;> funext x <;> have := congrFun h x <;> simp only [fadd, f0] at * <;> omega
mutual
theorem isFz_f0 : ∀ (d : D) (v : V) (F : Fp), rep R S H d v F → isFz d = true → F = f0
  | .non, _, _, h, _ => by simp only [rep] at h; exact h.2
  | .bl _, _, _, h, _ => by simp only [rep] at h; exact h.2
  | .int _, _, _, h, _ => by simp only [rep] at h; exact h.2
  | .str _, _, _, h, _ => by simp only [rep] at h; exact h.2
  | .ty _, _, _, h, _ => by simp only [rep] at h; exact h.2
  | .gl _, _, _, h, _ => by simp only [rep] at h; exact h.2
  | .tup l, v, F, h, q => by
    simp only [rep] at h; simp only [isFz] at q
    obtain ⟨a, vs, e, h1, h2⟩ := h
    exact isFzs_f0 l vs F h2 q
  | .lst o l, v, F, h, q => by
    simp only [rep] at h; simp only [isFz, Bool.and_eq_true, Bool.not_eq_true'] at q
    obtain ⟨a, vs, F', e, h1, h2⟩ := h
    rw [q.1] at h1; exact h1.2.2
  | .dk o ks ds, v, F, h, q => by
    simp only [rep] at h; simp only [isFz, Bool.and_eq_true, Bool.not_eq_true'] at q
    obtain ⟨a, vs, F', e, h1, h3, h2⟩ := h
    rw [q.1] at h1; exact h1.2.2
  | .dt o ks ds, v, F, h, q => by
    simp only [rep] at h; simp only [isFz, Bool.and_eq_true, Bool.not_eq_true'] at q
    obtain ⟨a, vs, F', e, h1, h3, h2⟩ := h
    rw [q.1] at h1; exact h1.2.2
  | .ob o c fs ds, v, F, h, q => by
    simp only [rep] at h; simp only [isFz, Bool.and_eq_true, Bool.not_eq_true'] at q
    obtain ⟨a, C, dx, vs, F', e, hc, h1, h3, h2⟩ := h
    rw [q.1] at h1; exact h1.2.2
  | .scr _, _, _, h, _ => by simp only [rep] at h; exact h.2
theorem isFzs_f0 : ∀ (l : List D) (vs : List V) (F : Fp), reps R S H l vs F → isFzs l = true → F = f0
  | [], _, _, h, _ => by simp only [reps] at h; exact h.2
  | d :: l, vs, F, h, q => by
    simp only [reps] at h; simp only [isFzs, Bool.and_eq_true] at q
    obtain ⟨v, vr, F1, F2, e, h1, h2, e2⟩ := h
    rw [e2, isFz_f0 d v F1 h1 q.1, isFzs_f0 l vr F2 h2 q.2, fadd_f0]
end
theorem Hold.fz (h : Hold S H o a u F F') (e : Ext S S') (hf : ∀ x, 0 < F x → S' x = H x) : Hold S' H false a u f0 f0 := by
  cases o with
  | true =>
    obtain ⟨h1, h2, h3⟩ := h
    have q := hf a (by rw [h3, fadd_at, f1_same]; omega)
    exact ⟨Rq.of (q.trans h1), rfl, rfl⟩
  | false => exact ⟨h.1.map fun o q => e a o q, rfl, rfl⟩
mutual
/-- freezing: what the footprint held is frozen from now on -/
theorem rep_fz (e : Ext S S') : ∀ (d : D) (v : V) (F : Fp), rep R S H d v F → (∀ x, 0 < F x → S' x = H x) → rep R S' H (fz d) v f0
  | .non, _, _, h, _ => by simp only [rep, fz] at h ⊢; exact ⟨h.1, trivial⟩
  | .bl _, _, _, h, _ => by simp only [rep, fz] at h ⊢; exact ⟨h.1, trivial⟩
  | .int _, _, _, h, _ => by simp only [rep, fz] at h ⊢; exact ⟨h.1, trivial⟩
  | .str _, _, _, h, _ => by simp only [rep, fz] at h ⊢; exact ⟨h.1, trivial⟩
  | .ty _, _, _, h, _ => by simp only [rep, fz] at h ⊢; exact ⟨h.1, trivial⟩
  | .gl _, _, _, h, _ => by simp only [rep, fz] at h ⊢; exact ⟨h.1, trivial⟩
  | .tup l, v, F, h, hd => by
    simp only [rep, fz] at h ⊢
    obtain ⟨a, vs, e', h1, h2⟩ := h
    exact ⟨a, vs, e', h1, reps_fz e l vs F h2 hd⟩
  | .lst o l, v, F, h, hd => by
    simp only [rep, fz] at h ⊢
    obtain ⟨a, vs, F', e', h1, h2⟩ := h
    exact ⟨a, vs, f0, e', h1.fz e hd, reps_fz e l vs F' h2 fun x hx => hd x (h1.sub x hx)⟩
  | .dk o ks ds, v, F, h, hd => by
    simp only [rep, fz] at h ⊢
    obtain ⟨a, vs, F', e', h1, h3, h2⟩ := h
    exact ⟨a, vs, f0, e', h1.fz e hd, h3, reps_fz e ds _ F' h2 fun x hx => hd x (h1.sub x hx)⟩
  | .dt o ks ds, v, F, h, hd => by
    simp only [rep, fz] at h ⊢
    obtain ⟨a, vs, F', e', h1, h3, h2⟩ := h
    exact ⟨a, vs, f0, e', h1.fz e hd, h3, reps_fz e ds _ F' h2 fun x hx => hd x (h1.sub x hx)⟩
  | .ob o c fs ds, v, F, h, hd => by
    simp only [rep, fz] at h ⊢
    obtain ⟨a, C, dx, vs, F', e', hc, h1, h3, h2⟩ := h
    exact ⟨a, C, dx, vs, f0, e', hc, h1.fz e hd, h3, reps_fz e ds _ F' h2 fun x hx => hd x (h1.sub x hx)⟩
  | .scr ns, v, F, h, hd => by
    simp only [rep, fz] at h ⊢
    obtain ⟨⟨a, e', h1⟩, h2⟩ := h
    exact ⟨⟨a, e', e.sql h1⟩, trivial⟩
theorem reps_fz (e : Ext S S') : ∀ (l : List D) (vs : List V) (F : Fp), reps R S H l vs F → (∀ x, 0 < F x → S' x = H x) → reps R S' H (fzs l) vs f0
  | [], _, _, h, _ => by simp only [reps, fzs] at h ⊢; exact ⟨h.1, trivial⟩
  | d :: l, vs, F, h, hd => by
    simp only [reps, fzs] at h ⊢
    obtain ⟨v, vr, F1, F2, e', h1, h2, e2⟩ := h
    refine ⟨v, vr, f0, f0, e', rep_fz e d v F1 h1 fun x hx => hd x ?_, reps_fz e l vr F2 h2 fun x hx => hd x ?_, (fadd_f0 f0).symm⟩
    · rw [e2, fadd_at]; omega
    · rw [e2, fadd_at]; omega
end
mutual
theorem fz_isFz : ∀ d : D, isFz (fz d) = true
  | .non => rfl | .bl _ => rfl | .int _ => rfl | .str _ => rfl | .gl _ => rfl | .scr _ => rfl | .ty _ => rfl
  | .tup l => by simp only [fz, isFz]; exact fzs_isFzs l
  | .lst _ l => by simp only [fz, isFz, fzs_isFzs l]; rfl
  | .dk _ _ l => by simp only [fz, isFz, fzs_isFzs l]; rfl
  | .dt _ _ l => by simp only [fz, isFz, fzs_isFzs l]; rfl
  | .ob _ _ _ l => by simp only [fz, isFz, fzs_isFzs l]; rfl
theorem fzs_isFzs : ∀ l : List D, isFzs (fzs l) = true
  | [] => rfl
  | d :: l => by simp only [fzs, isFzs, fz_isFz d, fzs_isFzs l]; rfl
end
mutual
theorem fz_id : ∀ d : D, isFz d = true → fz d = d
  | .non, _ => rfl | .bl _, _ => rfl | .int _, _ => rfl | .str _, _ => rfl | .gl _, _ => rfl | .scr _, _ => rfl | .ty _, _ => rfl
  | .tup l, q => by simp only [isFz] at q; simp only [fz, fzs_id l q]
  | .lst o l, q => by simp only [isFz, Bool.and_eq_true, Bool.not_eq_true'] at q; simp only [fz, fzs_id l q.2, q.1]
  | .dk o _ l, q => by simp only [isFz, Bool.and_eq_true, Bool.not_eq_true'] at q; simp only [fz, fzs_id l q.2, q.1]
  | .dt o _ l, q => by simp only [isFz, Bool.and_eq_true, Bool.not_eq_true'] at q; simp only [fz, fzs_id l q.2, q.1]
  | .ob o _ _ l, q => by simp only [isFz, Bool.and_eq_true, Bool.not_eq_true'] at q; simp only [fz, fzs_id l q.2, q.1]
theorem fzs_id : ∀ l : List D, isFzs l = true → fzs l = l
  | [], _ => rfl
  | d :: l, q => by simp only [isFzs, Bool.and_eq_true] at q; simp only [fzs, fz_id d q.1, fzs_id l q.2]
end
mutual
/-- data without frozen parts: another stock of frozen objects does as well -/
theorem rep_noFz {S2 : Hp} : ∀ (d : D) (v : V) (F : Fp), rep R S H d v F → noFz d = true → (∀ x, 0 < F x → S2 x = none) → rep R S2 H d v F
  | .non, _, _, h, _, _ => by simpa only [rep] using h
  | .bl _, _, _, h, _, _ => by simpa only [rep] using h
  | .int _, _, _, h, _, _ => by simpa only [rep] using h
  | .str _, _, _, h, _, _ => by simpa only [rep] using h
  | .ty _, _, _, h, _, _ => by simpa only [rep] using h
  | .gl _, _, _, h, _, _ => by simpa only [rep] using h
  | .scr _, _, _, _, q, _ => by simp only [noFz] at q; cases q
  | .tup l, v, F, h, q, hd => by
    simp only [rep] at h ⊢; simp only [noFz] at q
    obtain ⟨a, vs, e', h1, h2⟩ := h
    exact ⟨a, vs, e', h1, reps_noFz l vs F h2 q hd⟩
  | .lst o l, v, F, h, q, hd => by
    simp only [rep] at h ⊢; simp only [noFz, Bool.and_eq_true] at q
    obtain ⟨a, vs, F', e', h1, h2⟩ := h
    obtain ⟨rfl, q2⟩ := q
    exact ⟨a, vs, F', e', ⟨h1.1, hd a (by rw [h1.2.2, fadd_at, f1_same]; omega), h1.2.2⟩, reps_noFz l vs F' h2 q2 fun x hx => hd x (h1.sub x hx)⟩
  | .dk o ks ds, v, F, h, q, hd => by
    simp only [rep] at h ⊢; simp only [noFz, Bool.and_eq_true] at q
    obtain ⟨a, vs, F', e', h1, h3, h2⟩ := h
    obtain ⟨rfl, q2⟩ := q
    exact ⟨a, vs, F', e', ⟨h1.1, hd a (by rw [h1.2.2, fadd_at, f1_same]; omega), h1.2.2⟩, h3, reps_noFz ds _ F' h2 q2 fun x hx => hd x (h1.sub x hx)⟩
  | .dt o ks ds, v, F, h, q, hd => by
    simp only [rep] at h ⊢; simp only [noFz, Bool.and_eq_true] at q
    obtain ⟨a, vs, F', e', h1, h3, h2⟩ := h
    obtain ⟨rfl, q2⟩ := q
    exact ⟨a, vs, F', e', ⟨h1.1, hd a (by rw [h1.2.2, fadd_at, f1_same]; omega), h1.2.2⟩, h3, reps_noFz ds _ F' h2 q2 fun x hx => hd x (h1.sub x hx)⟩
  | .ob o c fs ds, v, F, h, q, hd => by
    simp only [rep] at h ⊢; simp only [noFz, Bool.and_eq_true] at q
    obtain ⟨a, C, dx, vs, F', e', hc, h1, h3, h2⟩ := h
    obtain ⟨rfl, q2⟩ := q
    exact ⟨a, C, dx, vs, F', e', hc, ⟨h1.1, hd a (by rw [h1.2.2, fadd_at, f1_same]; omega), h1.2.2⟩, h3, reps_noFz ds _ F' h2 q2 fun x hx => hd x (h1.sub x hx)⟩
theorem reps_noFz {S2 : Hp} : ∀ (l : List D) (vs : List V) (F : Fp), reps R S H l vs F → noFzs l = true → (∀ x, 0 < F x → S2 x = none) → reps R S2 H l vs F
  | [], _, _, h, _, _ => by simpa only [reps] using h
  | d :: l, vs, F, h, q, hd => by
    simp only [reps] at h ⊢; simp only [noFzs, Bool.and_eq_true] at q
    obtain ⟨v, vr, F1, F2, e', h1, h2, e2⟩ := h
    refine ⟨v, vr, F1, F2, e', rep_noFz d v F1 h1 q.1 fun x hx => hd x ?_, reps_noFz l vr F2 h2 q.2 fun x hx => hd x ?_, e2⟩
    · rw [e2, fadd_at]; omega
    · rw [e2, fadd_at]; omega
end
end
end Z

set_option Elab.async false
set_option linter.all false
set_option maxRecDepth 100000
set_option maxHeartbeats 1000000
/-! # The slots' words, what a piece of syntax does on data (PEb, PEf, PEv ..), first rules -/
namespace Z
open PySem L2

/-- a slot: forgotten, held (or frozen) data, data that is only looked at -/
inductive Sl where
  | no | ow (d : D) | lk (d : D)
abbrev En := List Sl

def slot (R : RC) (S H : Hp) (o : Option V) : Sl → Fp → Fp → Prop
  | .no, F, B => F = f0 ∧ B = f0
  | .ow d, F, B => (∃ v, o = some v ∧ rep R S H d v F) ∧ B = f0
  | .lk d, F, B => (∃ v, o = some v ∧ rep R S H d v B) ∧ F = f0
def relE (R : RC) (S H : Hp) : L2.St → En → Fp → Fp → Prop
  | [], [], F, B => F = f0 ∧ B = f0
  | o :: σ, s :: e, F, B => ∃ F1 B1 F2 B2, slot R S H o s F1 B1 ∧ relE R S H σ e F2 B2 ∧ F = fadd F1 F2 ∧ B = fadd B1 B2
  | _, _, _, _ => False

section
variable {R : RC} {S H S' H' : Hp} {F B G G' F' B' : Fp} {d : D} {v : V} {o : Option V} {s : Sl} {σ : L2.St} {e : En}
theorem slot.step (h : slot R S H o s F B) (t : Stp S H G S' H' G') (hd : ∀ x, 0 < F x + B x → G x = 0) : slot R S' H' o s F B := by
  cases s with
  | no => exact h
  | ow d =>
    obtain ⟨⟨v, e, r⟩, hb⟩ := h
    exact ⟨⟨v, e, rep_step t d v F r fun x hx => hd x (by omega)⟩, hb⟩
  | lk d =>
    obtain ⟨⟨v, e, r⟩, hb⟩ := h
    exact ⟨⟨v, e, rep_step t d v B r fun x hx => hd x (by omega)⟩, hb⟩
theorem relE.step : ∀ {σ : L2.St} {e : En} {F B : Fp}, relE R S H σ e F B → Stp S H G S' H' G' → (∀ x, 0 < F x + B x → G x = 0) → relE R S' H' σ e F B
  | [], [], _, _, h, _, _ => h
  | o :: σ, s :: e, F, B, h, t, hd => by
    obtain ⟨F1, B1, F2, B2, h1, h2, e1, e2⟩ := h
    refine ⟨F1, B1, F2, B2, h1.step t fun x hx => hd x ?_, h2.step t fun x hx => hd x ?_, e1, e2⟩
    · rw [e1, e2, fadd_at, fadd_at]; omega
    · rw [e1, e2, fadd_at, fadd_at]; omega
  | [], _ :: _, _, _, h, _, _ => h.elim
  | _ :: _, [], _, _, h, _, _ => h.elim
theorem relE.len : ∀ {σ : L2.St} {e : En} {F B : Fp}, relE R S H σ e F B → σ.length = e.length
  | [], [], _, _, _ => rfl
  | _ :: _, _ :: _, _, _, ⟨_, _, _, _, _, h, _, _⟩ => by rw [List.length_cons, List.length_cons, h.len]
  | [], _ :: _, _, _, h => h.elim
  | _ :: _, [], _, _, h => h.elim
/-- a slot, and the others -/
theorem relE.get : ∀ {σ : L2.St} {e : En} {F B : Fp} {i : Nat} {s : Sl}, relE R S H σ e F B → e[i]? = some s →
    ∃ o Fi Bi Fr Br, σ[i]? = some o ∧ slot R S H o s Fi Bi ∧ F = fadd Fi Fr ∧ B = fadd Bi Br ∧
      ∀ S' H' G G', Stp S H G S' H' G' → (∀ x, 0 < Fr x + Br x → G x = 0) → ∀ o' s' Fi' Bi', slot R S' H' o' s' Fi' Bi' → relE R S' H' (σ.set i o') (e.set i s') (fadd Fi' Fr) (fadd Bi' Br)
  | [], [], _, _, i, s, _, hi => by simp at hi
  | o :: σ, s0 :: e, F, B, 0, s, ⟨F1, B1, F2, B2, h1, h2, e1, e2⟩, hi => by
    simp only [List.getElem?_cons_zero, Option.some.injEq] at hi
    subst hi
    exact ⟨o, F1, B1, F2, B2, rfl, h1, e1, e2, fun S' H' G G' t hd o' s' Fi' Bi' hs => ⟨Fi', Bi', F2, B2, hs, h2.step t hd, rfl, rfl⟩⟩
  | o :: σ, s0 :: e, F, B, i + 1, s, ⟨F1, B1, F2, B2, h1, h2, e1, e2⟩, hi => by
    simp only [List.getElem?_cons_succ] at hi
    obtain ⟨o', Fi, Bi, Fr, Br, g1, g2, g3, g4, g5⟩ := h2.get hi
    refine ⟨o', Fi, Bi, fadd F1 Fr, fadd B1 Br, by simpa using g1, g2, ?_, ?_, fun S' H' G G' t hd o'' s' Fi' Bi' hs => ?_⟩
    · rw [e1, g3]; funext x; simp only [fadd_at]; omega
    · rw [e2, g4]; funext x; simp only [fadd_at]; omega
    · refine ⟨F1, B1, fadd Fi' Fr, fadd Bi' Br, h1.step t fun x hx => hd x ?_, g5 S' H' G G' t (fun x hx => hd x ?_) o'' s' Fi' Bi' hs, ?_, ?_⟩
      · simp only [fadd_at]; omega
      · simp only [fadd_at]; omega
      · funext x; simp only [fadd_at]; omega
      · funext x; simp only [fadd_at]; omega
  | [], _ :: _, _, _, _, _, h, _ => h.elim
  | _ :: _, [], _, _, _, _, h, _ => h.elim
theorem slot.dom (h : slot R S H o s F B) : ∀ x, 0 < F x + B x → (∃ w, H x = some w) ∧ S x = none := by
  intro x hx
  cases s with
  | no => rw [h.1, h.2] at hx; exact absurd hx (by simp [f0])
  | ow d =>
    obtain ⟨⟨v, e, r⟩, hb⟩ := h
    rw [hb, f0_at] at hx
    exact rep_dom d v F r x (by omega)
  | lk d =>
    obtain ⟨⟨v, e, r⟩, hb⟩ := h
    rw [hb, f0_at] at hx
    exact rep_dom d v B r x (by omega)
theorem relE.dom : ∀ {σ : L2.St} {e : En} {F B : Fp}, relE R S H σ e F B → ∀ x, 0 < F x + B x → (∃ w, H x = some w) ∧ S x = none
  | [], [], _, _, h, x, hx => by rw [h.1, h.2] at hx; exact absurd hx (by simp [f0])
  | _ :: _, _ :: _, _, _, ⟨F1, B1, F2, B2, h1, h2, e1, e2⟩, x, hx => by
    rw [e1, e2, fadd_at, fadd_at] at hx
    rcases Nat.eq_zero_or_pos (F1 x + B1 x) with z | z
    · exact h2.dom x (by omega)
    · exact h1.dom x z
  | [], _ :: _, _, _, h, _, _ => h.elim
  | _ :: _, [], _, _, h, _, _ => h.elim
end

/-- where one stands: for what only looks -/
structure At0 (R : RC) (S H : Hp) (σ : L2.St) (e : En) (F B : Fp) : Prop where
  sh : Ext S H
  re : relE R S H σ e F B
/-- .. for what may change -/
structure At (R : RC) (S H : Hp) (σ : L2.St) (e : En) (F B : Fp) : Prop extends At0 R S H σ e F B where
  nd : ∀ a, F a + B a ≤ 1
  mu : ∀ a, 0 < F a → Mut (H a)
section
variable {R : RC} {S H S' H' : Hp} {F B G G' F' B' : Fp} {σ : L2.St} {e : En}
theorem At0.step (h : At0 R S H σ e F B) (t : Stp S H f0 S' H' G') : At0 R S' H' σ e F B := ⟨t.sh, h.re.step t fun _ _ => rfl⟩
theorem At.step (h : At R S H σ e F B) (t : Stp S H f0 S' H' G') : At R S' H' σ e F B := ⟨h.toAt0.step t, h.nd, fun a ha => by
  obtain ⟨⟨w, q⟩, _⟩ := h.re.dom a (by omega)
  rw [t.ext a w q, ← q]; exact h.mu a ha⟩
/-- what is held is not new -/
theorem At0.old (h : At0 R S H σ e F B) {x : Addr} (hx : 0 < F x + B x) : H x ≠ none := by
  obtain ⟨⟨w, e⟩, _⟩ := h.re.dom x hx
  rw [e]; exact fun z => nomatch z
theorem Stp.zero {S H S' H' : Hp} {F F' : Fp} (t : Stp S H F S' H' F') : Stp S H F S' H' f0 := t.less fun _ h => absurd h (Nat.lt_irrefl 0)
/-- a new footprint beside the old -/
theorem At.new (h : At R S H σ e F B) {Fv : Fp} (t : Stp S H f0 S' H' Fv) (n : ∀ a, Fv a ≤ 1) : ∀ a, Fv a + F a + B a ≤ 1 := by
  intro a
  rcases Nat.eq_zero_or_pos (Fv a) with z | z
  · have := h.nd a; omega
  · have q : F a + B a = 0 := by
      rcases Nat.eq_zero_or_pos (F a + B a) with y | y
      · exact y
      · rcases t.ft a z with w | w
        · exact absurd w (Nat.lt_irrefl 0)
        · exact absurd w (h.old y)
    have := n a; omega
theorem Stp.beside (t : Stp S H f0 S' H' F') (F : Fp) : Stp S H F S' H' (fadd F' F) := by
  have := t.frame F
  rw [fadd_f0] at this
  rw [fadd_comm]
  exact this
end

/-- held once, changeable -/
def Muf (H : Hp) (F : Fp) : Prop := ∀ a, 0 < F a → Mut (H a)
def Okf (H : Hp) (F : Fp) : Prop := ∀ a, F a ≤ 1 ∧ (0 < F a → Mut (H a))
theorem Okf.zero {H : Hp} : Okf H f0 := fun _ => ⟨Nat.zero_le _, fun h => absurd h (Nat.lt_irrefl 0)⟩
theorem Muf.zero {H : Hp} : Muf H f0 := fun _ h => absurd h (Nat.lt_irrefl 0)
theorem Okf.mu {H : Hp} {F : Fp} (h : Okf H F) : Muf H F := fun a => (h a).2
theorem Okf.nd {H : Hp} {F : Fp} (h : Okf H F) : ∀ a, F a ≤ 1 := fun a => (h a).1
/-- what a step does not touch stays changeable -/
theorem Muf.step {S H S' H' : Hp} {F G G' : Fp} (h : Muf H F) (t : Stp S H G S' H' G') (hd : ∀ x, 0 < F x → G x = 0) : Muf H' F := fun a ha => by
  have m := h a ha
  cases q : H a with
  | none => rw [q] at m; exact m.elim
  | some o => rw [t.kp a o q (.inl (hd a ha)), ← q]; exact m
theorem Muf.add {H : Hp} {F G : Fp} (h : Muf H F) (g : Muf H G) : Muf H (fadd F G) := fun a ha => by
  rw [fadd_at] at ha
  rcases Nat.eq_zero_or_pos (F a) with z | z
  · exact g a (by omega)
  · exact h a z

/-! ### the judgements -/
abbrev Cx.R (X : Cx) : RC := ⟨X.K, X.mg⟩
def semB (R : RC) (g : En → Option D) : TE := fun σ H Q => ∃ S e F B d, At0 R S H σ e F B ∧ g e = some d ∧
  ∀ v S' H' Fb, Stp S H f0 S' H' f0 → rep R S' H' d v Fb → (∀ a, 0 < Fb a → 0 < F a + B a ∨ H a = none) → Q v H'
def semF (R : RC) (g : En → Option D) : TE := fun σ H Q => ∃ S e F B d, At0 R S H σ e F B ∧ g e = some d ∧
  ∀ v S' H' Fb, Stp S H f0 S' H' Fb → Okf H' Fb → rep R S' H' d v Fb → Q v H'
def semV (R : RC) (f : En → Option (D × En)) : TE := fun σ H Q => ∃ S e F B d e', At R S H σ e F B ∧ f e = some (d, e') ∧
  ∀ v S' H' Fv F', Stp S H F S' H' (fadd Fv F') → At R S' H' σ e' F' B → rep R S' H' d v Fv → (∀ a, Fv a + F' a + B a ≤ 1) → Muf H' Fv → Q v H'
def semBs (R : RC) (g : En → Option (List D)) : TA := fun σ H Q => ∃ S e F B ds, At0 R S H σ e F B ∧ g e = some ds ∧
  ∀ vs S' H' Fb, Stp S H f0 S' H' f0 → reps R S' H' ds vs Fb → (∀ a, 0 < Fb a → 0 < F a + B a ∨ H a = none) → Q vs H'
def semFs (R : RC) (g : En → Option (List D)) : TA := fun σ H Q => ∃ S e F B ds, At0 R S H σ e F B ∧ g e = some ds ∧
  ∀ vs S' H' Fb, Stp S H f0 S' H' Fb → Okf H' Fb → reps R S' H' ds vs Fb → Q vs H'
def semVs (R : RC) (f : En → Option (List D × En)) : TA := fun σ H Q => ∃ S e F B ds e', At R S H σ e F B ∧ f e = some (ds, e') ∧
  ∀ vs S' H' Fv F', Stp S H F S' H' (fadd Fv F') → At R S' H' σ e' F' B → reps R S' H' ds vs Fv → (∀ a, Fv a + F' a + B a ≤ 1) → Muf H' Fv → Q vs H'
def semT (R : RC) (g : En → Option Bool) : TT := fun σ H Q => ∃ S e F B b, At0 R S H σ e F B ∧ g e = some b ∧
  ∀ S' H', Stp S H f0 S' H' f0 → Q b H'
def semTV (R : RC) (f : En → Option (Bool × En)) : TT := fun σ H Q => ∃ S e F B b e', At R S H σ e F B ∧ f e = some (b, e') ∧
  ∀ S' H' F', Stp S H F S' H' F' → At R S' H' σ e' F' B → Q b H'

/-- only looks; makes new data; may change; lists of them; tests -/
def PEb (X : Cx) (x : Expr) (g : En → Option D) : Prop := PE X x (semB (Cx.R X) g)
def PEf (X : Cx) (x : Expr) (g : En → Option D) : Prop := PE X x (semF (Cx.R X) g)
def PEv (X : Cx) (x : Expr) (f : En → Option (D × En)) : Prop := PE X x (semV (Cx.R X) f)
def PAb (X : Cx) (xs : List Expr) (g : En → Option (List D)) : Prop := PA X xs (semBs (Cx.R X) g)
def PAf (X : Cx) (xs : List Expr) (g : En → Option (List D)) : Prop := PA X xs (semFs (Cx.R X) g)
def PAv (X : Cx) (xs : List Expr) (f : En → Option (List D × En)) : Prop := PA X xs (semVs (Cx.R X) f)
def PTb (X : Cx) (x : Expr) (g : En → Option Bool) : Prop := PT X x (semT (Cx.R X) g)
def PTv (X : Cx) (x : Expr) (f : En → Option (Bool × En)) : Prop := PT X x (semTV (Cx.R X) f)
/-- a weaker reading -/
theorem pe_imp {X : Cx} {x : Expr} {t u : TE} (h : PE X x t) (q : ∀ σ H Q, u σ H Q → t σ H Q) : PE X x u := ⟨fun pins s σ H Q I w => h.run pins s σ H Q I (q σ H Q w)⟩
theorem pa_imp {X : Cx} {x : List Expr} {t u : TA} (h : PA X x t) (q : ∀ σ H Q, u σ H Q → t σ H Q) : PA X x u := ⟨fun pos pins s σ H Q I w => h.run pos pins s σ H Q I (q σ H Q w)⟩
theorem pt_imp {X : Cx} {x : Expr} {t u : TT} (h : PT X x t) (q : ∀ σ H Q, u σ H Q → t σ H Q) : PT X x u := ⟨fun pins s σ H Q I w => h.run pins s σ H Q I (q σ H Q w)⟩
theorem ps_imp {X : Cx} {x : Stmt} {t u : TS} (h : PS X x t) (q : ∀ D σ H, u D σ H → t D σ H) : PS X x u := ⟨fun pins s σ H D I w => h.run pins s σ H D I (q D σ H w)⟩

section
variable {X : Cx} {x y : Expr} {g g' : En → Option D} {f f' : En → Option (D × En)} {pos : Pos}
theorem b_of_f (h : PEf X x g) : PEb X x g := pe_imp h fun σ H Q ⟨S, e, F, B, d, a, hg, k⟩ => ⟨S, e, F, B, d, a, hg, fun v S' H' Fb t _ r => k v S' H' Fb t.zero r fun a ha => .inr ((t.ft a ha).elim (fun z => absurd z (Nat.lt_irrefl 0)) id)⟩
/-- what is frozen through and through may be kept -/
def eFz (g : En → Option D) (e : En) : Option D := match g e with
  | some d => if isFz d = true then some d else none
  | none => none
theorem f_of_b (h : PEb X x g) : PEf X x (eFz g) := pe_imp h fun σ H Q ⟨S, e, F, B, d, a, hg, k⟩ => by
  unfold eFz at hg
  cases q : g e with
  | none => rw [q] at hg; cases hg
  | some d' =>
    rw [q] at hg
    simp only at hg
    split at hg
    · cases hg
      rename_i z
      refine ⟨S, e, F, B, d, a, q, fun v S' H' Fb t r _ => ?_⟩
      have w := isFz_f0 d v Fb r z
      subst w
      exact k v S' H' f0 t .zero r
    · cases hg
def vOf (g : En → Option D) (e : En) : Option (D × En) := match g e with
  | some d => some (d, e)
  | none => none
theorem vOf_some {e e' : En} {d : D} (h : vOf g e = some (d, e')) : g e = some d ∧ e' = e := by
  unfold vOf at h
  cases q : g e with
  | none => rw [q] at h; cases h
  | some d' => rw [q] at h; simp only [Option.some.injEq, Prod.mk.injEq] at h; exact ⟨by rw [h.1], h.2.symm⟩
theorem v_of_f (h : PEf X x g) : PEv X x (vOf g) := pe_imp h fun σ H Q ⟨S, e, F, B, d, e', a, hg, k⟩ => by
  obtain ⟨hg, rfl⟩ := vOf_some hg
  exact ⟨S, e', F, B, d, a.toAt0, hg, fun v S' H' Fb t n r => k v S' H' Fb F (t.beside F) (a.step t) r (a.new t n.nd) n.mu⟩

/-! names and constants -/
def eVar (i : Nat) (e : En) : Option D := match e[i]? with
  | some (.ow d) => some d
  | some (.lk d) => some d
  | _ => none
theorem b_var {i : Nat} {n : Str} (hN : X.N[i]? = some n) (hv : Vis X.env.scope n) (hd : (n == ("__debug__" : Str)) = false := by decide) (hcd : (n == ("__classdict__" : Str)) = false := by decide) : PEb X (.Name n pos) (eVar i) :=
  pe_imp (pe_var hN hv hd hcd) fun σ H Q ⟨S, e, F, B, d, a, hg, k⟩ => by
    unfold eVar at hg
    cases q : e[i]? with
    | none => rw [q] at hg; cases hg
    | some s =>
      rw [q] at hg
      obtain ⟨o, Fi, Bi, Fr, Br, g1, g2, g3, g4, g5⟩ := a.re.get q
      cases s with
      | no => cases hg
      | ow d' =>
        cases hg
        obtain ⟨⟨v, rfl, r⟩, hb⟩ := g2
        exact ⟨v, g1, k v S H Fi (.refl0 a.sh) r fun x hx => .inl (by rw [g3, fadd_at]; omega)⟩
      | lk d' =>
        cases hg
        obtain ⟨⟨v, rfl, r⟩, hb⟩ := g2
        exact ⟨v, g1, k v S H Bi (.refl0 a.sh) r fun x hx => .inl (by rw [g4, fadd_at]; omega)⟩
/-- a name's data handed on: the slot is forgotten -/
def vMove (i : Nat) (e : En) : Option (D × En) := match e[i]? with
  | some (.ow d) => some (d, e.set i .no)
  | _ => none
theorem v_move {i : Nat} {n : Str} (hN : X.N[i]? = some n) (hv : Vis X.env.scope n) (hd : (n == ("__debug__" : Str)) = false := by decide) (hcd : (n == ("__classdict__" : Str)) = false := by decide) : PEv X (.Name n pos) (vMove i) :=
  pe_imp (pe_var hN hv hd hcd) fun σ H Q ⟨S, e, F, B, d, e', a, hg, k⟩ => by
    unfold vMove at hg
    cases q : e[i]? with
    | none => rw [q] at hg; cases hg
    | some s =>
      rw [q] at hg
      obtain ⟨o, Fi, Bi, Fr, Br, g1, g2, g3, g4, g5⟩ := a.re.get q
      cases s with
      | no => cases hg
      | lk d' => cases hg
      | ow d' =>
        cases hg
        obtain ⟨⟨v, rfl, r⟩, hb⟩ := g2
        have re := g5 S H f0 f0 (.refl0 a.sh) (fun _ _ => rfl) (some v) .no f0 f0 ⟨rfl, rfl⟩
        have hσ : σ.set i (some v) = σ := by
          apply List.ext_getElem?
          intro j
          by_cases hj : i = j
          · subst hj
            rw [List.getElem?_set_self (List.getElem?_eq_some_iff.mp g1).1, g1]
          · rw [List.getElem?_set_ne hj]
        rw [hσ, f0_fadd, f0_fadd] at re
        rw [hb, f0_fadd] at g4
        subst g4
        refine ⟨v, g1, k v S H Fi Fr ?_ ⟨⟨a.sh, re⟩, fun x => ?_, fun x hx => a.mu x (by rw [g3, fadd_at]; omega)⟩ r (fun x => ?_) fun x hx => a.mu x (by rw [g3, fadd_at]; omega)⟩
        · rw [← g3]; exact .refl a.sh
        · have := a.nd x; rw [g3, fadd_at] at this; omega
        · have := a.nd x; rw [g3, fadd_at] at this; omega
/-- a name's data kept and handed on: frozen from now on -/
def vFreeze (i : Nat) (e : En) : Option (D × En) := match e[i]? with
  | some (.ow d) => some (fz d, e.set i (.ow (fz d)))
  | _ => none
/-- freezing a footprint that stands apart -/
theorem Stp.freeze {S H : Hp} {Fi : Fp} (e : Ext S H) (dom : ∀ x, 0 < Fi x → S x = none) :
    ∃ S', Stp S H Fi S' H f0 ∧ (∀ x, 0 < Fi x → S' x = H x) ∧ Ext S S' ∧ ∀ G G' : Fp, Stp S H (fadd Fi G) S' H G := by
  have E1 : Ext S (fun x => if 0 < Fi x then H x else S x) := fun x o h => by
    show (if 0 < Fi x then H x else S x) = some o
    split
    · exact e x o h
    · exact h
  refine ⟨fun x => if 0 < Fi x then H x else S x, ?_, ?_, E1, fun G _ => ?_⟩
  · refine ⟨E1, fun x o h => ?_, fun x o h _ => h, fun x h => absurd h (Nat.lt_irrefl 0), fun x o h => ?_⟩
    · change (if 0 < Fi x then H x else S x) = some o at h
      split at h
      · exact h
      · exact e x o h
    · change (if 0 < Fi x then H x else S x) = some o at h
      split at h
      · rename_i z; exact .inr (.inl z)
      · exact .inl h
  · intro x hx
    show (if 0 < Fi x then H x else S x) = H x
    rw [if_pos hx]
  · refine ⟨E1, fun x o h => ?_, fun x o h _ => h, fun x h => .inl (by rw [fadd_at]; omega), fun x o h => ?_⟩
    · change (if 0 < Fi x then H x else S x) = some o at h
      split at h
      · exact h
      · exact e x o h
    · change (if 0 < Fi x then H x else S x) = some o at h
      split at h
      · rename_i z; exact .inr (.inl (by rw [fadd_at]; omega))
      · exact .inl h
theorem v_freeze {i : Nat} {n : Str} (hN : X.N[i]? = some n) (hv : Vis X.env.scope n) (hd : (n == ("__debug__" : Str)) = false := by decide) (hcd : (n == ("__classdict__" : Str)) = false := by decide) : PEv X (.Name n pos) (vFreeze i) :=
  pe_imp (pe_var hN hv hd hcd) fun σ H Q ⟨S, e, F, B, d, e', a, hg, k⟩ => by
    unfold vFreeze at hg
    cases q : e[i]? with
    | none => rw [q] at hg; cases hg
    | some s =>
      rw [q] at hg
      obtain ⟨o, Fi, Bi, Fr, Br, g1, g2, g3, g4, g5⟩ := a.re.get q
      cases s with
      | no => cases hg
      | lk d' => cases hg
      | ow d' =>
        cases hg
        obtain ⟨⟨v, rfl, r⟩, hb⟩ := g2
        obtain ⟨S', t, hS, es, tG⟩ := Stp.freeze (Fi := Fi) a.sh fun x hx => (rep_dom d' v Fi r x hx).2
        have r' := rep_fz es d' v Fi r hS
        have re := g5 S' H Fi f0 t (fun x hx => by
          have := a.nd x; rw [g3, g4, fadd_at, fadd_at] at this; omega) (some v) (.ow (fz d')) f0 f0 ⟨⟨v, rfl, r'⟩, rfl⟩
        have hσ : σ.set i (some v) = σ := by
          apply List.ext_getElem?
          intro j
          by_cases hj : i = j
          · subst hj
            rw [List.getElem?_set_self (List.getElem?_eq_some_iff.mp g1).1, g1]
          · rw [List.getElem?_set_ne hj]
        rw [hσ, f0_fadd, f0_fadd] at re
        rw [hb, f0_fadd] at g4
        subst g4
        refine ⟨v, g1, k v S' H f0 Fr ?_ ⟨⟨t.sh, re⟩, fun x => ?_, fun x hx => a.mu x (by rw [g3, fadd_at]; omega)⟩ r' (fun x => ?_) .zero⟩
        · rw [g3, f0_fadd]; exact tG Fr f0
        · have := a.nd x; rw [g3, fadd_at] at this; omega
        · have := a.nd x; rw [g3, fadd_at] at this; rw [f0_at]; omega
def eC (d : D) (_ : En) : Option D := some d
theorem f_c {v : V} {d : D} (h : PE X x (tC v)) (r : ∀ S H, rep (Cx.R X) S H d v f0) : PEf X x (eC d) :=
  pe_imp h fun σ H Q ⟨S, e, F, B, d', a, hg, k⟩ => by
    cases hg
    exact k v S H f0 (.refl0 a.sh) .zero (r S H)
theorem f_int {i : Int} {j} : PEf X (.Constant (.int i) j pos) (eC (.int i)) := f_c pe_int fun S H => by simp only [rep]; exact ⟨trivial, trivial⟩
theorem f_bl {b : Bool} {j} : PEf X (.Constant (.bool b) j pos) (eC (.bl b)) := f_c pe_bl fun S H => by simp only [rep]; exact ⟨trivial, trivial⟩
theorem f_non {j} : PEf X (.Constant .none j pos) (eC .non) := f_c pe_non fun S H => by simp only [rep]; exact ⟨trivial, trivial⟩
theorem f_str {s : Str} {j} : PEf X (.Constant (.str s) j pos) (eC (.str s)) := f_c pe_str fun S H => by simp only [rep]; exact ⟨trivial, trivial⟩
/-- a module's constant: an int, a text -/
theorem f_gint {n : Str} {i : Int} {t : Tok} (hg : Gl X n) (hm : X.mg n = some (.int i t)) (hd : (n == ("__debug__" : Str)) = false := by decide) : PEf X (.Name n pos) (eC (.int i)) :=
  f_c (v := .int i) (pe_glob hg hm ⟨t, rfl⟩ hd) fun S H => by simp only [rep]; exact ⟨trivial, trivial⟩
theorem f_gstr {n : Str} {i : Str} {t : Tok} (hg : Gl X n) (hm : X.mg n = some (.str i t)) (hd : (n == ("__debug__" : Str)) = false := by decide) : PEf X (.Name n pos) (eC (.str i)) :=
  f_c (v := .str i) (pe_glob hg hm ⟨t, rfl⟩ hd) fun S H => by simp only [rep]; exact ⟨trivial, trivial⟩
end
end Z

set_option Elab.async false
set_option linter.all false
set_option maxRecDepth 100000
set_option maxHeartbeats 1000000
/-! # Operators, tests, displays on data -/
namespace Z
open PySem L2

def PostF (R : RC) (S H : Hp) (d : D) (Q : VK) : Prop := ∀ v S' H' Fb, Stp S H f0 S' H' Fb → Okf H' Fb → rep R S' H' d v Fb → Q v H'
theorem PostF.at {R : RC} {S H S' H' : Hp} {d : D} {Q : VK} {G : Fp} (p : PostF R S H d Q) (t : Stp S H f0 S' H' G) : PostF R S' H' d Q :=
  fun v S2 H2 Fb t2 n r => p v S2 H2 Fb (t.zero.trans t2) n r
/-- what is not there now was not there -/
theorem Stp.fresh {S H S' H' : Hp} {G : Fp} (t : Stp S H f0 S' H' G) {a : Addr} (h : H' a = none) : H a = none := by
  cases q : H a with
  | none => rfl
  | some o => have := t.ext a o q; rw [h] at this; cases this
theorem PostF.scal {R : RC} {S H : Hp} {d : D} {Q : VK} {v : V} (p : PostF R S H d Q) (e : Ext S H) (r : rep R S H d v f0) : Q v H :=
  p v S H f0 (.refl0 e) .zero r
theorem repB (R : RC) (S H : Hp) (b : Bool) : rep R S H (.bl b) (.bl b) f0 := by simp only [rep]; exact ⟨trivial, trivial⟩
theorem repI (R : RC) (S H : Hp) (b : Int) : rep R S H (.int b) (.int b) f0 := by simp only [rep]; exact ⟨trivial, trivial⟩
theorem repS (R : RC) (S H : Hp) (b : Str) : rep R S H (.str b) (.str b) f0 := by simp only [rep]; exact ⟨trivial, trivial⟩
theorem repN (R : RC) (S H : Hp) : rep R S H .non .non f0 := by simp only [rep]; exact ⟨trivial, trivial⟩

/-- a reading of two values is the data's op -/
def OpD (R : RC) (r : R2) (op : D → D → Option D) : Prop := ∀ (S H : Hp) (x y : V) (dx dy : D) (Fx Fy : Fp) (d : D) (Q : VK), Ext S H → rep R S H dx x Fx → rep R S H dy y Fy → op dx dy = some d → PostF R S H d Q → r x y H Q
def OpOk (X : Cx) (f : Value → Value → Sem Value) (op : D → D → Option D) : Prop := ∃ r, OpR X f r ∧ OpD (Cx.R X) r op
def UnD (R : RC) (r : V → Hp → VK → Prop) (op : D → Option D) : Prop := ∀ (S H : Hp) (x : V) (dx : D) (Fx : Fp) (d : D) (Q : VK), Ext S H → rep R S H dx x Fx → op dx = some d → PostF R S H d Q → r x H Q
def UnOk (X : Cx) (f : Value → Sem Value) (op : D → Option D) : Prop := ∃ r, UnR X f r ∧ UnD (Cx.R X) r op
def CaD (R : RC) (r : List V → Hp → VK → Prop) (op : List D → Option D) : Prop := ∀ (S H : Hp) (vs : List V) (ds : List D) (F : Fp) (d : D) (Q : VK), Ext S H → reps R S H ds vs F → op ds = some d → PostF R S H d Q → r vs H Q
def CaOk (X : Cx) (f : Value) (op : List D → Option D) : Prop := ∃ r, CallR X f r ∧ CaD (Cx.R X) r op
def IxOk (X : Cx) (op : D → D → Option D) : Prop := ∃ r, IxR X r ∧ OpD (Cx.R X) r op

def eOp (op : D → D → Option D) (g h : En → Option D) (e : En) : Option D := (g e).bind fun a => (h e).bind fun b => op a b
def eUn (op : D → Option D) (g : En → Option D) (e : En) : Option D := (g e).bind op
def vOp (op : D → D → Option D) (f h : En → Option (D × En)) (e : En) : Option (D × En) := (f e).bind fun p => (h p.2).bind fun q => (op p.1 q.1).bind fun d => some (d, q.2)
def vUn (op : D → Option D) (f : En → Option (D × En)) (e : En) : Option (D × En) := (f e).bind fun p => (op p.1).bind fun d => some (d, p.2)

section
variable {X : Cx} {a b : Expr} {g h : En → Option D} {f f' : En → Option (D × En)} {pos : Pos}
theorem semF_op {R : RC} {r : R2} {op : D → D → Option D} (o : OpD R r op) (σ : L2.St) (H : Hp) (Q : VK) (w : semF R (eOp op g h) σ H Q) : tOp r (semB R g) (semB R h) σ H Q := by
  obtain ⟨S, e, F, B, d, A, hg, k⟩ := w
  unfold eOp at hg
  cases q : g e with
  | none => rw [q] at hg; cases hg
  | some da =>
    rw [q] at hg
    cases q2 : h e with
    | none => rw [q2] at hg; cases hg
    | some db =>
      rw [q2] at hg
      refine ⟨S, e, F, B, da, A, q, fun v S1 H1 F1 t1 r1 o1 => ?_⟩
      refine ⟨S1, e, F, B, db, A.step t1, q2, fun u S2 H2 F2 t2 r2 o2 => ?_⟩
      exact o S2 H2 v u da db F1 F2 d Q t2.sh (rep_step t2 da v F1 r1 fun _ _ => rfl) r2 hg (PostF.at (S := S) (H := H) (fun v S' H' Fb t n r => k v S' H' Fb t n r) (t1.trans t2))
theorem semV_op {R : RC} {r : R2} {op : D → D → Option D} (o : OpD R r op) (σ : L2.St) (H : Hp) (Q : VK) (w : semV R (vOp op f f') σ H Q) : tOp r (semV R f) (semV R f') σ H Q := by
  obtain ⟨S, e, F, B, d, e2, A, hg, k⟩ := w
  unfold vOp at hg
  cases q : f e with
  | none => rw [q] at hg; cases hg
  | some p =>
    obtain ⟨da, e1⟩ := p
    rw [q] at hg
    simp only [Option.bind_some] at hg
    cases q2 : f' e1 with
    | none => rw [q2] at hg; cases hg
    | some p2 =>
      obtain ⟨db, e3⟩ := p2
      rw [q2] at hg
      simp only [Option.bind_some] at hg
      cases q3 : op da db with
      | none => rw [q3] at hg; cases hg
      | some d' =>
        rw [q3] at hg
        simp only [Option.bind_some, Option.some.injEq, Prod.mk.injEq] at hg
        obtain ⟨rfl, rfl⟩ := hg
        refine ⟨S, e, F, B, da, e1, A, q, fun v S1 H1 Fv1 F1 t1 A1 r1 n1 m1 => ?_⟩
        refine ⟨S1, e1, F1, B, db, e3, A1, q2, fun u S2 H2 Fv2 F2 t2 A2 r2 n2 m2 => ?_⟩
        have r1' := rep_step t2 da v Fv1 r1 fun x hx => by have := n1 x; omega
        have T : Stp S H F S2 H2 F2 := (t1.trans (t2.frame Fv1)).less fun x hx => .inl (by simp only [fadd_at]; omega)
        exact o S2 H2 v u da db Fv1 Fv2 d' Q A2.sh r1' r2 q3 fun z S3 H3 Fb t3 n3 r3 =>
          k z S3 H3 Fb F2 (T.trans (t3.beside F2)) (A2.step t3) r3 (A2.new t3 n3.nd) n3.mu
theorem f_op {op : Operator} {o : D → D → Option D} (ho : OpOk X (binaryOp op) o) (ha : PEb X a g) (hb : PEb X b h) : PEf X (.BinOp a op b pos) (eOp o g h) := by
  obtain ⟨r, h1, h2⟩ := ho
  exact pe_imp (pe_op h1 ha hb) (semF_op h2)
theorem v_op {op : Operator} {o : D → D → Option D} (ho : OpOk X (binaryOp op) o) (ha : PEv X a f) (hb : PEv X b f') : PEv X (.BinOp a op b pos) (vOp o f f') := by
  obtain ⟨r, h1, h2⟩ := ho
  exact pe_imp (pe_op h1 ha hb) (semV_op h2)
theorem f_cmp {op : CmpOp} {o : D → D → Option D} (ho : OpOk X (compareOp op) o) (ha : PEb X a g) (hb : PEb X b h) (hm : behindInMarks op b = false) : PEf X (.Compare a [op] [b] pos) (eOp o g h) := by
  obtain ⟨r, h1, h2⟩ := ho
  exact pe_imp (pe_cmpR h1 ha hb hm) (semF_op h2)
theorem v_cmp {op : CmpOp} {o : D → D → Option D} (ho : OpOk X (compareOp op) o) (ha : PEv X a f) (hb : PEv X b f') (hm : behindInMarks op b = false) : PEv X (.Compare a [op] [b] pos) (vOp o f f') := by
  obtain ⟨r, h1, h2⟩ := ho
  exact pe_imp (pe_cmpR h1 ha hb hm) (semV_op h2)
theorem f_ix {o : D → D → Option D} (ho : IxOk X o) (ha : PEb X a g) (hb : PEb X b h) (hs : PlainIx b := by intro _ _; rfl) : PEf X (.Subscript a b pos) (eOp o g h) := by
  obtain ⟨r, h1, h2⟩ := ho
  exact pe_imp (pe_ix h1 ha hb hs) (semF_op h2)
theorem semF_un {R : RC} {r : V → Hp → VK → Prop} {op : D → Option D} (o : UnD R r op) (σ : L2.St) (H : Hp) (Q : VK) (w : semF R (eUn op g) σ H Q) : tUn r (semB R g) σ H Q := by
  obtain ⟨S, e, F, B, d, A, hg, k⟩ := w
  unfold eUn at hg
  cases q : g e with
  | none => rw [q] at hg; cases hg
  | some da =>
    rw [q] at hg
    refine ⟨S, e, F, B, da, A, q, fun v S1 H1 F1 t1 r1 o1 => ?_⟩
    exact o S1 H1 v da F1 d Q t1.sh r1 hg (PostF.at (S := S) (H := H) (fun v S' H' Fb t n r => k v S' H' Fb t n r) t1)
theorem semV_un {R : RC} {r : V → Hp → VK → Prop} {op : D → Option D} (o : UnD R r op) (σ : L2.St) (H : Hp) (Q : VK) (w : semV R (vUn op f) σ H Q) : tUn r (semV R f) σ H Q := by
  obtain ⟨S, e, F, B, d, e2, A, hg, k⟩ := w
  unfold vUn at hg
  cases q : f e with
  | none => rw [q] at hg; cases hg
  | some p =>
    obtain ⟨da, e1⟩ := p
    rw [q] at hg
    simp only [Option.bind_some] at hg
    cases q3 : op da with
    | none => rw [q3] at hg; cases hg
    | some d' =>
      rw [q3] at hg
      simp only [Option.bind_some, Option.some.injEq, Prod.mk.injEq] at hg
      obtain ⟨rfl, rfl⟩ := hg
      refine ⟨S, e, F, B, da, e1, A, q, fun v S1 H1 Fv1 F1 t1 A1 r1 n1 m1 => ?_⟩
      exact o S1 H1 v da Fv1 d' Q A1.sh r1 q3 fun z S3 H3 Fb t3 n3 r3 =>
          k z S3 H3 Fb F1 ((t1.less fun x hx => .inl (by simp only [fadd_at]; omega)).trans (t3.beside F1)) (A1.step t3) r3 (A1.new t3 n3.nd) n3.mu
theorem f_un {op : UnaryOp} {o : D → Option D} (ho : UnOk X (unaryOp op) o) (ha : PEb X a g) : PEf X (.UnaryOp op a pos) (eUn o g) := by
  obtain ⟨r, h1, h2⟩ := ho
  exact pe_imp (pe_un h1 ha) (semF_un h2)
theorem v_un {op : UnaryOp} {o : D → Option D} (ho : UnOk X (unaryOp op) o) (ha : PEv X a f) : PEv X (.UnaryOp op a pos) (vUn o f) := by
  obtain ⟨r, h1, h2⟩ := ho
  exact pe_imp (pe_un h1 ha) (semV_un h2)
end

/-! ### argument lists -/
def esNil (_ : En) : Option (List D) := some []
def esCons (g : En → Option D) (gs : En → Option (List D)) (e : En) : Option (List D) := (g e).bind fun d => (gs e).bind fun l => some (d :: l)
def vsNil (e : En) : Option (List D × En) := some ([], e)
def vsCons (f : En → Option (D × En)) (fs : En → Option (List D × En)) (e : En) : Option (List D × En) := (f e).bind fun p => (fs p.2).bind fun q => some (p.1 :: q.1, q.2)
section
variable {X : Cx} {a : Expr} {as : List Expr} {g : En → Option D} {gs : En → Option (List D)} {f : En → Option (D × En)} {fs : En → Option (List D × En)}
theorem bs_nil : PAb X [] esNil := pa_imp pa_nil fun σ H Q ⟨S, e, F, B, ds, A, hg, k⟩ => by
  cases hg
  exact k [] S H f0 (.refl0 A.sh) (by simp only [reps]; exact ⟨trivial, trivial⟩) fun x hx => absurd hx (Nat.lt_irrefl 0)
theorem fs_nil : PAf X [] esNil := pa_imp pa_nil fun σ H Q ⟨S, e, F, B, ds, A, hg, k⟩ => by
  cases hg
  exact k [] S H f0 (.refl0 A.sh) .zero (by simp only [reps]; exact ⟨trivial, trivial⟩)
theorem vs_nil : PAv X [] vsNil := pa_imp pa_nil fun σ H Q ⟨S, e, F, B, ds, e', A, hg, k⟩ => by
  cases hg
  exact k [] S H f0 F (by rw [f0_fadd]; exact .refl A.sh) A (by simp only [reps]; exact ⟨trivial, trivial⟩) (fun x => by have := A.nd x; rw [f0_at]; omega) .zero
theorem bs_cons (ha : PEb X a g) (hr : PAb X as gs) (hs : starEach (a :: as) X.env = (false, eval a X.env) :: starEach as X.env := by rfl) : PAb X (a :: as) (esCons g gs) :=
  pa_imp (pa_cons ha hr hs) fun σ H Q ⟨S, e, F, B, ds, A, hg, k⟩ => by
    unfold esCons at hg
    cases q : g e with
    | none => rw [q] at hg; cases hg
    | some da =>
      rw [q] at hg
      cases q2 : gs e with
      | none => rw [q2] at hg; cases hg
      | some l =>
        rw [q2] at hg; cases hg
        refine ⟨S, e, F, B, da, A, q, fun v S1 H1 F1 t1 r1 o1 => ?_⟩
        refine ⟨S1, e, F, B, l, A.step t1, q2, fun vs S2 H2 F2 t2 r2 o2 => ?_⟩
        refine k (v :: vs) S2 H2 (fadd F1 F2) (t1.trans t2) ?_ fun x hx => ?_
        · simp only [reps]
          exact ⟨v, vs, F1, F2, rfl, rep_step t2 da v F1 r1 fun _ _ => rfl, r2, rfl⟩
        · rw [fadd_at] at hx
          rcases Nat.eq_zero_or_pos (F1 x) with z | z
          · exact (o2 x (by omega)).elim .inl fun w => .inr (t1.fresh w)
          · exact o1 x z
theorem fs_cons (ha : PEf X a g) (hr : PAf X as gs) (hs : starEach (a :: as) X.env = (false, eval a X.env) :: starEach as X.env := by rfl) : PAf X (a :: as) (esCons g gs) :=
  pa_imp (pa_cons ha hr hs) fun σ H Q ⟨S, e, F, B, ds, A, hg, k⟩ => by
    unfold esCons at hg
    cases q : g e with
    | none => rw [q] at hg; cases hg
    | some da =>
      rw [q] at hg
      cases q2 : gs e with
      | none => rw [q2] at hg; cases hg
      | some l =>
        rw [q2] at hg; cases hg
        refine ⟨S, e, F, B, da, A, q, fun v S1 H1 F1 t1 n1 r1 => ?_⟩
        refine ⟨S1, e, F, B, l, A.step t1, q2, fun vs S2 H2 F2 t2 n2 r2 => ?_⟩
        have T : Stp S H f0 S2 H2 (fadd F1 F2) := by
          have := t1.trans ((t2.frame F1).weak (G := F1) fun x hx => by rw [fadd_f0] at hx; exact hx)
          exact this
        refine k (v :: vs) S2 H2 (fadd F1 F2) T (fun x => ⟨?_, ((n1.mu.step t2 fun _ _ => rfl).add n2.mu) x⟩) ?_
        · rw [fadd_at]
          rcases Nat.eq_zero_or_pos (F2 x) with z | z
          · have := (n1 x).1; omega
          · have q : F1 x = 0 := by
              rcases Nat.eq_zero_or_pos (F1 x) with y | y
              · exact y
              · obtain ⟨⟨w, e1⟩, _⟩ := rep_dom da v F1 r1 x y
                rcases t2.ft x z with w' | w'
                · exact absurd w' (Nat.lt_irrefl 0)
                · rw [e1] at w'; cases w'
            have := (n2 x).1; omega
        · simp only [reps]
          exact ⟨v, vs, F1, F2, rfl, rep_step t2 da v F1 r1 fun _ _ => rfl, r2, rfl⟩
theorem vs_cons (ha : PEv X a f) (hr : PAv X as fs) (hs : starEach (a :: as) X.env = (false, eval a X.env) :: starEach as X.env := by rfl) : PAv X (a :: as) (vsCons f fs) :=
  pa_imp (pa_cons ha hr hs) fun σ H Q ⟨S, e, F, B, ds, e', A, hg, k⟩ => by
    unfold vsCons at hg
    cases q : f e with
    | none => rw [q] at hg; cases hg
    | some p =>
      obtain ⟨da, e1⟩ := p
      rw [q] at hg
      simp only [Option.bind_some] at hg
      cases q2 : fs e1 with
      | none => rw [q2] at hg; cases hg
      | some p2 =>
        obtain ⟨l, e2⟩ := p2
        rw [q2] at hg
        simp only [Option.bind_some, Option.some.injEq, Prod.mk.injEq] at hg
        obtain ⟨rfl, rfl⟩ := hg
        refine ⟨S, e, F, B, da, e1, A, q, fun v S1 H1 Fv1 F1 t1 A1 r1 n1 m1 => ?_⟩
        refine ⟨S1, e1, F1, B, l, e2, A1, q2, fun vs S2 H2 Fv2 F2 t2 A2 r2 n2 m2 => ?_⟩
        have r1' := rep_step t2 da v Fv1 r1 fun x hx => by have := n1 x; omega
        refine k (v :: vs) S2 H2 (fadd Fv1 Fv2) F2 ?_ A2 ?_ (fun x => ?_) ((m1.step t2 fun x hx => by have := n1 x; omega).add m2)
        · rw [fadd_assoc]; exact t1.trans (t2.frame Fv1)
        · simp only [reps]; exact ⟨v, vs, Fv1, Fv2, rfl, r1', r2, rfl⟩
        · rw [fadd_at]
          have h1 := n1 x
          have h2 := n2 x
          rcases Nat.eq_zero_or_pos (Fv1 x) with z | z
          · omega
          · -- what v holds is neither new nor the callee's
            obtain ⟨⟨w, e1'⟩, _⟩ := rep_dom da v Fv1 r1 x z
            have z2 : Fv2 x + F2 x = 0 := by
              rcases Nat.eq_zero_or_pos (Fv2 x + F2 x) with y | y
              · exact y
              · rcases t2.ft x (by rw [fadd_at]; exact y) with w' | w'
                · omega
                · rw [e1'] at w'; cases w'
            omega
end
end Z

set_option Elab.async false
set_option linter.all false
set_option maxRecDepth 100000
set_option maxHeartbeats 1000000
/-! # What is walked, targets, list comprehensions that only look -/
namespace Z
open PySem L2

/-- all objects of H that Fb holds, that never change or that are frozen, still stand -/
def Kept (S H : Hp) (Fb : Fp) (H2 : Hp) : Prop := ∀ x o, H x = some o → (0 < Fb x ∨ ¬ Mut (some o) ∨ S x = some o) → H2 x = some o
theorem Kept.rd {S H : Hp} {Fb : Fp} {H2 : Hp} (k : Kept S H Fb H2) {a : Addr} {u : HO} (h : Rd H a u) (f : 0 < Fb a ∨ S a ≠ none) (e : Ext S H) : Rd H2 a u := by
  have g : ∀ o, H a = some o → H2 a = some o := fun o q => k a o q (f.elim .inl fun z => .inr (.inr (by
    cases w : S a with
    | none => exact absurd w z
    | some o' => rw [e a o' w] at q; exact q)))
  rcases h with h | ⟨ob, h⟩
  · exact .inl (g _ h)
  · exact .inr ⟨ob, g _ h⟩

structure ItOk (R : RC) (J : It) (S H : Hp) (items : List D) (Fb : Fp) : Prop where
  dom : ∀ x, 0 < Fb x → (∃ w, H x = some w) ∧ S x = none
  ex : ∃ (G : Hp → Prop) (Y : Nat → Hp → V → Hp → Prop), Walk J items.length G Y ∧ (∀ H2, Kept S H Fb H2 → G H2) ∧
    ∀ i S2 H2 x H3 d, Ext S S2 → Ext S2 H2 → Kept S H Fb H2 → (∀ a, 0 < Fb a → S2 a = none) → items[i]? = some d → Y i H2 x H3 →
      Stp S2 H2 f0 S2 H3 f0 ∧ ∃ Fx, rep R S2 H3 d x Fx ∧ ∀ a, 0 < Fx a → 0 < Fb a
def semI (R : RC) (g : En → Option (List D)) : TI := fun σ H P => ∃ S e F B items, At0 R S H σ e F B ∧ g e = some items ∧
  ∀ J S' H' Fb, Stp S H f0 S' H' f0 → ItOk R J S' H' items Fb → (∀ a, 0 < Fb a → 0 < F a + B a ∨ H a = none) → P J H'
def PIb (X : Cx) (tg iter : Expr) (g : En → Option (List D)) : Prop := PI X tg iter (semI (Cx.R X) g)
theorem pi_imp {X : Cx} {tg iter : Expr} {w w' : TI} (h : PI X tg iter w) (q : ∀ σ H P, w' σ H P → w σ H P) : PI X tg iter w' := ⟨fun pins s σ H P I z => h.run pins s σ H P I (q σ H P z)⟩
theorem pi_or {X : Cx} {tg iter : Expr} {w w' : TI} (h : PI X tg iter w) (h' : PI X tg iter w') : PI X tg iter (fun σ H P => w σ H P ∨ w' σ H P) := ⟨fun pins s σ H P I z => z.elim (h.run pins s σ H P I) (h'.run pins s σ H P I)⟩

section
variable {R : RC} {S H : Hp}
/-- an item of represented data -/
theorem reps_get : ∀ {l : List D} {vs : List V} {F : Fp} {i : Nat} {d : D}, reps R S H l vs F → l[i]? = some d → ∃ v Fi, vs[i]? = some v ∧ rep R S H d v Fi ∧ ∀ a, Fi a ≤ F a
  | [], _, _, i, d, _, hi => by simp at hi
  | d0 :: l, vs, F, 0, d, h, hi => by
    simp only [reps] at h
    obtain ⟨v, vr, F1, F2, rfl, h1, h2, rfl⟩ := h
    simp only [List.getElem?_cons_zero, Option.some.injEq] at hi
    subst hi
    exact ⟨v, F1, rfl, h1, fun a => by rw [fadd_at]; omega⟩
  | d0 :: l, vs, F, i + 1, d, h, hi => by
    simp only [reps] at h
    obtain ⟨v, vr, F1, F2, rfl, h1, h2, rfl⟩ := h
    simp only [List.getElem?_cons_succ] at hi
    obtain ⟨w, Fi, g1, g2, g3⟩ := reps_get h2 hi
    exact ⟨w, Fi, by simpa using g1, g2, fun a => by have := g3 a; rw [fadd_at]; omega⟩
theorem reps_len : ∀ {l : List D} {vs : List V} {F : Fp}, reps R S H l vs F → vs.length = l.length
  | [], _, _, h => by simp only [reps] at h; rw [h.1]; rfl
  | d :: l, vs, F, h => by
    simp only [reps] at h
    obtain ⟨v, vr, F1, F2, rfl, h1, h2, rfl⟩ := h
    rw [List.length_cons, List.length_cons, reps_len h2]
theorem reps_append : ∀ {l : List D} {vs : List V} {F : Fp} {l' : List D} {vs' : List V} {F' : Fp}, reps R S H l vs F → reps R S H l' vs' F' → reps R S H (l ++ l') (vs ++ vs') (fadd F F')
  | [], _, _, l', vs', F', h, h' => by simp only [reps] at h; rw [h.1, h.2, f0_fadd]; exact h'
  | d :: l, vs, F, l', vs', F', h, h' => by
    simp only [reps] at h
    obtain ⟨v, vr, F1, F2, rfl, h1, h2, rfl⟩ := h
    show reps R S H (d :: (l ++ l')) (v :: (vr ++ vs')) _
    simp only [reps]
    exact ⟨v, vr ++ vs', F1, fadd F2 F', rfl, h1, reps_append h2 h', fadd_assoc ..⟩
theorem reps_one {d : D} {v : V} {F : Fp} (h : rep R S H d v F) : reps R S H [d] [v] F := by
  simp only [reps]
  exact ⟨v, [], F, f0, rfl, h, ⟨rfl, rfl⟩, (fadd_f0 F).symm⟩
/-- another state in which the parts are the same -/
theorem Hold.rq {o : Bool} {a : Addr} {u : HO} {F F' : Fp} (h : Hold S H o a u F F') (e : Ext S H) : Rq H a u := by
  cases o with
  | true => exact Rq.of h.1
  | false => exact h.1.map fun o q => e a o q
theorem Hold.dom0 {o : Bool} {a : Addr} {u : HO} {F F' : Fp} (h : Hold S H o a u F F') (e : Ext S H) : Rd H a u ∧ (0 < F a ∨ S a ≠ none) := by
  refine ⟨(h.rq e).rd, ?_⟩
  cases o with
  | true => exact .inl (by rw [h.2.2, fadd_at, f1_same]; omega)
  | false =>
    obtain ⟨w, q⟩ := h.1.some
    exact .inr (by rw [q]; exact fun z => nomatch z)
end

/-! a list, a tuple -/
def dItems : D → Option (List D)
  | .tup l => some l
  | .lst _ l => some l
  | _ => none
def eItems (g : En → Option D) (e : En) : Option (List D) := (g e).bind dItems
section
variable {X : Cx} {tg l : Expr} {g : En → Option D}
/-- carrying rep over to a later state that keeps its footprint -/
theorem rep_keep {R : RC} {S H S2 H2 : Hp} {Fb : Fp} (es : Ext S S2) (k : Kept S H Fb H2) (dom : ∀ a, 0 < Fb a → S2 a = none) {d : D} {v : V} {F : Fp} (h : rep R S H d v F) (hF : ∀ a, 0 < F a → 0 < Fb a) (sh : Ext S2 H2) : rep R S2 H2 d v F := by
  -- as a step that changes all but Fb
  let G : Fp := fun x => if 0 < Fb x then 0 else 1
  have hG : ∀ x, 0 < Fb x → G x = 0 := fun x hx => if_pos hx
  have T : Stp S H G S2 H2 f0 := by
    refine ⟨es, sh, fun x o q hq => ?_, fun _ z => absurd z (Nat.lt_irrefl 0), fun x o q => ?_⟩
    · refine k x o q ?_
      rcases hq with hq | hq
      · left
        rcases Nat.eq_zero_or_pos (Fb x) with z | z
        · have : G x = 1 := if_neg (by omega)
          omega
        · exact z
      · exact .inr (.inl hq)
    · by_cases hx : 0 < Fb x
      · rw [dom x hx] at q; cases q
      · exact .inr (.inl (by show 0 < (if 0 < Fb x then 0 else 1); rw [if_neg hx]; omega))
  exact rep_step T d v F h fun x hx => hG x (hF x hx)
theorem i_list (h : PEb X l g) : PIb X tg l (eItems g) := by
  refine pi_imp (pi_or (pi_list h) (pi_tup h)) fun σ H P ⟨S, e, F, B, items, A, hg, k⟩ => ?_
  unfold eItems at hg
  cases q : g e with
  | none => rw [q] at hg; cases hg
  | some d =>
    rw [q] at hg
    cases d with
    | lst o l =>
      simp only [Option.bind_some, dItems, Option.some.injEq] at hg
      subst hg
      refine .inl ⟨S, e, F, B, .lst o l, A, q, fun v S' H' Fb t r hb => ?_⟩
      have r0 := r
      simp only [rep] at r
      obtain ⟨a, vs, F', rfl, hh, hr⟩ := r
      obtain ⟨hrd, hf⟩ := hh.dom0 t.sh
      refine ⟨a, rfl, ⟨vs, .inl hrd⟩, k _ S' H' Fb t ⟨rep_dom _ _ _ r0, fun H => SqL X.K H a vs, YAt vs, ?_, ?_, ?_⟩ hb⟩
      · rw [← reps_len hr]; exact walk_list
      · exact fun H2 kk => .inl (kk.rd hrd hf t.sh)
      · rintro i S2 H2 x H3 d es sh kk dom hi ⟨rfl, hx⟩
        refine ⟨.refl0 sh, ?_⟩
        obtain ⟨v, Fi, g1, g2, g3⟩ := reps_get hr hi
        rw [hx] at g1; cases g1
        have hs : ∀ a, 0 < Fi a → 0 < Fb a := fun a ha => hh.sub a (by have := g3 a; omega)
        exact ⟨Fi, rep_keep es kk dom g2 hs sh, hs⟩
    | tup l =>
      simp only [Option.bind_some, dItems, Option.some.injEq] at hg
      subst hg
      refine .inr ⟨S, e, F, B, .tup l, A, q, fun v S' H' Fb t r hb => ?_⟩
      have r0 := r
      simp only [rep] at r
      obtain ⟨a, vs, rfl, hh, hr⟩ := r
      refine ⟨a, rfl, ⟨vs, hh⟩, k _ S' H' Fb t ⟨rep_dom _ _ _ r0, fun H => SqT X.K H a vs, YAt vs, ?_, ?_, ?_⟩ hb⟩
      · rw [← reps_len hr]; exact walk_tup
      · intro H2 kk
        rcases hh with (z | ⟨ob, z⟩) | z
        · exact .inl (.inl (kk a _ z (.inr (.inl fun m => m))))
        · exact .inl (.inr ⟨ob, kk a _ z (.inr (.inl fun m => m))⟩)
        · exact .inr z
      · rintro i S2 H2 x H3 d es sh kk dom hi ⟨rfl, hx⟩
        refine ⟨.refl0 sh, ?_⟩
        obtain ⟨v, Fi, g1, g2, g3⟩ := reps_get hr hi
        rw [hx] at g1; cases g1
        have hs : ∀ a, 0 < Fi a → 0 < Fb a := fun a ha => by have := g3 a; omega
        exact ⟨Fi, rep_keep es kk dom g2 hs sh, hs⟩
    | _ => cases hg
end

/-! ### targets of a comprehension -/
def bindSl (d : D) : Sl := if isFz d = true then .ow d else .lk d
/-- a target that binds what is only looked at -/
def semG (R : RC) (vs : List Nat) (bd : D → En → Option En) : TG := fun v σ H Q => ∃ S e F B d e' Fd, At0 R S H σ e F B ∧ rep R S H d v Fd ∧ bd d e = some e' ∧
  ∀ σ' F' B', At0 R S H σ' e' F' B' → (∀ i, i ∉ vs → σ'[i]? = σ[i]?) → σ'.length = σ.length → Q σ' H
def semGs (R : RC) (vs : List Nat) (bd : List D → En → Option En) : TGs := fun xs σ H Q => ∃ S e F B ds e' Fd, At0 R S H σ e F B ∧ reps R S H ds xs Fd ∧ bd ds e = some e' ∧
  ∀ σ' F' B', At0 R S H σ' e' F' B' → (∀ i, i ∉ vs → σ'[i]? = σ[i]?) → σ'.length = σ.length → Q σ' H
def PGb (X : Cx) (vs : List Nat) (tg : Expr) (bd : D → En → Option En) : Prop := PG X tg (semG (Cx.R X) vs bd)
def PGbs (X : Cx) (vs : List Nat) (tg : List Expr) (bd : List D → En → Option En) : Prop := PGs X tg (semGs (Cx.R X) vs bd)
theorem pg_imp {X : Cx} {tg : Expr} {w w' : TG} (h : PG X tg w) (q : ∀ v σ H P, w' v σ H P → w v σ H P) : PG X tg w' := ⟨fun pins s σ H x v P I r z => h.run pins s σ H x v P I r (q _ _ _ _ z)⟩
theorem pgs_imp {X : Cx} {tg : List Expr} {w w' : TGs} (h : PGs X tg w) (q : ∀ v σ H P, w' v σ H P → w v σ H P) : PGs X tg w' := ⟨fun pins s σ H x v P I r z => h.run pins s σ H x v P I r (q _ _ _ _ z)⟩
def bdName (i : Nat) (d : D) (e : En) : Option En := if i < e.length then some (e.set i (bindSl d)) else none
def bdNil (l : List D) (e : En) : Option En := match l with
  | [] => some e
  | _ => none
def bdCons (b : D → En → Option En) (bs : List D → En → Option En) (l : List D) (e : En) : Option En := match l with
  | d :: r => (b d e).bind (bs r)
  | [] => none
def bdTup (bs : List D → En → Option En) (d : D) (e : En) : Option En := match d with
  | .tup l => bs l e
  | _ => none
theorem relE.set {R : RC} {S H : Hp} {σ : L2.St} {e : En} {F B : Fp} {i : Nat} {o : Option V} {s : Sl} {Fi Bi : Fp} (h : relE R S H σ e F B) (sh : Ext S H) (hi : i < e.length) (hs : slot R S H o s Fi Bi) :
    ∃ F' B', relE R S H (σ.set i o) (e.set i s) F' B' := by
  have q : e[i]? = some e[i] := List.getElem?_eq_getElem hi
  obtain ⟨o', Fi', Bi', Fr, Br, g1, g2, g3, g4, g5⟩ := h.get q
  exact ⟨_, _, g5 S H f0 f0 (.refl0 sh) (fun _ _ => rfl) o s Fi Bi hs⟩
theorem slot_bind {R : RC} {S H : Hp} {d : D} {v : V} {F : Fp} (h : rep R S H d v F) : ∃ Fi Bi, slot R S H (some v) (bindSl d) Fi Bi := by
  unfold bindSl
  by_cases q : isFz d = true
  · rw [if_pos q]; exact ⟨F, f0, ⟨v, rfl, h⟩, rfl⟩
  · rw [if_neg q]; exact ⟨f0, F, ⟨v, rfl, h⟩, rfl⟩
section
variable {X : Cx} {vs : List Nat}
theorem g_name {i : Nat} {n : Str} {pos : Pos} (hN : X.N.Nodup) (hi : X.N[i]? = some n) (hx : Loc X.env.scope n) (hv : i ∈ vs) (hf : X.fn n = true ∨ X.env.scope.names.lookup n = some .local := by first | exact .inl rfl | exact .inr rfl | assumption) :
    PGb X vs (.Name n pos) (bdName i) := pg_imp (pg_name hN hi hx hf) fun v σ H P ⟨S, e, F, B, d, e', Fd, A, r, hb, k⟩ => by
  unfold bdName at hb
  split at hb
  · rename_i hl
    cases hb
    obtain ⟨Fi, Bi, hs⟩ := slot_bind r
    obtain ⟨F', B', re⟩ := A.re.set A.sh hl hs
    refine k _ F' B' ⟨A.sh, re⟩ (fun j hj => ?_) (by simp)
    rw [List.getElem?_set_ne]
    intro q; rw [← q] at hj; exact hj hv
  · cases hb
theorem gs_nil : PGbs X vs [] bdNil := pgs_imp pgs_nil fun xs σ H P ⟨S, e, F, B, ds, e', Fd, A, r, hb, k⟩ => by
  cases ds with
  | nil =>
    cases hb
    simp only [reps] at r
    exact ⟨r.1, k σ F B A (fun _ _ => rfl) rfl⟩
  | cons d l => cases hb
theorem gs_cons {t : Expr} {ts : List Expr} {b : D → En → Option En} {bs : List D → En → Option En} (h : PGb X vs t b) (hs : PGbs X vs ts bs)
    (he : (assignEach (t :: ts) X.env).map (·.2) = assign t X.env :: (assignEach ts X.env).map (·.2) := by rfl) : PGbs X vs (t :: ts) (bdCons b bs) :=
  pgs_imp (pgs_cons h hs he) fun xs σ H P ⟨S, e, F, B, ds, e', Fd, A, r, hb, k⟩ => by
    cases ds with
    | nil => cases hb
    | cons d l =>
      change (b d e).bind (bs l) = some e' at hb
      cases q : b d e with
      | none => rw [q] at hb; cases hb
      | some e1 =>
        rw [q] at hb
        simp only [reps] at r
        obtain ⟨v, vr, F1, F2, rfl, r1, r2, _⟩ := r
        refine ⟨v, vr, rfl, S, e, F, B, d, e1, F1, A, r1, q, fun σ1 Fa Ba A1 ag ln => ?_⟩
        exact ⟨S, e1, Fa, Ba, l, e', F2, A1, r2, hb, fun σ2 Fb Bb A2 ag2 ln2 => k σ2 Fb Bb A2 (fun i hi => (ag2 i hi).trans (ag i hi)) (ln2.trans ln)⟩
theorem bdNil_len : ∀ (l : List D) (e e' : En), bdNil l e = some e' → l.length = 0
  | [], _, _, _ => rfl
  | _ :: _, _, _, h => by cases h
theorem bdCons_len {b : D → En → Option En} {bs : List D → En → Option En} {n : Nat} (h : ∀ (l : List D) (e e' : En), bs l e = some e' → l.length = n) : ∀ (l : List D) (e e' : En), bdCons b bs l e = some e' → l.length = n + 1
  | [], _, _, q => by cases q
  | d :: l, e, e', q => by
    change (b d e).bind (bs l) = some e' at q
    cases w : b d e with
    | none => rw [w] at q; cases q
    | some e1 => rw [w] at q; rw [List.length_cons, h l e1 e' q]
theorem g_tup {es : List Expr} {k n : Nat} {pos : Pos} {bs : List D → En → Option En} (hc : X.calm = true) (h : PGbs X vs es bs) (hl : ∀ (l : List D) (e e' : En), bs l e = some e' → l.length = n)
    (hn : (assignEach es X.env).length = n := by rfl) (hst : (assignEach es X.env).findIdx? (·.1) = none := by rfl) : PGb X vs (.Tuple es k pos) (bdTup bs) := by
  refine pg_imp (pg_tup hc h hn hst) fun v σ H P ⟨S, e, F, B, d, e', Fd, A, r, hb, kk⟩ => ?_
  cases d with
  | tup l =>
    simp only [rep] at r
    obtain ⟨a, xs, rfl, h1, h2⟩ := r
    exact ⟨a, xs, rfl, h1, (reps_len h2).trans (hl l e e' hb), S, e, F, B, l, e', Fd, A, h2, hb, kk⟩
  | _ => cases hb
end
end Z

set_option Elab.async false
set_option linter.all false
set_option maxRecDepth 100000
set_option maxHeartbeats 1000000
/-! # List comprehensions that only look -/
namespace Z
open PySem L2

def wipeE (e : En) : List Nat → En
  | [] => e
  | v :: vs => (wipeE e vs).set v .no
theorem wipeE_length (e : En) : ∀ vs : List Nat, (wipeE e vs).length = e.length
  | [] => rfl
  | v :: vs => by unfold wipeE; rw [List.length_set, wipeE_length e vs]
section
variable {R : RC} {S H : Hp} {F B : Fp} {σ : L2.St} {e : En}
theorem relE.no {i : Nat} {o : Option V} (h : relE R S H σ e F B) (sh : Ext S H) : ∃ F' B', relE R S H (σ.set i o) (e.set i .no) F' B' ∧ (∀ a, F' a ≤ F a) ∧ ∀ a, B' a ≤ B a := by
  by_cases hi : i < e.length
  · have q : e[i]? = some e[i] := List.getElem?_eq_getElem hi
    obtain ⟨o', Fi', Bi', Fr, Br, g1, g2, g3, g4, g5⟩ := h.get q
    exact ⟨_, _, g5 S H f0 f0 (.refl0 sh) (fun _ _ => rfl) o .no f0 f0 ⟨rfl, rfl⟩, fun a => by rw [g3, f0_fadd, fadd_at]; omega, fun a => by rw [g4, f0_fadd, fadd_at]; omega⟩
  · have hl := h.len
    rw [List.set_eq_of_length_le (by omega), List.set_eq_of_length_le (by omega)]
    exact ⟨F, B, h, fun _ => Nat.le_refl _, fun _ => Nat.le_refl _⟩
theorem relE.wipe (sh : Ext S H) (h : relE R S H σ e F B) : ∀ vs : List Nat, ∃ F' B', relE R S H (wipe σ vs) (wipeE e vs) F' B' ∧ (∀ a, F' a ≤ F a) ∧ ∀ a, B' a ≤ B a
  | [] => ⟨F, B, h, fun _ => Nat.le_refl _, fun _ => Nat.le_refl _⟩
  | v :: vs => by
    obtain ⟨F1, B1, h1, l1, l2⟩ := relE.wipe sh h vs
    obtain ⟨F2, B2, h2, m1, m2⟩ := h1.no (i := v) (o := none) sh
    exact ⟨F2, B2, h2, fun a => Nat.le_trans (m1 a) (l1 a), fun a => Nat.le_trans (m2 a) (l2 a)⟩
theorem wipe_same {σ σ' : L2.St} {vs : List Nat} (ag : ∀ i, i ∉ vs → σ'[i]? = (wipe σ vs)[i]?) (ln : σ'.length = (wipe σ vs).length) : wipe σ' vs = wipe σ vs := by
  have key : ∀ (ws : List Nat) (τ : L2.St) (i : Nat), (wipe τ ws)[i]? = if i ∈ ws ∧ i < τ.length then some none else τ[i]? := by
    intro ws
    induction ws with
    | nil => intro τ i; simp [wipe]
    | cons w ws ih =>
      intro τ i
      unfold wipe
      by_cases q : w = i
      · subst q
        by_cases hl : w < τ.length
        · rw [List.getElem?_set_self (by rw [wipe_length]; exact hl), if_pos ⟨List.mem_cons_self, hl⟩]
        · rw [if_neg (fun z => hl z.2)]
          rw [List.getElem?_eq_none (by rw [List.length_set, wipe_length]; omega), List.getElem?_eq_none (by omega)]
      · rw [List.getElem?_set_ne q, ih τ i]
        have : (i ∈ w :: ws) = (i ∈ ws) := by
          apply propext; constructor
          · intro z; rcases List.mem_cons.mp z with z | z
            · exact absurd z.symm q
            · exact z
          · exact List.mem_cons_of_mem _
        simp only [this]
  rw [wipe_length] at ln
  apply List.ext_getElem?
  intro i
  rw [key vs σ' i]
  by_cases hv : i ∈ vs
  · rw [key vs σ i]
    by_cases hl : i < σ.length
    · rw [if_pos ⟨hv, by omega⟩, if_pos ⟨hv, hl⟩]
    · rw [if_neg (fun z => hl (by omega)), if_neg (fun z => hl z.2), List.getElem?_eq_none (by omega), List.getElem?_eq_none (by omega)]
  · rw [if_neg (fun z => hv z.1)]
    exact ag i hv
end

/-- a write to one object -/
theorem Stp.write {S H : Hp} {p : Addr} {o o' : HO} (e : Ext S H) (h : H p = some o) (m : Mut (some o)) (n : S p = none) : Stp S H (f1 p) S (upd H p o') (f1 p) := by
  refine ⟨Ext.refl S, fun a u q => ?_, fun a u q hq => ?_, fun a ha => .inl ha, fun a u q => .inl q⟩
  · rw [upd_ne (fun z => by rw [z, n] at q; cases q)]
    exact e a u q
  · rw [upd_ne]
    · exact q
    · intro z
      rw [z] at q hq
      rw [h] at q
      rcases hq with hq | hq
      · rw [f1_same] at hq; omega
      · cases q; exact hq m
/-- a new object -/
theorem Stp.make {S H : Hp} {p : Addr} {o : HO} (e : Ext S H) (h : H p = none) : Stp S H f0 S (upd H p o) (f1 p) := by
  have E : Ext H (upd H p o) := fun a u q => by rw [upd_ne (fun z => by rw [z, h] at q; cases q)]; exact q
  refine ⟨Ext.refl S, e.trans E, fun a u q _ => E a u q, fun a ha => ?_, fun a u q => .inl q⟩
  rw [f1_at] at ha
  by_cases z : a = p
  · exact .inr (z ▸ h)
  · rw [if_neg z] at ha; omega

/-- how a comprehension goes on data -/
def lcGo (bd : D → En → Option En) (gt : En → Option Bool) (ge : En → Option D) (e0 : En) : List D → Option (List D)
  | [] => some []
  | it :: r => (bd it e0).bind fun e1 => (gt e1).bind fun b => if b = true then (ge e1).bind fun d => (lcGo bd gt ge e0 r).bind fun l => some (d :: l) else lcGo bd gt ge e0 r
def lim : Nat := 1000000
theorem lim_lt : lim < sizeLine := by rw [sizeLine_eq]; decide
def eLc (vs : List Nat) (gi : En → Option (List D)) (bd : D → En → Option En) (gt : En → Option Bool) (ge : En → Option D) (e : En) : Option D :=
  (gi e).bind fun items => if items.length ≤ lim then (lcGo bd gt ge (wipeE e vs) items).bind fun l => some (.lst true l) else none
def gYes (_ : En) : Option Bool := some true

section
variable {R : RC} {vs : List Nat} {gi : En → Option (List D)} {bd : D → En → Option En} {gt : En → Option Bool} {ge : En → Option D}
theorem semF_lc (σ : L2.St) (H : Hp) (Q : VK) (w : semF R (eLc vs gi bd gt ge) σ H Q) : tLc (semI R gi) (semG R vs bd) (semT R gt) (semF R ge) vs σ H Q := by
  obtain ⟨S, e, F, B, d, A, hg, k⟩ := w
  unfold eLc at hg
  cases q : gi e with
  | none => rw [q] at hg; cases hg
  | some items =>
    rw [q] at hg
    simp only [Option.bind_some] at hg
    split at hg
    case isFalse => cases hg
    case isTrue hz =>
    cases q2 : lcGo bd gt ge (wipeE e vs) items with
    | none => rw [q2] at hg; cases hg
    | some l =>
      rw [q2] at hg
      simp only [Option.bind_some, Option.some.injEq] at hg
      subst hg
      refine ⟨S, e, F, B, items, A, q, fun J S1 H1 Fb t1 it hb => ?_⟩
      intro p hp
      obtain ⟨G, Y, wk, hG, hY⟩ := it.ex
      have A1 := A.step t1
      obtain ⟨F0, B0, re0, _, _⟩ := A1.re.wipe A1.sh vs
      -- what holds ahead of turn i
      refine lc_it wk (fun i H2 => ∃ S2 Fa acc ds rest, Stp S1 H1 f0 S2 H2 (fadd (f1 p) Fa) ∧ (∀ a, fadd (f1 p) Fa a ≤ 1) ∧ Muf H2 Fa ∧ S2 p = none ∧ H2 p = some (.lst acc) ∧ reps R S2 H2 ds acc Fa ∧
        lcGo bd gt ge (wipeE e vs) (items.drop i) = some rest ∧ l = ds ++ rest ∧ acc.length ≤ i) ?_ ?_ ?_ ?_
      · refine ⟨S1, f0, [], [], l, ?_, fun a => by rw [fadd_f0, f1_at]; split <;> omega, .zero, ?_, upd_same, by simp only [reps]; exact ⟨trivial, trivial⟩, q2, rfl, Nat.zero_le _⟩
        · rw [fadd_f0]; exact .make t1.sh hp
        · cases z : S1 p with
          | none => rfl
          | some o => rw [t1.sh p o z] at hp; cases hp
      · rintro i H2 hi ⟨S2, Fa, acc, ds, rest, t2, _⟩
        exact hG H2 fun x o hx _ => t2.ext x o hx
      · rintro i x H2 H3 hi ⟨S2, Fa, acc, ds, rest, t2, n2, m2, np, hacc, rr, hrest, hl, hlen⟩ hy
        have hx : items[i]? = some items[i] := List.getElem?_eq_getElem hi
        have kk : Kept S1 H1 Fb H2 := fun x o hx _ => t2.ext x o hx
        have dom : ∀ a, 0 < Fb a → S2 a = none := fun a ha => by
          obtain ⟨⟨w, hw⟩, hs⟩ := it.dom a ha
          cases z : S2 a with
          | none => rfl
          | some o =>
            rcases t2.st a o z with y | y | y
            · rw [hs] at y; cases y
            · exact absurd y (Nat.lt_irrefl 0)
            · rw [hw] at y; cases y
        obtain ⟨t3, Fx, rx, _⟩ := hY i S2 H2 x H3 items[i] t2.es t2.sh kk dom hx hy
        rw [List.drop_eq_getElem_cons hi] at hrest
        unfold lcGo at hrest
        cases qb : bd items[i] (wipeE e vs) with
        | none => rw [qb] at hrest; cases hrest
        | some e1 =>
          rw [qb] at hrest
          simp only [Option.bind_some] at hrest
          have A2 : At0 R S2 H3 (wipe σ vs) (wipeE e vs) F0 B0 := ⟨t3.sh, (re0.step t2 fun _ _ => rfl).step t3 fun _ _ => rfl⟩
          refine ⟨S2, wipeE e vs, F0, B0, items[i], e1, Fx, A2, rx, qb, fun σ2 F2 B2 A3 ag ln => ?_⟩
          refine ⟨wipe_same ag ln, ?_⟩
          cases qt : gt e1 with
          | none => rw [qt] at hrest; cases hrest
          | some b =>
            rw [qt] at hrest
            simp only [Option.bind_some] at hrest
            refine ⟨S2, e1, F2, B2, b, A3, qt, fun S4 H4 t4 => ?_⟩
            have keep : ∀ {S5 H5 : Hp} {G : Fp}, Stp S2 H3 f0 S5 H5 G → S5 p = none ∧ H5 p = some (.lst acc) ∧ reps R S5 H5 ds acc Fa ∧ Stp S1 H1 f0 S5 H5 (fadd (f1 p) Fa) := fun {S5 H5 G} t => by
              have T := t3.trans t
              have pH : H5 p = some (.lst acc) := T.ext p _ hacc
              refine ⟨?_, pH, reps_step T ds acc Fa rr fun _ _ => rfl, ?_⟩
              · cases z : S5 p with
                | none => rfl
                | some o =>
                  rcases T.st p o z with y | y | y
                  · rw [np] at y; cases y
                  · exact absurd y (Nat.lt_irrefl 0)
                  · rw [hacc] at y; cases y
              · have := t2.trans ((T.zero.frame (fadd (f1 p) Fa)).weak (G := fadd (f1 p) Fa) fun a ha => by rw [fadd_f0] at ha; exact ha)
                rw [fadd_f0] at this; exact this
            dsimp only
            cases b with
            | false =>
              rw [if_neg Bool.false_ne_true] at hrest ⊢
              obtain ⟨k1, k2, k3, k4⟩ := keep t4
              exact ⟨S4, Fa, acc, ds, rest, k4, n2, m2.step (t3.trans t4) fun _ _ => rfl, k1, k2, k3, hrest, hl, by omega⟩
            | true =>
              rw [if_pos rfl] at hrest ⊢
              cases qe : ge e1 with
              | none => rw [qe] at hrest; cases hrest
              | some dn =>
                rw [qe] at hrest
                simp only [Option.bind_some] at hrest
                cases qr : lcGo bd gt ge (wipeE e vs) (items.drop (i + 1)) with
                | none => rw [qr] at hrest; cases hrest
                | some rest' =>
                  rw [qr] at hrest
                  simp only [Option.bind_some, Option.some.injEq] at hrest
                  subst hrest
                  have A4 : At0 R S4 H4 σ2 e1 F2 B2 := A3.step t4
                  refine ⟨S4, e1, F2, B2, dn, A4, qe, fun y S5 H5 Fd t5 n5 r5 => ?_⟩
                  obtain ⟨k1, k2, k3, k4⟩ := keep (t4.trans t5.zero)
                  obtain ⟨c1, c2, c3, c4⟩ := keep t4
                  refine ⟨acc, k2, Nat.lt_of_le_of_lt hlen (Nat.lt_of_lt_of_le hi (Nat.le_trans hz (Nat.le_of_lt lim_lt))), S5, fadd Fa Fd, acc ++ [y], ds ++ [dn], rest', ?_, ?_, ?_, k1, upd_same, ?_, rfl, ?_, ?_⟩
                  · -- the step
                    have T5 : Stp S1 H1 f0 S5 H5 (fadd (fadd (f1 p) Fa) Fd) := by
                      have := c4.trans ((t5.frame (fadd (f1 p) Fa)).weak (G := fadd (f1 p) Fa) fun a ha => by rw [fadd_f0] at ha; exact ha)
                      exact this
                    have W := (Stp.write (o' := .lst (acc ++ [y])) T5.sh k2 True.intro k1)
                    have W2 := (W.frame (fadd Fa Fd))
                    have e1 : fadd (fadd Fa Fd) (f1 p) = fadd (f1 p) (fadd Fa Fd) := fadd_comm _ _
                    rw [e1] at W2
                    rw [fadd_assoc] at T5
                    exact T5.trans W2
                  · intro a
                    have m := n2 a
                    rw [fadd_at] at m
                    rw [fadd_at, fadd_at]
                    rcases Nat.eq_zero_or_pos (Fd a) with z | z
                    · omega
                    · have u := (n5 a).1
                      have v : H4 a = none := (t5.ft a z).elim (fun w => absurd w (Nat.lt_irrefl 0)) id
                      have v1 : f1 p a = 0 := by
                        rw [f1_at]; split
                        · rename_i w; rw [w, c2] at v; cases v
                        · rfl
                      have v2 : Fa a = 0 := by
                        rcases Nat.eq_zero_or_pos (Fa a) with w | w
                        · exact w
                        · obtain ⟨⟨o, ho⟩, _⟩ := reps_dom ds acc Fa c3 a w
                          rw [ho] at v; cases v
                      omega
                  · have W := (Stp.write (o' := .lst (acc ++ [y])) t5.sh k2 True.intro k1)
                    have off : ∀ a, 0 < Fa a → f1 p a = 0 := fun a ha => by have := n2 a; rw [fadd_at] at this; omega
                    have off2 : ∀ a, 0 < Fd a → f1 p a = 0 := fun a ha => by
                      rw [f1_at]; split
                      · rename_i w
                        have v : H4 a = none := (t5.ft a ha).elim (fun w => absurd w (Nat.lt_irrefl 0)) id
                        rw [w, c2] at v; cases v
                      · rfl
                    exact (((m2.step (t3.trans (t4.trans t5.zero)) fun _ _ => rfl).step W off).add (n5.mu.step W off2))
                  · -- the items
                    have W := (Stp.write (o' := .lst (acc ++ [y])) t5.sh k2 True.intro k1)
                    have off : ∀ a, 0 < Fa a → f1 p a = 0 := fun a ha => by have := n2 a; rw [fadd_at] at this; omega
                    have off2 : ∀ a, 0 < Fd a → f1 p a = 0 := fun a ha => by
                      rw [f1_at]; split
                      · rename_i w
                        have v : H4 a = none := (t5.ft a ha).elim (fun w => absurd w (Nat.lt_irrefl 0)) id
                        rw [w, c2] at v; cases v
                      · rfl
                    exact reps_append (reps_step W ds acc Fa k3 off) (reps_one (rep_step W dn y Fd r5 off2))
                  · rw [hl, List.append_assoc]; rfl
                  · rw [List.length_append, List.length_singleton]; omega
      · rintro H2 ⟨S2, Fa, acc, ds, rest, t2, n2, m2, np, hacc, rr, hrest, hl, hlen⟩
        rw [List.drop_length] at hrest
        cases hrest
        rw [List.append_nil] at hl
        subst hl
        refine k (.ref p) S2 H2 (fadd (f1 p) Fa) (t1.trans t2) (fun a => ⟨n2 a, fun ha => ?_⟩) ?_
        · rw [fadd_at, f1_at] at ha
          by_cases z : a = p
          · rw [z, hacc]; exact True.intro
          · rw [if_neg z] at ha; exact m2 a (by omega)
        simp only [rep]
        exact ⟨p, acc, Fa, rfl, ⟨hacc, np, rfl⟩, rr⟩
end
section
variable {X : Cx} {vs : List Nat} {gi : En → Option (List D)} {bd : D → En → Option En} {gt : En → Option Bool} {ge : En → Option D} {elt tg iter : Expr} {ifs : List Expr} {scope : Scope} {own : List (Str × Nat)} {pos : Pos}
def PTsb (X : Cx) (ifs : List Expr) (g : En → Option Bool) : Prop := PTs X ifs (semT (Cx.R X) g)
theorem ts_nil : PTsb X [] gYes := ⟨fun pins s σ H Q I ⟨S, e, F, B, b, A, hg, k⟩ => by cases hg; exact pts_nil.run pins s σ H Q I (k S H (.refl0 A.sh))⟩
theorem ts_one {c : Expr} (h : PTb X c gt) : PTsb X [c] gt := pts_one h
theorem f_lc (hc : X.calm = true) (hN : X.N.Nodup) (hi : PIb X tg iter gi) (ok : BlkOk X.N X.env.scope scope own) (hv : own.map (·.2) = vs)
    (hg : ∀ (s : Shared) (H : Hp) (C : Addr) (cl : List (Str × Addr)) (fp : List Addr), PGb (X.blk s H scope (compEnvC scope cl C X.env) fp) vs tg bd)
    (ht : ∀ (s : Shared) (H : Hp) (C : Addr) (cl : List (Str × Addr)) (fp : List Addr), PTsb (X.blk s H scope (compEnvC scope cl C X.env) fp) ifs gt)
    (he : ∀ (s : Shared) (H : Hp) (C : Addr) (cl : List (Str × Addr)) (fp : List Addr), PEf (X.blk s H scope (compEnvC scope cl C X.env) fp) elt ge) (hs : ∀ x, foldedSetIterable iter X.env x = pure x := by intro _; rfl) :
    PEf X (.ListComp elt [⟨tg, iter, ifs, 0⟩] scope pos) (eLc vs gi bd gt ge) := by
  subst hv
  exact pe_imp (pe_lc (g := semG (Cx.R X) (own.map fun x : Str × Nat => x.2) bd) (tt := semT (Cx.R X) gt) (te := semF (Cx.R X) ge) hc hN hi ok (fun s H C cl fp => hg s H C cl fp) (fun s H C cl fp => ht s H C cl fp) (fun s H C cl fp => he s H C cl fp) hs) semF_lc
end
end Z

set_option Elab.async false
set_option linter.all false
set_option maxRecDepth 100000
set_option maxHeartbeats 1000000
/-! # Statements on data -/
namespace Z
open PySem L2

inductive Fl where
  | nx | rt (d : D) | bk | ct
abbrev SF := En → Option (Fl × En)
/-- only the slots of as may be bound anew -/
structure Sm (as : List Nat) (σ σ' : L2.St) : Prop where
  ag : ∀ i, i ∉ as → σ'[i]? = σ[i]?
  ln : σ'.length = σ.length
theorem Sm.refl (as : List Nat) (σ : L2.St) : Sm as σ σ := ⟨fun _ _ => rfl, rfl⟩
theorem Sm.trans {as : List Nat} {σ σ1 σ2 : L2.St} (a : Sm as σ σ1) (b : Sm as σ1 σ2) : Sm as σ σ2 := ⟨fun i h => (b.ag i h).trans (a.ag i h), b.ln.trans a.ln⟩
theorem Sm.set {as : List Nat} {σ : L2.St} {i : Nat} {o : Option V} (h : i ∈ as) : Sm as σ (σ.set i o) := ⟨fun j hj => List.getElem?_set_ne (by intro z; subst z; exact hj h), by simp⟩

def PostS (R : RC) (as : List Nat) (B : Fp) (S H : Hp) (F : Fp) (σ : L2.St) (fl : Fl) (e' : En) (Dn : Ends) : Prop := match fl with
  | .nx => ∀ σ' S' H' F', Stp S H F S' H' F' → At R S' H' σ' e' F' B → Sm as σ σ' → Dn.nx σ' H'
  | .bk => ∀ σ' S' H' F', Stp S H F S' H' F' → At R S' H' σ' e' F' B → Sm as σ σ' → Dn.bk σ' H'
  | .ct => ∀ σ' S' H' F', Stp S H F S' H' F' → At R S' H' σ' e' F' B → Sm as σ σ' → Dn.ct σ' H'
  | .rt d => ∀ σ' v S' H' Fv F', Stp S H F S' H' (fadd Fv F') → At R S' H' σ' e' F' B → rep R S' H' d v Fv → (∀ a, Fv a + F' a + B a ≤ 1) → Muf H' Fv → Sm as σ σ' → Dn.rt v H'
theorem PostS.go {R : RC} {as : List Nat} {B : Fp} {S H S1 H1 : Hp} {F F1 : Fp} {σ σ1 : L2.St} {fl : Fl} {e' : En} {Dn : Ends} (p : PostS R as B S H F σ fl e' Dn) (t : Stp S H F S1 H1 F1) (m : Sm as σ σ1) : PostS R as B S1 H1 F1 σ1 fl e' Dn := by
  cases fl with
  | nx => exact fun σ' S' H' F' t' A m' => p σ' S' H' F' (t.trans t') A (m.trans m')
  | bk => exact fun σ' S' H' F' t' A m' => p σ' S' H' F' (t.trans t') A (m.trans m')
  | ct => exact fun σ' S' H' F' t' A m' => p σ' S' H' F' (t.trans t') A (m.trans m')
  | rt d => exact fun σ' v S' H' Fv F' t' A r n mu m' => p σ' v S' H' Fv F' (t.trans t') A r n mu (m.trans m')
def semS (R : RC) (as : List Nat) (f : SF) : TS := fun Dn σ H => ∃ S e F B fl e', At R S H σ e F B ∧ f e = some (fl, e') ∧ PostS R as B S H F σ fl e' Dn
def PSv (X : Cx) (as : List Nat) (st : Stmt) (f : SF) : Prop := PS X st (semS (Cx.R X) as f)
def PSsv (X : Cx) (as : List Nat) (st : List Stmt) (f : SF) : Prop := PSs X st (semS (Cx.R X) as f)
theorem pss_imp {X : Cx} {x : List Stmt} {t u : TS} (h : PSs X x t) (q : ∀ D σ H, u D σ H → t D σ H) : PSs X x u := ⟨fun pins s σ H D I w => h.run pins s σ H D I (q D σ H w)⟩

def sNil : SF := fun e => some (.nx, e)
def sSeq (f g : SF) : SF := fun e => (f e).bind fun p => match p.1 with
  | .nx => g p.2
  | fl => some (fl, p.2)
def sBk : SF := fun e => some (.bk, e)
def sCt : SF := fun e => some (.ct, e)
def sRet (f : En → Option (D × En)) : SF := fun e => (f e).bind fun p => some (.rt p.1, p.2)
def sRetN : SF := fun e => some (.rt .non, e)
def sIf (g : En → Option Bool) (a b : SF) : SF := fun e => (g e).bind fun c => if c = true then a e else b e
def sIfV (g : En → Option (Bool × En)) (a b : SF) : SF := fun e => (g e).bind fun c => if c.1 = true then a c.2 else b c.2
def sDrop (f : En → Option (D × En)) : SF := fun e => (f e).bind fun p => some (.nx, p.2)
/-- a slot that may be bound -/
def open? (e : En) (i : Nat) : Bool := match e[i]? with
  | some (.lk _) => false
  | some _ => true
  | none => false
def sSet (i : Nat) (f : En → Option (D × En)) : SF := fun e => (f e).bind fun p => if open? p.2 i = true then some (.nx, p.2.set i (.ow p.1)) else none

section
variable {X : Cx} {as : List Nat} {st : Stmt} {sts : List Stmt} {f g : SF} {x c : Expr} {pos : Pos} {v : En → Option (D × En)}
theorem s_nil : PSsv X as [] sNil := pss_imp pss_nil fun D σ H ⟨S, e, F, B, fl, e', A, hf, k⟩ => by
  cases hf
  exact k σ S H F (.refl A.sh) A (.refl as σ)
theorem s_cons (h1 : PSv X as st f) (h2 : PSsv X as sts g) : PSsv X as (st :: sts) (sSeq f g) := pss_imp (pss_cons h1 h2) fun D σ H ⟨S, e, F, B, fl, e', A, hf, k⟩ => by
  unfold sSeq at hf
  cases q : f e with
  | none => rw [q] at hf; cases hf
  | some p =>
    obtain ⟨fl1, e1⟩ := p
    rw [q] at hf
    simp only [Option.bind_some] at hf
    refine ⟨S, e, F, B, fl1, e1, A, q, ?_⟩
    cases fl1 with
    | nx => exact fun σ1 S1 H1 F1 t1 A1 m1 => ⟨S1, e1, F1, B, fl, e', A1, hf, k.go t1 m1⟩
    | bk => cases hf; exact k
    | ct => cases hf; exact k
    | rt d => cases hf; exact k
theorem s_pass : PSv X as (.Pass pos) sNil := ps_imp ps_pass fun D σ H ⟨S, e, F, B, fl, e', A, hf, k⟩ => by
  cases hf
  exact k σ S H F (.refl A.sh) A (.refl as σ)
theorem s_break : PSv X as (.Break pos) sBk := ps_imp ps_break fun D σ H ⟨S, e, F, B, fl, e', A, hf, k⟩ => by
  cases hf
  exact k σ S H F (.refl A.sh) A (.refl as σ)
theorem s_cont : PSv X as (.Continue pos) sCt := ps_imp ps_continue fun D σ H ⟨S, e, F, B, fl, e', A, hf, k⟩ => by
  cases hf
  exact k σ S H F (.refl A.sh) A (.refl as σ)
theorem s_ret (h : PEv X x v) : PSv X as (.Return (some x) pos) (sRet v) := ps_imp (ps_ret h) fun D σ H ⟨S, e, F, B, fl, e', A, hf, k⟩ => by
  unfold sRet at hf
  cases q : v e with
  | none => rw [q] at hf; cases hf
  | some p =>
    rw [q] at hf; cases hf
    exact ⟨S, e, F, B, p.1, p.2, A, q, fun u S1 H1 Fv F1 t1 A1 r n m => k σ u S1 H1 Fv F1 t1 A1 r n m (.refl as σ)⟩
theorem s_retN : PSv X as (.Return none pos) sRetN := ps_imp ps_retN fun D σ H ⟨S, e, F, B, fl, e', A, hf, k⟩ => by
  cases hf
  exact k σ .non S H f0 F (by rw [f0_fadd]; exact .refl A.sh) A (repN ..) (fun a => by have := A.nd a; rw [f0_at]; omega) .zero (.refl as σ)
theorem s_if {t : En → Option Bool} {a b : List Stmt} (hc : PTb X c t) (ha : PSsv X as a f) (hb : PSsv X as b g) : PSv X as (.If c a b pos) (sIf t f g) := ps_imp (ps_if hc ha hb) fun D σ H ⟨S, e, F, B, fl, e', A, hf, k⟩ => by
  unfold sIf at hf
  cases q : t e with
  | none => rw [q] at hf; cases hf
  | some b =>
    rw [q] at hf
    simp only [Option.bind_some] at hf
    refine ⟨S, e, F, B, b, A.toAt0, q, fun S1 H1 t1 => ?_⟩
    have T : Stp S H F S1 H1 F := by have := t1.beside F; rw [f0_fadd] at this; exact this
    cases b with
    | true => rw [if_pos rfl] at hf; exact ⟨S1, e, F, B, fl, e', A.step t1, hf, k.go T (.refl as σ)⟩
    | false => rw [if_neg Bool.false_ne_true] at hf; exact ⟨S1, e, F, B, fl, e', A.step t1, hf, k.go T (.refl as σ)⟩
theorem s_ifV {t : En → Option (Bool × En)} {a b : List Stmt} (hc : PTv X c t) (ha : PSsv X as a f) (hb : PSsv X as b g) : PSv X as (.If c a b pos) (sIfV t f g) := ps_imp (ps_if hc ha hb) fun D σ H ⟨S, e, F, B, fl, e', A, hf, k⟩ => by
  unfold sIfV at hf
  cases q : t e with
  | none => rw [q] at hf; cases hf
  | some p =>
    obtain ⟨b, e1⟩ := p
    rw [q] at hf
    simp only [Option.bind_some] at hf
    refine ⟨S, e, F, B, b, e1, A, q, fun S1 H1 F1 t1 A1 => ?_⟩
    cases b with
    | true => rw [if_pos rfl] at hf; exact ⟨S1, e1, F1, B, fl, e', A1, hf, k.go t1 (.refl as σ)⟩
    | false => rw [if_neg Bool.false_ne_true] at hf; exact ⟨S1, e1, F1, B, fl, e', A1, hf, k.go t1 (.refl as σ)⟩
theorem s_expr (h : PEv X x v) (hs : swapsWith x none pos.line X.env = pure false := by rfl) : PSv X as (.Expr x pos) (sDrop v) := ps_imp (ps_expr h hs) fun D σ H ⟨S, e, F, B, fl, e', A, hf, k⟩ => by
  unfold sDrop at hf
  cases q : v e with
  | none => rw [q] at hf; cases hf
  | some p =>
    rw [q] at hf; cases hf
    exact ⟨S, e, F, B, p.1, p.2, A, q, fun u S1 H1 Fv F1 t1 A1 r n m => k σ S1 H1 F1 (t1.less fun a ha => .inl (by rw [fadd_at]; omega)) A1 (.refl as σ)⟩
/-- a slot bound to new data -/
theorem At.bind {R : RC} {S H : Hp} {σ : L2.St} {e : En} {F B Fv : Fp} {i : Nat} {d : D} {v : V} (A : At R S H σ e F B) (ho : open? e i = true) (r : rep R S H d v Fv) (n : ∀ a, Fv a + F a + B a ≤ 1) (m : Muf H Fv) :
    ∃ F', At R S H (σ.set i (some v)) (e.set i (.ow d)) F' B ∧ ∀ a, 0 < F' a → 0 < fadd Fv F a := by
  unfold open? at ho
  cases q : e[i]? with
  | none => rw [q] at ho; cases ho
  | some s =>
    obtain ⟨o, Fi, Bi, Fr, Br, g1, g2, g3, g4, g5⟩ := A.re.get q
    have re := g5 S H f0 f0 (.refl0 A.sh) (fun _ _ => rfl) (some v) (.ow d) Fv f0 ⟨⟨v, rfl, r⟩, rfl⟩
    have hB : Br = B := by
      rw [q] at ho
      cases s with
      | no => rw [g4, g2.2, f0_fadd]
      | ow d' => rw [g4, g2.2, f0_fadd]
      | lk d' => cases ho
    rw [f0_fadd, hB] at re
    refine ⟨fadd Fv Fr, ⟨⟨A.sh, re⟩, fun a => ?_, fun a ha => ?_⟩, fun a ha => ?_⟩
    · have := n a; rw [g3, fadd_at] at this; rw [fadd_at]; omega
    · rw [fadd_at] at ha
      rcases Nat.eq_zero_or_pos (Fv a) with z | z
      · exact A.mu a (by rw [g3, fadd_at]; omega)
      · exact m a z
    · rw [fadd_at] at ha ⊢; rw [g3, fadd_at]; omega
theorem semS_set {R : RC} {i : Nat} (hi : i ∈ as) (D : Ends) (σ : L2.St) (H : Hp) (w : semS R as (sSet i v) D σ H) : tAsg (semV R v) (gName i) D σ H := by
  obtain ⟨S, e, F, B, fl, e', A, hf, k⟩ := w
  unfold sSet at hf
  cases q : v e with
  | none => rw [q] at hf; cases hf
  | some p =>
    obtain ⟨d, e1⟩ := p
    rw [q] at hf
    simp only [Option.bind_some] at hf
    split at hf
    case isFalse => cases hf
    case isTrue ho =>
      cases hf
      refine ⟨S, e, F, B, d, e1, A, q, fun u S1 H1 Fv F1 t1 A1 r n m => ?_⟩
      obtain ⟨F2, A2, l⟩ := A1.bind ho r n m
      exact k _ S1 H1 F2 (t1.less fun a ha => .inl (l a ha)) A2 (.set hi)
theorem s_set {i : Nat} {y : Str} {pos' : Pos} (hN : X.N.Nodup) (hi : X.N[i]? = some y) (hx : Loc X.env.scope y) (ha : i ∈ as) (h : PEv X x v) (hs : swapsWith x (some (.Name y pos')) pos.line X.env = pure false := by rfl)
    (hf : X.fn y = true ∨ X.env.scope.names.lookup y = some .local := by first | exact .inl rfl | exact .inr rfl | assumption) : PSv X as (.Assign [.Name y pos'] x pos) (sSet i v) :=
  ps_imp (ps_set hN hi hx h hs hf) (semS_set ha)
/-- the same for a pure comprehension on one line with its name -/
theorem s_setLc {i : Nat} {y : Str} {py : Pos} {vs : List Nat} {gi : En → Option (List D)} {bd : D → En → Option En} {gt : En → Option Bool} {ge : En → Option D} {elt tg iter : Expr} {ifs : List Expr} {scope : Scope} {own : List (Str × Nat)} {pos spos : Pos}
    (hc : X.calm = true) (hN : X.N.Nodup) (hy : X.N[i]? = some y) (hyl : X.env.scope.names.lookup y = some .local) (ha : i ∈ as)
    (hsw : swapsWith (.ListComp elt [⟨tg, iter, ifs, 0⟩] scope pos) (some (.Name y py)) spos.line X.env = pure true) (hi : PIb X tg iter gi) (ok : BlkOk X.N X.env.scope scope own) (hv : own.map (·.2) = vs)
    (hg : ∀ (s : Shared) (H : Hp) (C : Addr) (cl : List (Str × Addr)) (fp : List Addr), PGb (X.blk s H scope (compEnvC scope cl C X.env) fp) vs tg bd)
    (ht : ∀ (s : Shared) (H : Hp) (C : Addr) (cl : List (Str × Addr)) (fp : List Addr), PTsb (X.blk s H scope (compEnvC scope cl C X.env) fp) ifs gt)
    (he : ∀ (s : Shared) (H : Hp) (C : Addr) (cl : List (Str × Addr)) (fp : List Addr), PEf (X.blk s H scope (compEnvC scope cl C X.env) fp) elt ge) (hs : ∀ x, foldedSetIterable iter X.env x = pure x := by intro _; rfl) :
    PSv X as (.Assign [.Name y py] (.ListComp elt [⟨tg, iter, ifs, 0⟩] scope pos) spos) (sSet i (vOf (eLc vs gi bd gt ge))) := by
  subst hv
  refine ps_imp (ps_setLc (g := semG (Cx.R X) (own.map fun x : Str × Nat => x.2) bd) (tt := semT (Cx.R X) gt) (te := semF (Cx.R X) ge) hc hN hy hyl hsw hi ok (fun s H C cl fp => hg s H C cl fp) (fun s H C cl fp => ht s H C cl fp) (fun s H C cl fp => he s H C cl fp) hs) fun D σ H w => ?_
  have z := semS_set (R := Cx.R X) ha D σ H w
  obtain ⟨S, e, F, B, d, e', A, hf, k⟩ := z
  obtain ⟨hg, rfl⟩ := vOf_some hf
  exact semF_lc σ H _ ⟨S, e', F, B, d, A.toAt0, hg, fun v S' H' Fb t n r => k v S' H' Fb F (t.beside F) (A.step t) r (A.new t n.nd) n.mu⟩
end

/-! ### while -/
def sWhile (c : En → Option (Bool × En)) (b : SF) : Nat → SF
  | 0 => fun _ => none
  | n + 1 => fun e => (c e).bind fun p => if p.1 = true then (b p.2).bind fun q => match q.1 with
      | .nx => sWhile c b n q.2
      | .ct => sWhile c b n q.2
      | .bk => some (.nx, q.2)
      | .rt d => some (.rt d, q.2)
    else some (.nx, p.2)
def tOf (g : En → Option Bool) (e : En) : Option (Bool × En) := (g e).bind fun b => some (b, e)
section
variable {X : Cx} {as : List Nat} {c : Expr} {pos : Pos}
theorem tv_of_b {g : En → Option Bool} (h : PTb X c g) : PTv X c (tOf g) := pt_imp h fun σ H Q ⟨S, e, F, B, b, e', A, hg, k⟩ => by
  unfold tOf at hg
  cases q : g e with
  | none => rw [q] at hg; cases hg
  | some b' =>
    rw [q] at hg
    simp only [Option.bind_some, Option.some.injEq, Prod.mk.injEq] at hg
    obtain ⟨rfl, rfl⟩ := hg
    exact ⟨S, e, F, B, b', A.toAt0, q, fun S1 H1 t1 => k S1 H1 F (by have := t1.beside F; rw [f0_fadd] at this; exact this) (A.step t1)⟩
theorem s_while {t : En → Option (Bool × En)} {body : List Stmt} {f : SF} {n : Nat} (hp : PassesOwn (model X.prog X.w) X.A X.env X.xe) (hc : PTv X c t) (hb : PSsv X as body f) : PSv X as (.While c body [] pos) (sWhile t f n) :=
  ps_imp (ps_while hp hc hb) fun D σ H ⟨S, e, F, B, fl, e', A, hf, k⟩ => by
    refine ⟨fun m σ1 H1 => ∃ S1 F1 e1, At (Cx.R X) S1 H1 σ1 e1 F1 B ∧ sWhile t f m e1 = some (fl, e') ∧ PostS (Cx.R X) as B S1 H1 F1 σ1 fl e' D, ⟨n, S, F, e, A, hf, k⟩, ?_⟩
    rintro m σ1 H1 ⟨S1, F1, e1, A1, hw, k1⟩
    cases m with
    | zero => cases hw
    | succ m =>
      unfold sWhile at hw
      cases q : t e1 with
      | none => rw [q] at hw; cases hw
      | some p =>
        obtain ⟨b, e2⟩ := p
        rw [q] at hw
        simp only [Option.bind_some] at hw
        refine ⟨S1, e1, F1, B, b, e2, A1, q, fun S2 H2 F2 t2 A2 => ?_⟩
        have k2 := k1.go t2 (.refl as σ1)
        dsimp only
        cases b with
        | false =>
          rw [if_neg Bool.false_ne_true] at hw ⊢
          cases hw
          exact k2 σ1 S2 H2 F2 (.refl A2.sh) A2 (.refl as σ1)
        | true =>
          rw [if_pos rfl] at hw ⊢
          refine ⟨fun σ3 H3 => ∃ S3 F3 e3, At (Cx.R X) S3 H3 σ3 e3 F3 B ∧ sWhile t f m e3 = some (fl, e') ∧ PostS (Cx.R X) as B S3 H3 F3 σ3 fl e' D, fun σ' H' w => ⟨m, Nat.lt_succ_self m, w⟩, ?_⟩
          cases q2 : f e2 with
          | none => rw [q2] at hw; cases hw
          | some p =>
            obtain ⟨fl3, e3⟩ := p
            rw [q2] at hw
            simp only [Option.bind_some] at hw
            refine ⟨S2, e2, F2, B, fl3, e3, A2, q2, ?_⟩
            cases fl3 with
            | nx => exact fun σ3 S3 H3 F3 t3 A3 m3 => ⟨S3, F3, e3, A3, hw, k2.go t3 m3⟩
            | ct => exact fun σ3 S3 H3 F3 t3 A3 m3 => ⟨S3, F3, e3, A3, hw, k2.go t3 m3⟩
            | bk => cases hw; exact k2
            | rt d => cases hw; exact k2
end
end Z

set_option Elab.async false
set_option linter.all false
set_option maxRecDepth 100000
set_option maxHeartbeats 1000000
/-! # for loops on data -/
namespace Z
open PySem L2

section
variable {R : RC} {S' H' : Hp} {Fb : Fp}
theorem itok_lst {o : Bool} {l : List D} {v : V} (sh : Ext S' H') (r : rep R S' H' (.lst o l) v Fb) : ∃ a vs, v = .ref a ∧ SqL R.K H' a vs ∧ ItOk R (Itl R.K a) S' H' l Fb := by
  have r0 := r
  simp only [rep] at r
  obtain ⟨a, vs, F', rfl, hh, hr⟩ := r
  obtain ⟨hrd, hf⟩ := hh.dom0 sh
  refine ⟨a, vs, rfl, .inl hrd, ⟨rep_dom _ _ _ r0, fun H => SqL R.K H a vs, YAt vs, ?_, ?_, ?_⟩⟩
  · rw [← reps_len hr]; exact walk_list
  · exact fun H2 kk => .inl (kk.rd hrd hf sh)
  · rintro i S2 H2 x H3 d es sh kk dom hi ⟨rfl, hx⟩
    refine ⟨.refl0 sh, ?_⟩
    obtain ⟨v, Fi, g1, g2, g3⟩ := reps_get hr hi
    rw [hx] at g1; cases g1
    have hs : ∀ a, 0 < Fi a → 0 < Fb a := fun a ha => hh.sub a (by have := g3 a; omega)
    exact ⟨Fi, rep_keep es kk dom g2 hs sh, hs⟩
theorem itok_tup {l : List D} {v : V} (sh : Ext S' H') (r : rep R S' H' (.tup l) v Fb) : ∃ a vs, v = .ref a ∧ SqT R.K H' a vs ∧ ItOk R (Itt R.K a) S' H' l Fb := by
  have r0 := r
  simp only [rep] at r
  obtain ⟨a, vs, rfl, hh, hr⟩ := r
  refine ⟨a, vs, rfl, hh, ⟨rep_dom _ _ _ r0, fun H => SqT R.K H a vs, YAt vs, ?_, ?_, ?_⟩⟩
  · rw [← reps_len hr]; exact walk_tup
  · intro H2 kk
    rcases hh with (z | ⟨ob, z⟩) | z
    · exact .inl (.inl (kk a _ z (.inr (.inl fun m => m))))
    · exact .inl (.inr ⟨ob, kk a _ z (.inr (.inl fun m => m))⟩)
    · exact .inr z
  · rintro i S2 H2 x H3 d es sh kk dom hi ⟨rfl, hx⟩
    refine ⟨.refl0 sh, ?_⟩
    obtain ⟨v, Fi, g1, g2, g3⟩ := reps_get hr hi
    rw [hx] at g1; cases g1
    have hs : ∀ a, 0 < Fi a → 0 < Fb a := fun a ha => by have := g3 a; omega
    exact ⟨Fi, rep_keep es kk dom g2 hs sh, hs⟩
end
/-- a source whose parts are new or frozen -/
def semIF (R : RC) (g : En → Option (List D)) : TI := fun σ H P => ∃ S e F B items, At0 R S H σ e F B ∧ g e = some items ∧
  ∀ J S' H' Fb, Stp S H f0 S' H' f0 → ItOk R J S' H' items Fb → (∀ a, 0 < Fb a → H a = none) → P J H'
def PIf (X : Cx) (tg iter : Expr) (g : En → Option (List D)) : Prop := PI X tg iter (semIF (Cx.R X) g)
/-- a source that is made by what may change things -/
def semIV (R : RC) (f : En → Option (List D × En)) : TI := fun σ H P => ∃ S e F B items e', At R S H σ e F B ∧ f e = some (items, e') ∧
  ∀ J S' H' F' Fb, Stp S H F S' H' F' → At R S' H' σ e' F' B → ItOk R J S' H' items Fb → (∀ a, 0 < Fb a → F' a + B a = 0) → P J H'
def PIv (X : Cx) (tg iter : Expr) (f : En → Option (List D × En)) : Prop := PI X tg iter (semIV (Cx.R X) f)
def vItems (f : En → Option (D × En)) (e : En) : Option (List D × En) := (f e).bind fun p => (dItems p.1).bind fun l => some (l, p.2)
def iOf (g : En → Option (List D)) (e : En) : Option (List D × En) := (g e).bind fun l => some (l, e)
section
variable {X : Cx} {tg l : Expr} {g : En → Option D} {gs : En → Option (List D)} {f : En → Option (D × En)}
theorem if_list (h : PEf X l g) : PIf X tg l (eItems g) := by
  refine pi_imp (pi_or (pi_list h) (pi_tup h)) fun σ H P ⟨S, e, F, B, items, A, hg, k⟩ => ?_
  unfold eItems at hg
  cases q : g e with
  | none => rw [q] at hg; cases hg
  | some d =>
    rw [q] at hg
    have fr : ∀ {S' H' : Hp} {Fb : Fp}, Stp S H f0 S' H' Fb → ∀ a, 0 < Fb a → H a = none := fun t a ha => (t.ft a ha).elim (fun z => absurd z (Nat.lt_irrefl 0)) id
    cases d with
    | lst o l =>
      simp only [Option.bind_some, dItems, Option.some.injEq] at hg
      subst hg
      refine .inl ⟨S, e, F, B, .lst o l, A, q, fun v S' H' Fb t n r => ?_⟩
      obtain ⟨a, vs, rfl, h1, h2⟩ := itok_lst t.sh r
      exact ⟨a, rfl, ⟨vs, h1⟩, k _ S' H' Fb t.zero h2 (fr t)⟩
    | tup l =>
      simp only [Option.bind_some, dItems, Option.some.injEq] at hg
      subst hg
      refine .inr ⟨S, e, F, B, .tup l, A, q, fun v S' H' Fb t n r => ?_⟩
      obtain ⟨a, vs, rfl, h1, h2⟩ := itok_tup t.sh r
      exact ⟨a, rfl, ⟨vs, h1⟩, k _ S' H' Fb t.zero h2 (fr t)⟩
    | _ => cases hg
theorem ib_of_f (h : PIf X tg l gs) : PIb X tg l gs := pi_imp h fun σ H P ⟨S, e, F, B, items, A, hg, k⟩ =>
  ⟨S, e, F, B, items, A, hg, fun J S' H' Fb t it fr => k J S' H' Fb t it fun a ha => .inr (fr a ha)⟩
theorem iv_of_f (h : PIf X tg l gs) : PIv X tg l (iOf gs) := pi_imp h fun σ H P ⟨S, e, F, B, items, e', A, hg, k⟩ => by
  unfold iOf at hg
  cases q : gs e with
  | none => rw [q] at hg; cases hg
  | some ds =>
    rw [q] at hg; cases hg
    refine ⟨S, e, F, B, items, A.toAt0, q, fun J S' H' Fb t it fr => k J S' H' F Fb ?_ (A.step t) it fun a ha => ?_⟩
    · have := t.beside F; rw [f0_fadd] at this; exact this
    · rcases Nat.eq_zero_or_pos (F a + B a) with z | z
      · exact z
      · exact absurd (fr a ha) (A.toAt0.old z)
theorem iv_list (h : PEv X l f) : PIv X tg l (vItems f) := by
  refine pi_imp (pi_or (pi_list h) (pi_tup h)) fun σ H P ⟨S, e, F, B, items, e', A, hg, k⟩ => ?_
  unfold vItems at hg
  cases q : f e with
  | none => rw [q] at hg; cases hg
  | some p =>
    obtain ⟨d, e1⟩ := p
    rw [q] at hg
    cases d with
    | lst o l =>
      simp only [Option.bind_some, dItems, Option.some.injEq, Prod.mk.injEq] at hg
      obtain ⟨rfl, rfl⟩ := hg
      refine .inl ⟨S, e, F, B, .lst o l, e1, A, q, fun v S' H' Fv F' t A1 r n m => ?_⟩
      obtain ⟨a, vs, rfl, h1, h2⟩ := itok_lst t.sh r
      exact ⟨a, rfl, ⟨vs, h1⟩, k _ S' H' F' Fv (t.less fun a ha => .inl (by rw [fadd_at]; omega)) A1 h2 fun a ha => by have := n a; omega⟩
    | tup l =>
      simp only [Option.bind_some, dItems, Option.some.injEq, Prod.mk.injEq] at hg
      obtain ⟨rfl, rfl⟩ := hg
      refine .inr ⟨S, e, F, B, .tup l, e1, A, q, fun v S' H' Fv F' t A1 r n m => ?_⟩
      obtain ⟨a, vs, rfl, h1, h2⟩ := itok_tup t.sh r
      exact ⟨a, rfl, ⟨vs, h1⟩, k _ S' H' F' Fv (t.less fun a ha => .inl (by rw [fadd_at]; omega)) A1 h2 fun a ha => by have := n a; omega⟩
    | _ => cases hg
end

/-! targets that bind frozen data -/
def semGo (R : RC) (as : List Nat) (bd : D → En → Option En) : TG := fun v σ H Q => ∃ S e F B d e', At R S H σ e F B ∧ rep R S H d v f0 ∧ bd d e = some e' ∧
  ∀ σ' F', At R S H σ' e' F' B → Sm as σ σ' → (∀ a, 0 < F' a → 0 < F a) → Q σ' H
def semGos (R : RC) (as : List Nat) (bd : List D → En → Option En) : TGs := fun vs σ H Q => ∃ S e F B ds e', At R S H σ e F B ∧ reps R S H ds vs f0 ∧ bd ds e = some e' ∧
  ∀ σ' F', At R S H σ' e' F' B → Sm as σ σ' → (∀ a, 0 < F' a → 0 < F a) → Q σ' H
def PGo (X : Cx) (as : List Nat) (tg : Expr) (bd : D → En → Option En) : Prop := PG X tg (semGo (Cx.R X) as bd)
def PGos (X : Cx) (as : List Nat) (tg : List Expr) (bd : List D → En → Option En) : Prop := PGs X tg (semGos (Cx.R X) as bd)
def boName (i : Nat) (d : D) (e : En) : Option En := if open? e i = true then some (e.set i (.ow d)) else none
section
variable {X : Cx} {as : List Nat}
theorem o_name {i : Nat} {n : Str} {pos : Pos} (hN : X.N.Nodup) (hi : X.N[i]? = some n) (hx : Loc X.env.scope n) (hv : i ∈ as) (hf : X.fn n = true ∨ X.env.scope.names.lookup n = some .local := by first | exact .inl rfl | exact .inr rfl | assumption) :
    PGo X as (.Name n pos) (boName i) := pg_imp (pg_name hN hi hx hf) fun v σ H P ⟨S, e, F, B, d, e', A, r, hb, k⟩ => by
  unfold boName at hb
  split at hb
  · rename_i ho
    cases hb
    obtain ⟨F2, A2, l⟩ := A.bind ho r (fun a => by have := A.nd a; rw [f0_at]; omega) .zero
    exact k _ F2 A2 (.set hv) fun a ha => by have := l a ha; rw [f0_fadd] at this; exact this
  · cases hb
theorem os_nil : PGos X as [] bdNil := pgs_imp pgs_nil fun xs σ H P ⟨S, e, F, B, ds, e', A, r, hb, k⟩ => by
  cases ds with
  | nil =>
    cases hb
    simp only [reps] at r
    exact ⟨r.1, k σ F A (.refl as σ) fun _ h => h⟩
  | cons d l => cases hb
theorem os_cons {t : Expr} {ts : List Expr} {b : D → En → Option En} {bs : List D → En → Option En} (h : PGo X as t b) (hs : PGos X as ts bs)
    (he : (assignEach (t :: ts) X.env).map (·.2) = assign t X.env :: (assignEach ts X.env).map (·.2) := by rfl) : PGos X as (t :: ts) (bdCons b bs) :=
  pgs_imp (pgs_cons h hs he) fun xs σ H P ⟨S, e, F, B, ds, e', A, r, hb, k⟩ => by
    cases ds with
    | nil => cases hb
    | cons d l =>
      change (b d e).bind (bs l) = some e' at hb
      cases q : b d e with
      | none => rw [q] at hb; cases hb
      | some e1 =>
        rw [q] at hb
        simp only [reps] at r
        obtain ⟨v, vr, F1, F2, rfl, r1, r2, z⟩ := r
        obtain ⟨rfl, rfl⟩ := fadd_zero z.symm
        refine ⟨v, vr, rfl, S, e, F, B, d, e1, A, r1, q, fun σ1 Fa A1 m1 l1 => ?_⟩
        exact ⟨S, e1, Fa, B, l, e', A1, r2, hb, fun σ2 Fb A2 m2 l2 => k σ2 Fb A2 (m1.trans m2) fun a ha => l1 a (l2 a ha)⟩
theorem o_tup {es : List Expr} {k n : Nat} {pos : Pos} {bs : List D → En → Option En} (hc : X.calm = true) (h : PGos X as es bs) (hl : ∀ (l : List D) (e e' : En), bs l e = some e' → l.length = n)
    (hn : (assignEach es X.env).length = n := by rfl) (hst : (assignEach es X.env).findIdx? (·.1) = none := by rfl) : PGo X as (.Tuple es k pos) (bdTup bs) := by
  refine pg_imp (pg_tup hc h hn hst) fun v σ H P ⟨S, e, F, B, d, e', A, r, hb, kk⟩ => ?_
  cases d with
  | tup l =>
    simp only [rep] at r
    obtain ⟨a, xs, rfl, h1, h2⟩ := r
    exact ⟨a, xs, rfl, h1, (reps_len h2).trans (hl l e e' hb), S, e, F, B, l, e', A, h2, hb, kk⟩
  | _ => cases hb
end

/-! ### for -/
def sForGo (bd : D → En → Option En) (f : SF) : List D → SF
  | [] => fun e => some (.nx, e)
  | it :: r => fun e => if isFz it = true then (bd it e).bind fun e1 => (f e1).bind fun q => match q.1 with
      | .nx => sForGo bd f r q.2
      | .ct => sForGo bd f r q.2
      | .bk => some (.nx, q.2)
      | .rt d => some (.rt d, q.2)
    else none
def sFor (gi : En → Option (List D × En)) (bd : D → En → Option En) (f : SF) : SF := fun e => (gi e).bind fun p => sForGo bd f p.1 p.2
section
variable {R : RC} {as : List Nat}
theorem for_core {bd : D → En → Option En} {f : SF} {J : It} {S1 H1 : Hp} {items : List D} {Fb F1 B : Fp} {σ : L2.St} {e1 : En} {fl : Fl} {e' : En} {Dn : Ends}
    (A : At R S1 H1 σ e1 F1 B) (it : ItOk R J S1 H1 items Fb) (fr : ∀ a, 0 < Fb a → F1 a = 0) (hf : sForGo bd f items e1 = some (fl, e')) (k : PostS R as B S1 H1 F1 σ fl e' Dn) :
    ∃ W : Nat → Nat → L2.St → Hp → Prop, (∃ m, W 0 m σ H1) ∧ ∀ i m σ H, W i m σ H →
      (J.stop i H ∧ Dn.nx σ H) ∨ (J.go i H ∧ ∃ N : L2.St → Hp → Prop, (∀ σ' H', N σ' H' → ∃ m', m' < m ∧ W (i + 1) m' σ' H') ∧ ∀ x H', J.yld i H x H' → semGo R as bd x σ H' fun σ2 H2 => semS R as f { Dn with nx := N, ct := N, bk := Dn.nx } σ2 H2) := by
  obtain ⟨G, Y, wk, hG, hY⟩ := it.ex
  refine for_it wk (fun i σ2 H2 => ∃ S2 F2 e2, At R S2 H2 σ2 e2 F2 B ∧ sForGo bd f (items.drop i) e2 = some (fl, e') ∧ PostS R as B S2 H2 F2 σ2 fl e' Dn ∧ Kept S1 H1 Fb H2 ∧ Ext S1 S2 ∧ ∀ a, 0 < Fb a → F2 a = 0 ∧ S2 a = none) ?_ ?_ ?_ ?_
  · exact ⟨S1, F1, e1, A, hf, k, fun x o h _ => h, Ext.refl _, fun a ha => ⟨fr a ha, (it.dom a ha).2⟩⟩
  · rintro i σ2 H2 hi ⟨S2, F2, e2, A2, _, _, kp, _⟩
    exact hG H2 kp
  · rintro i x σ2 H2 H3 hi ⟨S2, F2, e2, A2, hf2, k2, kp, es, fb⟩ hy
    have hx : items[i]? = some items[i] := List.getElem?_eq_getElem hi
    obtain ⟨t3, Fx, rx, hFx⟩ := hY i S2 H2 x H3 items[i] es A2.sh kp (fun a ha => (fb a ha).2) hx hy
    rw [List.drop_eq_getElem_cons hi] at hf2
    unfold sForGo at hf2
    split at hf2
    case isFalse => cases hf2
    case isTrue hz =>
      have z := isFz_f0 _ _ _ rx hz
      subst z
      cases qb : bd items[i] e2 with
      | none => rw [qb] at hf2; cases hf2
      | some e3 =>
        rw [qb] at hf2
        simp only [Option.bind_some] at hf2
        have A3 := A2.step t3
        have T3 : Stp S2 H2 F2 S2 H3 F2 := by have := t3.beside F2; rw [f0_fadd] at this; exact this
        refine ⟨S2, e2, F2, B, items[i], e3, A3, rx, qb, fun σ4 F4 A4 m4 l4 => ?_⟩
        cases qf : f e3 with
        | none => rw [qf] at hf2; cases hf2
        | some p =>
          obtain ⟨fl5, e5⟩ := p
          rw [qf] at hf2
          simp only [Option.bind_some] at hf2
          have T4 : Stp S2 H2 F2 S2 H3 F4 := T3.less fun a ha => .inr (l4 a ha)
          have k4 := k2.go T4 m4
          refine ⟨S2, e3, F4, B, fl5, e5, A4, qf, ?_⟩
          -- behind the body
          have nxt : ∀ (σ5 : L2.St) (S5 H5 : Hp) (F5 : Fp), sForGo bd f (items.drop (i + 1)) e5 = some (fl, e') → Stp S2 H3 F4 S5 H5 F5 → At R S5 H5 σ5 e5 F5 B → Sm as σ4 σ5 →
              ∃ S2 F2 e2, At R S2 H5 σ5 e2 F2 B ∧ sForGo bd f (items.drop (i + 1)) e2 = some (fl, e') ∧ PostS R as B S2 H5 F2 σ5 fl e' Dn ∧ Kept S1 H1 Fb H5 ∧ Ext S1 S2 ∧ ∀ a, 0 < Fb a → F2 a = 0 ∧ S2 a = none := by
            intro σ5 S5 H5 F5 hr t5 A5 m5
            have kp3 : Kept S1 H1 Fb H3 := fun x o h c => t3.ext x o (kp x o h c)
            have z4 : ∀ a, 0 < Fb a → F4 a = 0 := fun a ha => by
              rcases Nat.eq_zero_or_pos (F4 a) with z | z
              · exact z
              · have := l4 a z; have := (fb a ha).1; omega
            refine ⟨S5, F5, e5, A5, hr, k4.go t5 m5, fun x o h c => t5.kp x o (kp3 x o h c) ?_, es.trans t5.es, fun a ha => ?_⟩
            · rcases c with c | c | c
              · exact .inl (z4 x c)
              · exact .inr c
              · refine .inl ?_
                rcases Nat.eq_zero_or_pos (F4 x) with z | z
                · exact z
                · have := (A4.re.dom x (by omega)).2
                  rw [es x o c] at this; cases this
            · obtain ⟨⟨w, hw⟩, _⟩ := it.dom a ha
              have h3 : H3 a = some w := kp3 a w hw (.inl ha)
              constructor
              · rcases Nat.eq_zero_or_pos (F5 a) with z | z
                · exact z
                · rcases t5.ft a z with y | y
                  · have := z4 a ha; omega
                  · rw [h3] at y; cases y
              · cases z : S5 a with
                | none => rfl
                | some o =>
                  rcases t5.st a o z with y | y | y
                  · rw [(fb a ha).2] at y; cases y
                  · have := z4 a ha; omega
                  · rw [h3] at y; cases y
          cases fl5 with
          | nx => exact fun σ5 S5 H5 F5 t5 A5 m5 => nxt σ5 S5 H5 F5 hf2 t5 A5 m5
          | ct => exact fun σ5 S5 H5 F5 t5 A5 m5 => nxt σ5 S5 H5 F5 hf2 t5 A5 m5
          | bk => cases hf2; exact k4
          | rt d => cases hf2; exact k4
  · rintro σ2 H2 ⟨S2, F2, e2, A2, hf2, k2, _⟩
    rw [List.drop_length] at hf2
    cases hf2
    exact k2 σ2 S2 H2 F2 (.refl A2.sh) A2 (.refl as σ2)
end
section
variable {X : Cx} {as : List Nat} {tg iter : Expr} {body : List Stmt} {pos : Pos} {bd : D → En → Option En} {f : SF}
theorem s_for {gi : En → Option (List D × En)} (hp : PassesOwn (model X.prog X.w) X.A X.env X.xe) (hc : X.calm = true) (hi : PIv X tg iter gi) (hg : PGo X as tg bd) (hb : PSsv X as body f) (hs : ∀ x, foldedSetIterable iter X.env x = pure x := by intro _; rfl) : PSv X as (.For tg iter body [] pos) (sFor gi bd f) :=
  ps_imp (ps_for hp hc hi hg hb hs) fun D σ H ⟨S, e, F, B, fl, e', A, hf, k⟩ => by
    unfold sFor at hf
    cases q : gi e with
    | none => rw [q] at hf; cases hf
    | some p =>
      obtain ⟨items, e1⟩ := p
      rw [q] at hf
      refine ⟨S, e, F, B, items, e1, A, q, fun J S1 H1 F1 Fb t1 A1 it fr => ?_⟩
      exact for_core A1 it (fun a ha => by have := fr a ha; omega) hf (k.go t1 (.refl as σ))
end

/-! over what a slot holds: the slot is out of reach within the loop -/
def hideS : Sl → Sl
  | .ow d => if isFz d = true then .ow d else .no
  | _ => .no
def onlyE (i : Nat) (d : D) (e : En) : En := (e.map hideS).set i (.lk d)
def sForR (i : Nat) (gi : En → Option (List D)) (bd : D → En → Option En) (f : SF) : SF := fun e => match e[i]? with
  | some (.ow d) => (gi (onlyE i d e)).bind fun items => (sForGo bd f items (e.set i .no)).bind fun p => if open? p.2 i = true then some (p.1, p.2.set i (.ow d)) else none
  | _ => none
section
variable {R : RC} {as : List Nat} {S H : Hp}
theorem relE.hide : ∀ {σ : L2.St} {e : En} {F B : Fp}, relE R S H σ e F B → relE R S H σ (e.map hideS) f0 f0
  | [], [], _, _, _ => ⟨rfl, rfl⟩
  | o :: σ, s :: e, F, B, ⟨F1, B1, F2, B2, h1, h2, _, _⟩ => by
    refine ⟨f0, f0, f0, f0, ?_, h2.hide, (fadd_f0 f0).symm, (fadd_f0 f0).symm⟩
    cases s with
    | no => exact ⟨rfl, rfl⟩
    | lk d => exact ⟨rfl, rfl⟩
    | ow d =>
      show slot R S H o (if isFz d = true then .ow d else .no) f0 f0
      split
      · rename_i z
        obtain ⟨⟨v, e1, r⟩, _⟩ := h1
        have w := isFz_f0 d v F1 r z
        subst w
        exact ⟨⟨v, e1, r⟩, rfl⟩
      · exact ⟨rfl, rfl⟩
  | [], _ :: _, _, _, h => h.elim
  | _ :: _, [], _, _, h => h.elim
/-- what was laid aside comes back -/
theorem PostS.back {B : Fp} {F Fi Fr : Fp} {σ : L2.St} {fl : Fl} {e2 : En} {Dn : Ends} {i : Nat} {d : D} {v : V} (hF : F = fadd Fi Fr) (k : PostS R as B S H F σ fl (e2.set i (.ow d)) Dn) (hs : σ[i]? = some (some v)) (hi : i ∉ as) (r : rep R S H d v Fi)
    (ho : open? e2 i = true) (n : ∀ a, Fi a + Fr a + B a ≤ 1) (m : Muf H Fi) : PostS R as B S H Fr σ fl e2 Dn := by
  have key : ∀ (σ' : L2.St) (S' H' : Hp) (F' Fv : Fp), Stp S H Fr S' H' (fadd Fv F') → At R S' H' σ' e2 F' B → Sm as σ σ' → (∀ a, Fv a + F' a + B a ≤ 1) →
      ∃ F2, Stp S H F S' H' (fadd Fv F2) ∧ At R S' H' σ' (e2.set i (.ow d)) F2 B ∧ ∀ a, Fv a + F2 a + B a ≤ 1 := by
    intro σ' S' H' F' Fv t A sm nv
    have off : ∀ x, 0 < Fi x → Fr x = 0 := fun x hx => by have := n x; omega
    have r' := rep_step t d v Fi r off
    have out : ∀ x, 0 < Fi x → Fv x + F' x = 0 := fun x hx => by
      rcases Nat.eq_zero_or_pos (Fv x + F' x) with z | z
      · exact z
      · rcases t.ft x (by rw [fadd_at]; exact z) with y | y
        · have := off x hx; omega
        · obtain ⟨⟨w, hw⟩, _⟩ := rep_dom d v Fi r x hx
          rw [hw] at y; cases y
    obtain ⟨F2, A2, l⟩ := A.bind ho r' (fun a => by
      rcases Nat.eq_zero_or_pos (Fi a) with z | z
      · have := A.nd a; omega
      · have := out a z; have := n a; omega) (m.step t off)
    have hσ : σ'.set i (some v) = σ' := by
      have q : σ'[i]? = some (some v) := (sm.ag i hi).trans hs
      apply List.ext_getElem?
      intro j
      by_cases hj : i = j
      · subst hj
        rw [List.getElem?_set_self (List.getElem?_eq_some_iff.mp q).1, q]
      · rw [List.getElem?_set_ne hj]
    rw [hσ] at A2
    refine ⟨F2, ?_, A2, fun a => ?_⟩
    · have T := t.frame Fi
      rw [← hF] at T
      refine T.less fun a ha => .inl ?_
      rw [fadd_at] at ha
      rw [fadd_at, fadd_at]
      rcases Nat.eq_zero_or_pos (Fv a) with z | z
      · have := l a (by omega); rw [fadd_at] at this; omega
      · omega
    · rcases Nat.eq_zero_or_pos (F2 a) with z | z
      · have := nv a; omega
      · have := l a z
        rw [fadd_at] at this
        have := A2.nd a
        rcases Nat.eq_zero_or_pos (Fi a) with y | y
        · have := nv a; omega
        · have := out a y; omega
  cases fl with
  | nx =>
    intro σ' S' H' F' t A sm
    obtain ⟨F2, T, A2, _⟩ := key σ' S' H' F' f0 (by rw [f0_fadd]; exact t) A sm (fun a => by have := A.nd a; rw [f0_at]; omega)
    rw [f0_fadd] at T
    exact k σ' S' H' F2 T A2 sm
  | bk =>
    intro σ' S' H' F' t A sm
    obtain ⟨F2, T, A2, _⟩ := key σ' S' H' F' f0 (by rw [f0_fadd]; exact t) A sm (fun a => by have := A.nd a; rw [f0_at]; omega)
    rw [f0_fadd] at T
    exact k σ' S' H' F2 T A2 sm
  | ct =>
    intro σ' S' H' F' t A sm
    obtain ⟨F2, T, A2, _⟩ := key σ' S' H' F' f0 (by rw [f0_fadd]; exact t) A sm (fun a => by have := A.nd a; rw [f0_at]; omega)
    rw [f0_fadd] at T
    exact k σ' S' H' F2 T A2 sm
  | rt d' =>
    intro σ' u S' H' Fv F' t A ru nv mu sm
    obtain ⟨F2, T, A2, n2⟩ := key σ' S' H' F' Fv t A sm nv
    exact k σ' u S' H' Fv F2 T A2 ru n2 mu sm
end
section
variable {X : Cx} {as : List Nat} {tg iter : Expr} {body : List Stmt} {pos : Pos} {bd : D → En → Option En} {f : SF}
theorem s_forR {i : Nat} {gi : En → Option (List D)} (hp : PassesOwn (model X.prog X.w) X.A X.env X.xe) (hc : X.calm = true) (hi : PIb X tg iter gi) (hg : PGo X as tg bd) (hb : PSsv X as body f) (ha : i ∉ as) (hs : ∀ x, foldedSetIterable iter X.env x = pure x := by intro _; rfl) : PSv X as (.For tg iter body [] pos) (sForR i gi bd f) :=
  ps_imp (ps_for hp hc hi hg hb hs) fun D σ H ⟨S, e, F, B, fl, e', A, hf, k⟩ => by
    unfold sForR at hf
    cases qi : e[i]? with
    | none => rw [qi] at hf; cases hf
    | some s =>
      rw [qi] at hf
      cases s with
      | no => cases hf
      | lk d => cases hf
      | ow d =>
        simp only at hf
        obtain ⟨o, Fi, Bi, Fr, Br, g1, g2, g3, g4, g5⟩ := A.re.get qi
        obtain ⟨⟨v, rfl, r⟩, hbi⟩ := g2
        have hBr : Br = B := by rw [g4, hbi, f0_fadd]
        have hσ : σ.set i (some v) = σ := by
          apply List.ext_getElem?
          intro j
          by_cases hj : i = j
          · subst hj
            rw [List.getElem?_set_self (List.getElem?_eq_some_iff.mp g1).1, g1]
          · rw [List.getElem?_set_ne hj]
        have A0 : At0 (Cx.R X) S H σ (onlyE i d e) f0 Fi := by
          refine ⟨A.sh, ?_⟩
          have hl : i < e.length := (List.getElem?_eq_some_iff.mp qi).1
          have hm : (e.map hideS)[i]? = some (hideS (.ow d)) := by rw [List.getElem?_map, qi]; rfl
          obtain ⟨o', Fi', Bi', Fr', Br', g1', g2', g3', g4', g5'⟩ := A.re.hide.get hm
          have re := g5' S H f0 f0 (.refl0 A.sh) (fun _ _ => rfl) (some v) (.lk d) f0 Fi ⟨⟨v, rfl, r⟩, rfl⟩
          have z1 := (fadd_zero g3'.symm).2
          have z2 := (fadd_zero g4'.symm).2
          rw [z1, z2, fadd_f0, fadd_f0, hσ] at re
          exact re
        have re1 := g5 S H f0 f0 (.refl0 A.sh) (fun _ _ => rfl) (some v) .no f0 f0 ⟨rfl, rfl⟩
        rw [hσ, f0_fadd, f0_fadd, hBr] at re1
        have A1 : At (Cx.R X) S H σ (e.set i .no) Fr B := ⟨⟨A.sh, re1⟩, fun a => by have := A.nd a; rw [g3, fadd_at] at this; omega, fun a ha => A.mu a (by rw [g3, fadd_at]; omega)⟩
        cases qg : gi (onlyE i d e) with
        | none => rw [qg] at hf; cases hf
        | some items =>
          rw [qg] at hf
          simp only [Option.bind_some] at hf
          cases qf : sForGo bd f items (e.set i .no) with
          | none => rw [qf] at hf; cases hf
          | some p =>
            obtain ⟨fl2, e2⟩ := p
            rw [qf] at hf
            simp only [Option.bind_some] at hf
            split at hf
            case isFalse => cases hf
            case isTrue ho =>
              cases hf
              refine ⟨S, onlyE i d e, f0, Fi, items, A0, qg, fun J S1 H1 Fb t1 it fr => ?_⟩
              have T1 : ∀ G : Fp, Stp S H G S1 H1 G := fun G => by have := t1.beside G; rw [f0_fadd] at this; exact this
              have A2 := A1.step t1
              have n : ∀ a, Fi a + Fr a + B a ≤ 1 := fun a => by have := A.nd a; rw [g3, fadd_at] at this; omega
              have k1 : PostS (Cx.R X) as B S1 H1 Fr σ fl e2 D := (k.go (T1 F) (.refl as σ)).back g3 g1 ha (rep_step t1 d v Fi r fun _ _ => rfl) ho n
                (Muf.step (fun a ha => A.mu a (by rw [g3, fadd_at]; omega)) t1 fun _ _ => rfl)
              refine for_core A2 it (fun a ha => ?_) qf k1
              rcases fr a ha with y | y
              · rw [f0_at] at y; have := n a; omega
              · rcases Nat.eq_zero_or_pos (Fr a) with z | z
                · exact z
                · exact absurd y (A1.toAt0.old (by omega))
end
end Z

set_option Elab.async false
set_option linter.all false
set_option maxRecDepth 100000
set_option maxHeartbeats 1000000
/-! # A def's promise where no text of a list is under way (so that repr tells all): FnG; its rule, calls by it, the end of a law by it -/
namespace Z
open PySem PySem.Spec PyProof.Rows L2

structure RoomG (k : Nat) (A : Around) : Prop extends Room k A where
  gd : A.guards = some []
theorem RoomG.mono {j k : Nat} {A : Around} (r : RoomG k A) (h : j ≤ k) : RoomG j A := ⟨r.toRoom.mono h, r.gd⟩
theorem RoomG.deeper {k : Nat} {A : Around} (r : RoomG (k + 1) A) (env : Env) : RoomG k (A.deeper env) := ⟨r.toRoom.deeper env, r.gd⟩
theorem RoomG.make {k : Nat} {A : Around} (r : RoomG (k + 1) A) (C : Addr) (us : List Value) (kw : List (Str × Value)) : RoomG k (A.under (.builtin "type.__call__" ⟨.ref C :: us, kw⟩)) :=
  ⟨r.toRoom.make C us kw, by
    have := r.gd
    simp [Around.under, Code.guards, Code.isGuard, pushGuards, guardIds, this]⟩
structure FnG (P : Program) (w : World) (K : PySem.W.Frag) (mg : Str → Option Value) (base : Heap) (CX : CXT) (k : Nat) (f : Addr) (fd : FuncData) (ps : List Str) (sp : Sp) : Prop where
  len : ∀ vs H Q E, sp vs H Q E → vs.length = ps.length
  run : ∀ (A : Around) (outer : List Env) (s : Shared) (H : Hp) (args : Args) (us : List Value) (vs : List V) (Q : VK) (E : XK), RoomG k A → Env0 P w K mg base A outer s H → BindsTo s fd args (ps.zip us) → Vals vs us → sp vs H Q E →
    codeAny (model P w) A (.call (.ref f) args) (CR CX outer P w H s Q E) s
theorem FnG.mono {P : Program} {w : World} {K : PySem.W.Frag} {mg : Str → Option Value} {base : Heap} {CX : CXT} {j k : Nat} {f : Addr} {fd : FuncData} {ps : List Str} {sp : Sp} (F : FnG P w K mg base CX j f fd ps sp) (h : j ≤ k) :
    FnG P w K mg base CX k f fd ps sp := ⟨F.len, fun A outer s H args us vs Q E hr => F.run A outer s H args us vs Q E (hr.mono h)⟩
theorem FnG.imp {P : Program} {w : World} {K : PySem.W.Frag} {mg : Str → Option Value} {base : Heap} {CX : CXT} {k : Nat} {f : Addr} {fd : FuncData} {ps : List Str} {sp sp' : Sp} (F : FnG P w K mg base CX k f fd ps sp)
    (h : ∀ vs H Q E, sp' vs H Q E → sp vs H Q E) : FnG P w K mg base CX k f fd ps sp' :=
  ⟨fun vs H Q E q => F.len vs H Q E (h _ _ _ _ q), fun A outer s H args us vs Q E hr he hb hv hs => F.run A outer s H args us vs Q E hr he hb hv (h _ _ _ _ hs)⟩

section
variable {X : Cx} {CX : CXT} {k : Nat} {f C : Addr} {fd : FuncData} {ps : List Str} {sp : Sp} {E : XK} {x m : Str} {p pos apos : Pos} {e o : Expr} {es : List Expr} {ta : TE} {t : TA}
/-- what lies behind a callee -/
theorem end_of {pins : List (Addr × Obj)} {σ : L2.St} {H : Hp} {s : Shared} {Q : VK} {Q' : Value → Shared → Prop} (hx : Passes CX X E) (I : Inv X pins σ H s) (hq : ∀ u s', EP X pins σ Q u s' → Q' u s') (r : Result) (s' : Shared)
    (h : CR CX X.stack X.prog X.w H s Q E r s') : match r with
      | .ok (.ret u) => Q' u s'
      | .ok _ => False
      | .error e => X.xe e s' := by
  cases r with
  | error e => exact hx pins σ H s e s' I h
  | ok fl =>
    cases fl with
    | ret u => exact hq u s' (I.after h)
    | next => exact False.elim h
    | brk => exact False.elim h
    | cont => exact False.elim h
theorem run_fnG {pins : List (Addr × Obj)} {σ : L2.St} {H : Hp} {s : Shared} {Q : VK} {us : List Value} {vs : List V} (F : FnG X.prog X.w X.K X.mg X.base CX k f fd ps sp) (hr : RoomG k X.A) (hb : Binds X.K fd ps []) (hx : Passes CX X E)
    (I : Inv X pins σ H s) (r : Vals vs us) (h : sp vs H Q E) : wpAny (model X.prog X.w) X.A (call (.ref f) us) (EP X pins σ Q) X.xe s := by
  have hl : (us ++ []).length = ps.length := by rw [List.append_nil, ← r.length]; exact F.len _ _ _ _ h
  have b := hb s us I.kIn hl
  rw [List.append_nil] at b
  refine wpAny_call (codeAny_mono (F.run X.A X.stack s H ⟨us, []⟩ us vs Q E hr I.env0 b r h) fun r s' hq => ?_)
  have z := end_of (Q' := EP X pins σ Q) hx I (fun _ _ h => h) r s' hq
  cases r with
  | error e => exact z
  | ok fl => cases fl <;> first | exact z | exact z.elim
theorem pe_callG (F : FnG X.prog X.w X.K X.mg X.base CX k f fd ps sp) (hr : RoomG k X.A) (hg : Gl X x) (hm : X.mg x = some (.ref f)) (hk : PySem.W.keepIn X.K (.ref f) = true) (hb : Binds X.K fd ps []) (hx : Passes CX X E)
    (ha : PA X (e :: es) t) (hdb : (x == ("__debug__" : Str)) = false := by decide) (he : starEach (e :: es) X.env = (false, eval e X.env) :: starEach es X.env := by rfl) (hpl : (backTo pos (starEach es X.env)).any (·.1) = false := by rfl) :
    PE X (.Call (.Name x p) (e :: es) [] pos) (tCall sp [] E t) := by
  refine ⟨fun pins s σ H Q I h => ?_⟩
  refine wpAny_Call_Name_kw (ld_glob I hg hm ?_ hdb)
  refine PySem.W.callWith_K (h₀ := X.base) I.ok.mod.kin hk (thn (ha.run pos pins s σ H _ I h) fun us s1 ⟨vs, H1, I1, r, q⟩ => ⟨I1.kIn, ?_⟩) he hpl
  have q : sp (vs ++ []) H1 Q E := q
  rw [List.append_nil] at q
  exact run_fnG F hr hb hx I1 r q
theorem pe_callG0 (F : FnG X.prog X.w X.K X.mg X.base CX k f fd ps sp) (hr : RoomG k X.A) (hg : Gl X x) (hm : X.mg x = some (.ref f)) (hk : PySem.W.keepIn X.K (.ref f) = true) (hb : Binds X.K fd ps []) (hx : Passes CX X E)
    (hdb : (x == ("__debug__" : Str)) = false := by decide) : PE X (.Call (.Name x p) [] [] pos) (tCall sp [] E tNil) := by
  refine ⟨fun pins s σ H Q I h => ?_⟩
  refine wpAny_Call_Name_kw (ld_glob I hg hm ?_ hdb)
  exact PySem.W.callWith_K0 I.kIn hk (run_fnG (us := []) F hr hb hx I .nil h)
/-- o.m(e, ..) -/
theorem pe_methG {pl : Sem Bool} (he : PE X o ta) (c : Cls X.K C) (hm : Meth X.K C m f) (F : FnG X.prog X.w X.K X.mg X.base CX k f fd ps sp) (hr : RoomG k X.A) (hb : Binds X.K fd ps []) (hx : Passes CX X E) (ha : PA X (e :: es) t)
    (hst : starEach (e :: es) X.env = (false, eval e X.env) :: starEach es X.env := by rfl) (hpl : (backTo pos (starEach es X.env)).any (·.1) = false := by rfl)
    (ht : eval (.Call (.Attribute o m apos) (e :: es) [] pos) X.env = (do
      let ov ← eval o X.env
      standAt apos.atName
      let (f, first) ← holding [ov] (getMethod ov m pl)
      callWith pos f first (backTo pos (starEach (e :: es) X.env)) (backToKw pos (keywordEach [] X.env))) := by rfl) :
    PE X (.Call (.Attribute o m apos) (e :: es) [] pos) (tMeth C m sp [] E ta t) := by
  refine ⟨fun pins s σ H Q I h => ?_⟩
  refine PySem.W.methodCall_KW (pl := pl) (thn (he.run pins s σ H _ I h) fun u s1 ⟨x, H1, I1, rx, a, dx, fs, ex, ea, l, q⟩ => ?_) ht
  subst ex
  obtain rfl : u = Value.ref a := rx
  refine getmeth_ok I1 ea c hm l ?_
  refine PySem.W.callWith_K (first := [.ref a]) (h₀ := X.base) I.ok.mod.kin hm.kp (thn (ha.run pos pins s1 σ H1 _ I1 q) fun us s2 ⟨vs, H2, I2, r, q2⟩ => ⟨I2.kIn, ?_⟩) hst hpl
  have q2 : sp (.ref a :: (vs ++ [])) H2 Q E := q2
  rw [List.append_nil] at q2
  exact run_fnG (us := .ref a :: us) (vs := .ref a :: vs) F hr hb hx I2 (.cons rfl r) q2
/-- o.m() -/
theorem pe_methG0 {pl : Sem Bool} (he : PE X o ta) (c : Cls X.K C) (hm : Meth X.K C m f) (F : FnG X.prog X.w X.K X.mg X.base CX k f fd ps sp) (hr : RoomG k X.A) (hb : Binds X.K fd ps []) (hx : Passes CX X E)
    (ht : eval (.Call (.Attribute o m apos) [] [] pos) X.env = (do
      let ov ← eval o X.env
      standAt apos.atName
      let (f, first) ← holding [ov] (getMethod ov m pl)
      callWith pos f first (backTo pos (starEach [] X.env)) (backToKw pos (keywordEach [] X.env))) := by rfl) :
    PE X (.Call (.Attribute o m apos) [] [] pos) (tMeth C m sp [] E ta tNil) := by
  refine ⟨fun pins s σ H Q I h => ?_⟩
  refine PySem.W.methodCall_KW (pl := pl) (thn (he.run pins s σ H _ I h) fun u s1 ⟨x, H1, I1, rx, a, dx, fs, ex, ea, l, q⟩ => ?_) ht
  subst ex
  obtain rfl : u = Value.ref a := rx
  refine getmeth_ok I1 ea c hm l ?_
  exact PySem.W.callWith_K0 (first := [.ref a]) I1.kIn hm.kp (run_fnG (us := [.ref a]) (vs := [.ref a]) F hr hb hx I1 (.cons rfl .nil) q)
theorem run_makeG {pins : List (Addr × Obj)} {σ : L2.St} {H : Hp} {s : Shared} {Q : VK} {us : List Value} {vs : List V} (M : Mk X.K C f) (F : FnG X.prog X.w X.K X.mg X.base CX k f fd ps sp) (hr : RoomG (k + 1) X.A) (hb : Binds X.K fd ps [])
    (hx : Passes CX X E) (I : Inv X pins σ H s) (r : Vals vs us)
    (h : ∀ x dx, H x = none → H dx = none → dx ≠ x → sp (.ref x :: vs) (upd (upd H dx (.own x)) x (.ins C dx [])) (fun v H2 => v = .non ∧ Q (.ref x) H2) E) :
    wpAny (model X.prog X.w) X.A (call (.ref C) us) (EP X pins σ Q) X.xe s := by
  have hq := h (s.heap.objs.size + 1) s.heap.objs.size (I.hok.fresh (Nat.le_succ _)) (I.hok.fresh (Nat.le_refl _)) (Nat.ne_of_lt (Nat.lt_succ_self _))
  have I2 := Inv.made (C := C) I
  have r2 : Vals (V.ref (s.heap.objs.size + 1) :: vs) (Value.ref (s.heap.objs.size + 1) :: us) := .cons rfl r
  have hl : (Value.ref (s.heap.objs.size + 1) :: us ++ []).length = ps.length := by
    rw [List.append_nil, ← r2.length]
    exact F.len _ _ _ _ hq
  have b := hb _ (Value.ref (s.heap.objs.size + 1) :: us) I2.kIn hl
  rw [List.append_nil] at b
  refine wpAny_call (make_map (f := f) I.kIn M.makes M.init (beq_iff_eq.mp M.fn) (codeAny_mono (F.run _ X.stack _ _ ⟨Value.ref (s.heap.objs.size + 1) :: us, []⟩ (Value.ref (s.heap.objs.size + 1) :: us) _ _ E (hr.make C us [])
    (I2.env0.make C us []) b r2 hq) fun r s' hq' => ?_))
  have z := end_of (Q' := fun u s' => u = .none ∧ EP X pins σ Q (.ref (s.heap.objs.size + 1)) s') hx I2 (fun u s' hz => by
    obtain ⟨v, H', I3, rv, ev, q3⟩ := hz
    subst ev
    exact ⟨rv, V.ref (s.heap.objs.size + 1), H', I3, rfl, q3⟩) r s' hq'
  cases r with
  | error e => exact z
  | ok fl => cases fl <;> first | exact z | exact z.elim
theorem pe_makeG (M : Mk X.K C f) (F : FnG X.prog X.w X.K X.mg X.base CX k f fd ps sp) (hr : RoomG (k + 1) X.A) (hg : Gl X x) (hm : X.mg x = some (.ref C)) (hb : Binds X.K fd ps []) (hx : Passes CX X E)
    (ha : PA X (e :: es) t) (hdb : (x == ("__debug__" : Str)) = false := by decide) (he : starEach (e :: es) X.env = (false, eval e X.env) :: starEach es X.env := by rfl) (hpl : (backTo pos (starEach es X.env)).any (·.1) = false := by rfl) :
    PE X (.Call (.Name x p) (e :: es) [] pos) (tMake C sp [] E t) := by
  refine ⟨fun pins s σ H Q I h => ?_⟩
  refine wpAny_Call_Name_kw (ld_glob I hg hm ?_ hdb)
  refine PySem.W.callWith_K (h₀ := X.base) I.ok.mod.kin M.kp (thn (ha.run pos pins s σ H _ I h) fun us s1 ⟨vs, H1, I1, r, q⟩ => ⟨I1.kIn, ?_⟩) he hpl
  have q : ∀ x dx, H1 x = none → H1 dx = none → dx ≠ x → sp (.ref x :: (vs ++ [])) (upd (upd H1 dx (.own x)) x (.ins C dx [])) (fun v H2 => v = .non ∧ Q (.ref x) H2) E := q
  rw [List.append_nil] at q
  exact run_makeG M F hr hb hx I1 r q
end

/-- a def by its body, no text under way -/
theorem fnG_of {CX : CXT} {P : Program} {w : World} {K : PySem.W.Frag} {mg : Str → Option Value} {base : Heap} {k : Nat} {f : Addr} {name qual : Str} {params : Arguments} {body : List Stmt} {scope : Scope} {dV kV doc pm cdv ct oc : Value} {an od : Option Addr}
    {osl : Array (Option Value)} {N ps : List Str} {sp : Sp} (lk : K.lookup f = some ⟨oc, od, .func (PySem.W.fnOf name qual params body scope dV kV doc pm an cdv ct), osl⟩) (hcd : PySem.W.codeIn K cdv qual = true) (S : FnScope N ps scope)
    (len : ∀ vs H Q E, sp vs H Q E → vs.length = ps.length)
    (hbody : ∀ (A : Around) (outer : List Env) (s : Shared) (H : Hp) (vs : List V) (Q : VK) (E : XK), RoomG k (A.deeper (envOfC qual scope s.heap.objs.size f cdv)) → sp vs H Q E →
      ∃ t, PSs (cxOf CX P w K mg base N qual scope f cdv A outer s H E) body t ∧ t { nx := fun _ H' => Q .non H', rt := Q } (L2.start N vs) H) :
    FnG P w K mg base CX (k + 1) f (PySem.W.fnOf name qual params body scope dV kV doc pm an cdv ct) ps sp := by
  refine ⟨len, fun A outer s H args us vs Q E hr e0 hb r hsp => ?_⟩
  have KX : K.In s.heap := e0.mod.kin.keeps fun b o e => (e0.bs b o e).1
  have kinds : ∀ y ∈ ps.zip us, scope.names.lookup y.1 = some .local ∨ (scope.names.lookup y.1 = some .cell ∧ ((cellsFrom (s.heap.objs.size + 1) scope.names []).lookup y.1).isSome = true) := fun y hy =>
    (S.par y.1 (List.of_mem_zip (a := y.1) (b := y.2) hy).1).imp id fun q => ⟨q, PySem.W.cellsFrom_some _ _ _ (.inl q)⟩
  refine codeAny_call_function hr.toRoom.depth (KX _ _ lk) rfl S.co S.gen rfl (PySem.W.codeRec_of KX hcd) (hb _ _ _ _ (wpAny_newFunctionEnv_cells S.kind kinds fun env he s1 x => ?_))
  subst he
  obtain ⟨t, ht, hq⟩ := hbody A outer s H vs Q E (hr.deeper _) hsp
  refine ⟨(Heap.NoLimit.keeps (e0.mod.nolimit.keeps fun b o e => (e0.bs b o e).1) x.toInCall.keep), codeAny_func (wpAny_mono (ht.run [] s1 (L2.start N vs) H _ (inv_start S hr.hd e0 (len _ _ _ _ hsp) r x) hq) (fun fl s' hs => ?_) fun e s' hs => hs)⟩
  cases fl with
  | ret u =>
    obtain ⟨v, σ', H', J, rv, q⟩ := hs
    exact ⟨v, H', J.os, J.bare, J.base, J.hok, rv, q⟩
  | next =>
    obtain ⟨σ', H', J, q⟩ := hs
    exact ⟨V.non, H', J.os, J.bare, J.base, J.hok, rfl, q⟩
  | brk =>
    obtain ⟨_, _, _, q⟩ := hs
    exact False.elim q
  | cont =>
    obtain ⟨_, _, _, q⟩ := hs
    exact False.elim q
theorem funG_ok {P : Program} {w : World} {K : PySem.W.Frag} {mg : Str → Option Value} {base : Heap} {x qual : Str} {st : Stmt} {f : Addr} {fd : FuncData} {N ps : List Str} {k : Nat} {sp : Sp} (F : Fun K x qual st f fd) (S : FnScope N ps (defScope st)) (len : ∀ vs H Q E, sp vs H Q E → vs.length = ps.length)
    (hbody : ∀ (cdv : Value) (A : Around) (outer : List Env) (s : Shared) (H : Hp) (vs : List V) (Q : VK) (E : XK), RoomG k (A.deeper (envOfC qual (defScope st) s.heap.objs.size f cdv)) → sp vs H Q E →
      ∃ t, PSs (cxOf CX0 P w K mg base N qual (defScope st) f cdv A outer s H E).nox (defBody st) t ∧ t { nx := fun _ H' => Q .non H', rt := Q } (L2.start N vs) H) : FnG P w K mg base CX0 (k + 1) f fd ps sp := by
  obtain ⟨oc, od, kV, doc, pm, an, cdv, ct, osl, rfl, lk, hcd⟩ := F.ex
  refine fnG_of lk hcd S len fun A outer s H vs Q E hr hsp => ?_
  obtain ⟨t, h, q⟩ := hbody cdv A outer s H vs Q E hr hsp
  exact ⟨t, h.nox, q⟩
end Z

set_option Elab.async false
set_option linter.all false
set_option maxRecDepth 100000
set_option maxHeartbeats 1000000
/-! # defs and calls on data -/
namespace Z
open PySem PySem.Spec PyProof.Rows L2

theorem filterMap_congr' {α β : Type} {f g : α → Option β} : ∀ {l : List α}, (∀ a ∈ l, f a = g a) → l.filterMap f = l.filterMap g
  | [], _ => rfl
  | a :: l, h => by
    rw [List.filterMap_cons, List.filterMap_cons, h a List.mem_cons_self, filterMap_congr' fun b hb => h b (List.mem_cons_of_mem _ hb)]
abbrev Fn := List D → Option (D × List D)
def pickV (vs : List V) (ls : List Nat) : List V := ls.filterMap fun i => vs[i]?
/-- a def's promise: what F says of the data; the parameters of ls come back changed -/
def spFn (R : RC) (n : Nat) (ls : List Nat) (F : Fn) : Sp := fun vs H Q _ => vs.length = n ∧ ∃ S ds Ff r out, Ext S H ∧ reps R S H ds vs Ff ∧ Okf H Ff ∧ F ds = some (r, out) ∧
  ∀ v S' H' Fv Fo, Stp S H Ff S' H' (fadd Fv Fo) → rep R S' H' r v Fv → reps R S' H' out (pickV vs ls) Fo → Okf H' (fadd Fv Fo) → Q v H'
/-- the slots ls, each taken out -/
def outs : List Nat → En → Option (List D)
  | [], _ => some []
  | i :: ls, e => match e[i]? with
    | some (.ow d) => (outs ls (e.set i .no)).bind fun l => some (d :: l)
    | _ => none
def fnOf (n m : Nat) (ls : List Nat) (b : SF) : Fn := fun ds => if ds.length = n then (b (ds.map Sl.ow ++ List.replicate m .no)).bind fun p => match p.1 with
    | .rt d => (outs ls p.2).bind fun l => some (d, l)
    | .nx => (outs ls p.2).bind fun l => some (.non, l)
    | _ => none
  else none

section
variable {R : RC} {S H : Hp}
theorem relE_start : ∀ {ds : List D} {vs : List V} {F : Fp} (m : Nat), reps R S H ds vs F → relE R S H (vs.map some ++ List.replicate m none) (ds.map Sl.ow ++ List.replicate m .no) F f0
  | [], vs, F, m, h => by
    simp only [reps] at h
    obtain ⟨rfl, rfl⟩ := h
    show relE R S H (List.replicate m none) (List.replicate m .no) f0 f0
    induction m with
    | zero => exact ⟨rfl, rfl⟩
    | succ m ih => exact ⟨f0, f0, f0, f0, ⟨rfl, rfl⟩, ih, (fadd_f0 f0).symm, (fadd_f0 f0).symm⟩
  | d :: ds, vs, F, m, h => by
    simp only [reps] at h
    obtain ⟨v, vr, F1, F2, rfl, h1, h2, rfl⟩ := h
    exact ⟨F1, f0, F2, f0, ⟨⟨v, rfl, h1⟩, rfl⟩, relE_start m h2, rfl, (fadd_f0 f0).symm⟩
theorem relE.outs (sh : Ext S H) : ∀ {ls : List Nat} {σ : L2.St} {e : En} {F B : Fp} {out : List D}, relE R S H σ e F B → Z.outs ls e = some out →
    ∃ (vs : List V) (Fo Fr : Fp), reps R S H out vs Fo ∧ (∀ a, Fo a + Fr a = F a) ∧ vs = ls.filterMap (fun i => (σ[i]?).join) ∧ vs.length = ls.length
  | [], σ, e, F, B, out, h, ho => by
    cases ho
    exact ⟨[], f0, F, by simp only [reps]; exact ⟨trivial, trivial⟩, fun a => by rw [f0_at]; omega, rfl, rfl⟩
  | i :: ls, σ, e, F, B, out, h, ho => by
    unfold Z.outs at ho
    cases q : e[i]? with
    | none => rw [q] at ho; cases ho
    | some s =>
      rw [q] at ho
      cases s with
      | no => cases ho
      | lk d => cases ho
      | ow d =>
        simp only at ho
        obtain ⟨o, Fi, Bi, Fr, Br, g1, g2, g3, g4, g5⟩ := h.get q
        obtain ⟨⟨v, rfl, r⟩, _⟩ := g2
        have re := g5 S H f0 f0 (.refl0 sh) (fun _ _ => rfl) (some v) .no f0 f0 ⟨rfl, rfl⟩
        have hσ : σ.set i (some v) = σ := by
          apply List.ext_getElem?
          intro j
          by_cases hj : i = j
          · subst hj
            rw [List.getElem?_set_self (List.getElem?_eq_some_iff.mp g1).1, g1]
          · rw [List.getElem?_set_ne hj]
        rw [hσ, f0_fadd, f0_fadd] at re
        cases q2 : Z.outs ls (e.set i .no) with
        | none => rw [q2] at ho; cases ho
        | some l =>
          rw [q2] at ho; cases ho
          obtain ⟨vs, Fo, Fr2, h1, h2, h3, h4⟩ := relE.outs sh re q2
          refine ⟨v :: vs, fadd Fi Fo, Fr2, ?_, fun a => ?_, ?_, by rw [List.length_cons, List.length_cons, h4]⟩
          · simp only [reps]; exact ⟨v, vs, Fi, Fo, rfl, r, h1, rfl⟩
          · have := h2 a; rw [g3, fadd_at, fadd_at]; omega
          · have q : (σ[i]?).join = some v := by rw [g1]; rfl
            rw [List.filterMap_cons, q, h3]
end

/-! ### a def by its body -/
theorem fn_ok {P : Program} {w : World} {K : PySem.W.Frag} {mg : Str → Option Value} {base : Heap} {x qual : Str} {st : Stmt} {f : Addr} {fd : FuncData} {N ps : List Str} {k n m : Nat} {ls as : List Nat} {b : SF}
    (F : Fun K x qual st f fd) (S : FnScope N ps (defScope st)) (hn : ps.length = n) (hN : N.length = n + m) (hls : ∀ i ∈ ls, i ∉ as ∧ i < n)
    (hb : ∀ (cdv : Value) (A : Around) (outer : List Env) (s : Shared) (H : Hp) (E : XK), RoomG k (A.deeper (envOfC qual (defScope st) s.heap.objs.size f cdv)) →
      PSsv (cxOf CX0 P w K mg base N qual (defScope st) f cdv A outer s H E).nox as (defBody st) b) :
    FnG P w K mg base CX0 (k + 1) f fd ps (spFn ⟨K, mg⟩ n ls (fnOf n m ls b)) := by
  refine funG_ok F S (fun vs H Q E h => h.1.trans hn.symm) fun cdv A outer s H vs Q E hr h => ⟨_, hb cdv A outer s H E hr, ?_⟩
  obtain ⟨hl, S0, ds, Ff, r, out, sh, rp, ok, hf, kk⟩ := h
  have hds : ds.length = n := (reps_len rp).symm.trans hl
  unfold fnOf at hf
  rw [if_pos hds] at hf
  have e1 : N.length - vs.length = m := by omega
  have A0 : At ⟨K, mg⟩ S0 H (L2.start N vs) (ds.map Sl.ow ++ List.replicate m .no) Ff f0 := by
    unfold L2.start
    rw [e1]
    exact ⟨⟨sh, relE_start m rp⟩, fun a => by have := (ok a).1; rw [f0_at]; omega, fun a => (ok a).2⟩
  cases q : b (ds.map Sl.ow ++ List.replicate m .no) with
  | none => rw [q] at hf; cases hf
  | some p =>
    obtain ⟨fl, e'⟩ := p
    rw [q] at hf
    simp only [Option.bind_some] at hf
    -- the end
    have fin : ∀ (d : D) (σ' : L2.St) (v : V) (S' H' : Hp) (Fv F' : Fp), ((Z.outs ls e').bind fun l => some (d, l)) = some (r, out) → Stp S0 H Ff S' H' (fadd Fv F') → At ⟨K, mg⟩ S' H' σ' e' F' f0 → rep ⟨K, mg⟩ S' H' d v Fv →
        (∀ a, Fv a + F' a + f0 a ≤ 1) → Muf H' Fv → Sm as (L2.start N vs) σ' → Q v H' := by
      intro d σ' v S' H' Fv F' ho t A' rv nv mu sm
      cases q2 : Z.outs ls e' with
      | none => rw [q2] at ho; cases ho
      | some l =>
        rw [q2] at ho; cases ho
        obtain ⟨ws, Fo, Fr, h1, h2, h3, h4⟩ := A'.re.outs A'.sh q2
        have e2 : ws = pickV vs ls := by
          rw [h3]
          unfold pickV
          apply filterMap_congr'
          intro i hi
          have hv : i < vs.length := by have := (hls i hi).2; omega
          have : σ'[i]? = some (some vs[i]) := by
            rw [sm.ag i (hls i hi).1]
            unfold L2.start
            rw [List.getElem?_append_left (by rw [List.length_map]; exact hv), List.getElem?_map, List.getElem?_eq_getElem hv]
            rfl
          rw [this, List.getElem?_eq_getElem hv]
          rfl
        rw [e2] at h1
        refine kk v S' H' Fv Fo (t.less fun a ha => .inl ?_) rv h1 fun a => ⟨?_, fun ha => ?_⟩
        · have := h2 a; rw [fadd_at] at ha ⊢; omega
        · have := h2 a; have := nv a; rw [fadd_at]; omega
        · rw [fadd_at] at ha
          rcases Nat.eq_zero_or_pos (Fv a) with z | z
          · exact A'.mu a (by have := h2 a; omega)
          · exact mu a z
    refine ⟨S0, _, Ff, f0, fl, e', A0, q, ?_⟩
    cases fl with
    | nx => exact fun σ' S' H' F' t A' sm => fin .non σ' .non S' H' f0 F' hf (by rw [f0_fadd]; exact t) A' (repN ..) (fun a => by have := A'.nd a; rw [f0_at] at this ⊢; omega) .zero sm
    | rt d => exact fun σ' v S' H' Fv F' t A' rv nv mu sm => fin d σ' v S' H' Fv F' hf t A' rv nv mu sm
    | bk => cases hf
    | ct => cases hf

/-! ### calls that only look -/
def eCall (F : Fn) (gs : En → Option (List D)) (e : En) : Option D := (gs e).bind fun ds => (F (fzs ds)).bind fun p => if noFz p.1 = true then some p.1 else none
section
variable {R : RC}
theorem semF_call {n : Nat} {F : Fn} {gs : En → Option (List D)} (hn : ∀ e ds, gs e = some ds → ds.length = n) (E : XK) (σ : L2.St) (H : Hp) (Q : VK) (w : semF R (eCall F gs) σ H Q) : tCall (spFn R n [] F) [] E (semBs R gs) σ H Q := by
  obtain ⟨S, e, F0, B, d, A, hg, k⟩ := w
  unfold eCall at hg
  cases q : gs e with
  | none => rw [q] at hg; cases hg
  | some ds =>
    rw [q] at hg
    simp only [Option.bind_some] at hg
    cases q2 : F (fzs ds) with
    | none => rw [q2] at hg; cases hg
    | some p =>
      obtain ⟨r, out⟩ := p
      rw [q2] at hg
      simp only [Option.bind_some] at hg
      split at hg
      case isFalse => cases hg
      case isTrue hz =>
        cases hg
        refine ⟨S, e, F0, B, ds, A, q, fun vs S1 H1 Fb t1 rp ob => ?_⟩
        show spFn R n [] F (vs ++ []) H1 Q E
        rw [List.append_nil]
        refine ⟨(reps_len rp).trans (hn e ds q), H1, fzs ds, f0, d, out, .refl H1, reps_fz t1.sh ds vs Fb rp (fun _ _ => rfl), .zero, q2, fun v S' H' Fv Fo t rv ro ok => ?_⟩
        have nw : ∀ a, 0 < Fv a → H1 a = none := fun a ha => (t.ft a (by rw [fadd_at]; omega)).elim (fun z => absurd z (Nat.lt_irrefl 0)) id
        have T : Stp S1 H1 f0 S1 H' Fv := ⟨.refl S1, fun x o h => t.ext x o (t1.sh x o h), t.kp, fun a ha => .inr (nw a ha), fun a o h => .inl h⟩
        have T2 : Stp S H f0 S1 H' Fv := t1.trans T
        refine k v S1 H' Fv T2 (fun a => ⟨by have := (ok a).1; rw [fadd_at] at this; omega, fun ha => (ok a).2 (by rw [fadd_at]; omega)⟩) (rep_noFz d v Fv rv hz fun x hx => ?_)
        cases z : S1 x with
        | none => rfl
        | some o => have := t1.sh x o z; rw [nw x hx] at this; cases this
end
section
variable {X : Cx} {k : Nat} {f C : Addr} {fd : FuncData} {ps : List Str} {n : Nat} {F : Fn} {x m : Str} {p pos apos : Pos} {a o : Expr} {as : List Expr} {gs : En → Option (List D)} {g : En → Option D}
theorem esNil_len : ∀ (e : En) (ds : List D), esNil e = some ds → ds.length = 0 := fun _ _ h => by cases h; rfl
theorem esCons_len {n : Nat} (h : ∀ (e : En) (ds : List D), gs e = some ds → ds.length = n) : ∀ (e : En) (ds : List D), esCons g gs e = some ds → ds.length = n + 1 := fun e ds q => by
  unfold esCons at q
  cases q1 : g e with
  | none => rw [q1] at q; cases q
  | some d =>
    rw [q1] at q
    cases q2 : gs e with
    | none => rw [q2] at q; cases q
    | some l => rw [q2] at q; cases q; rw [List.length_cons, h e l q2]
theorem f_call (hF : FnG X.prog X.w X.K X.mg X.base CX0 k f fd ps (spFn (Cx.R X) n [] F)) (hr : RoomG k X.A) (hg : Gl X x) (hm : X.mg x = some (.ref f)) (hk : PySem.W.keepIn X.K (.ref f) = true) (hb : Binds X.K fd ps [])
    (ha : PAb X (a :: as) gs) (hn : ∀ (e : En) (ds : List D), gs e = some ds → ds.length = n) (hdb : (x == ("__debug__" : Str)) = false := by decide) (he : starEach (a :: as) X.env = (false, eval a X.env) :: starEach as X.env := by rfl) (hpl : (backTo pos (starEach as X.env)).any (·.1) = false := by rfl) :
    PEf X (.Call (.Name x p) (a :: as) [] pos) (eCall F gs) := pe_imp (pe_callG hF hr hg hm hk hb pass0 ha hdb he hpl) (semF_call hn _)
theorem f_call0 (hF : FnG X.prog X.w X.K X.mg X.base CX0 k f fd ps (spFn (Cx.R X) 0 [] F)) (hr : RoomG k X.A) (hg : Gl X x) (hm : X.mg x = some (.ref f)) (hk : PySem.W.keepIn X.K (.ref f) = true) (hb : Binds X.K fd ps []) (hdb : (x == ("__debug__" : Str)) = false := by decide) :
    PEf X (.Call (.Name x p) [] [] pos) (eCall F esNil) := pe_imp (pe_callG0 hF hr hg hm hk hb pass0 hdb) fun σ H Q w => by
  obtain ⟨S, e, F0, B, ds, A, hg, k⟩ := semF_call (n := 0) esNil_len (fun _ _ _ => False) σ H Q w
  cases hg
  exact k [] S H f0 (.refl0 A.sh) (by simp only [reps]; exact ⟨trivial, trivial⟩) fun x hx => absurd hx (Nat.lt_irrefl 0)
end
end Z

set_option Elab.async false
set_option linter.all false
set_option maxRecDepth 100000
set_option maxHeartbeats 1000000
/-! # calls that change what they are lent; methods; instances made -/
namespace Z
open PySem PySem.Spec PyProof.Rows L2

inductive Ar where
  | val (f : En → Option (D × En))
  | lend (i : Nat)
/-- the written arguments from the left: values; of what is lent nothing as yet -/
def arGo : List Ar → En → Option (List (Option D) × En)
  | [], e => some ([], e)
  | .val f :: as, e => (f e).bind fun p => (arGo as p.2).bind fun q => some (some p.1 :: q.1, q.2)
  | .lend i :: as, e => match e[i]? with
    | some (.ow _) => (arGo as e).bind fun q => some (none :: q.1, q.2)
    | _ => none
/-- what is lent, taken out of its slots -/
def arTake : List Ar → List (Option D) → En → Option (List D × En)
  | [], [], e => some ([], e)
  | .val _ :: as, some d :: ds, e => (arTake as ds e).bind fun q => some (fz d :: q.1, q.2)
  | .lend i :: as, none :: ds, e => match e[i]? with
    | some (.ow d) => (arTake as ds (e.set i .no)).bind fun q => some (d :: q.1, q.2)
    | _ => none
  | _, _, _ => none
/-- .. and put back -/
def arBack : List Ar → List D → En → Option En
  | [], [], e => some e
  | .val _ :: as, out, e => arBack as out e
  | .lend i :: as, d :: out, e => if open? e i = true then arBack as out (e.set i (.ow d)) else none
  | _, _, _ => none
def lendIx : Nat → List Ar → List Nat
  | _, [] => []
  | n, .val _ :: as => lendIx (n + 1) as
  | n, .lend _ :: as => n :: lendIx (n + 1) as
def vCall (F : Fn) (as : List Ar) (e : En) : Option (D × En) := (arGo as e).bind fun p => (arTake as p.1 p.2).bind fun q => (F q.1).bind fun r => (arBack as r.2 q.2).bind fun e' => some (r.1, e')

section
variable {R : RC} {S H : Hp}
/-- how the arguments' values stand -/
def arRep (R : RC) (S H : Hp) (σ : L2.St) : List Ar → List (Option D) → List V → Fp → Prop
  | [], [], vs, F => vs = [] ∧ F = f0
  | .val _ :: as, some d :: ds, vs, F => ∃ v vr F1 F2, vs = v :: vr ∧ rep R S H d v F1 ∧ arRep R S H σ as ds vr F2 ∧ F = fadd F1 F2
  | .lend i :: as, none :: ds, vs, F => ∃ v vr, vs = v :: vr ∧ σ[i]? = some (some v) ∧ arRep R S H σ as ds vr F
  | _, _, _, _ => False
theorem arRep.step {S' H' : Hp} {G G' : Fp} (t : Stp S H G S' H' G') {σ : L2.St} : ∀ {as : List Ar} {ds : List (Option D)} {vs : List V} {F : Fp}, arRep R S H σ as ds vs F → (∀ x, 0 < F x → G x = 0) → arRep R S' H' σ as ds vs F
  | [], [], _, _, h, _ => h
  | .val _ :: as, some d :: ds, vs, F, ⟨v, vr, F1, F2, e, h1, h2, e2⟩, hd => by
    refine ⟨v, vr, F1, F2, e, rep_step t d v F1 h1 fun x hx => hd x ?_, h2.step t fun x hx => hd x ?_, e2⟩
    · rw [e2, fadd_at]; omega
    · rw [e2, fadd_at]; omega
  | .lend i :: as, none :: ds, vs, F, ⟨v, vr, e, h1, h2⟩, hd => ⟨v, vr, e, h1, h2.step t hd⟩
  | [], _ :: _, _, _, h, _ => h.elim
  | .val _ :: _, [], _, _, h, _ => h.elim
  | .val _ :: _, none :: _, _, _, h, _ => h.elim
  | .lend _ :: _, [], _, _, h, _ => h.elim
  | .lend _ :: _, some _ :: _, _, _, h, _ => h.elim
theorem arRep.dom {σ : L2.St} : ∀ {as : List Ar} {ds : List (Option D)} {vs : List V} {F : Fp}, arRep R S H σ as ds vs F → ∀ x, 0 < F x → (∃ w, H x = some w) ∧ S x = none
  | [], [], _, _, h, x, hx => by rw [h.2] at hx; exact absurd hx (Nat.lt_irrefl 0)
  | .val _ :: as, some d :: ds, vs, F, ⟨v, vr, F1, F2, e, h1, h2, e2⟩, x, hx => by
    rw [e2, fadd_at] at hx
    rcases Nat.eq_zero_or_pos (F1 x) with z | z
    · exact h2.dom x (by omega)
    · exact rep_dom d v F1 h1 x z
  | .lend i :: as, none :: ds, vs, F, ⟨v, vr, e, h1, h2⟩, x, hx => h2.dom x hx
  | [], _ :: _, _, _, h, _, _ => h.elim
  | .val _ :: _, [], _, _, h, _, _ => h.elim
  | .val _ :: _, none :: _, _, _, h, _, _ => h.elim
  | .lend _ :: _, [], _, _, h, _, _ => h.elim
  | .lend _ :: _, some _ :: _, _, _, h, _, _ => h.elim
def semA (R : RC) (as : List Ar) : TA := fun σ H Q => ∃ S e F B ds e', At R S H σ e F B ∧ arGo as e = some (ds, e') ∧
  ∀ vs S' H' Fv F', Stp S H F S' H' (fadd Fv F') → At R S' H' σ e' F' B → arRep R S' H' σ as ds vs Fv → (∀ a, Fv a + F' a + B a ≤ 1) → Muf H' Fv → Q vs H'
def PAa (X : Cx) (xs : List Expr) (as : List Ar) : Prop := PA X xs (semA (Cx.R X) as)
end
section
variable {X : Cx} {x : Expr} {xs : List Expr} {as : List Ar} {f : En → Option (D × En)} {pos : Pos}
theorem a_nil : PAa X [] [] := pa_imp pa_nil fun σ H Q ⟨S, e, F, B, ds, e', A, hg, k⟩ => by
  cases hg
  exact k [] S H f0 F (by rw [f0_fadd]; exact .refl A.sh) A ⟨rfl, rfl⟩ (fun a => by have := A.nd a; rw [f0_at]; omega) .zero
theorem a_val (h : PEv X x f) (hr : PAa X xs as) (hs : starEach (x :: xs) X.env = (false, eval x X.env) :: starEach xs X.env := by rfl) : PAa X (x :: xs) (.val f :: as) :=
  pa_imp (pa_cons h hr hs) fun σ H Q ⟨S, e, F, B, ds, e', A, hg, k⟩ => by
    unfold arGo at hg
    cases q : f e with
    | none => rw [q] at hg; cases hg
    | some p =>
      obtain ⟨d, e1⟩ := p
      rw [q] at hg
      simp only [Option.bind_some] at hg
      cases q2 : arGo as e1 with
      | none => rw [q2] at hg; cases hg
      | some p2 =>
        obtain ⟨l, e2⟩ := p2
        rw [q2] at hg
        simp only [Option.bind_some, Option.some.injEq, Prod.mk.injEq] at hg
        obtain ⟨rfl, rfl⟩ := hg
        refine ⟨S, e, F, B, d, e1, A, q, fun v S1 H1 Fv1 F1 t1 A1 r1 n1 m1 => ?_⟩
        refine ⟨S1, e1, F1, B, l, e2, A1, q2, fun vs S2 H2 Fv2 F2 t2 A2 r2 n2 m2 => ?_⟩
        have off : ∀ x, 0 < Fv1 x → F1 x = 0 := fun x hx => by have := n1 x; omega
        refine k (v :: vs) S2 H2 (fadd Fv1 Fv2) F2 ?_ A2 ⟨v, vs, Fv1, Fv2, rfl, rep_step t2 d v Fv1 r1 off, r2, rfl⟩ (fun x => ?_) ((m1.step t2 off).add m2)
        · rw [fadd_assoc]; exact t1.trans (t2.frame Fv1)
        · rw [fadd_at]
          have h1 := n1 x
          have h2 := n2 x
          rcases Nat.eq_zero_or_pos (Fv1 x) with z | z
          · omega
          · obtain ⟨⟨w, e1'⟩, _⟩ := rep_dom d v Fv1 r1 x z
            have z2 : Fv2 x + F2 x = 0 := by
              rcases Nat.eq_zero_or_pos (Fv2 x + F2 x) with y | y
              · exact y
              · rcases t2.ft x (by rw [fadd_at]; exact y) with w' | w'
                · omega
                · rw [e1'] at w'; cases w'
            omega
theorem a_lend {i : Nat} {n : Str} (hN : X.N[i]? = some n) (hv : Vis X.env.scope n) (hr : PAa X xs as) (hd : (n == ("__debug__" : Str)) = false := by decide) (hcd : (n == ("__classdict__" : Str)) = false := by decide)
    (hs : starEach (.Name n pos :: xs) X.env = (false, eval (.Name n pos) X.env) :: starEach xs X.env := by rfl) : PAa X (.Name n pos :: xs) (.lend i :: as) :=
  pa_imp (pa_cons (pe_var hN hv hd hcd) hr hs) fun σ H Q ⟨S, e, F, B, ds, e', A, hg, k⟩ => by
    unfold arGo at hg
    cases qi : e[i]? with
    | none => rw [qi] at hg; cases hg
    | some s =>
      rw [qi] at hg
      cases s with
      | no => cases hg
      | lk d => cases hg
      | ow d =>
        simp only at hg
        obtain ⟨o, Fi, Bi, Fr, Br, g1, g2, _, _, _⟩ := A.re.get qi
        obtain ⟨⟨v, rfl, r⟩, _⟩ := g2
        cases q2 : arGo as e with
        | none => rw [q2] at hg; cases hg
        | some p2 =>
          obtain ⟨l, e2⟩ := p2
          rw [q2] at hg
          simp only [Option.bind_some, Option.some.injEq, Prod.mk.injEq] at hg
          obtain ⟨rfl, rfl⟩ := hg
          exact ⟨v, g1, S, e, F, B, l, e2, A, q2, fun vs S2 H2 Fv2 F2 t2 A2 r2 n2 m2 => k (v :: vs) S2 H2 Fv2 F2 t2 A2 ⟨v, vs, rfl, g1, r2⟩ n2 m2⟩
end

section
variable {R : RC} {S H Sc : Hp}
/-- the values at the places of what is lent -/
def lendVs : List Ar → List V → List V
  | [], _ => []
  | .val _ :: as, _ :: vs => lendVs as vs
  | .lend _ :: as, v :: vs => v :: lendVs as vs
  | _ :: _, [] => []
theorem set_self {σ : L2.St} {i : Nat} {v : V} (q : σ[i]? = some (some v)) : σ.set i (some v) = σ := by
  apply List.ext_getElem?
  intro j
  by_cases hj : i = j
  · subst hj
    rw [List.getElem?_set_self (List.getElem?_eq_some_iff.mp q).1, q]
  · rw [List.getElem?_set_ne hj]
theorem arTake_ok {G B : Fp} {σ : L2.St} (sh : Ext S H) (t : Stp S H G Sc H f0) (hS : ∀ x, 0 < G x → Sc x = H x) : ∀ {as : List Ar} {ds : List (Option D)} {vs : List V} {Fv F : Fp} {e e2 : En} {ds' : List D},
    arRep R S H σ as ds vs Fv → (∀ x, 0 < Fv x → 0 < G x) → relE R S H σ e F B → (∀ x, 0 < F x → G x = 0) → arTake as ds e = some (ds', e2) →
    ∃ Fl Fr : Fp, F = fadd Fl Fr ∧ relE R S H σ e2 Fr B ∧ reps R Sc H ds' vs Fl ∧ vs.length = as.length
  | [], [], vs, Fv, F, e, e2, ds', h, hv, re, off, ht => by
    cases ht
    exact ⟨f0, F, (f0_fadd F).symm, re, by simp only [reps]; exact ⟨h.1, trivial⟩, by rw [h.1]; rfl⟩
  | .val f :: as, some d :: ds, vs, Fv, F, e, e2, ds', ⟨v, vr, F1, F2, e1, h1, h2, e3⟩, hv, re, off, ht => by
    unfold arTake at ht
    cases q : arTake as ds e with
    | none => rw [q] at ht; cases ht
    | some p =>
      rw [q] at ht; cases ht
      obtain ⟨Fl, Fr, g1, g2, g3, g4⟩ := arTake_ok sh t hS h2 (fun x hx => hv x (by rw [e3, fadd_at]; omega)) re off q
      refine ⟨Fl, Fr, g1, g2, ?_, by rw [e1, List.length_cons, List.length_cons, g4]⟩
      simp only [reps]
      exact ⟨v, vr, f0, Fl, e1, rep_fz t.es d v F1 h1 fun x hx => hS x (hv x (by rw [e3, fadd_at]; omega)), g3, (f0_fadd Fl).symm⟩
  | .lend i :: as, none :: ds, vs, Fv, F, e, e2, ds', ⟨v, vr, e1, h1, h2⟩, hv, re, off, ht => by
    unfold arTake at ht
    cases qi : e[i]? with
    | none => rw [qi] at ht; cases ht
    | some s =>
      rw [qi] at ht
      cases s with
      | no => cases ht
      | lk d => cases ht
      | ow d =>
        simp only at ht
        cases q : arTake as ds (e.set i .no) with
        | none => rw [q] at ht; cases ht
        | some p =>
          rw [q] at ht; cases ht
          obtain ⟨o, Fi, Bi, Fr0, Br, g1, g2, g3, g4, g5⟩ := re.get qi
          obtain ⟨⟨v', rfl, r⟩, hb⟩ := g2
          rw [h1] at g1; cases g1
          have re1 := g5 S H f0 f0 (.refl0 sh) (fun _ _ => rfl) (some v) .no f0 f0 ⟨rfl, rfl⟩
          have hB : Br = B := by rw [g4, hb, f0_fadd]
          rw [set_self h1, f0_fadd, f0_fadd, hB] at re1
          obtain ⟨Fl, Fr, k1, k2, k3, k4⟩ := arTake_ok sh t hS h2 hv re1 (fun x hx => off x (by rw [g3, fadd_at]; omega)) q
          refine ⟨fadd Fi Fl, Fr, ?_, k2, ?_, by rw [e1, List.length_cons, List.length_cons, k4]⟩
          · rw [g3, k1, fadd_assoc]
          · simp only [reps]
            exact ⟨v, vr, Fi, Fl, e1, rep_step t d v Fi r fun x hx => off x (by rw [g3, fadd_at]; omega), k3, rfl⟩
  | [], _ :: _, _, _, _, _, _, _, h, _, _, _, _ => h.elim
  | .val _ :: _, [], _, _, _, _, _, _, h, _, _, _, _ => h.elim
  | .val _ :: _, none :: _, _, _, _, _, _, _, h, _, _, _, _ => h.elim
  | .lend _ :: _, [], _, _, _, _, _, _, h, _, _, _, _ => h.elim
  | .lend _ :: _, some _ :: _, _, _, _, _, _, _, h, _, _, _, _ => h.elim
theorem arBack_ok {B : Fp} {σ : L2.St} {S0 H0 : Hp} : ∀ {as : List Ar} {ds : List (Option D)} {vs : List V} {Fv Fo F : Fp} {e e' : En} {out : List D},
    arRep R S0 H0 σ as ds vs Fv → reps R S H out (lendVs as vs) Fo → At R S H σ e F B → (∀ a, Fo a + F a + B a ≤ 1) → Muf H Fo → arBack as out e = some e' →
    ∃ F' : Fp, At R S H σ e' F' B ∧ ∀ a, 0 < F' a → 0 < Fo a + F a
  | [], [], vs, Fv, Fo, F, e, e', out, h, ho, A, n, m, hb => by
    cases out with
    | nil => cases hb; exact ⟨F, A, fun a ha => by omega⟩
    | cons d l => cases hb
  | .val f :: as, some d :: ds, vs, Fv, Fo, F, e, e', out, ⟨v, vr, F1, F2, e1, h1, h2, e3⟩, ho, A, n, m, hb => by
    rw [e1] at ho
    have hb' : arBack as out e = some e' := by cases out <;> exact hb
    exact arBack_ok h2 ho A n m hb'
  | .lend i :: as, none :: ds, vs, Fv, Fo, F, e, e', out, ⟨v, vr, e1, h1, h2⟩, ho, A, n, m, hb => by
    cases out with
    | nil => cases hb
    | cons d l =>
      unfold arBack at hb
      split at hb
      case isFalse => cases hb
      case isTrue hop =>
        rw [e1] at ho
        change reps R S H (d :: l) (v :: lendVs as vr) Fo at ho
        simp only [reps] at ho
        obtain ⟨v', vr', Fa, Fb, e4, r1, r2, e5⟩ := ho
        cases e4
        obtain ⟨F1, A1, l1⟩ := A.bind hop r1 (fun a => by have := n a; rw [e5, fadd_at] at this; omega) fun a ha => m a (by rw [e5, fadd_at]; omega)
        rw [set_self h1] at A1
        obtain ⟨F', A', l'⟩ := arBack_ok h2 r2 A1 (fun a => by
          have h := n a
          rw [e5, fadd_at] at h
          rcases Nat.eq_zero_or_pos (Fb a) with z | z
          · have := A1.nd a; omega
          · have : F1 a = 0 := by
              rcases Nat.eq_zero_or_pos (F1 a) with y | y
              · exact y
              · have := l1 a y; rw [fadd_at] at this; omega
            omega) (fun a ha => m a (by rw [e5, fadd_at]; omega)) hb
        refine ⟨F', A', fun a ha => ?_⟩
        rw [e5, fadd_at]
        have := l' a ha
        rcases Nat.eq_zero_or_pos (F1 a) with y | y
        · omega
        · have := l1 a y; rw [fadd_at] at this; omega
  | [], _ :: _, _, _, _, _, _, _, _, h, _, _, _, _, _ => h.elim
  | .val _ :: _, [], _, _, _, _, _, _, _, h, _, _, _, _, _ => h.elim
  | .val _ :: _, none :: _, _, _, _, _, _, _, _, h, _, _, _, _, _ => h.elim
  | .lend _ :: _, [], _, _, _, _, _, _, _, h, _, _, _, _, _ => h.elim
  | .lend _ :: _, some _ :: _, _, _, _, _, _, _, _, h, _, _, _, _, _ => h.elim
theorem pick_lend : ∀ (as : List Ar) (pre vs : List V), as.length = vs.length → pickV (pre ++ vs) (lendIx pre.length as) = lendVs as vs
  | [], pre, vs, h => rfl
  | .val f :: as, pre, [], h => by simp at h
  | .lend i :: as, pre, [], h => by simp at h
  | .val f :: as, pre, v :: vs, h => by
    have := pick_lend as (pre ++ [v]) vs (by simpa using h)
    rw [List.append_assoc, List.length_append, List.length_singleton] at this
    exact this
  | .lend i :: as, pre, v :: vs, h => by
    have := pick_lend as (pre ++ [v]) vs (by simpa using h)
    rw [List.append_assoc, List.length_append, List.length_singleton] at this
    show List.filterMap (fun i => (pre ++ v :: vs)[i]?) (pre.length :: lendIx (pre.length + 1) as) = v :: lendVs as vs
    rw [List.filterMap_cons, List.getElem?_append_right (Nat.le_refl _), Nat.sub_self]
    show v :: pickV (pre ++ v :: vs) (lendIx (pre.length + 1) as) = v :: lendVs as vs
    rw [← this]
    rfl
/-- the call itself, the arguments standing -/
theorem call_core {n : Nat} {F : Fn} {as : List Ar} {ls : List Nat} (hl : lendIx 0 as = ls) (hn : as.length = n) {σ : L2.St} {H : Hp} {Q : VK} {E : XK} {d : D} {e' : En} {S0 H0 : Hp} {F0 B : Fp}
    {S : Hp} {ds : List (Option D)} {e1 : En} {vs : List V} {Fv F1 : Fp} (t1 : Stp S0 H0 F0 S H (fadd Fv F1)) (A1 : At R S H σ e1 F1 B) (ar : arRep R S H σ as ds vs Fv) (n1 : ∀ a, Fv a + F1 a + B a ≤ 1) (m1 : Muf H Fv)
    (hg : ((arTake as ds e1).bind fun q => (F q.1).bind fun r => (arBack as r.2 q.2).bind fun e' => some (r.1, e')) = some (d, e'))
    (k : ∀ v S' H' Fv F', Stp S0 H0 F0 S' H' (fadd Fv F') → At R S' H' σ e' F' B → rep R S' H' d v Fv → (∀ a, Fv a + F' a + B a ≤ 1) → Muf H' Fv → Q v H') : spFn R n ls F vs H Q E := by
  cases q : arTake as ds e1 with
  | none => rw [q] at hg; cases hg
  | some p =>
    obtain ⟨ds', e2⟩ := p
    rw [q] at hg
    simp only [Option.bind_some] at hg
    cases q2 : F ds' with
    | none => rw [q2] at hg; cases hg
    | some p =>
      obtain ⟨r, out⟩ := p
      rw [q2] at hg
      simp only [Option.bind_some] at hg
      cases q3 : arBack as out e2 with
      | none => rw [q3] at hg; cases hg
      | some e3 =>
        rw [q3] at hg; cases hg
        obtain ⟨Sc, tc, hS, es, tG⟩ := Stp.freeze (Fi := Fv) A1.sh fun x hx => (ar.dom x hx).2
        obtain ⟨Fl, Fr, g1, g2, g3, g4⟩ := arTake_ok A1.sh tc hS ar (fun _ h => h) A1.re (fun x hx => by have := n1 x; omega) q
        have bd : ∀ a, Fv a + Fl a + Fr a + B a ≤ 1 := fun a => by have := n1 a; rw [g1, fadd_at] at this; omega
        refine ⟨g4.trans hn, Sc, ds', Fl, d, out, tc.sh, g3, fun a => ⟨by have := bd a; omega, fun ha => A1.mu a (by rw [g1, fadd_at]; omega)⟩, q2, fun v S' H' Fv' Fo t rv ro ok => ?_⟩
        have hp : pickV vs ls = lendVs as vs := by
          have := pick_lend as [] vs g4.symm
          rw [← hl]; exact this
        rw [hp] at ro
        -- the rest of the slots
        have re2 : relE R S' H' σ e2 Fr B := ((g2.step tc fun x hx => by have := bd x; omega).step t fun x hx => by have := bd x; omega)
        have A2 : At R S' H' σ e2 Fr B := ⟨⟨t.sh, re2⟩, fun a => by have := bd a; omega, Muf.step (fun a ha => A1.mu a (by rw [g1, fadd_at]; omega)) t fun x hx => by have := bd x; omega⟩
        -- what comes back is apart from the rest
        have ap : ∀ a, 0 < Fv' a + Fo a → Fr a + B a = 0 := fun a ha => by
          rcases t.ft a (by rw [fadd_at]; exact ha) with y | y
          · have := bd a; omega
          · rcases Nat.eq_zero_or_pos (Fr a + B a) with z | z
            · exact z
            · exact absurd y (At0.old ⟨A1.sh, g2⟩ z)
        have nd3 : ∀ a, Fv' a + Fo a + Fr a + B a ≤ 1 := fun a => by
          have h1 := (ok a).1
          rw [fadd_at] at h1
          rcases Nat.eq_zero_or_pos (Fv' a + Fo a) with z | z
          · have := A2.nd a; omega
          · have := ap a z; omega
        obtain ⟨F', A', l'⟩ := arBack_ok ar ro A2 (fun a => by have := nd3 a; omega) (fun a ha => (ok a).2 (by rw [fadd_at]; omega)) q3
        refine k v S' H' Fv' F' ?_ A' rv (fun a => ?_) fun a ha => (ok a).2 (by rw [fadd_at]; omega)
        · have T2 : Stp S H (fadd Fv F1) Sc H F1 := tG F1 f0
          have T3 := t.frame Fr
          rw [fadd_comm Fr Fl, ← g1] at T3
          refine ((t1.trans T2).trans T3).less fun a ha => .inl ?_
          rw [fadd_at] at ha
          rw [fadd_at, fadd_at]
          rcases Nat.eq_zero_or_pos (F' a) with z | z
          · omega
          · have := l' a z; omega
        · rcases Nat.eq_zero_or_pos (F' a) with z | z
          · have := nd3 a; omega
          · have := l' a z; have := A'.nd a; have := nd3 a; omega
theorem semV_call {n : Nat} {F : Fn} {as : List Ar} {ls : List Nat} (hl : lendIx 0 as = ls) (hn : as.length = n) (E : XK) (σ : L2.St) (H : Hp) (Q : VK) (w : semV R (vCall F as) σ H Q) : tCall (spFn R n ls F) [] E (semA R as) σ H Q := by
  obtain ⟨S, e, F0, B, d, e', A, hg, k⟩ := w
  unfold vCall at hg
  cases q : arGo as e with
  | none => rw [q] at hg; cases hg
  | some p =>
    obtain ⟨ds, e1⟩ := p
    rw [q] at hg
    refine ⟨S, e, F0, B, ds, e1, A, q, fun vs S1 H1 Fv F1 t1 A1 ar n1 m1 => ?_⟩
    show spFn R n ls F (vs ++ []) H1 Q E
    rw [List.append_nil]
    exact call_core hl hn t1 A1 ar n1 m1 hg k
end
section
variable {X : Cx} {k : Nat} {f C : Addr} {fd : FuncData} {ps : List Str} {n : Nat} {F : Fn} {x m : Str} {p pos apos : Pos} {a o : Expr} {xs : List Expr} {as : List Ar} {ls : List Nat}
theorem v_call (hF : FnG X.prog X.w X.K X.mg X.base CX0 k f fd ps (spFn (Cx.R X) n ls F)) (hr : RoomG k X.A) (hg : Gl X x) (hm : X.mg x = some (.ref f)) (hk : PySem.W.keepIn X.K (.ref f) = true) (hb : Binds X.K fd ps [])
    (ha : PAa X (a :: xs) as) (hl : lendIx 0 as = ls) (hn : as.length = n) (hdb : (x == ("__debug__" : Str)) = false := by decide) (he : starEach (a :: xs) X.env = (false, eval a X.env) :: starEach xs X.env := by rfl) (hpl : (backTo pos (starEach xs X.env)).any (·.1) = false := by rfl) :
    PEv X (.Call (.Name x p) (a :: xs) [] pos) (vCall F as) := pe_imp (pe_callG hF hr hg hm hk hb pass0 ha hdb he hpl) (semV_call hl hn _)
end
end Z

set_option Elab.async false
set_option linter.all false
set_option maxRecDepth 100000
set_option maxHeartbeats 1000000
/-! # The operations of data -/
namespace Z
open PySem PySem.Spec PyProof.Rows L2

/-! data as the library's -/
mutual
def dPy : D → PyData
  | .non => .none | .bl b => .bool b | .int i => .int i | .str s => .str s
  | .tup l => .tuple (dPys l)
  | .lst _ l => .list (dPys l)
  | .gl _ => .none | .dk _ _ _ => .dict [] | .dt _ _ _ => .none | .ob _ _ _ _ => .none | .scr _ => .none | .ty _ => .none
def dPys : List D → List PyData
  | [] => []
  | d :: l => dPy d :: dPys l
end
mutual
def okPy : D → Bool
  | .non => true | .bl _ => true | .int _ => true | .str _ => true
  | .tup l => okPys l
  | .lst _ l => okPys l
  | .gl _ => false | .dk _ _ _ => false | .dt _ _ _ => false | .ob _ _ _ _ => false | .scr _ => false | .ty _ => false
def okPys : List D → Bool
  | [] => true
  | d :: l => okPy d && okPys l
end
section
variable {R : RC} {S H : Hp}
mutual
theorem rep_dp (sh : Ext S H) : ∀ (d : D) (v : V) (F : Fp), rep R S H d v F → okPy d = true → Dp R.K H v (dPy d)
  | .non, v, F, h, _ => by simp only [rep] at h; rw [h.1]; exact .non
  | .bl b, v, F, h, _ => by simp only [rep] at h; rw [h.1]; exact .bl b
  | .int b, v, F, h, _ => by simp only [rep] at h; rw [h.1]; exact .int b
  | .str b, v, F, h, _ => by simp only [rep] at h; rw [h.1]; exact .str b
  | .tup l, v, F, h, q => by
    simp only [rep] at h; simp only [okPy] at q
    obtain ⟨a, vs, rfl, h1, h2⟩ := h
    exact .tup h1 (reps_dp sh l vs F h2 q)
  | .lst o l, v, F, h, q => by
    simp only [rep] at h; simp only [okPy] at q
    obtain ⟨a, vs, F', rfl, h1, h2⟩ := h
    exact .lst (.inl (h1.rq sh).rd) (reps_dp sh l vs F' h2 q)
  | .gl _, _, _, _, q => by simp only [okPy] at q; cases q
  | .dk _ _ _, _, _, _, q => by simp only [okPy] at q; cases q
  | .dt _ _ _, _, _, _, q => by simp only [okPy] at q; cases q
  | .ob _ _ _ _, _, _, _, q => by simp only [okPy] at q; cases q
  | .scr _, _, _, _, q => by simp only [okPy] at q; cases q
  | .ty _, _, _, _, q => by simp only [okPy] at q; cases q
theorem reps_dp (sh : Ext S H) : ∀ (l : List D) (vs : List V) (F : Fp), reps R S H l vs F → okPys l = true → DpAll R.K H vs (dPys l)
  | [], vs, F, h, _ => by simp only [reps] at h; rw [h.1]; exact .nil
  | d :: l, vs, F, h, q => by
    simp only [reps] at h; simp only [okPys, Bool.and_eq_true] at q
    obtain ⟨v, vr, F1, F2, rfl, h1, h2, _⟩ := h
    exact .cons (rep_dp sh d v F1 h1 q.1) (reps_dp sh l vr F2 h2 q.2)
end
/-- frozen items -/
theorem reps_fzz : ∀ {l : List D} {vs : List V} {F : Fp}, reps R S H l vs F → isFzs l = true → reps R S H l vs f0 := fun {l vs F} h q => by
  have := isFzs_f0 l vs F h q; rw [this] at h; exact h
end
/-- the data of ==: 0 for what cannot be compared here -/
def eqOk (a : D) : Bool := okPy a && SeqAt.shaped (dPy a)
def dEq (a b : D) : Option D := if (eqOk a && eqOk b) = true then some (.bl (PyData.eqv (dPy a) (dPy b))) else none
def dNe (a b : D) : Option D := if (eqOk a && eqOk b) = true then some (.bl (!PyData.eqv (dPy a) (dPy b))) else none

def dAdd : D → D → Option D
  | .int i, .int j => some (.int (i + j))
  | .str i, .str j => if i.length + j.length ≤ lim then some (.str (i ++ j)) else none
  | .tup a, .tup b => if a.length + b.length ≤ lim ∧ isFzs a = true ∧ isFzs b = true then some (.tup (a ++ b)) else none
  | .lst _ a, .lst _ b => if a.length + b.length ≤ lim ∧ isFzs a = true ∧ isFzs b = true then some (.lst true (a ++ b)) else none
  | _, _ => none
def dSub : D → D → Option D
  | .int i, .int j => some (.int (i - j))
  | _, _ => none
def big : Int := 2 ^ 64
def dMul : D → D → Option D
  | .int i, .int j => if (-big < i ∧ i < big) ∨ (-big < j ∧ j < big) then some (.int (i * j)) else none
  | .lst _ a, .int k => if -1000000 ≤ k ∧ k ≤ 1000000 ∧ a.length * k.toNat ≤ lim ∧ isFzs a = true then some (.lst true (List.replicate k.toNat a).flatten) else none
  | _, _ => none
def dFdiv : D → D → Option D
  | .int i, .int j => if 0 < j ∧ j < 1073741824 then some (.int (i / j)) else none
  | _, _ => none
def dMod : D → D → Option D
  | .int i, .int j => if 0 < j then some (.int (i % j)) else none
  | _, _ => none
def dPow : D → D → Option D
  | .int i, .int j => if 0 ≤ j ∧ j ≤ 1000000 ∧ i.natAbs < 1000000 then some (.int (i ^ j.toNat)) else none
  | _, _ => none
def dNeg : D → Option D
  | .int i => some (.int (-i))
  | _ => none
def dLt : D → D → Option D
  | .int i, .int j => some (.bl (decide (i < j)))
  | _, _ => none
def dLe : D → D → Option D
  | .int i, .int j => some (.bl (decide (i ≤ j)))
  | _, _ => none
def dGt : D → D → Option D
  | .int i, .int j => some (.bl (decide (j < i)))
  | _, _ => none
def dGe : D → D → Option D
  | .int i, .int j => some (.bl (decide (j ≤ i)))
  | _, _ => none
def isNon : D → Bool
  | .non => true
  | _ => false
def dIsN (a b : D) : Option D := match b with
  | .non => some (.bl (isNon a))
  | _ => none
def dNotN (a b : D) : Option D := match b with
  | .non => some (.bl (!isNon a))
  | _ => none
def dIsB : D → D → Option D
  | .bl a, .bl b => some (.bl (a == b))
  | _, _ => none
def dNotB : D → D → Option D
  | .bl a, .bl b => some (.bl (a != b))
  | _, _ => none
/-- an item that is frozen -/
def dIx : D → D → Option D
  | .tup l, .int i => (atI l i).bind fun d => if isFz d = true then some d else none
  | .lst _ l, .int i => (atI l i).bind fun d => if isFz d = true then some d else none
  | _, _ => none

section
variable {X : Cx}
theorem ok_int0 {f : Value → Value → Sem Value} {g : Int → Int → Int} {op : D → D → Option D} (h : OpR X f (rI0 fun i j => .int (g i j))) (ho : ∀ a b d, op a b = some d → ∃ i j, a = .int i ∧ b = .int j ∧ d = .int (g i j)) : OpOk X f op :=
  ⟨_, h, fun S H x y dx dy Fx Fy d Q sh rx ry hd k => by
    obtain ⟨i, j, rfl, rfl, rfl⟩ := ho dx dy d hd
    simp only [rep] at rx ry
    exact ⟨i, j, rx.1, ry.1, k.scal sh (repI ..)⟩⟩
theorem ok_bl0 {f : Value → Value → Sem Value} {g : Int → Int → Bool} {op : D → D → Option D} (h : OpR X f (rI0 fun i j => .bl (g i j))) (ho : ∀ a b d, op a b = some d → ∃ i j, a = .int i ∧ b = .int j ∧ d = .bl (g i j)) : OpOk X f op :=
  ⟨_, h, fun S H x y dx dy Fx Fy d Q sh rx ry hd k => by
    obtain ⟨i, j, rfl, rfl, rfl⟩ := ho dx dy d hd
    simp only [rep] at rx ry
    exact ⟨i, j, rx.1, ry.1, k.scal sh (repB ..)⟩⟩
theorem ok_sub : OpOk X (binaryOp .Sub) dSub := ok_int0 op_sub fun a b d h => by
  cases a <;> cases b <;> simp only [dSub] at h <;> cases h; exact ⟨_, _, rfl, rfl, rfl⟩
theorem ok_lt : OpOk X (compareOp .Lt) dLt := ok_bl0 op_lt fun a b d h => by
  cases a <;> cases b <;> simp only [dLt] at h <;> cases h; exact ⟨_, _, rfl, rfl, rfl⟩
theorem ok_le : OpOk X (compareOp .LtE) dLe := ok_bl0 op_le fun a b d h => by
  cases a <;> cases b <;> simp only [dLe] at h <;> cases h; exact ⟨_, _, rfl, rfl, rfl⟩
theorem ok_gt : OpOk X (compareOp .Gt) dGt := ok_bl0 op_gt fun a b d h => by
  cases a <;> cases b <;> simp only [dGt] at h <;> cases h; exact ⟨_, _, rfl, rfl, rfl⟩
theorem ok_ge : OpOk X (compareOp .GtE) dGe := ok_bl0 op_ge fun a b d h => by
  cases a <;> cases b <;> simp only [dGe] at h <;> cases h; exact ⟨_, _, rfl, rfl, rfl⟩
/-- a new list, a new tuple -/
theorem PostF.newL {R : RC} {S H : Hp} {l : List D} {vs : List V} {Q : VK} (k : PostF R S H (.lst true l) Q) (sh : Ext S H) (r : reps R S H l vs f0) {p : Addr} (hp : H p = none) : Q (.ref p) (upd H p (.lst vs)) := by
  have t : Stp S H f0 S (upd H p (.lst vs)) (f1 p) := .make sh hp
  refine k (.ref p) S _ (f1 p) t (fun a => ⟨by rw [f1_at]; split <;> omega, fun ha => ?_⟩) ?_
  · rw [f1_at] at ha
    by_cases z : a = p
    · rw [z, upd_same]; exact True.intro
    · rw [if_neg z] at ha; omega
  · simp only [rep]
    refine ⟨p, vs, f0, rfl, ⟨upd_same, ?_, (fadd_f0 _).symm⟩, reps_step t l vs f0 r fun _ _ => rfl⟩
    cases z : S p with
    | none => rfl
    | some o => rw [sh p o z] at hp; cases hp
theorem PostF.newT {R : RC} {S H : Hp} {l : List D} {vs : List V} {Q : VK} (k : PostF R S H (.tup l) Q) (sh : Ext S H) (r : reps R S H l vs f0) {p : Addr} (hp : H p = none) : Q (.ref p) (upd H p (.tup vs)) := by
  have t : Stp S H f0 S (upd H p (.tup vs)) f0 := (Stp.make sh hp).zero
  refine k (.ref p) S _ f0 t .zero ?_
  simp only [rep]
  exact ⟨p, vs, rfl, .inl (.inl upd_same), reps_step t l vs f0 r fun _ _ => rfl⟩
theorem ok_add : OpOk X (binaryOp .Add) dAdd := by
  refine ⟨_, (op_add.or op_add_str).or (op_catA.or op_cat), fun S H x y dx dy Fx Fy d Q sh rx ry hd k => ?_⟩
  cases dx <;> cases dy <;> try (simp only [dAdd] at hd; cases hd; done)
  case int.int i j =>
    simp only [dAdd, Option.some.injEq] at hd
    subst hd
    simp only [rep] at rx ry
    exact .inl (.inl ⟨i, j, rx.1, ry.1, k.scal sh (repI ..)⟩)
  case str.str i j =>
    simp only [dAdd] at hd
    split at hd
    case isFalse => cases hd
    case isTrue hz =>
      cases hd
      simp only [rep] at rx ry
      exact .inl (.inr ⟨i, j, rx.1, ry.1, Nat.le_trans hz (Nat.le_of_lt lim_lt), k.scal sh (repS ..)⟩)
  case tup.tup a b =>
    simp only [dAdd] at hd
    split at hd
    case isFalse => cases hd
    case isTrue hz =>
      cases hd
      simp only [rep] at rx ry
      obtain ⟨p, xs, rfl, h1, r1⟩ := rx
      obtain ⟨q, ys, rfl, h2, r2⟩ := ry
      have r1 := reps_fzz r1 hz.2.1
      have r2 := reps_fzz r2 hz.2.2
      have r12 := reps_append r1 r2
      rw [fadd_f0] at r12
      have l1 := reps_len r1
      have l2 := reps_len r2
      refine .inr (.inl ⟨p, q, xs, ys, rfl, rfl, h1, h2, by rw [l1, l2]; exact Nat.le_trans hz.1 (Nat.le_of_lt lim_lt), fun e => ?_, fun e1 e2 => ?_, fun e1 e2 u hu => ?_⟩)
      · subst e
        have : a = [] := List.eq_nil_of_length_eq_zero l1.symm
        subst this
        refine k.scal sh ?_
        simp only [rep]; exact ⟨q, ys, rfl, h2, r2⟩
      · subst e2
        have : b = [] := List.eq_nil_of_length_eq_zero l2.symm
        subst this
        refine k.scal sh ?_
        simp only [rep, List.append_nil]; exact ⟨p, xs, rfl, h1, r1⟩
      · exact k.newT sh r12 hu
  case lst.lst o a o' b =>
    simp only [dAdd] at hd
    split at hd
    case isFalse => cases hd
    case isTrue hz =>
      cases hd
      simp only [rep] at rx ry
      obtain ⟨p, xs, F1, rfl, h1, r1⟩ := rx
      obtain ⟨q, ys, F2, rfl, h2, r2⟩ := ry
      have r1 := reps_fzz r1 hz.2.1
      have r2 := reps_fzz r2 hz.2.2
      have r12 := reps_append r1 r2
      rw [fadd_f0] at r12
      exact .inr (.inr ⟨p, q, xs, ys, rfl, rfl, h1.rq sh, h2.rq sh, by rw [reps_len r1, reps_len r2]; exact Nat.le_trans hz.1 (Nat.le_of_lt lim_lt), fun u hu => k.newL sh r12 hu⟩)
theorem reps_rep {R : RC} {S H : Hp} {l : List D} {vs : List V} (h : reps R S H l vs f0) : ∀ n : Nat, reps R S H (List.replicate n l).flatten (List.replicate n vs).flatten f0
  | 0 => by simp only [List.replicate_zero, List.flatten_nil, reps]; exact ⟨trivial, trivial⟩
  | n + 1 => by
    have := reps_append h (reps_rep h n)
    rw [fadd_f0] at this
    rw [List.replicate_succ, List.replicate_succ, List.flatten_cons, List.flatten_cons]
    exact this
theorem ok_mul : OpOk X (binaryOp .Mult) dMul := by
  refine ⟨_, op_mul.or op_rep, fun S H x y dx dy Fx Fy d Q sh rx ry hd k => ?_⟩
  cases dx <;> cases dy <;> try (simp only [dMul] at hd; cases hd; done)
  case int.int i j =>
    simp only [dMul] at hd
    split at hd
    case isFalse => cases hd
    case isTrue hz =>
      cases hd
      simp only [rep] at rx ry
      exact .inl ⟨i, j, rx.1, ry.1, hz, k.scal sh (repI ..)⟩
  case lst.int o a n =>
    simp only [dMul] at hd
    split at hd
    case isFalse => cases hd
    case isTrue hz =>
      cases hd
      simp only [rep] at rx ry
      obtain ⟨p, xs, F1, rfl, h1, r1⟩ := rx
      have r1 := reps_fzz r1 hz.2.2.2
      exact .inr ⟨p, n, xs, rfl, ry.1, h1.rq sh, by omega, by omega, by rw [reps_len r1]; exact Nat.le_trans hz.2.2.1 (Nat.le_of_lt lim_lt), fun u hu => k.newL sh (reps_rep r1 _) hu⟩
theorem ok_fdiv : OpOk X (binaryOp .FloorDiv) dFdiv := by
  refine ⟨_, op_fdiv, fun S H x y dx dy Fx Fy d Q sh rx ry hd k => ?_⟩
  cases dx <;> cases dy <;> try (simp only [dFdiv] at hd; cases hd; done)
  simp only [dFdiv] at hd
  split at hd
  case isFalse => cases hd
  case isTrue hz =>
    cases hd
    simp only [rep] at rx ry
    exact ⟨_, _, rx.1, ry.1, hz, k.scal sh (repI ..)⟩
theorem ok_mod : OpOk X (binaryOp .Mod) dMod := by
  refine ⟨_, op_mod, fun S H x y dx dy Fx Fy d Q sh rx ry hd k => ?_⟩
  cases dx <;> cases dy <;> try (simp only [dMod] at hd; cases hd; done)
  simp only [dMod] at hd
  split at hd
  case isFalse => cases hd
  case isTrue hz =>
    cases hd
    simp only [rep] at rx ry
    exact ⟨_, _, rx.1, ry.1, hz, k.scal sh (repI ..)⟩
theorem ok_pow : OpOk X (binaryOp .Pow) dPow := by
  refine ⟨_, op_pow, fun S H x y dx dy Fx Fy d Q sh rx ry hd k => ?_⟩
  cases dx <;> cases dy <;> try (simp only [dPow] at hd; cases hd; done)
  simp only [dPow] at hd
  split at hd
  case isFalse => cases hd
  case isTrue hz =>
    cases hd
    simp only [rep] at rx ry
    exact ⟨_, _, rx.1, ry.1, ⟨hz.1, hz.2.1, Nat.lt_of_lt_of_le hz.2.2 (by decide)⟩, k.scal sh (repI ..)⟩
theorem ok_neg : UnOk X (unaryOp .USub) dNeg := by
  refine ⟨_, un_neg, fun S H x dx Fx d Q sh rx hd k => ?_⟩
  cases dx <;> try (simp only [dNeg] at hd; cases hd; done)
  simp only [dNeg, Option.some.injEq] at hd
  subst hd
  simp only [rep] at rx
  exact ⟨_, rx.1, k.scal sh (repI ..)⟩
theorem ok_eq (hu : X.A.units + 64 < cLine) : OpOk X (compareOp .Eq) dEq := by
  refine ⟨_, op_eqD hu, fun S H x y dx dy Fx Fy d Q sh rx ry hd k => ?_⟩
  unfold dEq at hd
  split at hd
  case isFalse => cases hd
  case isTrue hz =>
    cases hd
    simp only [Bool.and_eq_true, eqOk] at hz
    exact ⟨_, _, rep_dp sh dx x Fx rx hz.1.1, rep_dp sh dy y Fy ry hz.2.1, hz.1.2, hz.2.2, k.scal sh (repB ..)⟩
theorem ok_ne (hu : X.A.units + 64 < cLine) : OpOk X (compareOp .NotEq) dNe := by
  refine ⟨_, op_neD hu, fun S H x y dx dy Fx Fy d Q sh rx ry hd k => ?_⟩
  unfold dNe at hd
  split at hd
  case isFalse => cases hd
  case isTrue hz =>
    cases hd
    simp only [Bool.and_eq_true, eqOk] at hz
    exact ⟨_, _, rep_dp sh dx x Fx rx hz.1.1, rep_dp sh dy y Fy ry hz.2.1, hz.1.2, hz.2.2, k.scal sh (repB ..)⟩
theorem rep_isN {R : RC} {S H : Hp} {d : D} {v : V} {F : Fp} (h : rep R S H d v F) (hg : ∀ x u, d = .gl x → R.mg x = some u → u ≠ .none) : decide (v = V.non) = isNon d := by
  cases d <;> simp only [rep] at h
  case non => rw [h.1]; rfl
  case bl => rw [h.1]; rfl
  case int => rw [h.1]; rfl
  case str => rw [h.1]; rfl
  case gl x =>
    obtain ⟨⟨u, h1, h2⟩, _⟩ := h
    have := hg x u rfl h1
    apply decide_eq_false
    intro e; subst e
    exact this h2
  case tup => obtain ⟨a, vs, rfl, _⟩ := h; rfl
  case lst => obtain ⟨a, vs, F', rfl, _⟩ := h; rfl
  case dk => obtain ⟨a, vs, F', rfl, _⟩ := h; rfl
  case dt => obtain ⟨a, vs, F', rfl, _⟩ := h; rfl
  case ob => obtain ⟨a, C, dx, vs, F', rfl, _⟩ := h; rfl
  case scr => obtain ⟨⟨a, rfl, _⟩, _⟩ := h; rfl
  case ty => rw [h.1]; rfl
def noGl : D → Bool
  | .gl _ => false
  | _ => true
def dIsNg (a b : D) : Option D := if noGl a = true then dIsN a b else none
def dNotNg (a b : D) : Option D := if noGl a = true then dNotN a b else none
theorem ok_isN : OpOk X (compareOp .Is) dIsNg := by
  refine ⟨_, op_isN, fun S H x y dx dy Fx Fy d Q sh rx ry hd k => ?_⟩
  unfold dIsNg at hd
  split at hd
  case isFalse => cases hd
  case isTrue hz =>
    cases dy <;> try (simp only [dIsN] at hd; cases hd; done)
    simp only [dIsN, Option.some.injEq] at hd
    subst hd
    simp only [rep] at ry
    refine ⟨ry.1, ?_⟩
    rw [rep_isN rx fun x u e => by subst e; cases hz]
    exact k.scal sh (repB ..)
theorem ok_notN : OpOk X (compareOp .IsNot) dNotNg := by
  refine ⟨_, op_notN, fun S H x y dx dy Fx Fy d Q sh rx ry hd k => ?_⟩
  unfold dNotNg at hd
  split at hd
  case isFalse => cases hd
  case isTrue hz =>
    cases dy <;> try (simp only [dNotN] at hd; cases hd; done)
    simp only [dNotN, Option.some.injEq] at hd
    subst hd
    simp only [rep] at ry
    refine ⟨ry.1, ?_⟩
    rw [rep_isN rx fun x u e => by subst e; cases hz]
    exact k.scal sh (repB ..)
theorem ok_isB : OpOk X (compareOp .Is) dIsB := by
  refine ⟨_, op_isBl, fun S H x y dx dy Fx Fy d Q sh rx ry hd k => ?_⟩
  cases dx <;> cases dy <;> try (simp only [dIsB] at hd; cases hd; done)
  simp only [dIsB, Option.some.injEq] at hd
  subst hd
  simp only [rep] at rx ry
  exact ⟨_, _, rx.1, ry.1, by rw [← Bool.beq_eq_decide_eq]; exact k.scal sh (repB ..)⟩
theorem ok_notB : OpOk X (compareOp .IsNot) dNotB := by
  refine ⟨_, op_notBl, fun S H x y dx dy Fx Fy d Q sh rx ry hd k => ?_⟩
  cases dx <;> cases dy <;> try (simp only [dNotB] at hd; cases hd; done)
  simp only [dNotB, Option.some.injEq] at hd
  subst hd
  simp only [rep] at rx ry
  exact ⟨_, _, rx.1, ry.1, by rw [← Bool.beq_eq_decide_eq]; exact k.scal sh (repB ..)⟩
theorem atI_reps {R : RC} {S H : Hp} {l : List D} {vs : List V} {F : Fp} {i : Int} {d : D} (h : reps R S H l vs F) (ha : atI l i = some d) : ∃ v Fi, atI vs i = some v ∧ rep R S H d v Fi ∧ ∀ a, Fi a ≤ F a := by
  unfold atI at ha ⊢
  rw [reps_len h]
  cases q : ixN l.length i with
  | none => rw [q] at ha; cases ha
  | some j =>
    rw [q] at ha
    obtain ⟨v, Fi, h1, h2, h3⟩ := reps_get h ha
    exact ⟨v, Fi, h1, h2, h3⟩
theorem ok_ix : IxOk X dIx := by
  refine ⟨_, ix_seq, fun S H x y dx dy Fx Fy d Q sh rx ry hd k => ?_⟩
  cases dx <;> cases dy <;> try (simp only [dIx] at hd; cases hd; done)
  case tup.int l i =>
    simp only [dIx] at hd
    cases q : atI l i with
    | none => rw [q] at hd; cases hd
    | some d' =>
      rw [q] at hd
      simp only [Option.bind_some] at hd
      split at hd
      case isFalse => cases hd
      case isTrue hz =>
        cases hd
        simp only [rep] at rx ry
        obtain ⟨p, xs, rfl, h1, r1⟩ := rx
        obtain ⟨v, Fi, e1, e2, _⟩ := atI_reps r1 q
        have z := isFz_f0 _ _ _ e2 hz
        subst z
        exact .inr (.inl ⟨p, xs, i, v, rfl, ry.1, h1, e1, k.scal sh e2⟩)
  case lst.int o l i =>
    simp only [dIx] at hd
    cases q : atI l i with
    | none => rw [q] at hd; cases hd
    | some d' =>
      rw [q] at hd
      simp only [Option.bind_some] at hd
      split at hd
      case isFalse => cases hd
      case isTrue hz =>
        cases hd
        simp only [rep] at rx ry
        obtain ⟨p, xs, F1, rfl, h1, r1⟩ := rx
        obtain ⟨v, Fi, e1, e2, _⟩ := atI_reps r1 q
        have z := isFz_f0 _ _ _ e2 hz
        subst z
        exact .inl ⟨p, xs, i, v, rfl, ry.1, .inl (h1.rq sh).rd, e1, k.scal sh e2⟩
end
end Z

set_option Elab.async false
set_option linter.all false
set_option maxRecDepth 100000
set_option maxHeartbeats 1000000
/-! # Tests, and or not, conditional expressions, chains, displays, slices -/
namespace Z
open PySem PySem.Spec PyProof.Rows L2

def tBl (g : En → Option D) (e : En) : Option Bool := match g e with
  | some (.bl b) => some b
  | _ => none
def tBlV (f : En → Option (D × En)) (e : En) : Option (Bool × En) := match f e with
  | some (.bl b, e') => some (b, e')
  | _ => none
theorem tBl_some {g : En → Option D} {e : En} {b : Bool} (h : tBl g e = some b) : g e = some (.bl b) := by
  unfold tBl at h
  split at h
  · cases h; assumption
  · cases h
theorem tBlV_some {f : En → Option (D × En)} {e e' : En} {b : Bool} (h : tBlV f e = some (b, e')) : f e = some (.bl b, e') := by
  unfold tBlV at h
  split at h
  · cases h; assumption
  · cases h
def tAndB (g h : En → Option Bool) (e : En) : Option Bool := (g e).bind fun a => if a = true then h e else some false
def tOrB (g h : En → Option Bool) (e : En) : Option Bool := (g e).bind fun a => if a = true then some true else h e
def tNotB (g : En → Option Bool) (e : En) : Option Bool := (g e).bind fun a => some (!a)
def tAndVv (g h : En → Option (Bool × En)) (e : En) : Option (Bool × En) := (g e).bind fun a => if a.1 = true then h a.2 else some (false, a.2)
def tOrVv (g h : En → Option (Bool × En)) (e : En) : Option (Bool × En) := (g e).bind fun a => if a.1 = true then some (true, a.2) else h a.2
def tNotVv (g : En → Option (Bool × En)) (e : En) : Option (Bool × En) := (g e).bind fun a => some (!a.1, a.2)
/-- a test as a value -/
def eOfT (g : En → Option Bool) (e : En) : Option D := (g e).bind fun b => some (.bl b)
def eIf (t : En → Option Bool) (g h : En → Option D) (e : En) : Option D := (t e).bind fun b => if b = true then g e else h e
def vIf (t : En → Option (Bool × En)) (g h : En → Option (D × En)) (e : En) : Option (D × En) := (t e).bind fun b => if b.1 = true then g b.2 else h b.2

def PWb (X : Cx) (x : Expr) (g : En → Option Bool) : Prop := PW X x (semT (Cx.R X) g)
def PWv (X : Cx) (x : Expr) (f : En → Option (Bool × En)) : Prop := PW X x (semTV (Cx.R X) f)
theorem pw_imp {X : Cx} {x : Expr} {t u : TT} (h : PW X x t) (q : ∀ σ H Q, u σ H Q → t σ H Q) : PW X x u := ⟨fun whole pins s σ H Q I w => h.run whole pins s σ H Q I (q σ H Q w)⟩
section
variable {X : Cx} {a b c : Expr} {rest : List Expr} {g h : En → Option D} {f f' : En → Option (D × En)} {t u : En → Option Bool} {tv uv : En → Option (Bool × En)} {pos : Pos}
theorem semT_B {R : RC} (σ : L2.St) (H : Hp) (Q : Bool → Hp → Prop) (w : semT R (tBl g) σ H Q) : tB (semB R g) σ H Q := by
  obtain ⟨S, e, F, B, b, A, hg, k⟩ := w
  refine ⟨S, e, F, B, .bl b, A, tBl_some hg, fun v S' H' Fb t r _ => ?_⟩
  simp only [rep] at r
  exact ⟨b, r.1, k S' H' t⟩
theorem semTV_B {R : RC} (σ : L2.St) (H : Hp) (Q : Bool → Hp → Prop) (w : semTV R (tBlV f) σ H Q) : tB (semV R f) σ H Q := by
  obtain ⟨S, e, F, B, b, e', A, hg, k⟩ := w
  refine ⟨S, e, F, B, .bl b, e', A, tBlV_some hg, fun v S' H' Fv F' t A' r _ _ => ?_⟩
  simp only [rep] at r
  exact ⟨b, r.1, k S' H' F' (t.less fun a ha => .inl (by rw [fadd_at]; omega)) A'⟩
/-- a call, a name, .. as a test -/
theorem t_val (h : PEb X a g) (he : ∀ whole, isTrue a X.env whole = (do let v ← whole; standAt a.pos; holding [v] (truthy v)) := by intro _; rfl) : PTb X a (tBl g) := pt_imp (pt_val h he) semT_B
theorem tv_val (h : PEv X a f) (he : ∀ whole, isTrue a X.env whole = (do let v ← whole; standAt a.pos; holding [v] (truthy v)) := by intro _; rfl) : PTv X a (tBlV f) := pt_imp (pt_val h he) semTV_B
theorem t_cmp {op : CmpOp} {o : D → D → Option D} (ho : OpOk X (compareOp op) o) (ha : PEb X a g) (hb : PEb X b h) (hm : behindInMarks op b = false) : PTb X (.Compare a [op] [b] pos) (tBl (eOp o g h)) := by
  obtain ⟨r, h1, h2⟩ := ho
  refine pt_imp (pt_cmpR h1 ha hb hm) fun σ H Q ⟨S, e, F, B, b, A, hg, k⟩ => ?_
  have := semF_op h2 σ H (fun x H' => ∃ k, x = .bl k ∧ Q k H') ⟨S, e, F, B, .bl b, A, tBl_some hg, fun v S' H' Fb t n r => by
    simp only [rep] at r
    exact ⟨b, r.1, k S' H' t.zero⟩⟩
  exact this
theorem tv_cmp {op : CmpOp} {o : D → D → Option D} (ho : OpOk X (compareOp op) o) (ha : PEv X a f) (hb : PEv X b f') (hm : behindInMarks op b = false) : PTv X (.Compare a [op] [b] pos) (tBlV (vOp o f f')) := by
  obtain ⟨r, h1, h2⟩ := ho
  refine pt_imp (pt_cmpR h1 ha hb hm) fun σ H Q ⟨S, e, F, B, b, e', A, hg, k⟩ => ?_
  have := semV_op h2 σ H (fun x H' => ∃ k, x = .bl k ∧ Q k H') ⟨S, e, F, B, .bl b, e', A, tBlV_some hg, fun v S' H' Fv F' t A' r n m => by
    simp only [rep] at r
    exact ⟨b, r.1, k S' H' F' (t.less fun a ha => .inl (by rw [fadd_at]; omega)) A'⟩⟩
  exact this
theorem t_not (ha : PTb X a t) : PTb X (.UnaryOp .Not a pos) (tNotB t) := pt_imp (pt_not ha) fun σ H Q ⟨S, e, F, B, b, A, hg, k⟩ => by
  unfold tNotB at hg
  cases q : t e with
  | none => rw [q] at hg; cases hg
  | some c => rw [q] at hg; cases hg; exact ⟨S, e, F, B, c, A, q, k⟩
theorem tv_not (ha : PTv X a tv) : PTv X (.UnaryOp .Not a pos) (tNotVv tv) := pt_imp (pt_not ha) fun σ H Q ⟨S, e, F, B, b, e', A, hg, k⟩ => by
  unfold tNotVv at hg
  cases q : tv e with
  | none => rw [q] at hg; cases hg
  | some c => rw [q] at hg; cases hg; exact ⟨S, e, F, B, c.1, c.2, A, q, k⟩
theorem w_and1 (ha : PTb X a t) : PWb X (.BoolOp .And [a] pos) t := pw_and1 ha
theorem w_or1 (ha : PTb X a t) : PWb X (.BoolOp .Or [a] pos) t := pw_or1 ha
theorem w_and (ha : PTb X a t) (hb : PWb X (.BoolOp .And (b :: rest) pos) u) : PWb X (.BoolOp .And (a :: b :: rest) pos) (tAndB t u) := pw_imp (pw_and ha hb) fun σ H Q ⟨S, e, F, B, c, A, hg, k⟩ => by
  unfold tAndB at hg
  cases q : t e with
  | none => rw [q] at hg; cases hg
  | some d =>
    rw [q] at hg
    simp only [Option.bind_some] at hg
    refine ⟨S, e, F, B, d, A, q, fun S1 H1 t1 => ?_⟩
    cases d with
    | true => rw [if_pos rfl] at hg ⊢; exact ⟨S1, e, F, B, c, A.step t1, hg, fun S2 H2 t2 => k S2 H2 (t1.trans t2)⟩
    | false => rw [if_neg Bool.false_ne_true] at hg ⊢; cases hg; exact k S1 H1 t1
theorem w_or (ha : PTb X a t) (hb : PWb X (.BoolOp .Or (b :: rest) pos) u) : PWb X (.BoolOp .Or (a :: b :: rest) pos) (tOrB t u) := pw_imp (pw_or ha hb) fun σ H Q ⟨S, e, F, B, c, A, hg, k⟩ => by
  unfold tOrB at hg
  cases q : t e with
  | none => rw [q] at hg; cases hg
  | some d =>
    rw [q] at hg
    simp only [Option.bind_some] at hg
    refine ⟨S, e, F, B, d, A, q, fun S1 H1 t1 => ?_⟩
    cases d with
    | false => rw [if_neg Bool.false_ne_true] at hg ⊢; exact ⟨S1, e, F, B, c, A.step t1, hg, fun S2 H2 t2 => k S2 H2 (t1.trans t2)⟩
    | true => rw [if_pos rfl] at hg ⊢; cases hg; exact k S1 H1 t1
theorem t_of_w (h : PWb X a t) : PTb X a t := PW.pt h
theorem wv_and1 (ha : PTv X a tv) : PWv X (.BoolOp .And [a] pos) tv := pw_and1 ha
theorem wv_or1 (ha : PTv X a tv) : PWv X (.BoolOp .Or [a] pos) tv := pw_or1 ha
theorem Stp.less0 {S H S' H' : Hp} {F F' : Fp} (t : Stp S H F S' H' (fadd f0 F')) : Stp S H F S' H' F' := by rw [f0_fadd] at t; exact t
theorem wv_and (ha : PTv X a tv) (hb : PWv X (.BoolOp .And (b :: rest) pos) uv) : PWv X (.BoolOp .And (a :: b :: rest) pos) (tAndVv tv uv) := pw_imp (pw_and ha hb) fun σ H Q ⟨S, e, F, B, c, e', A, hg, k⟩ => by
  unfold tAndVv at hg
  cases q : tv e with
  | none => rw [q] at hg; cases hg
  | some p =>
    obtain ⟨d, e1⟩ := p
    rw [q] at hg
    simp only [Option.bind_some] at hg
    refine ⟨S, e, F, B, d, e1, A, q, fun S1 H1 F1 t1 A1 => ?_⟩
    cases d with
    | true => rw [if_pos rfl] at hg ⊢; exact ⟨S1, e1, F1, B, c, e', A1, hg, fun S2 H2 F2 t2 A2 => k S2 H2 F2 (t1.trans t2) A2⟩
    | false => rw [if_neg Bool.false_ne_true] at hg ⊢; cases hg; exact k S1 H1 F1 t1 A1
theorem wv_or (ha : PTv X a tv) (hb : PWv X (.BoolOp .Or (b :: rest) pos) uv) : PWv X (.BoolOp .Or (a :: b :: rest) pos) (tOrVv tv uv) := pw_imp (pw_or ha hb) fun σ H Q ⟨S, e, F, B, c, e', A, hg, k⟩ => by
  unfold tOrVv at hg
  cases q : tv e with
  | none => rw [q] at hg; cases hg
  | some p =>
    obtain ⟨d, e1⟩ := p
    rw [q] at hg
    simp only [Option.bind_some] at hg
    refine ⟨S, e, F, B, d, e1, A, q, fun S1 H1 F1 t1 A1 => ?_⟩
    cases d with
    | false => rw [if_neg Bool.false_ne_true] at hg ⊢; exact ⟨S1, e1, F1, B, c, e', A1, hg, fun S2 H2 F2 t2 A2 => k S2 H2 F2 (t1.trans t2) A2⟩
    | true => rw [if_pos rfl] at hg ⊢; cases hg; exact k S1 H1 F1 t1 A1
theorem tv_of_w (h : PWv X a tv) : PTv X a tv := PW.pt h
/-! and, or, not as values (flags alone) -/
def eAnd (g h : En → Option D) (e : En) : Option D := (tBl g e).bind fun b => if b = true then (tBl h e).bind fun c => some (.bl c) else some (.bl false)
def eOr (g h : En → Option D) (e : En) : Option D := (tBl g e).bind fun b => if b = true then some (.bl true) else (tBl h e).bind fun c => some (.bl c)
def eNot (g : En → Option D) (e : En) : Option D := (tBl g e).bind fun b => some (.bl (!b))
theorem f_one {op : BoolOp} (h : PEf X a g) : PEf X (.BoolOp op [a] pos) g := pe_one h
theorem f_and (ha : PEb X a g) (hb : PEb X (.BoolOp .And (b :: rest) pos) h) : PEf X (.BoolOp .And (a :: b :: rest) pos) (eAnd g h) := pe_imp (pe_and ha hb) fun σ H Q ⟨S, e, F, B, d, A, hg, k⟩ => by
  unfold eAnd at hg
  cases q : tBl g e with
  | none => rw [q] at hg; cases hg
  | some c =>
    rw [q] at hg
    simp only [Option.bind_some] at hg
    refine ⟨S, e, F, B, .bl c, A, tBl_some q, fun v S1 H1 Fb t1 r1 _ => ?_⟩
    simp only [rep] at r1
    refine ⟨c, r1.1, ?_⟩
    cases c with
    | true =>
      rw [if_pos rfl] at hg ⊢
      cases q2 : tBl h e with
      | none => rw [q2] at hg; cases hg
      | some c2 =>
        rw [q2] at hg; cases hg
        exact ⟨S1, e, F, B, .bl c2, A.step t1, tBl_some q2, fun v S2 H2 Fb t2 r2 _ => by
          simp only [rep] at r2
          rw [r2.1]
          exact k _ S2 H2 f0 (t1.trans t2) .zero (repB ..)⟩
    | false => rw [if_neg Bool.false_ne_true] at hg ⊢; cases hg; exact k _ S1 H1 f0 t1 .zero (repB ..)
theorem f_or (ha : PEb X a g) (hb : PEb X (.BoolOp .Or (b :: rest) pos) h) : PEf X (.BoolOp .Or (a :: b :: rest) pos) (eOr g h) := pe_imp (pe_or ha hb) fun σ H Q ⟨S, e, F, B, d, A, hg, k⟩ => by
  unfold eOr at hg
  cases q : tBl g e with
  | none => rw [q] at hg; cases hg
  | some c =>
    rw [q] at hg
    simp only [Option.bind_some] at hg
    refine ⟨S, e, F, B, .bl c, A, tBl_some q, fun v S1 H1 Fb t1 r1 _ => ?_⟩
    simp only [rep] at r1
    refine ⟨c, r1.1, ?_⟩
    cases c with
    | false =>
      rw [if_neg Bool.false_ne_true] at hg ⊢
      cases q2 : tBl h e with
      | none => rw [q2] at hg; cases hg
      | some c2 =>
        rw [q2] at hg; cases hg
        exact ⟨S1, e, F, B, .bl c2, A.step t1, tBl_some q2, fun v S2 H2 Fb t2 r2 _ => by
          simp only [rep] at r2
          rw [r2.1]
          exact k _ S2 H2 f0 (t1.trans t2) .zero (repB ..)⟩
    | true => rw [if_pos rfl] at hg ⊢; cases hg; exact k _ S1 H1 f0 t1 .zero (repB ..)
theorem f_not (ha : PEb X a g) : PEf X (.UnaryOp .Not a pos) (eNot g) := pe_imp (pe_not ha) fun σ H Q ⟨S, e, F, B, d, A, hg, k⟩ => by
  unfold eNot at hg
  cases q : tBl g e with
  | none => rw [q] at hg; cases hg
  | some c =>
    rw [q] at hg; cases hg
    exact ⟨S, e, F, B, .bl c, A, tBl_some q, fun v S1 H1 Fb t1 r1 _ => by
      simp only [rep] at r1
      exact ⟨c, r1.1, k _ S1 H1 f0 t1 .zero (repB ..)⟩⟩
theorem f_if (hc : PTb X c t) (ha : PEf X a g) (hb : PEf X b h) : PEf X (.IfExp c a b pos) (eIf t g h) := pe_imp (pe_ifExp hc ha hb) fun σ H Q ⟨S, e, F, B, d, A, hg, k⟩ => by
  unfold eIf at hg
  cases q : t e with
  | none => rw [q] at hg; cases hg
  | some c =>
    rw [q] at hg
    simp only [Option.bind_some] at hg
    refine ⟨S, e, F, B, c, A, q, fun S1 H1 t1 => ?_⟩
    cases c with
    | true => rw [if_pos rfl] at hg ⊢; exact ⟨S1, e, F, B, d, A.step t1, hg, fun v S' H' Fb t2 n r => k v S' H' Fb (t1.trans t2) n r⟩
    | false => rw [if_neg Bool.false_ne_true] at hg ⊢; exact ⟨S1, e, F, B, d, A.step t1, hg, fun v S' H' Fb t2 n r => k v S' H' Fb (t1.trans t2) n r⟩
theorem b_if (hc : PTb X c t) (ha : PEb X a g) (hb : PEb X b h) : PEb X (.IfExp c a b pos) (eIf t g h) := pe_imp (pe_ifExp hc ha hb) fun σ H Q ⟨S, e, F, B, d, A, hg, k⟩ => by
  unfold eIf at hg
  cases q : t e with
  | none => rw [q] at hg; cases hg
  | some c =>
    rw [q] at hg
    simp only [Option.bind_some] at hg
    refine ⟨S, e, F, B, c, A, q, fun S1 H1 t1 => ?_⟩
    cases c with
    | true => rw [if_pos rfl] at hg ⊢; exact ⟨S1, e, F, B, d, A.step t1, hg, fun v S' H' Fb t2 r o => k v S' H' Fb (t1.trans t2) r fun a ha => (o a ha).elim .inl fun z => .inr (t1.fresh z)⟩
    | false => rw [if_neg Bool.false_ne_true] at hg ⊢; exact ⟨S1, e, F, B, d, A.step t1, hg, fun v S' H' Fb t2 r o => k v S' H' Fb (t1.trans t2) r fun a ha => (o a ha).elim .inl fun z => .inr (t1.fresh z)⟩
theorem v_if (hc : PTv X c tv) (ha : PEv X a f) (hb : PEv X b f') : PEv X (.IfExp c a b pos) (vIf tv f f') := pe_imp (pe_ifExp hc ha hb) fun σ H Q ⟨S, e, F, B, d, e', A, hg, k⟩ => by
  unfold vIf at hg
  cases q : tv e with
  | none => rw [q] at hg; cases hg
  | some p =>
    obtain ⟨c, e1⟩ := p
    rw [q] at hg
    simp only [Option.bind_some] at hg
    refine ⟨S, e, F, B, c, e1, A, q, fun S1 H1 F1 t1 A1 => ?_⟩
    cases c with
    | true => rw [if_pos rfl] at hg ⊢; exact ⟨S1, e1, F1, B, d, e', A1, hg, fun v S' H' Fv F' t2 A' r n m => k v S' H' Fv F' (t1.trans t2) A' r n m⟩
    | false => rw [if_neg Bool.false_ne_true] at hg ⊢; exact ⟨S1, e1, F1, B, d, e', A1, hg, fun v S' H' Fv F' t2 A' r n m => k v S' H' Fv F' (t1.trans t2) A' r n m⟩
end
/-! a < b < c .. -/
/-- the readings of the links of a chain -/
def tCh : List (R2 × TE) → V → L2.St → Hp → VK → Prop
  | [], _, _, _, _ => False
  | [(r, t)], x, σ, H, Q => t σ H fun y H1 => r x y H1 Q
  | (r, t) :: p :: l, x, σ, H, Q => t σ H fun y H1 => r x y H1 fun z H2 => ∃ k, z = .bl k ∧ if k = true then tCh (p :: l) y σ H2 Q else Q (.bl false) H2
inductive ChR (X : Cx) : List CmpOp → List Expr → List (R2 × TE) → Prop
  | one {op : CmpOp} {e : Expr} {r : R2} {t : TE} : OpR X (compareOp op) r → PE X e t → ChR X [op] [e] [(r, t)]
  | more {op : CmpOp} {e : Expr} {r : R2} {t : TE} {op' : CmpOp} {e' : Expr} {p : R2 × TE} {ops : List CmpOp} {es : List Expr} {l : List (R2 × TE)} : OpR X (compareOp op) r → PE X e t → ChR X (op' :: ops) (e' :: es) (p :: l) → ChR X (op :: op' :: ops) (e :: e' :: es) ((r, t) :: p :: l)
section
variable {X : Cx}
theorem ch_run {pos : Pos} {ops : List CmpOp} {es : List Expr} {l : List (R2 × TE)} (h : ChR X ops es l) : ∀ (pins : List (Addr × Obj)) (s : Shared) (σ : L2.St) (H : Hp) (Q : VK) (x : V) (v : Value), Inv X pins σ H s → RelV x v → tCh l x σ H Q →
    wpAny (model X.prog X.w) X.A (compareChain pos v ops (evalEach es X.env)) (EP X pins σ Q) X.xe s := by
  induction h with
  | one ho he =>
    intro pins s σ H Q x v I rx w
    exact chain_last (thn (he.run pins s σ H _ I w) fun u s1 ⟨y, H1, I1, r1, q1⟩ => ho pins s1 σ H1 x y v u Q I1 rx r1 q1)
  | more ho he hl ih =>
    intro pins s σ H Q x v I rx w
    refine chain_link (thn (he.run pins s σ H _ I w) fun u s1 ⟨y, H1, I1, r1, q1⟩ => thn (ho pins s1 σ H1 x y v u _ I1 rx r1 q1) fun d s3 ⟨z, H3, I3, r3, k, e, q3⟩ => ?_)
    subst e
    cases r3
    refine wpAny_truthy_bool ?_
    cases k with
    | false => exact ite_ff ⟨.bl false, H3, I3, rfl, q3⟩
    | true => exact ite_tt (ih pins s3 σ H3 Q y u I3 r1 q3)
theorem ch_test {pos : Pos} {ops : List CmpOp} {es : List Expr} {l : List (R2 × TE)} (h : ChR X ops es l) : ∀ (pins : List (Addr × Obj)) (s : Shared) (σ : L2.St) (H : Hp) (Q : Bool → Hp → Prop) (x : V) (v : Value), Inv X pins σ H s → RelV x v → tCh l x σ H (fun z H' => ∃ k, z = .bl k ∧ Q k H') →
    wpAny (model X.prog X.w) X.A (testChain pos v ops (evalEach es X.env)) (TP X pins σ Q) X.xe s := by
  induction h with
  | one ho he =>
    intro pins s σ H Q x v I rx w
    refine test_last (thn (he.run pins s σ H _ I w) fun u s1 ⟨y, H1, I1, r1, q1⟩ => thn (ho pins s1 σ H1 x y v u _ I1 rx r1 q1) fun d s3 ⟨z, H3, I3, r3, k, e, q3⟩ => ?_)
    subst e
    cases r3
    exact wpAny_truthy_bool ⟨H3, I3, q3⟩
  | more ho he hl ih =>
    intro pins s σ H Q x v I rx w
    refine test_link (thn (he.run pins s σ H _ I w) fun u s1 ⟨y, H1, I1, r1, q1⟩ => thn (ho pins s1 σ H1 x y v u _ I1 rx r1 q1) fun d s3 ⟨z, H3, I3, r3, k, e, q3⟩ => ?_)
    subst e
    cases r3
    refine wpAny_truthy_bool ?_
    cases k with
    | false =>
      obtain ⟨k', e', q'⟩ := q3
      cases e'
      exact ite_ff ⟨H3, I3, q'⟩
    | true => exact ite_tt (ih pins s3 σ H3 Q y u I3 r1 q3)
end
abbrev Lk := (D → D → Option D) × (En → Option D)
def eCh : List Lk → D → En → Option D
  | [], _, _ => none
  | [(o, g)], a, e => (g e).bind fun b => o a b
  | (o, g) :: p :: l, a, e => (g e).bind fun b => (o a b).bind fun r => match r with
    | .bl true => eCh (p :: l) b e
    | .bl false => some (.bl false)
    | _ => none
def eChain (ga : En → Option D) (l : List Lk) (e : En) : Option D := (ga e).bind fun a => eCh l a e
inductive ChOk (X : Cx) : List CmpOp → List Expr → List Lk → Prop
  | one {op : CmpOp} {e : Expr} {o : D → D → Option D} {g : En → Option D} : OpOk X (compareOp op) o → PEb X e g → ChOk X [op] [e] [(o, g)]
  | more {op : CmpOp} {e : Expr} {o : D → D → Option D} {g : En → Option D} {op' : CmpOp} {e' : Expr} {p : Lk} {ops : List CmpOp} {es : List Expr} {l : List Lk} : OpOk X (compareOp op) o → PEb X e g → ChOk X (op' :: ops) (e' :: es) (p :: l) → ChOk X (op :: op' :: ops) (e :: e' :: es) ((o, g) :: p :: l)
section
variable {X : Cx}
theorem ch_ok {ops : List CmpOp} {es : List Expr} {l : List Lk} (h : ChOk X ops es l) : ∃ L, ChR X ops es L ∧ ∀ (σ : L2.St) (H S : Hp) (e : En) (F B : Fp) (a d : D) (v : V) (Fa : Fp) (Q : VK), At0 (Cx.R X) S H σ e F B → rep (Cx.R X) S H a v Fa → eCh l a e = some d →
    PostF (Cx.R X) S H d Q → tCh L v σ H Q := by
  induction h with
  | one ho he =>
    obtain ⟨r, h1, h2⟩ := ho
    refine ⟨_, .one h1 he, fun σ H S e F B a d v Fa Q A ra hd k => ?_⟩
    rename_i o g
    unfold eCh at hd
    cases q : g e with
    | none => rw [q] at hd; cases hd
    | some b =>
      rw [q] at hd
      exact ⟨S, e, F, B, b, A, q, fun u S1 H1 F1 t1 r1 _ => h2 S1 H1 v u a b Fa F1 d Q t1.sh (rep_step t1 a v Fa ra fun _ _ => rfl) r1 hd (k.at t1)⟩
  | more ho he hl ih =>
    obtain ⟨r, h1, h2⟩ := ho
    obtain ⟨L, hL, hk⟩ := ih
    rename_i op x o g op' x' p ops es l
    cases L with
    | nil => cases hL
    | cons P L =>
      refine ⟨_, .more h1 he hL, fun σ H S e F B a d v Fa Q A ra hd k => ?_⟩
      unfold eCh at hd
      cases q : g e with
      | none => rw [q] at hd; cases hd
      | some b =>
        rw [q] at hd
        simp only [Option.bind_some] at hd
        cases q2 : o a b with
        | none => rw [q2] at hd; cases hd
        | some dr =>
          rw [q2] at hd
          simp only [Option.bind_some] at hd
          refine ⟨S, e, F, B, b, A, q, fun u S1 H1 F1 t1 r1 _ => ?_⟩
          refine h2 S1 H1 v u a b Fa F1 dr _ t1.sh (rep_step t1 a v Fa ra fun _ _ => rfl) r1 q2 fun w S3 H3 F3 t3 n3 r3 => ?_
          have T := t1.trans t3.zero
          cases dr with
          | bl c =>
            simp only [rep] at r3
            refine ⟨c, r3.1, ?_⟩
            cases c with
            | true =>
              rw [if_pos rfl]
              exact hk σ H3 S3 e F B b d u F1 Q (A.step T) (rep_step t3.zero b u F1 r1 fun _ _ => rfl) hd (k.at T)
            | false =>
              rw [if_neg Bool.false_ne_true]
              cases hd
              exact k _ S3 H3 f0 T .zero (repB ..)
          | _ => cases hd
theorem f_chain {pos : Pos} {x : Expr} {g : En → Option D} {op1 op2 : CmpOp} {ops : List CmpOp} {e1 e2 : Expr} {es : List Expr} {l : List Lk} (ha : PEb X x g) (h : ChOk X (op1 :: op2 :: ops) (e1 :: e2 :: es) l) (hm : lastMarks (op1 :: op2 :: ops) (e1 :: e2 :: es) = false := by with_unfolding_all rfl) :
    PEf X (.Compare x (op1 :: op2 :: ops) (e1 :: e2 :: es) pos) (eChain g l) := by
  obtain ⟨L, hL, hk⟩ := ch_ok h
  refine ⟨fun pins s σ H Q I ⟨S, e, F, B, d, A, hg, k⟩ => ?_⟩
  unfold eChain at hg
  cases q : g e with
  | none => rw [q] at hg; cases hg
  | some a =>
    rw [q] at hg
    refine Compare_chain (thn (ha.run pins s σ H (fun v H1 => tCh L v σ H1 Q) I ⟨S, e, F, B, a, A, q, fun v S1 H1 F1 t1 r1 _ => hk σ H1 S1 e F B a d v F1 Q (A.step t1) r1 hg (PostF.at (S := S) (H := H) (fun v S' H' Fb t n r => k v S' H' Fb t n r) t1)⟩) fun v s1 ⟨y, H1, I1, r1, q1⟩ => ?_) hm
    exact ch_run hL pins s1 σ H1 Q y v I1 r1 q1
theorem t_chain {pos : Pos} {x : Expr} {g : En → Option D} {op1 op2 : CmpOp} {ops : List CmpOp} {e1 e2 : Expr} {es : List Expr} {l : List Lk} (ha : PEb X x g) (h : ChOk X (op1 :: op2 :: ops) (e1 :: e2 :: es) l) (hm : lastMarks (op1 :: op2 :: ops) (e1 :: e2 :: es) = false := by with_unfolding_all rfl) :
    PTb X (.Compare x (op1 :: op2 :: ops) (e1 :: e2 :: es) pos) (tBl (eChain g l)) := by
  obtain ⟨L, hL, hk⟩ := ch_ok h
  refine ⟨fun pins s σ H Q I ⟨S, e, F, B, b, A, hg, k⟩ => ?_⟩
  have hg := tBl_some hg
  unfold eChain at hg
  cases q : g e with
  | none => rw [q] at hg; cases hg
  | some a =>
    rw [q] at hg
    refine isTrue_chain (thn (ha.run pins s σ H (fun v H1 => tCh L v σ H1 (fun z H' => ∃ k, z = .bl k ∧ Q k H')) I ⟨S, e, F, B, a, A, q, fun v S1 H1 F1 t1 r1 _ => hk σ H1 S1 e F B a (.bl b) v F1 _ (A.step t1) r1 hg fun v S' H' Fb t n r => by
      simp only [rep] at r
      exact ⟨b, r.1, k S' H' (t1.trans t.zero)⟩⟩) fun v s1 ⟨y, H1, I1, r1, q1⟩ => ?_) hm
    exact ch_test hL pins s1 σ H1 Q y v I1 r1 q1
end
end Z

set_option Elab.async false
set_option linter.all false
set_option maxRecDepth 100000
set_option maxHeartbeats 1000000
/-! # Displays, slices, built-in functions, what is walked -/
namespace Z
open PySem PySem.Spec PyProof.Rows L2

theorem Muf.one {H : Hp} {p : Addr} {o : HO} (h : H p = some o) (m : Mut (some o)) : Muf H (f1 p) := fun x hx => by
  rw [f1_at] at hx
  by_cases z : x = p
  · rw [z, h]; exact m
  · rw [if_neg z] at hx; omega
/-! displays -/
def eTup (gs : En → Option (List D)) (e : En) : Option D := (gs e).bind fun l => some (.tup l)
def eLst (gs : En → Option (List D)) (e : En) : Option D := (gs e).bind fun l => some (.lst true l)
def vTup (gs : En → Option (List D × En)) (e : En) : Option (D × En) := (gs e).bind fun p => some (.tup p.1, p.2)
def vLst (gs : En → Option (List D × En)) (e : En) : Option (D × En) := (gs e).bind fun p => some (.lst true p.1, p.2)
theorem vsNil_len : ∀ (e : En) (p : List D × En), vsNil e = some p → p.1.length = 0 := fun _ _ h => by cases h; rfl
theorem vsCons_len {f : En → Option (D × En)} {fs : En → Option (List D × En)} {n : Nat} (h : ∀ (e : En) (p : List D × En), fs e = some p → p.1.length = n) : ∀ (e : En) (p : List D × En), vsCons f fs e = some p → p.1.length = n + 1 := fun e p q => by
  unfold vsCons at q
  cases q1 : f e with
  | none => rw [q1] at q; cases q
  | some d =>
    rw [q1] at q
    simp only [Option.bind_some] at q
    cases q2 : fs d.2 with
    | none => rw [q2] at q; cases q
    | some l => rw [q2] at q; cases q; rw [List.length_cons, h d.2 l q2]
theorem small_line {n : Nat} (h : n ≤ 1000) : n ≤ sizeLine := Nat.le_trans h (by rw [sizeLine_eq]; decide)
section
variable {X : Cx} {es : List Expr} {gs : En → Option (List D)} {fs : En → Option (List D × En)} {n : Nat} {k1 : Nat} {pos : Pos}
theorem f_tup (h : PAf X es gs) (hn : ∀ (e : En) (ds : List D), gs e = some ds → ds.length = n) (hz : n ≤ 1000 := by decide) {k} : PEf X (.Tuple es k pos) (eTup gs) := pe_imp (pe_tup h) fun σ H Q ⟨S, e, F, B, d, A, hg, k⟩ => by
  unfold eTup at hg
  cases q : gs e with
  | none => rw [q] at hg; cases hg
  | some ds =>
    rw [q] at hg; cases hg
    refine ⟨S, e, F, B, ds, A, q, fun vs S1 H1 Fb t1 n1 r1 => ⟨small_line (by rw [reps_len r1, hn e ds q]; exact hz), fun p hp => ?_⟩⟩
    have t2 : Stp S1 H1 f0 S1 (upd H1 p (.tup vs)) f0 := (Stp.make t1.sh hp).zero
    have T : Stp S H f0 S1 (upd H1 p (.tup vs)) Fb := by have := t1.trans (t2.frame Fb |>.weak (G := Fb) fun a ha => by rw [fadd_f0] at ha; exact ha); rw [fadd_f0] at this; exact this
    refine k (.ref p) S1 _ Fb T (fun a => ⟨(n1 a).1, (n1.mu.step t2 fun _ _ => rfl) a⟩) ?_
    simp only [rep]
    exact ⟨p, vs, rfl, .inl (.inl upd_same), reps_step t2 ds vs Fb r1 fun _ _ => rfl⟩
theorem b_tup (h : PAb X es gs) (hn : ∀ (e : En) (ds : List D), gs e = some ds → ds.length = n) (hz : n ≤ 1000 := by decide) {k} : PEb X (.Tuple es k pos) (eTup gs) := pe_imp (pe_tup h) fun σ H Q ⟨S, e, F, B, d, A, hg, k⟩ => by
  unfold eTup at hg
  cases q : gs e with
  | none => rw [q] at hg; cases hg
  | some ds =>
    rw [q] at hg; cases hg
    refine ⟨S, e, F, B, ds, A, q, fun vs S1 H1 Fb t1 r1 o1 => ⟨small_line (by rw [reps_len r1, hn e ds q]; exact hz), fun p hp => ?_⟩⟩
    have t2 : Stp S1 H1 f0 S1 (upd H1 p (.tup vs)) f0 := (Stp.make t1.sh hp).zero
    refine k (.ref p) S1 _ Fb (t1.trans t2) ?_ o1
    simp only [rep]
    exact ⟨p, vs, rfl, .inl (.inl upd_same), reps_step t2 ds vs Fb r1 fun _ _ => rfl⟩
theorem v_tup (h : PAv X es fs) (hn : ∀ (e : En) (p : List D × En), fs e = some p → p.1.length = n) (hz : n ≤ 1000 := by decide) {k} : PEv X (.Tuple es k pos) (vTup fs) := pe_imp (pe_tup h) fun σ H Q ⟨S, e, F, B, d, e', A, hg, k⟩ => by
  unfold vTup at hg
  cases q : fs e with
  | none => rw [q] at hg; cases hg
  | some p =>
    obtain ⟨ds, e1⟩ := p
    rw [q] at hg; cases hg
    refine ⟨S, e, F, B, ds, e1, A, q, fun vs S1 H1 Fv F1 t1 A1 r1 n1 m1 => ⟨small_line (by rw [reps_len r1, hn e (ds, e1) q]; exact hz), fun p hp => ?_⟩⟩
    have t2 : Stp S1 H1 f0 S1 (upd H1 p (.tup vs)) f0 := (Stp.make t1.sh hp).zero
    have T : Stp S H F S1 (upd H1 p (.tup vs)) (fadd Fv F1) := by have := t1.trans (t2.frame (fadd Fv F1) |>.weak (G := fadd Fv F1) fun a ha => by rw [fadd_f0] at ha; exact ha); rw [fadd_f0] at this; exact this
    refine k (.ref p) S1 _ Fv F1 T (A1.step t2) ?_ n1 (m1.step t2 fun _ _ => rfl)
    simp only [rep]
    exact ⟨p, vs, rfl, .inl (.inl upd_same), reps_step t2 ds vs Fv r1 fun _ _ => rfl⟩
theorem f_lst (h : PAf X es gs) (hn : ∀ (e : En) (ds : List D), gs e = some ds → ds.length = n) (hz : n ≤ 1000 := by decide) : PEf X (.List es pos) (eLst gs) := pe_imp (pe_lst h) fun σ H Q ⟨S, e, F, B, d, A, hg, k⟩ => by
  unfold eLst at hg
  cases q : gs e with
  | none => rw [q] at hg; cases hg
  | some ds =>
    rw [q] at hg; cases hg
    refine ⟨S, e, F, B, ds, A, q, fun vs S1 H1 Fb t1 n1 r1 => ⟨small_line (by rw [reps_len r1, hn e ds q]; exact hz), fun p hp => ?_⟩⟩
    have t2 : Stp S1 H1 f0 S1 (upd H1 p (.lst vs)) (f1 p) := Stp.make t1.sh hp
    have T : Stp S H f0 S1 (upd H1 p (.lst vs)) (fadd (f1 p) Fb) := by rw [fadd_comm]; exact t1.trans (t2.frame Fb |>.weak (G := Fb) fun a ha => by rw [fadd_f0] at ha; exact ha)
    have dom : ∀ a, 0 < Fb a → a ≠ p := fun a ha z => by
      obtain ⟨⟨w, hw⟩, _⟩ := reps_dom ds vs Fb r1 a ha
      rw [z, hp] at hw; cases hw
    refine k (.ref p) S1 _ _ T (fun a => ⟨?_, ((Muf.one (o := HO.lst vs) upd_same True.intro).add (n1.mu.step t2 fun _ _ => rfl)) a⟩) ?_
    · have := (n1 a).1
      rw [fadd_at, f1_at]
      split
      · rename_i z
        rcases Nat.eq_zero_or_pos (Fb a) with y | y
        · omega
        · exact absurd z (dom a y)
      · omega
    · simp only [rep]
      refine ⟨p, vs, Fb, rfl, ⟨upd_same, ?_, rfl⟩, reps_step t2 ds vs Fb r1 fun _ _ => rfl⟩
      cases z : S1 p with
      | none => rfl
      | some o => rw [t1.sh p o z] at hp; cases hp
theorem v_lst (h : PAv X es fs) (hn : ∀ (e : En) (p : List D × En), fs e = some p → p.1.length = n) (hz : n ≤ 1000 := by decide) : PEv X (.List es pos) (vLst fs) := pe_imp (pe_lst h) fun σ H Q ⟨S, e, F, B, d, e', A, hg, k⟩ => by
  unfold vLst at hg
  cases q : fs e with
  | none => rw [q] at hg; cases hg
  | some p =>
    obtain ⟨ds, e1⟩ := p
    rw [q] at hg; cases hg
    refine ⟨S, e, F, B, ds, e1, A, q, fun vs S1 H1 Fv F1 t1 A1 r1 n1 m1 => ⟨small_line (by rw [reps_len r1, hn e (ds, e1) q]; exact hz), fun p hp => ?_⟩⟩
    have t2 : Stp S1 H1 f0 S1 (upd H1 p (.lst vs)) (f1 p) := Stp.make t1.sh hp
    have T : Stp S H F S1 (upd H1 p (.lst vs)) (fadd (fadd (f1 p) Fv) F1) := by
      have := t1.trans (t2.frame (fadd Fv F1) |>.weak (G := fadd Fv F1) fun a ha => by rw [fadd_f0] at ha; exact ha)
      rw [fadd_comm, ← fadd_assoc] at this; exact this
    have nw : ∀ a, 0 < Fv a + F1 a + B a → a ≠ p := fun a ha z => by
      rcases Nat.eq_zero_or_pos (Fv a) with y | y
      · exact absurd (z ▸ hp) (A1.toAt0.old (by omega))
      · obtain ⟨⟨w, hw⟩, _⟩ := reps_dom ds vs Fv r1 a y
        rw [z, hp] at hw; cases hw
    refine k (.ref p) S1 _ _ F1 T (A1.step t2) ?_ (fun a => ?_) ((Muf.one (o := HO.lst vs) upd_same True.intro).add (m1.step t2 fun _ _ => rfl))
    · simp only [rep]
      refine ⟨p, vs, Fv, rfl, ⟨upd_same, ?_, rfl⟩, reps_step t2 ds vs Fv r1 fun _ _ => rfl⟩
      cases z : S1 p with
      | none => rfl
      | some o => rw [t1.sh p o z] at hp; cases hp
    · have := n1 a
      rw [fadd_at, f1_at]
      split
      · rename_i z
        rcases Nat.eq_zero_or_pos (Fv a + F1 a + B a) with y | y
        · omega
        · exact absurd z (nw a y)
      · omega
end

/-! slices -/
def cutD {α : Type} (xs : List α) (lo hi : Option Int) : List α := (xs.drop (HT.sIx xs.length 0 lo)).take (HT.sIx xs.length xs.length hi - HT.sIx xs.length 0 lo)
def semP (R : RC) (g : En → Option (Option Int)) : TO := fun σ H Q => ∃ S e F B o, At0 R S H σ e F B ∧ g e = some o ∧ ∀ S' H', Stp S H f0 S' H' f0 → Q o H'
def POb (X : Cx) (x : Option Expr) (g : En → Option (Option Int)) : Prop := PO X x (semP (Cx.R X) g)
def eNoP (_ : En) : Option (Option Int) := some none
def eP (g : En → Option D) (e : En) : Option (Option Int) := match g e with
  | some (.int i) => some (some i)
  | _ => none
def dSl (d : D) (lo hi : Option Int) : Option D := match d with
  | .tup l => if isFzs l = true then some (.tup (cutD l lo hi)) else none
  | .lst _ l => if isFzs l = true then some (.lst true (cutD l lo hi)) else none
  | .scr ns => some (.lst true ((cutD ns lo hi).map D.int))
  | _ => none
def eSl (g : En → Option D) (l h : En → Option (Option Int)) (e : En) : Option D := (g e).bind fun d => (l e).bind fun lo => (h e).bind fun hi => dSl d lo hi
theorem cutV_eq (xs : List V) (lo hi : Option Int) : cutV xs lo hi = cutD xs lo hi := rfl
section
variable {R : RC} {S H : Hp}
theorem reps_drop : ∀ {l : List D} {vs : List V} (n : Nat), reps R S H l vs f0 → reps R S H (l.drop n) (vs.drop n) f0
  | [], vs, n, h => by simp only [reps] at h; rw [h.1]; simp only [List.drop_nil, reps]; exact ⟨trivial, trivial⟩
  | d :: l, vs, 0, h => h
  | d :: l, vs, n + 1, h => by
    simp only [reps] at h
    obtain ⟨v, vr, F1, F2, rfl, h1, h2, z⟩ := h
    obtain ⟨rfl, rfl⟩ := fadd_zero z.symm
    exact reps_drop n h2
theorem reps_take : ∀ {l : List D} {vs : List V} (n : Nat), reps R S H l vs f0 → reps R S H (l.take n) (vs.take n) f0
  | l, vs, 0, h => by simp only [List.take_zero, reps]; exact ⟨trivial, trivial⟩
  | [], vs, n + 1, h => by simp only [reps] at h; rw [h.1]; simp only [List.take_nil, reps]; exact ⟨trivial, trivial⟩
  | d :: l, vs, n + 1, h => by
    simp only [reps] at h
    obtain ⟨v, vr, F1, F2, rfl, h1, h2, z⟩ := h
    obtain ⟨rfl, rfl⟩ := fadd_zero z.symm
    rw [List.take_succ_cons, List.take_succ_cons]
    simp only [reps]
    exact ⟨v, vr.take n, f0, f0, rfl, h1, reps_take n h2, (fadd_f0 f0).symm⟩
theorem reps_cut {l : List D} {vs : List V} (lo hi : Option Int) (h : reps R S H l vs f0) : reps R S H (cutD l lo hi) (cutV vs lo hi) f0 := by
  unfold cutD cutV
  rw [reps_len h]
  exact reps_take _ (reps_drop _ h)
theorem reps_ints : ∀ ns : List Int, reps R S H (ns.map D.int) (ns.map V.int) f0
  | [] => by simp only [List.map_nil, reps]; exact ⟨trivial, trivial⟩
  | n :: ns => by
    rw [List.map_cons, List.map_cons]
    simp only [reps]
    exact ⟨.int n, ns.map V.int, f0, f0, rfl, repI .., reps_ints ns, (fadd_f0 f0).symm⟩
theorem cutD_map {α β : Type} (f : α → β) (xs : List α) (lo hi : Option Int) : cutD (xs.map f) lo hi = (cutD xs lo hi).map f := by
  unfold cutD; rw [List.length_map, List.map_take, List.map_drop]
end
section
variable {X : Cx} {a : Expr} {lo hi : Option Expr} {g : En → Option D} {gl gh : En → Option (Option Int)} {pos p2 : Pos}
theorem p_none : POb X none eNoP := ⟨fun pins s σ H Q I ⟨S, e, F, B, o, A, hg, k⟩ => by cases hg; exact po_none.run pins s σ H Q I (k S H (.refl0 A.sh))⟩
theorem po_imp {x : Option Expr} {t u : TO} (h : PO X x t) (q : ∀ σ H Q, u σ H Q → t σ H Q) : PO X x u := ⟨fun pins s σ H Q I w => h.run pins s σ H Q I (q σ H Q w)⟩
theorem p_some (h : PEb X a g) : POb X (some a) (eP g) := po_imp (po_some h) fun σ H Q ⟨S, e, F, B, o, A, hg, k⟩ => by
  unfold eP at hg
  cases q : g e with
  | none => rw [q] at hg; cases hg
  | some d =>
    rw [q] at hg
    cases d with
    | int i =>
      cases hg
      refine ⟨S, e, F, B, .int i, A, q, fun v S1 H1 Fb t1 r1 _ => ?_⟩
      simp only [rep] at r1
      exact ⟨i, r1.1, k S1 H1 t1⟩
    | _ => cases hg
theorem f_sl (ha : PEb X a g) (hl : POb X lo gl) (hh : POb X hi gh) : PEf X (.Subscript a (.Slice lo hi none p2) pos) (eSl g gl gh) := by
  refine pe_imp (pe_slice (sl_tupA.or sl_list) ha hl hh) fun σ H Q ⟨S, e, F, B, d, A, hg, k⟩ => ?_
  unfold eSl at hg
  cases q : g e with
  | none => rw [q] at hg; cases hg
  | some da =>
    rw [q] at hg
    simp only [Option.bind_some] at hg
    cases ql : gl e with
    | none => rw [ql] at hg; cases hg
    | some l =>
      rw [ql] at hg
      cases qh : gh e with
      | none => rw [qh] at hg; cases hg
      | some u =>
        rw [qh] at hg
        simp only [Option.bind_some] at hg
        refine ⟨S, e, F, B, da, A, q, fun v S1 H1 F1 t1 r1 _ => ⟨S1, e, F, B, l, A.step t1, ql, fun S2 H2 t2 => ⟨S2, e, F, B, u, (A.step t1).step t2, qh, fun S3 H3 t3 => ?_⟩⟩⟩
        have T := (t1.trans t2).trans t3
        have K : PostF (Cx.R X) S3 H3 d Q := PostF.at (S := S) (H := H) (fun v S' H' Fb t n r => k v S' H' Fb t n r) T
        have r3 := rep_step (t2.trans t3) da v F1 r1 fun _ _ => rfl
        cases da with
        | tup xs =>
          simp only [dSl] at hg
          split at hg
          case isFalse => cases hg
          case isTrue hz =>
            cases hg
            simp only [rep] at r3
            obtain ⟨p, vs, rfl, h1, r⟩ := r3
            have r := reps_fzz r hz
            refine .inl ⟨p, vs, rfl, h1, fun ⟨z1, z2⟩ => ?_, fun _ w hw => K.newT t3.sh (reps_cut l u r) hw⟩
            refine K.scal t3.sh ?_
            simp only [rep]
            refine ⟨p, vs, rfl, h1, ?_⟩
            have e1 : cutD xs l u = xs := by
              unfold cutD
              rw [reps_len r] at z1 z2
              rw [z1, z2, List.drop_zero, Nat.sub_zero, List.take_length]
            rw [e1]; exact r
        | lst o xs =>
          simp only [dSl] at hg
          split at hg
          case isFalse => cases hg
          case isTrue hz =>
            cases hg
            simp only [rep] at r3
            obtain ⟨p, vs, F', rfl, h1, r⟩ := r3
            have r := reps_fzz r hz
            exact .inr ⟨p, vs, rfl, .inl (h1.rq t3.sh).rd, fun w hw => K.newL t3.sh (reps_cut l u r) hw⟩
        | scr ns =>
          cases hg
          simp only [rep] at r3
          obtain ⟨⟨p, rfl, h1⟩, _⟩ := r3
          refine .inr ⟨p, _, rfl, t3.sh.sql h1, fun w hw => ?_⟩
          rw [cutV_eq, cutD_map]
          exact K.newL t3.sh (reps_ints _) hw
        | _ => cases hg
end

/-! built-in functions -/
def eBi (op : List D → Option D) (gs : En → Option (List D)) (e : En) : Option D := (gs e).bind op
def vBi (op : List D → Option D) (fs : En → Option (List D × En)) (e : En) : Option (D × En) := (fs e).bind fun p => (op p.1).bind fun d => some (d, p.2)
section
variable {X : Cx} {a : Expr} {as : List Expr} {gs : En → Option (List D)} {fs : En → Option (List D × En)} {op : List D → Option D} {x : Str} {p pos : Pos} {id T : String}
theorem semF_bi {R : RC} {r : List V → Hp → VK → Prop} (o : CaD R r op) (σ : L2.St) (H : Hp) (Q : VK) (w : semF R (eBi op gs) σ H Q) : tCB r (semBs R gs) σ H Q := by
  obtain ⟨S, e, F, B, d, A, hg, k⟩ := w
  unfold eBi at hg
  cases q : gs e with
  | none => rw [q] at hg; cases hg
  | some ds =>
    rw [q] at hg
    exact ⟨S, e, F, B, ds, A, q, fun vs S1 H1 Fb t1 r1 _ => o S1 H1 vs ds Fb d Q t1.sh r1 hg (PostF.at (S := S) (H := H) (fun v S' H' Fb t n r => k v S' H' Fb t n r) t1)⟩
theorem semV_bi {R : RC} {r : List V → Hp → VK → Prop} (o : CaD R r op) (σ : L2.St) (H : Hp) (Q : VK) (w : semV R (vBi op fs) σ H Q) : tCB r (semVs R fs) σ H Q := by
  obtain ⟨S, e, F, B, d, e', A, hg, k⟩ := w
  unfold vBi at hg
  cases q : fs e with
  | none => rw [q] at hg; cases hg
  | some p =>
    obtain ⟨ds, e1⟩ := p
    rw [q] at hg
    simp only [Option.bind_some] at hg
    cases q2 : op ds with
    | none => rw [q2] at hg; cases hg
    | some d' =>
      rw [q2] at hg; cases hg
      exact ⟨S, e, F, B, ds, _, A, q, fun vs S1 H1 Fv F1 t1 A1 r1 n1 m1 => o S1 H1 vs ds Fv d Q A1.sh r1 q2 fun z S3 H3 Fb t3 n3 r3 =>
        k z S3 H3 Fb F1 ((t1.less fun x hx => .inl (by rw [fadd_at]; omega)).trans (t3.beside F1)) (A1.step t3) r3 (A1.new t3 n3.nd) n3.mu⟩
theorem f_bi (hc : CaOk X (.builtin id) op) (hg : Gl X x) (hm : X.mg x = none) (hv : bootBuiltins x = some (.builtin id)) (ha : PAb X (a :: as) gs) (hn : x ≠ "__name__" := by decide) (hdb : (x == ("__debug__" : Str)) = false := by decide)
    (he : starEach (a :: as) X.env = (false, eval a X.env) :: starEach as X.env := by rfl) (hpl : (backTo pos (starEach as X.env)).any (·.1) = false := by rfl) : PEf X (.Call (.Name x p) (a :: as) [] pos) (eBi op gs) := by
  obtain ⟨r, h1, h2⟩ := hc
  exact pe_imp (pe_callB h1 hg hm hv ha hn hdb he hpl) (semF_bi h2)
theorem v_bi (hc : CaOk X (.builtin id) op) (hg : Gl X x) (hm : X.mg x = none) (hv : bootBuiltins x = some (.builtin id)) (ha : PAv X (a :: as) fs) (hn : x ≠ "__name__" := by decide) (hdb : (x == ("__debug__" : Str)) = false := by decide)
    (he : starEach (a :: as) X.env = (false, eval a X.env) :: starEach as X.env := by rfl) (hpl : (backTo pos (starEach as X.env)).any (·.1) = false := by rfl) : PEv X (.Call (.Name x p) (a :: as) [] pos) (vBi op fs) := by
  obtain ⟨r, h1, h2⟩ := hc
  exact pe_imp (pe_callB h1 hg hm hv ha hn hdb he hpl) (semV_bi h2)
theorem f_ty (hc : CaOk X (.type T) op) (hg : Gl X x) (hm : X.mg x = none) (hv : bootBuiltins x = some (.type T)) (ha : PAb X (a :: as) gs) (hn : x ≠ "__name__" := by decide) (hdb : (x == ("__debug__" : Str)) = false := by decide)
    (he : starEach (a :: as) X.env = (false, eval a X.env) :: starEach as X.env := by rfl) (hpl : (backTo pos (starEach as X.env)).any (·.1) = false := by rfl) : PEf X (.Call (.Name x p) (a :: as) [] pos) (eBi op gs) := by
  obtain ⟨r, h1, h2⟩ := hc
  exact pe_imp (pe_callTy h1 hg hm hv ha hn hdb he hpl) (semF_bi h2)
theorem v_ty (hc : CaOk X (.type T) op) (hg : Gl X x) (hm : X.mg x = none) (hv : bootBuiltins x = some (.type T)) (ha : PAv X (a :: as) fs) (hn : x ≠ "__name__" := by decide) (hdb : (x == ("__debug__" : Str)) = false := by decide)
    (he : starEach (a :: as) X.env = (false, eval a X.env) :: starEach as X.env := by rfl) (hpl : (backTo pos (starEach as X.env)).any (·.1) = false := by rfl) : PEv X (.Call (.Name x p) (a :: as) [] pos) (vBi op fs) := by
  obtain ⟨r, h1, h2⟩ := hc
  exact pe_imp (pe_callTy h1 hg hm hv ha hn hdb he hpl) (semV_bi h2)
theorem f_tyName {T : String} (hg : Gl X x) (hm : X.mg x = none) (hv : bootBuiltins x = some (.type T)) (hn : x ≠ "__name__" := by decide) (hd : (x == ("__debug__" : Str)) = false := by decide) : PEf X (.Name x pos) (eC (.ty T)) :=
  f_c (v := .ty T) (pe_bltn hg hm hv rfl hn hd) fun S H => by simp only [rep]; exact ⟨trivial, trivial⟩

def bLen : List D → Option D
  | [.tup l] => some (.int l.length)
  | [.lst _ l] => some (.int l.length)
  | [.dk _ ks _] => some (.int ks.length)
  | [.str s] => if s.length ≤ lim then some (.int s.length) else none
  | _ => none
theorem reps1 {R : RC} {S H : Hp} {d : D} {vs : List V} {F : Fp} (h : reps R S H [d] vs F) : ∃ v, vs = [v] ∧ rep R S H d v F := by
  simp only [reps] at h
  obtain ⟨v, vr, F1, F2, rfl, h1, ⟨rfl, rfl⟩, rfl⟩ := h
  exact ⟨v, rfl, by rw [fadd_f0]; exact h1⟩
theorem reps2 {R : RC} {S H : Hp} {d d' : D} {vs : List V} {F : Fp} (h : reps R S H [d, d'] vs F) : ∃ v v' F1 F2, vs = [v, v'] ∧ rep R S H d v F1 ∧ rep R S H d' v' F2 := by
  simp only [reps] at h
  obtain ⟨v, vr, F1, F2, rfl, h1, ⟨v', vr', F3, F4, rfl, h2, ⟨rfl, rfl⟩, rfl⟩, rfl⟩ := h
  exact ⟨v, v', F1, F3, rfl, h1, h2⟩
end
section
variable {X : Cx}
theorem call_lenDR : CallR X (.builtin "len") (fun xs H Q => ∃ (a : Addr) (kvs : List (Key × V)), xs = [V.ref a] ∧ Rd H a (.dK kvs) ∧ Q (.int kvs.length) H) := by
  intro pins s σ H xs us Q I r h
  obtain ⟨a, kvs, rfl, ha, q⟩ := h
  obtain ⟨u, rfl, ru⟩ := vals1 r
  cases ru
  exact d_len I ha fun t s' I' => ⟨.int kvs.length, H, I', ⟨t, rfl⟩, q⟩
theorem ca_len : CaOk X (.builtin "len") bLen := by
  refine ⟨_, (call_len_seq.or call_len_str).or call_lenDR, fun S H vs ds F d Q sh r hd k => ?_⟩
  unfold bLen at hd
  split at hd
  · cases hd
    obtain ⟨v, rfl, w⟩ := reps1 r
    simp only [rep] at w
    obtain ⟨p, xs, rfl, h1, h2⟩ := w
    exact .inl (.inl ⟨p, xs, rfl, .inr h1, by rw [reps_len h2]; exact k.scal sh (repI ..)⟩)
  · cases hd
    obtain ⟨v, rfl, w⟩ := reps1 r
    simp only [rep] at w
    obtain ⟨p, xs, F', rfl, h1, h2⟩ := w
    exact .inl (.inl ⟨p, xs, rfl, .inl (.inl (h1.rq sh).rd), by rw [reps_len h2]; exact k.scal sh (repI ..)⟩)
  · cases hd
    obtain ⟨v, rfl, w⟩ := reps1 r
    simp only [rep] at w
    obtain ⟨p, kvs, F', rfl, h1, h2, h3⟩ := w
    exact .inr ⟨p, kvs, rfl, (h1.rq sh).rd, by rw [show kvs.length = _ from (List.length_map (f := fun x : Key × V => x.1) (as := kvs)).symm, h2]; exact k.scal sh (repI ..)⟩
  · split at hd
    case isFalse => cases hd
    case isTrue hz =>
      cases hd
      obtain ⟨v, rfl, w⟩ := reps1 r
      simp only [rep] at w
      exact .inl (.inr ⟨_, by rw [w.1], Nat.le_trans hz (Nat.le_of_lt lim_lt), k.scal sh (repI ..)⟩)
  · cases hd
end
end Z

set_option Elab.async false
set_option linter.all false
set_option maxRecDepth 100000
set_option maxHeartbeats 1000000
/-! # Built-in functions on data -/
namespace Z
open PySem PySem.Spec PyProof.Rows L2

def intsOf : List D → Option (List Int)
  | [] => some []
  | .int i :: l => (intsOf l).bind fun ns => some (i :: ns)
  | _ => none
def blsOf : List D → Option (List Bool)
  | [] => some []
  | .bl i :: l => (blsOf l).bind fun ns => some (i :: ns)
  | _ => none
theorem intsOf_map : ∀ ns : List Int, intsOf (ns.map D.int) = some ns
  | [] => rfl
  | n :: ns => by rw [List.map_cons, intsOf, intsOf_map ns]; rfl
theorem blsOf_map : ∀ ns : List Bool, blsOf (ns.map D.bl) = some ns
  | [] => rfl
  | n :: ns => by rw [List.map_cons, blsOf, blsOf_map ns]; rfl
section
variable {R : RC} {S H : Hp}
theorem intsOf_rep : ∀ {l : List D} {ns : List Int} {vs : List V} {F : Fp}, intsOf l = some ns → reps R S H l vs F → vs = ns.map V.int
  | [], ns, vs, F, h, r => by cases h; simp only [reps] at r; exact r.1
  | d :: l, ns, vs, F, h, r => by
    cases d <;> try (simp only [intsOf] at h; cases h; done)
    rename_i i
    simp only [intsOf] at h
    cases q : intsOf l with
    | none => rw [q] at h; cases h
    | some ms =>
      rw [q] at h; cases h
      simp only [reps] at r
      obtain ⟨v, vr, F1, F2, rfl, h1, h2, _⟩ := r
      simp only [rep] at h1
      rw [h1.1, intsOf_rep q h2, List.map_cons]
theorem blsOf_rep : ∀ {l : List D} {ns : List Bool} {vs : List V} {F : Fp}, blsOf l = some ns → reps R S H l vs F → vs = ns.map V.bl
  | [], ns, vs, F, h, r => by cases h; simp only [reps] at r; exact r.1
  | d :: l, ns, vs, F, h, r => by
    cases d <;> try (simp only [blsOf] at h; cases h; done)
    rename_i i
    simp only [blsOf] at h
    cases q : blsOf l with
    | none => rw [q] at h; cases h
    | some ms =>
      rw [q] at h; cases h
      simp only [reps] at r
      obtain ⟨v, vr, F1, F2, rfl, h1, h2, _⟩ := r
      simp only [rep] at h1
      rw [h1.1, blsOf_rep q h2, List.map_cons]
/-- a list, what stands in it -/
theorem rep_lst {o : Bool} {l : List D} {v : V} {F : Fp} (sh : Ext S H) (h : rep R S H (.lst o l) v F) : ∃ a vs F', v = .ref a ∧ SqL R.K H a vs ∧ reps R S H l vs F' := by
  simp only [rep] at h
  obtain ⟨a, vs, F', e, h1, h2⟩ := h
  exact ⟨a, vs, F', e, .inl (h1.rq sh).rd, h2⟩
theorem rep_tup {l : List D} {v : V} {F : Fp} (h : rep R S H (.tup l) v F) : ∃ a vs, v = .ref a ∧ SqT R.K H a vs ∧ reps R S H l vs F := by
  simpa only [rep] using h
end

def bSum : List D → Option D
  | [.lst _ l] => (intsOf l).bind fun ns => some (.int ns.sum)
  | _ => none
def bAll : List D → Option D
  | [.lst _ l] => (blsOf l).bind fun ns => some (.bl (ns.all id))
  | _ => none
def bAny : List D → Option D
  | [.lst _ l] => (blsOf l).bind fun ns => some (.bl (ns.any id))
  | _ => none
def bMax : List D → Option D
  | [.lst _ l] => (intsOf l).bind fun ns => ns.max?.bind fun m => some (.int m)
  | [.int i, .int j] => some (.int (max i j))
  | _ => none
def bMin : List D → Option D
  | [.lst _ l] => (intsOf l).bind fun ns => ns.min?.bind fun m => some (.int m)
  | [.int i, .int j] => some (.int (min i j))
  | _ => none
def bAbs : List D → Option D
  | [.int i] => some (.int (if i < 0 then -i else i))
  | _ => none
def bInt : List D → Option D
  | [.int i] => some (.int i)
  | [.bl b] => some (.int (if b then 1 else 0))
  | _ => none
def bBool : List D → Option D
  | [.int i] => some (.bl (i != 0))
  | [.bl b] => some (.bl b)
  | _ => none
def bTup : List D → Option D
  | [.lst _ l] => if isFzs l = true then some (.tup l) else none
  | [.tup l] => if isFzs l = true then some (.tup l) else none
  | _ => none
/-- the keys of a dict as data -/
def kD : Key → D
  | .inl i => .int i
  | .inr s => .str s
def bList : List D → Option D
  | [.lst _ l] => if isFzs l = true then some (.lst true l) else none
  | [.tup l] => if isFzs l = true then some (.lst true l) else none
  | [.dk _ ks _] => some (.lst true (ks.map kD))
  | _ => none
section
variable {X : Cx}
theorem ca_one_bind {l : List D} {ns : List Int} {d : D} {f : List Int → Option D} (h : (intsOf l).bind f = some d) : ∃ ns, intsOf l = some ns ∧ f ns = some d := by
  cases q : intsOf l with
  | none => rw [q] at h; cases h
  | some ns => rw [q] at h; exact ⟨ns, rfl, h⟩
theorem ca_sum (hc : X.calm = true) : CaOk X (.builtin "sum") bSum := by
  refine ⟨_, cr_sum hc, fun S H vs ds F d Q sh r hd k => ?_⟩
  unfold bSum at hd
  split at hd
  · obtain ⟨v, rfl, w⟩ := reps1 r
    obtain ⟨a, xs, F', rfl, h1, h2⟩ := rep_lst sh w
    obtain ⟨ns, q, e⟩ := ca_one_bind (ns := []) hd
    cases e
    have e := intsOf_rep q h2
    subst e
    exact ⟨a, ns, rfl, h1, k.scal sh (repI ..)⟩
  · cases hd
theorem ca_all (hc : X.calm = true) : CaOk X (.builtin "all") bAll := by
  refine ⟨_, cr_all hc, fun S H vs ds F d Q sh r hd k => ?_⟩
  unfold bAll at hd
  split at hd
  · obtain ⟨v, rfl, w⟩ := reps1 r
    obtain ⟨a, xs, F', rfl, h1, h2⟩ := rep_lst sh w
    rename_i l
    cases q : blsOf l with
    | none => rw [q] at hd; cases hd
    | some ns =>
      rw [q] at hd; cases hd
      have e := blsOf_rep q h2
      subst e
      exact ⟨a, ns, rfl, h1, k.scal sh (repB ..)⟩
  · cases hd
theorem ca_any (hc : X.calm = true) : CaOk X (.builtin "any") bAny := by
  refine ⟨_, cr_any hc, fun S H vs ds F d Q sh r hd k => ?_⟩
  unfold bAny at hd
  split at hd
  · obtain ⟨v, rfl, w⟩ := reps1 r
    obtain ⟨a, xs, F', rfl, h1, h2⟩ := rep_lst sh w
    rename_i l
    cases q : blsOf l with
    | none => rw [q] at hd; cases hd
    | some ns =>
      rw [q] at hd; cases hd
      have e := blsOf_rep q h2
      subst e
      exact ⟨a, ns, rfl, h1, k.scal sh (repB ..)⟩
  · cases hd
theorem ca_max (hc : X.calm = true) : CaOk X (.builtin "max") bMax := by
  refine ⟨_, (cr_max hc).or (call_max2 hc), fun S H vs ds F d Q sh r hd k => ?_⟩
  unfold bMax at hd
  split at hd
  · obtain ⟨v, rfl, w⟩ := reps1 r
    obtain ⟨a, xs, F', rfl, h1, h2⟩ := rep_lst sh w
    obtain ⟨ns, q, e⟩ := ca_one_bind (ns := []) hd
    cases q2 : ns.max? with
    | none => rw [q2] at e; cases e
    | some m =>
      rw [q2] at e; cases e
      have e := intsOf_rep q h2
      subst e
      obtain ⟨m1, m2⟩ := List.max?_eq_some_iff.mp q2
      refine .inl ⟨a, ns, rfl, h1, List.length_pos_of_mem m1, fun m' hm hy => ?_⟩
      have : m' = m := Int.le_antisymm (m2 m' hm) (hy m m1)
      rw [this]
      exact k.scal sh (repI ..)
  · cases hd
    obtain ⟨v, v', F1, F2, rfl, w1, w2⟩ := reps2 r
    simp only [rep] at w1 w2
    rw [w1.1, w2.1]
    refine .inr ⟨_, _, rfl, ?_⟩
    rename_i i j
    have : (if j > i then j else i) = max i j := by split <;> omega
    rw [this]
    exact k.scal sh (repI ..)
  · cases hd
theorem ca_min (hc : X.calm = true) : CaOk X (.builtin "min") bMin := by
  refine ⟨_, (cr_min hc).or (call_min2 hc), fun S H vs ds F d Q sh r hd k => ?_⟩
  unfold bMin at hd
  split at hd
  · obtain ⟨v, rfl, w⟩ := reps1 r
    obtain ⟨a, xs, F', rfl, h1, h2⟩ := rep_lst sh w
    obtain ⟨ns, q, e⟩ := ca_one_bind (ns := []) hd
    cases q2 : ns.min? with
    | none => rw [q2] at e; cases e
    | some m =>
      rw [q2] at e; cases e
      have e := intsOf_rep q h2
      subst e
      obtain ⟨m1, m2⟩ := List.min?_eq_some_iff.mp q2
      refine .inl ⟨a, ns, rfl, h1, List.length_pos_of_mem m1, fun m' hm hy => ?_⟩
      have : m' = m := Int.le_antisymm (hy m m1) (m2 m' hm)
      rw [this]
      exact k.scal sh (repI ..)
  · cases hd
    obtain ⟨v, v', F1, F2, rfl, w1, w2⟩ := reps2 r
    simp only [rep] at w1 w2
    rw [w1.1, w2.1]
    refine .inr ⟨_, _, rfl, ?_⟩
    rename_i i j
    have : (if j < i then j else i) = min i j := by split <;> omega
    rw [this]
    exact k.scal sh (repI ..)
  · cases hd
theorem ca_abs : CaOk X (.builtin "abs") bAbs := by
  refine ⟨_, call_abs, fun S H vs ds F d Q sh r hd k => ?_⟩
  unfold bAbs at hd
  split at hd
  · cases hd
    obtain ⟨v, rfl, w⟩ := reps1 r
    simp only [rep] at w
    exact ⟨_, by rw [w.1], k.scal sh (repI ..)⟩
  · cases hd
theorem ca_int : CaOk X (.type "int") bInt := by
  refine ⟨_, call_int1, fun S H vs ds F d Q sh r hd k => ?_⟩
  unfold bInt at hd
  split at hd
  · cases hd
    obtain ⟨v, rfl, w⟩ := reps1 r
    simp only [rep] at w
    exact .inl ⟨_, by rw [w.1], k.scal sh (repI ..)⟩
  · cases hd
    obtain ⟨v, rfl, w⟩ := reps1 r
    simp only [rep] at w
    exact .inr ⟨_, by rw [w.1], k.scal sh (repI ..)⟩
  · cases hd
theorem ca_bool : CaOk X (.type "bool") bBool := by
  refine ⟨_, call_bool1, fun S H vs ds F d Q sh r hd k => ?_⟩
  unfold bBool at hd
  split at hd
  · cases hd
    obtain ⟨v, rfl, w⟩ := reps1 r
    simp only [rep] at w
    exact .inl ⟨_, by rw [w.1], k.scal sh (repB ..)⟩
  · cases hd
    obtain ⟨v, rfl, w⟩ := reps1 r
    simp only [rep] at w
    exact .inr ⟨_, by rw [w.1], k.scal sh (repB ..)⟩
  · cases hd
theorem ca_tup : CaOk X (.type "tuple") bTup := by
  refine ⟨_, call_tuple_of, fun S H vs ds F d Q sh r hd k => ?_⟩
  unfold bTup at hd
  split at hd
  · split at hd
    case isFalse => cases hd
    case isTrue hz =>
      cases hd
      obtain ⟨v, rfl, w⟩ := reps1 r
      obtain ⟨a, xs, F', rfl, h1, h2⟩ := rep_lst sh w
      exact ⟨a, xs, rfl, .inl ⟨h1, fun p hp => k.newT sh (reps_fzz h2 hz) hp⟩⟩
  · split at hd
    case isFalse => cases hd
    case isTrue hz =>
      cases hd
      obtain ⟨v, rfl, w⟩ := reps1 r
      obtain ⟨a, xs, rfl, h1, h2⟩ := rep_tup w
      refine ⟨a, xs, rfl, .inr ⟨h1, k.scal sh ?_⟩⟩
      simp only [rep]
      exact ⟨a, xs, rfl, h1, reps_fzz h2 hz⟩
  · cases hd
theorem reps_keys : ∀ ks : List Key, reps (Cx.R X) S H (ks.map kD) (ks.map kV) f0
  | [] => by simp only [List.map_nil, reps]; exact ⟨trivial, trivial⟩
  | k :: ks => by
    rw [List.map_cons, List.map_cons]
    simp only [reps]
    refine ⟨kV k, ks.map kV, f0, f0, rfl, ?_, reps_keys ks, (fadd_f0 f0).symm⟩
    cases k with
    | inl i => exact repI ..
    | inr s => exact repS ..
theorem ca_list (hc : X.calm = true) : CaOk X (.type "list") bList := by
  refine ⟨_, call_list_of.or (call_listD hc), fun S H vs ds F d Q sh r hd k => ?_⟩
  unfold bList at hd
  split at hd
  · split at hd
    case isFalse => cases hd
    case isTrue hz =>
      cases hd
      obtain ⟨v, rfl, w⟩ := reps1 r
      obtain ⟨a, xs, F', rfl, h1, h2⟩ := rep_lst sh w
      exact .inl ⟨a, xs, rfl, .inl h1, fun p hp => k.newL sh (reps_fzz h2 hz) hp⟩
  · split at hd
    case isFalse => cases hd
    case isTrue hz =>
      cases hd
      obtain ⟨v, rfl, w⟩ := reps1 r
      obtain ⟨a, xs, rfl, h1, h2⟩ := rep_tup w
      exact .inl ⟨a, xs, rfl, .inr h1, fun p hp => k.newL sh (reps_fzz h2 hz) hp⟩
  · cases hd
    obtain ⟨v, rfl, w⟩ := reps1 r
    simp only [rep] at w
    obtain ⟨a, kvs, F', rfl, h1, h2, h3⟩ := w
    refine .inr ⟨a, kvs, rfl, (h1.rq sh).rd, fun p hp => ?_⟩
    have e : (kvs.map fun kv => kV kv.1) = (kvs.map (·.1)).map kV := by rw [List.map_map]; rfl
    rw [e, h2]
    exact k.newL sh (reps_keys _) hp
  · cases hd
end

/-! isinstance(x, T) -/
def tyOf : D → Option String
  | .non => some "NoneType" | .bl _ => some "bool" | .int _ => some "int" | .str _ => some "str"
  | .tup _ => some "tuple" | .lst _ _ => some "list" | .dk _ _ _ => some "dict"
  | _ => none
def bIsi : List D → Option D
  | [d, .ty T] => (tyOf d).bind fun t => (kitB t T).bind fun b => some (.bl b)
  | _ => none
theorem sqt_ty {K : PySem.W.Frag} {H : Hp} {a : Addr} {vs : List V} (h : SqT K H a vs) : TyX K H (.ref a) (.type "tuple") := by
  rcases h with (h | ⟨o, h⟩) | ⟨o, its, n, h, hc, _⟩
  · exact .base (.tup h)
  · exact .fTuple h
  · exact .kTuple h hc
theorem rep_ty {R : RC} {S H : Hp} {d : D} {v : V} {F : Fp} {t : String} (sh : Ext S H) (h : rep R S H d v F) (ht : tyOf d = some t) : TyX R.K H v (.type t) := by
  cases d <;> simp only [tyOf] at ht <;> cases ht <;> simp only [rep] at h
  case non => rw [h.1]; exact .base .non
  case bl => rw [h.1]; exact .base (.bl _)
  case int => rw [h.1]; exact .base (.int _)
  case str => rw [h.1]; exact .base (.str _)
  case tup => obtain ⟨a, vs, rfl, h1, _⟩ := h; exact sqt_ty h1
  case lst =>
    obtain ⟨a, vs, F', rfl, h1, _⟩ := h
    exact .base (.lst (h1.rq sh))
  case dk =>
    obtain ⟨a, vs, F', rfl, h1, _⟩ := h
    rcases (h1.rq sh).rd with z | ⟨o, z⟩
    · exact .base (.dK z)
    · exact .fDict z
section
variable {X : Cx}
theorem ca_isi : CaOk X (.builtin "isinstance") bIsi := by
  refine ⟨_, call_isi, fun S H vs ds F d Q sh r hd k => ?_⟩
  unfold bIsi at hd
  split at hd
  · obtain ⟨v, v', F1, F2, rfl, w1, w2⟩ := reps2 r
    rename_i d0 T
    cases q : tyOf d0 with
    | none => rw [q] at hd; cases hd
    | some t =>
      rw [q] at hd
      simp only [Option.bind_some] at hd
      cases q2 : kitB t T with
      | none => rw [q2] at hd; cases hd
      | some b =>
        rw [q2] at hd; cases hd
        simp only [rep] at w2
        rw [w2.1]
        exact ⟨v, .ty T, .type t, .type T, b, rfl, .ty T, rep_ty sh w1 q, kit_ty q2, k.scal sh (repB ..)⟩
  · cases hd
end
end Z

set_option Elab.async false
set_option linter.all false
set_option maxRecDepth 100000
set_option maxHeartbeats 1000000
/-! # sorted, repr, in on data; a text of data -/
namespace Z
open PySem PySem.Spec PyProof.Rows L2

/-! sorted(xs), xs a list of alike data -/
def tupOne : PyData → Bool
  | .tuple (_ :: _) => true
  | _ => false
def notTup : PyData → Bool
  | .none => false
  | .tuple _ => false
  | _ => true
def srtOk (l : List D) : Bool := isFzs l && okPys l && (l.all fun a => l.all fun b => PySem.W.alike (dPy a) (dPy b)) && ((l.all fun a => tupOne (dPy a)) || l.all fun a => notTup (dPy a)) && l.all fun a => decide ((dPy a).depth ≤ 30)
def dLeq : D → D → Bool := PySem.W.dataLe false dPy
/-- ints in order -/
def intLe : Int → Int → Bool := fun i j => decide (i ≤ j)
def keyInts : List Key → Option (List Int)
  | [] => some []
  | .inl i :: l => (keyInts l).bind fun ns => some (i :: ns)
  | _ => none
def bSorted : List D → Option D
  | [.lst _ l] => if (decide (l.length ≤ lim) && srtOk l) = true then some (.lst true (l.mergeSort dLeq)) else none
  | [.dk _ ks _] => (keyInts ks).bind fun ns => if ns.length < 64 then some (.lst true ((ns.mergeSort intLe).map .int)) else none
  | _ => none
theorem keyInts_eq : ∀ {ks : List Key} {ns : List Int}, keyInts ks = some ns → ks = ns.map Sum.inl
  | [], ns, h => by cases h; rfl
  | .inr _ :: _, _, h => by cases h
  | .inl i :: l, ns, h => by
    unfold keyInts at h
    cases q : keyInts l with
    | none => rw [q] at h; cases h
    | some ms => rw [q] at h; cases h; rw [keyInts_eq q, List.map_cons]
open PySem.W in
def rSortZ (K : PySem.W.Frag) : List V → Hp → VK → Prop := fun vs H Q => ∃ (a : Addr) (xs : List V) (l : List D) (P : V → D → Prop), vs = [V.ref a] ∧ SqL K H a xs ∧ EachIs P xs l ∧ EachIs (fun v d => Dp K H v (dPy d)) xs l ∧
  AllAlike (l.map dPy) ∧ PySem.W.Sortable (l.map dPy) ∧ l.length ≤ sizeLine ∧ (∀ b ∈ l, (dPy b).depth ≤ 30) ∧ ∀ out p, out.length = l.length → EachIs P out (l.mergeSort dLeq) → H p = none → Q (.ref p) (upd H p (.lst out))
section
variable {X : Cx}
open PySem.W in
theorem each_vals {P : V → D → Prop} : ∀ {xs : List V} {us : List Value} {l : List D}, EachIs P xs l → Vals xs us → EachIs (fun u d => ∃ x, RelV x u ∧ P x d) us l
  | _, _, _, .nil, .nil => .nil
  | _, _, _, .cons h t, .cons r rs => .cons ⟨_, r, h⟩ (each_vals t rs)
open PySem.W in
theorem vals_each {P : V → D → Prop} : ∀ {us : List Value} {l : List D}, EachIs (fun u d => ∃ x, RelV x u ∧ P x d) us l → ∃ xs, Vals xs us ∧ EachIs P xs l
  | _, _, .nil => ⟨[], .nil, .nil⟩
  | _, _, .cons ⟨x, r, h⟩ t => by
    obtain ⟨xs, r', t'⟩ := vals_each t
    exact ⟨x :: xs, .cons r r', .cons h t'⟩
open PySem.W in
theorem cr_sortZ (hu : X.A.units + 64 < cLine) : CallR X (.builtin "sorted") (rSortZ X.K) := by
  intro pins s σ H vs us Q I r h
  obtain ⟨a, xs, l, P, rfl, hs, hp, hd, hal, hk, hL, hdp, q⟩ := h
  obtain ⟨its, rv, hl, hz⟩ := I.list hs
  rw [Vals.ref1 r]
  have er : EachIs (fun v b => ∃ as, Reads s.heap v (dPy b) as) its l := (each_vals hd rv).mono fun v b ⟨x, rx, hx⟩ => Dp.reads I (dPy b) x v hx rx
  refine sorted_data hl.isList (each_vals hp rv) er hal hk hL (fun b hb => by have := hdp b hb; omega) fun out ho eo => ?_
  obtain ⟨ys, ry, ey⟩ := vals_each eo
  obtain ⟨ep, he'⟩ := PyProof.Rows.sortedAll_at s.heap its out.toArray
  have hlen : ys.length = l.length := ry.length.trans ho
  exact ⟨.ref _, upd H (s.heap.objs.size + 1) (.lst ys), I.laid (t' := s.toks) (fun _ _ => PyProof.Rows.sortedAll_old) (Nat.le_succ _) ⟨by rw [hlen]; exact hL, out, ep, ry, he'⟩, rfl, q ys _ hlen ey (I.hok.fresh (Nat.le_succ _))⟩
open PySem.W in
theorem reps_each {R : RC} {S H : Hp} : ∀ {l : List D} {vs : List V}, reps R S H l vs f0 → EachIs (fun v d => rep R S H d v f0) vs l
  | [], vs, h => by simp only [reps] at h; rw [h.1]; exact .nil
  | d :: l, vs, h => by
    simp only [reps] at h
    obtain ⟨v, vr, F1, F2, rfl, h1, h2, z⟩ := h
    obtain ⟨rfl, rfl⟩ := fadd_zero z.symm
    exact .cons h1 (reps_each h2)
open PySem.W in
theorem each_reps {R : RC} {S H : Hp} : ∀ {l : List D} {vs : List V}, EachIs (fun v d => rep R S H d v f0) vs l → reps R S H l vs f0
  | [], _, .nil => by simp only [reps]; exact ⟨trivial, trivial⟩
  | d :: l, _, .cons h t => by
    simp only [reps]
    exact ⟨_, _, f0, f0, rfl, h, each_reps t, (fadd_f0 f0).symm⟩
theorem okPys_mem : ∀ {l : List D}, okPys l = true → ∀ d ∈ l, okPy d = true
  | d :: l, h, e, hm => by
    simp only [okPys, Bool.and_eq_true] at h
    rcases List.mem_cons.mp hm with rfl | hm
    · exact h.1
    · exact okPys_mem h.2 e hm
open PySem.W in
theorem each_in {P P' : V → D → Prop} : ∀ {xs : List V} {l : List D}, EachIs P xs l → (∀ v d, d ∈ l → P v d → P' v d) → EachIs P' xs l
  | _, _, .nil, _ => .nil
  | _, _, .cons h t, k => .cons (k _ _ List.mem_cons_self h) (each_in t fun v d m => k v d (List.mem_cons_of_mem _ m))
theorem tupOne_ok {d : PyData} (h : tupOne d = true) : ∃ x r, d = .tuple (x :: r) := by
  unfold tupOne at h
  split at h
  · exact ⟨_, _, rfl⟩
  · cases h
theorem notTup_ok {d : PyData} (h : notTup d = true) : d ≠ .none ∧ ∀ xs, d ≠ .tuple xs := by
  constructor
  · rintro rfl; cases h
  · rintro xs rfl; cases h
theorem ca_sorted (hc : X.calm = true) (hu : X.A.units + 64 < cLine) : CaOk X (.builtin "sorted") bSorted := by
  refine ⟨_, (cr_sortZ hu).or (call_sortedDI hc), fun S H vs ds F d Q sh r hd k => ?_⟩
  unfold bSorted at hd
  split at hd
  · obtain ⟨v, rfl, w⟩ := reps1 r
    obtain ⟨a, xs, F', rfl, h1, h2⟩ := rep_lst sh w
    rename_i l
    split at hd
    case isFalse => cases hd
    case isTrue hz =>
      cases hd
      simp only [Bool.and_eq_true, srtOk] at hz
      obtain ⟨z0, ⟨⟨⟨z1, z2⟩, z3⟩, z4⟩, z5⟩ := hz
      have h3 := reps_fzz h2 z1
      have e := reps_each h3
      refine .inl ⟨a, xs, l, fun v d => rep (Cx.R X) S H d v f0, rfl, h1, e, each_in e fun v d hm hr => rep_dp sh d v f0 hr (okPys_mem z2 d hm), ?_, ?_, ?_, fun b hb => of_decide_eq_true (List.all_eq_true.mp z5 b hb), fun out p _ eo hp => k.newL sh (each_reps eo) hp⟩
      · intro x hx y hy
        obtain ⟨x', m1, rfl⟩ := List.mem_map.mp hx
        obtain ⟨y', m2, rfl⟩ := List.mem_map.mp hy
        exact List.all_eq_true.mp (List.all_eq_true.mp z3 x' m1) y' m2
      · rcases (Bool.or_eq_true _ _).mp z4 with z | z
        · left
          intro x hx
          obtain ⟨x', m1, rfl⟩ := List.mem_map.mp hx
          exact tupOne_ok (List.all_eq_true.mp z x' m1)
        · right
          intro x hx
          obtain ⟨x', m1, rfl⟩ := List.mem_map.mp hx
          exact notTup_ok (List.all_eq_true.mp z x' m1)
      · exact Nat.le_trans (of_decide_eq_true z0) (Nat.le_of_lt lim_lt)
  · obtain ⟨v, rfl, w⟩ := reps1 r
    rename_i o ks es
    cases q : keyInts ks with
    | none => rw [q] at hd; cases hd
    | some ns =>
      rw [q] at hd
      simp only [Option.bind_some] at hd
      split at hd
      case isFalse => cases hd
      case isTrue hz =>
        cases hd
        simp only [rep] at w
        obtain ⟨a, kvs, F', rfl, h1, h2, h3⟩ := w
        refine .inr ⟨a, kvs, ns, rfl, (h1.rq sh).rd, by rw [h2, keyInts_eq q], hz, fun ys p hp hs hn => ?_⟩
        have e : ys = ns.mergeSort intLe := by
          refine List.Perm.eq_of_pairwise (le := fun a b => a ≤ b) (fun a b _ _ h1 h2 => Int.le_antisymm h1 h2) hs ?_ (hp.trans (List.mergeSort_perm ns intLe).symm)
          have := List.pairwise_mergeSort (le := intLe) (fun a b c h1 h2 => by simp only [intLe, decide_eq_true_eq] at *; omega) (fun a b => by simp only [intLe, Bool.or_eq_true, decide_eq_true_eq]; omega) ns
          exact this.imp fun h => by simpa [intLe] using h
        rw [e]
        have rr : reps (Cx.R X) S H ((ns.mergeSort intLe).map D.int) ((ns.mergeSort intLe).map V.int) f0 := reps_ints _
        exact k.newL sh rr hn
  · cases hd
end

/-! repr(x), str(x) -/
def isEmp : D → Bool
  | .dk _ [] [] => true
  | _ => false
def shOk (d : D) : Bool := (isEmp d || (okPy d && !(dPy d).hasDict)) && (dPy d).showable && decide ((dPy d).shown.length ≤ lim) && decide ((dPy d).depth ≤ 30)
def bRepr : List D → Option D
  | [d] => if shOk d = true then some (.str (dPy d).shown) else none
  | _ => none
def rReprZ (K : PySem.W.Frag) : List V → Hp → VK → Prop := fun vs H Q => ∃ (v : V) (d : PyData), vs = [v] ∧ ((Dp K H v d ∧ d.hasDict = false) ∨ ∃ a, v = .ref a ∧ Rd H a (.dK []) ∧ d = .dict []) ∧ d.showable = true ∧ d.shown.length ≤ sizeLine ∧ d.depth ≤ 30 ∧ Q (.str d.shown) H
section
variable {X : Cx}
theorem cr_reprZ (hg : X.A.guards = some []) (hu : X.A.units + 64 < cLine) : CallR X (.builtin "repr") (rReprZ X.K) := by
  intro pins s σ H vs us Q I r h
  obtain ⟨v, d, rfl, hd, hs, hz, hdp, q⟩ := h
  obtain ⟨u, rfl, rx⟩ := vals1 r
  have far : ∀ {a : Addr} {as : List Addr}, u = .ref a → Reads s.heap (.ref a) d as → (d.hasDict = true → sysModules ∉ as) → wpAny (model X.prog X.w) X.A (call (.builtin "repr") [u]) (EP X pins σ Q) X.xe s := fun {a as} e hr hsm => by
    rw [e]
    exact repr_of_reads' hr hs hsm hg (by omega) (fun _ _ h => h) (fun h' t tk hk => ⟨.str d.shown, H, I.kept hk, ⟨_, rfl⟩, q⟩) hz
  rcases hd with ⟨hd, hn⟩ | ⟨a, rfl, ha, rfl⟩
  · have no : ∀ {as : List Addr}, d.hasDict = true → sysModules ∉ as := fun {as} h => by rw [hn] at h; cases h
    cases hd with
    | non => cases rx; exact PySem.P.repr_of_none ⟨.str _, H, I.tok _, ⟨_, rfl⟩, q⟩
    | bl b => cases rx; exact PySem.P.repr_of_bool ⟨.str _, H, I.tok _, ⟨_, rfl⟩, q⟩
    | int i =>
      obtain ⟨t, rfl⟩ := rx
      exact PySem.P.repr_of_int (by simpa [PyData.showable] using hs) ⟨.str _, H, I.tok _, ⟨_, rfl⟩, q⟩
    | str z =>
      obtain ⟨t, rfl⟩ := rx
      exact PySem.P.repr_of_str ⟨.str _, H, I.tok _, ⟨_, rfl⟩, q⟩ (by simpa [PyData.shown] using hz)
    | lst h1 h2 =>
      obtain ⟨as, hr⟩ := Dp.reads I _ _ _ (.lst h1 h2) rx
      cases rx
      exact far rfl hr no
    | tup h1 h2 =>
      obtain ⟨as, hr⟩ := Dp.reads I _ _ _ (.tup h1 h2) rx
      cases rx
      exact far rfl hr no
  · cases rx
    obtain ⟨_, hns, vs, rel, o, es, ep, h1, h2, h3, _, h4, _⟩ := dk_rd I.hok ha
    have hv : vs = [] := by cases rel; rfl
    subst hv
    have he : es.toList = [] := by
      cases q : es.toList with
      | nil => rfl
      | cons e r => rw [q] at h4; cases h4
    refine far rfl (.dict h1 h2.1 h3 (by rw [he]; exact .nil) (by rw [he]; exact .nil)) fun _ hm => ?_
    simp at hm
    rw [← hm] at hns
    simp at hns
end
end Z

set_option Elab.async false
set_option linter.all false
set_option maxRecDepth 100000
set_option maxHeartbeats 1000000
/-! # Items, keys, fields, texts -/
namespace Z
open PySem PySem.Spec PyProof.Rows L2

section
variable {X : Cx}
theorem ca_repr (hg : X.A.guards = some []) (hu : X.A.units + 64 < cLine) : CaOk X (.builtin "repr") bRepr := by
  refine ⟨_, cr_reprZ hg hu, fun S H vs ds F d Q sh r hd k => ?_⟩
  unfold bRepr at hd
  split at hd
  · obtain ⟨v, rfl, w⟩ := reps1 r
    rename_i d0
    split at hd
    case isFalse => cases hd
    case isTrue hz =>
      cases hd
      simp only [shOk, Bool.and_eq_true, Bool.or_eq_true, decide_eq_true_eq, Bool.not_eq_true'] at hz
      obtain ⟨⟨⟨z1, z2⟩, z3⟩, z4⟩ := hz
      refine ⟨v, dPy d0, rfl, ?_, z2, Nat.le_trans z3 (Nat.le_of_lt lim_lt), z4, k.scal sh (repS ..)⟩
      rcases z1 with z1 | ⟨z1, z5⟩
      · unfold isEmp at z1
        split at z1
        · simp only [rep] at w
          obtain ⟨a, kvs, F', rfl, h1, h2, h3⟩ := w
          refine .inr ⟨a, rfl, ?_, by simp only [dPy]⟩
          have : kvs = [] := List.map_eq_nil_iff.mp h2
          subst this
          exact (h1.rq sh).rd
        · cases z1
      · exact .inl ⟨rep_dp sh d0 v F w z1, z5⟩
  · cases hd
def bStr : List D → Option D
  | [.int i] => if i.natAbs.log2 < 1920 then some (.str (toString i)) else none
  | [.str s] => some (.str s)
  | _ => none
theorem ca_str : CaOk X (.type "str") bStr := by
  refine ⟨_, call_str_int.or SkE.call_str_str, fun S H vs ds F d Q sh r hd k => ?_⟩
  unfold bStr at hd
  split at hd
  · split at hd
    case isFalse => cases hd
    case isTrue hz =>
      cases hd
      obtain ⟨v, rfl, w⟩ := reps1 r
      simp only [rep] at w
      exact .inl ⟨_, by rw [w.1], hz, k.scal sh (repS ..)⟩
  · cases hd
    obtain ⟨v, rfl, w⟩ := reps1 r
    simp only [rep] at w
    exact .inr ⟨_, by rw [w.1], k.scal sh (repS ..)⟩
  · cases hd
end

/-! ### keys -/
def keyD : D → Option Key
  | .int i => some (.inl i)
  | .str s => some (.inr s)
  | _ => none
def keysD : List D → Option (List Key)
  | [] => some []
  | d :: l => (keyD d).bind fun k => (keysD l).bind fun ks => some (k :: ks)
def getK {κ : Type} [DecidableEq κ] : List κ → List D → κ → Option D
  | k :: ks, d :: ds, x => if k = x then some d else getK ks ds x
  | _, _, _ => none
section
variable {R : RC} {S H : Hp}
theorem keyD_rep {d : D} {v : V} {F : Fp} {k : Key} (h : rep R S H d v F) (e : keyD d = some k) : v = kV k ∧ F = f0 := by
  cases d <;> simp only [keyD] at e <;> cases e <;> simp only [rep] at h <;> exact h
theorem keysD_rep : ∀ {l : List D} {vs : List V} {F : Fp} {ks : List Key}, reps R S H l vs F → keysD l = some ks → vs = ks.map kV ∧ F = f0
  | [], vs, F, ks, h, e => by cases e; simp only [reps] at h; exact h
  | d :: l, vs, F, ks, h, e => by
    simp only [reps] at h
    obtain ⟨v, vr, F1, F2, rfl, h1, h2, rfl⟩ := h
    unfold keysD at e
    cases q : keyD d with
    | none => rw [q] at e; cases e
    | some k =>
      rw [q] at e
      cases q2 : keysD l with
      | none => rw [q2] at e; cases e
      | some ks' =>
        rw [q2] at e; cases e
        obtain ⟨rfl, rfl⟩ := keyD_rep h1 q
        obtain ⟨rfl, rfl⟩ := keysD_rep h2 q2
        exact ⟨rfl, fadd_f0 f0⟩
theorem getK_some {κ : Type} [DecidableEq κ] : ∀ {kvs : List (κ × V)} {ds : List D} {F : Fp} {x : κ} {d : D}, reps R S H ds (kvs.map (·.2)) F → getK (kvs.map (·.1)) ds x = some d →
    ∃ v Fi, valV kvs x = some v ∧ rep R S H d v Fi ∧ ∀ a, Fi a ≤ F a
  | [], _, _, _, _, _, e => by cases e
  | p :: kvs, [], _, _, _, _, e => by cases e
  | (k, v) :: kvs, d0 :: ds, F, x, d, h, e => by
    simp only [List.map_cons, reps] at h
    obtain ⟨v', vr, F1, F2, e1, h1, h2, rfl⟩ := h
    cases e1
    simp only [List.map_cons, getK] at e
    by_cases z : k = x
    · rw [if_pos z] at e; cases e
      exact ⟨v, F1, valV_pos z, h1, fun a => by rw [fadd_at]; omega⟩
    · rw [if_neg z] at e
      obtain ⟨w, Fi, g1, g2, g3⟩ := getK_some h2 e
      exact ⟨w, Fi, (valV_neg z).trans g1, g2, fun a => by have := g3 a; rw [fadd_at]; omega⟩
theorem valV_in {κ : Type} [DecidableEq κ] : ∀ (kvs : List (κ × V)) (x : κ), (valV kvs x).isSome = decide (x ∈ kvs.map (·.1))
  | [], x => by simp [valV_nil]
  | (k, v) :: kvs, x => by
    by_cases z : k = x
    · rw [valV_pos z]; simp [z]
    · rw [valV_neg z, valV_in kvs x]
      have : ¬ x = k := fun e => z e.symm
      simp [this]
end

/-! ### items: of sequences, dicts, texts -/
/-- the item itself, whatever it holds -/
def dItem : D → D → Option D
  | .tup l, .int i => atI l i
  | .lst _ l, .int i => atI l i
  | .dk _ ks ds, d => (keyD d).bind fun k => getK ks ds k
  | .str z, .int i => if z.length ≤ lim then (atI z.cps.toList i).bind fun c => some (.str ⟨#[c]⟩) else none
  | _, _ => none
def rDix : R2 := fun x y H Q => ∃ a v, x = .ref a ∧ DGet H a y (some v) ∧ Q v H
section
variable {X : Cx}
theorem ix_dictZ (hu : X.A.units + 64 < cLine) : IxR X rDix := by
  intro value slice pins s σ H x y v u Q I rx ry h hs
  obtain ⟨a, z, rfl, g, q⟩ := h
  obtain rfl : v = Value.ref a := rx
  exact tail_any (dict_typeIs I g) slot_dict_getitem.lookup (d_getItem (by omega) I g ry fun w' s' I' r' => ⟨z, H, I', r', q⟩) hs
def rItem (X : Cx) : R2 := fun x y H Q => rIx X.K x y H Q ∨ rDix x y H Q
theorem ix_item (hu : X.A.units + 64 < cLine) : IxR X (rItem X) := ix_seq.or (ix_dictZ hu)
theorem atI_reps' {R : RC} {S H : Hp} {l : List D} {vs : List V} {F : Fp} {i : Int} {d : D} (h : reps R S H l vs F) (e : atI l i = some d) : ∃ v Fi, atI vs i = some v ∧ rep R S H d v Fi ∧ ∀ a, Fi a ≤ F a := by
  unfold atI at e ⊢
  rw [reps_len h]
  cases q : ixN l.length i with
  | none => rw [q] at e; cases e
  | some j =>
    rw [q] at e
    obtain ⟨v, Fi, g1, g2, g3⟩ := reps_get h e
    exact ⟨v, Fi, g1, g2, g3⟩
/-- what an item is -/
theorem item_ok {S H : Hp} {x y : V} {dx dy d : D} {Fx Fy : Fp} {Q : VK} (sh : Ext S H) (rx : rep (Cx.R X) S H dx x Fx) (ry : rep (Cx.R X) S H dy y Fy) (e : dItem dx dy = some d)
    (k : ∀ v Fi, rep (Cx.R X) S H d v Fi → (∀ a, Fi a ≤ Fx a) → Q v H) : rItem X x y H Q := by
  unfold dItem at e
  split at e
  · simp only [rep] at rx ry
    obtain ⟨p, xs, rfl, h1, h2⟩ := rx
    obtain ⟨v, Fi, g1, g2, g3⟩ := atI_reps' h2 e
    exact .inl (.inr (.inl ⟨p, xs, _, v, rfl, ry.1, h1, g1, k v Fi g2 g3⟩))
  · simp only [rep] at ry
    simp only [rep] at rx
    obtain ⟨p, xs, F', rfl, h1, h2⟩ := rx
    obtain ⟨v, Fi, g1, g2, g3⟩ := atI_reps' h2 e
    rename_i o l i
    refine .inl (.inl ⟨p, xs, _, v, rfl, ry.1, .inl (h1.rq sh).rd, g1, k v Fi g2 fun a => ?_⟩)
    rcases Nat.eq_zero_or_pos (Fi a) with z | z
    · omega
    · have := g3 a
      cases o with
      | true => rw [h1.2.2, fadd_at]; omega
      | false => rw [h1.2.1, f0_at] at this; omega
  · rename_i o ks ds
    cases q : keyD dy with
    | none => rw [q] at e; cases e
    | some kk =>
      rw [q] at e
      simp only [Option.bind_some] at e
      simp only [rep] at rx
      obtain ⟨p, kvs, F', rfl, h1, h2, h3⟩ := rx
      subst h2
      obtain ⟨rfl, _⟩ := keyD_rep ry q
      obtain ⟨v, Fi, g1, g2, g3⟩ := getK_some h3 e
      refine .inr ⟨p, v, rfl, .inl ⟨kvs, kk, (h1.rq sh).rd, rfl, g1.symm⟩, k v Fi g2 fun a => ?_⟩
      have := g3 a
      cases o with
      | true => rw [h1.2.2, fadd_at]; omega
      | false => rw [h1.2.1, f0_at] at this; omega
  · simp only [rep] at rx ry
    split at e
    case isFalse => cases e
    case isTrue hz =>
      rename_i z i
      cases q : atI z.cps.toList i with
      | none => rw [q] at e; cases e
      | some c =>
        rw [q] at e; cases e
        exact .inl (.inr (.inr ⟨z, i, c, rx.1, ry.1, Nat.le_trans hz (Nat.le_of_lt lim_lt), q, k _ f0 (repS ..) fun a => Nat.zero_le _⟩))
  · cases e
end
/-- an item that is frozen -/
def dIxF (a b : D) : Option D := (dItem a b).bind fun d => if isFz d = true then some d else none
section
variable {X : Cx}
theorem ok_ixF (hu : X.A.units + 64 < cLine) : IxOk X dIxF := by
  refine ⟨rItem X, ix_item hu, fun S H x y dx dy Fx Fy d Q sh rx ry hd k => ?_⟩
  unfold dIxF at hd
  cases q : dItem dx dy with
  | none => rw [q] at hd; cases hd
  | some d0 =>
    rw [q] at hd
    simp only [Option.bind_some] at hd
    split at hd
    case isFalse => cases hd
    case isTrue hz =>
      cases hd
      refine item_ok sh rx ry q fun v Fi r _ => k.scal sh ?_
      have := isFz_f0 d v Fi r hz
      rw [this] at r; exact r
variable {a b : Expr} {g h : En → Option D} {pos : Pos}
/-- an item that is looked at -/
theorem b_ix (hu : X.A.units + 64 < cLine) (ha : PEb X a g) (hb : PEb X b h) (hs : PlainIx b := by intro _ _; rfl) : PEb X (.Subscript a b pos) (eOp dItem g h) := pe_imp (pe_ix (ix_item hu) ha hb hs) fun σ H Q ⟨S, e, F, B, d, A, hg, k⟩ => by
  unfold eOp at hg
  cases q : g e with
  | none => rw [q] at hg; cases hg
  | some da =>
    rw [q] at hg
    cases q2 : h e with
    | none => rw [q2] at hg; cases hg
    | some db =>
      rw [q2] at hg
      simp only [Option.bind_some] at hg
      refine ⟨S, e, F, B, da, A, q, fun v S1 H1 F1 t1 r1 o1 => ⟨S1, e, F, B, db, A.step t1, q2, fun u S2 H2 F2 t2 r2 o2 => ?_⟩⟩
      refine item_ok t2.sh (rep_step t2 da v F1 r1 fun _ _ => rfl) r2 hg fun w Fi r3 hF => k w S2 H2 Fi (t1.trans t2) r3 fun x hx => o1 x (by have := hF x; omega)
/-- an item of what was just made -/
theorem f_ixN (hu : X.A.units + 64 < cLine) (ha : PEf X a g) (hb : PEb X b h) (hs : PlainIx b := by intro _ _; rfl) : PEf X (.Subscript a b pos) (eOp dItem g h) := pe_imp (pe_ix (ix_item hu) ha hb hs) fun σ H Q ⟨S, e, F, B, d, A, hg, k⟩ => by
  unfold eOp at hg
  cases q : g e with
  | none => rw [q] at hg; cases hg
  | some da =>
    rw [q] at hg
    cases q2 : h e with
    | none => rw [q2] at hg; cases hg
    | some db =>
      rw [q2] at hg
      simp only [Option.bind_some] at hg
      refine ⟨S, e, F, B, da, A, q, fun v S1 H1 F1 t1 n1 r1 => ⟨S1, e, F, B, db, A.step t1, q2, fun u S2 H2 F2 t2 r2 o2 => ?_⟩⟩
      refine item_ok t2.sh (rep_step t2 da v F1 r1 fun _ _ => rfl) r2 hg fun w Fi r3 hF => k w S2 H2 Fi ?_ (fun x => ?_) r3
      · have T : Stp S1 H1 F1 S2 H2 F1 := by have := t2.beside F1; rw [f0_fadd] at this; exact this
        exact (t1.trans T).less fun x hx => .inl (by have := hF x; omega)
      · have := hF x
        exact ⟨by have := (n1 x).1; omega, fun hx => (Muf.step n1.mu t2 fun _ _ => rfl) x (by omega)⟩
end

/-! ### fields -/
def getF : List Str → List D → Str → Option D
  | f :: fs, d :: ds, x => if f = x then some d else getF fs ds x
  | _, _, _ => none
def dFld (c f : Str) : D → Option D
  | .ob _ c' fs ds => if c' = c then getF fs ds f else none
  | _ => none
theorem getF_some {R : RC} {S H : Hp} : ∀ {kvs : List (Str × V)} {ds : List D} {F : Fp} {x : Str} {d : D}, reps R S H ds (kvs.map (·.2)) F → getF (kvs.map (·.1)) ds x = some d →
    ∃ v Fi, kvs.lookup x = some v ∧ rep R S H d v Fi ∧ ∀ a, Fi a ≤ F a
  | [], _, _, _, _, _, e => by cases e
  | p :: kvs, [], _, _, _, _, e => by cases e
  | (k, v) :: kvs, d0 :: ds, F, x, d, h, e => by
    simp only [List.map_cons, reps] at h
    obtain ⟨v', vr, F1, F2, e1, h1, h2, rfl⟩ := h
    cases e1
    simp only [List.map_cons, getF] at e
    by_cases z : k = x
    · rw [if_pos z] at e; cases e
      exact ⟨v, F1, by rw [z]; exact List.lookup_cons_self, h1, fun a => by rw [fadd_at]; omega⟩
    · rw [if_neg z] at e
      obtain ⟨w, Fi, g1, g2, g3⟩ := getF_some h2 e
      refine ⟨w, Fi, ?_, g2, fun a => by have := g3 a; rw [fadd_at]; omega⟩
      have hb : (x == k) = false := beq_eq_false_iff_ne.mpr fun e => z e.symm
      rw [List.lookup_cons, hb]; exact g1
/-- an object's parts -/
theorem rep_ob {R : RC} {S H : Hp} {o : Bool} {c : Str} {fs : List Str} {ds : List D} {v : V} {F : Fp} {C : Addr} (sh : Ext S H) (hC : R.mg c = some (.ref C)) (h : rep R S H (.ob o c fs ds) v F) :
    ∃ a dx kvs F', v = .ref a ∧ Hold S H o a (.ins C dx kvs) F F' ∧ H a = some (.ins C dx kvs) ∧ kvs.map (·.1) = fs ∧ reps R S H ds (kvs.map (·.2)) F' := by
  simp only [rep] at h
  obtain ⟨a, C', dx, kvs, F', e, hc, h1, h2, h3⟩ := h
  have : C' = C := by rw [hC] at hc; cases hc; rfl
  subst this
  exact ⟨a, dx, kvs, F', e, h1, h1.rq sh, h2, h3⟩
section
variable {X : Cx} {a : Expr} {g : En → Option D} {pos : Pos} {f c : Str} {C : Addr}
theorem b_fld (hc : X.mg c = some (.ref C)) (cl : Cls X.K C) (na : NoAttr X.K C f) (ha : PEb X a g) (hb : attributeBase a f X.env (eval a X.env) = eval a X.env := by rfl) : PEb X (.Attribute a f pos) (eUn (dFld c f) g) := pe_imp (pe_fld ha hb) fun σ H Q ⟨S, e, F, B, d, A, hg, k⟩ => by
  unfold eUn at hg
  cases q : g e with
  | none => rw [q] at hg; cases hg
  | some da =>
    rw [q] at hg
    simp only [Option.bind_some] at hg
    refine ⟨S, e, F, B, da, A, q, fun v S1 H1 F1 t1 r1 o1 => ?_⟩
    unfold dFld at hg
    split at hg
    · split at hg
      case isFalse => cases hg
      case isTrue hz =>
        subst hz
        obtain ⟨p, dx, kvs, F', rfl, h1, h0, h2, h3⟩ := rep_ob t1.sh hc r1
        subst h2
        obtain ⟨w, Fi, g1, g2, g3⟩ := getF_some h3 hg
        refine ⟨p, C, dx, kvs, w, rfl, h0, cl, na, g1, k w S1 H1 Fi t1 g2 fun x hx => o1 x (h1.sub x ?_)⟩
        have := g3 x; omega
    · cases hg
end
end Z

set_option Elab.async false
set_option linter.all false
set_option maxRecDepth 100000
set_option maxHeartbeats 1000000
/-! # What is walked: range, enumerate (lists, tuples), zip -/
namespace Z
open PySem PySem.Spec PyProof.Rows L2

/-! enumerate(tuple) -/
open PySem.W in
theorem meets_enum1 {v : Value} {o : Obj} {H : Heap → Prop} (B : Begins v o H) :
    Meets (Builtin.«enumerate.__new__» ⟨[.type "enumerate", v], []⟩) (fun _ R s => H s.heap ∧
      R (.ok (.ret (.ref (s.heap.push o).objs.size))) { s with heap := (s.heap.push o).push { cls := .type "enumerate", data := .fields #[.none, .bool false, .ref s.heap.objs.size, rawInt 0, .none, .none] } }) :=
  .of_wp fun prog w A R s h => by
    obtain ⟨hp, g, d, tk, os⟩ := s; obtain ⟨h1, h⟩ := h
    have hsub := sub_enumerate
    have q1 : ∀ {A' : Around} {E : Value → Shared → Prop} {Q : Value → Shared → Prop}, Q (.ref hp.objs.size) ⟨hp.push o, g, d, tk, os⟩ → wpAny (model prog w) A' (pyIter v) Q E ⟨hp, g, d, tk, os⟩ :=
      fun q => B.iter prog w _ _ ⟨hp, g, d, tk, os⟩ _ h1 q
    wp_walk using q1
    refine wpAny_stack_any fun st => wpAny_pure ?_
    split
    · rename_i c _ _ _ _ _
      cases (c == Value.type "enumerate")
      · wp_walk using q1
        exact ⟨_, rfl, h⟩
      · wp_walk using q1
        exact ⟨_, rfl, h⟩
    · wp_walk using q1
      exact ⟨_, rfl, h⟩
section
variable {prog : Program} {w : World} {A : Around} {E : Value → Shared → Prop} {s : Shared}
open PySem.W in
theorem enum_begins1 {v : Value} {o : Obj} {H : Heap → Prop} {Q : Value → Shared → Prop} (B : Begins v o H) (h1 : H s.heap)
    (h : ∀ h', IsEnum h' (s.heap.objs.size + 1) s.heap.objs.size 0 .none → h'.get? s.heap.objs.size = some o → h'.objs.size = s.heap.objs.size + 2 →
      (∀ b o, s.heap.get? b = some o → h'.get? b = some o) → Q (.ref (s.heap.objs.size + 1)) { s with heap := h' }) :
    wpAny (model prog w) A (call (.type "enumerate") [v]) Q E s := by
  refine callType_new F.called_enumerate (by decide) (F.typeCall_enumerate_1 _) (F.newCall_enumerate_1 _) (fun obj => F.args_object_init_2 obj _) F.entry_enumerate_new (meets_enum1 B) ⟨h1, ?_⟩
  have hz : (s.heap.push o).objs.size = s.heap.objs.size + 1 := Heap.size_push ..
  show _ ∧ _
  rw [hz]
  have he : IsEnum ((s.heap.push o).push { cls := .type "enumerate", data := .fields #[.none, .bool false, .ref s.heap.objs.size, rawInt 0, .none, .none] }) (s.heap.objs.size + 1) s.heap.objs.size 0 .none := by
    have := Heap.get?_push_size (s.heap.push o) (o := { cls := .type "enumerate", data := .fields #[.none, .bool false, .ref s.heap.objs.size, rawInt 0, .none, .none] }) rfl
    rw [hz] at this; exact this
  exact ⟨⟨_, he, rfl⟩, h _ he (Heap.get?_push_of_some _ (Heap.get?_push_size _ B.free)) (by rw [Heap.size_push, hz]) fun b o x => Heap.get?_push_of_some _ (Heap.get?_push_of_some _ x)⟩
end
/-- the tuple at a, each item in a new pair -/
def IteT (K : PySem.W.Frag) (a : Addr) : It :=
  ⟨fun i H => ∃ (xs : List V) (x : V), SqT K H a xs ∧ xs[i]? = some x, fun i H v H' => ∃ T x, v = .ref T ∧ H T = none ∧ H' = upd H T (.tup [.int (i : Nat), x]) ∧ ∀ xs, SqT K H a xs → xs[i]? = some x, fun i H => ∃ xs : List V, SqT K H a xs ∧ xs.length ≤ i⟩
theorem turn_enumT {P : Program} {w : World} {K : PySem.W.Frag} {elts : List Expr} {kk : Nat} {tpos : Pos} (a e it : Addr) :
    Turn P w K (.Tuple elts kk tpos) (IteT K a) [e, it] e (fun i h => (∃ old, IsEnum h e it ((i : Nat) : Int) old) ∧ h.IsTupleIter it a i ∧ e ≠ it ∧ a ≠ it ∧ a ≠ e) where
  mem := by simp
  obj := fun i h st b hb => by
    obtain ⟨⟨old, he⟩, ⟨o, ho, hc, hd⟩, _⟩ := st
    have e' : b = e ∨ b = it := by simpa using hb
    rcases e' with z | z
    · rw [z]; exact ⟨_, he, fun v q => nomatch q⟩
    · rw [z]; exact ⟨o, ho, fun v q => by rw [hd] at q; cases q⟩
  keep := fun i h h' st k => let ⟨⟨old, he⟩, hi, hne⟩ := st; ⟨⟨old, k e (by simp) _ he⟩, hi.at fun o q => k it (by simp) o q, hne⟩
  item := by
    intro X hP hw hK hc i pins s σ H E I hf st hg
    subst hP hw hK
    obtain ⟨⟨old, he⟩, hit, hne, hai, hae⟩ := st
    obtain ⟨xs, x, hq, hx⟩ := hg
    obtain ⟨its, rv, p, hz⟩ := I.tuple hq
    obtain ⟨u, hu, ru⟩ := rv.get hx
    have hel : e < s.heap.objs.size := Heap.lt_size he
    have hil : it < s.heap.objs.size := by obtain ⟨_, q, _⟩ := hit; exact Heap.lt_size q
    have hi : i < its.toArray.size := by
      rw [List.size_toArray]
      exact (List.getElem?_eq_some_iff.mp hu).1
    have hh : X.A.in1.handled = none := I.ok.hd hc
    refine wpAny_pyNext_enum_itemD (Draws.tuple hh it a hai its.toArray) he ⟨hit, p⟩ hi hne (by simp [hne, Ne.symm hae]) fun x' h' tk hx' ho hit' hT hsz hk => ?_
    have ex : x' = u := by
      have q : some x' = some u := hx'.symm.trans (by simpa using hu)
      exact Option.some.inj q
    subst ex
    refine ⟨_, rfl, wpAny_letOwnedTupleGo_enum (s := { s with heap := h', toks := tk + 1 }) ho fun h'' he' sb => ?_⟩
    have hT2 : h''.get? s.heap.objs.size = some { cls := .type "tuple", data := .seq #[.int i tk, x'] } := (sb.2 _ (Nat.ne_of_gt hel)).trans hT
    have new : ObjOk X.prog X.w (upd H s.heap.objs.size (.tup [.int (i : Nat), x])) h'' s.heap.objs.size (.tup [.int (i : Nat), x]) :=
      ⟨by show 2 ≤ sizeLine; decide, [.int i tk, x'], .cons ⟨_, rfl⟩ (.cons ru .nil), ⟨_, hT2, rfl, _, rfl⟩⟩
    have I1 : Inv X pins σ (upd H s.heap.objs.size (.tup [.int (i : Nat), x])) { s with heap := h'', toks := tk + 1 } :=
      I.turnedNew (ch := [e, it]) (fun b ob hb q => (sb.2 b (fun z => hb (by simp [z]))).trans (hk b ob (fun z => hb (by simp [z])) (fun z => hb (by simp [z])) q)) hf (Nat.le_refl _) new
    refine ⟨.ref s.heap.objs.size, _, I1, rfl, ⟨_, x, rfl, I.hok.fresh (Nat.le_refl _), rfl, fun ys hy => by rw [I.tuple_inj hy hq]; exact hx⟩, ⟨⟨x', ?_⟩, hit'.1.at fun o q => (sb.2 it (Ne.symm hne)).trans q, hne, hai, hae⟩, fun b hb => ?_⟩
    · have e1 : ((i + 1 : Nat) : Int) = (i : Int) + 1 := by omega
      rw [e1]; exact he'
    · have hb' : b < s.heap.objs.size := by
        have e' : b = e ∨ b = it := by simpa using hb
        rcases e' with z | z
        · rw [z]; exact hel
        · rw [z]; exact hil
      rw [upd_ne (Nat.ne_of_lt hb')]
      exact (hf b hb).1
  done := by
    intro X hP hw hK hc i pins s σ H E I hf st hg
    subst hP hw hK
    obtain ⟨⟨old, he⟩, hit, hne, hai, hae⟩ := st
    obtain ⟨xs, hq, hx⟩ := hg
    obtain ⟨its, rv, p, hz⟩ := I.tuple hq
    obtain ⟨f0, f1, f2, f3, f4, f5⟩ := hf it (by simp)
    have hl := rv.length
    have hh : X.A.in1.handled = none := I.ok.hd hc
    unfold pyNext
    have hT : s.TypeIs (.ref e) "enumerate" := ⟨_, he, rfl⟩
    refine wpAny_bind (wpAny_attempt (wpAny_callSpecial?_slot (name := Str.ofString "__next__") hT F.slot_enumerate_next
      (wpAny_call_entry F.slot_enumerate_next hT F.entry_enumerate_next ?_ (F.args_enumerate_next_1 _))))
    show wpAny _ _ (field (.ref e) 2 >>= _) _ _ _
    refine wpAny_bind (wpAny_field he rfl (x := .ref it) rfl ?_)
    refine wpAny_bind (PySem.wpAny_nextOf_tuple_end (A := X.A.in1) hh hit p (by simp; omega) fun h' x' he' hx' => ?_)
    obtain ⟨o, ho, hcc⟩ := hx'
    refine wpAny_bind (wpAny_isInstance (T := "StopIteration") (b := true) ⟨o, ho, hcc⟩ isSubtype_stop ?_)
    exact wpAny_pure ⟨rfl, I.turned (t' := s.toks) (fun b o hb q => he' b o hb q) f0 f1 f3 f4 f5⟩
  self := fun A i s Q E st h => let ⟨⟨_, he⟩, _⟩ := st; wpAny_pyIter_enum he h
theorem walk_enumT {K : PySem.W.Frag} {a : Addr} {xs : List V} : Walk (IteT K a) xs.length (fun H => SqT K H a xs) (YPair (fun i => some (.int (i : Nat))) (fun i => xs[i]?)) := by
  refine ⟨fun i _ hi q => ⟨xs, xs[i], q, by simp [hi]⟩, fun _ q => ⟨xs, q, Nat.le_refl _⟩, fun i H v H' _ q y => ?_⟩
  obtain ⟨T, x, h1, h2, h3, h4⟩ := y
  exact ⟨T, .int (i : Nat), x, h1, h2, h3, rfl, h4 xs q⟩
theorem walk_zipT {K : PySem.W.Frag} {a b : Addr} {xs ys : List V} {n : Nat} (hn : n = min xs.length ys.length) : Walk (RZ.ItzT K a b) n (fun H => SqT K H a xs ∧ SqT K H b ys) (YPair (fun i => xs[i]?) (fun i => ys[i]?)) := by
  subst hn
  refine ⟨fun i _ hi q => ?_, fun _ q => ⟨xs, ys, q.1, q.2, by omega⟩, fun i H v H' _ q y => ?_⟩
  · have h1 : i < xs.length := by omega
    have h2 : i < ys.length := by omega
    exact ⟨xs, ys, xs[i], ys[i], q.1, q.2, by simp [h1], by simp [h2]⟩
  · obtain ⟨T, x, y, h1, h2, h3, h4, h5⟩ := y
    exact ⟨T, x, y, h1, h2, h3, h4 xs q.1, h5 ys q.2⟩
def iEnumA (K : PySem.W.Frag) (ta : TA) : TI := fun σ H R => ta σ H fun vs H1 => ∃ a xs, vs = [.ref a] ∧ ((SqL K H1 a xs ∧ R (Ite K a) H1) ∨ (SqT K H1 a xs ∧ R (IteT K a) H1))
theorem pi_enumA {X : Cx} {e : Expr} {ta : TA} {p pos tpos : Pos} {elts : List Expr} {kk : Nat} (hg : Gl X "enumerate") (hm : X.mg "enumerate" = none) (ha : PA X [e] ta) (hs : starEach [e] X.env = [(false, eval e X.env)] := by rfl) :
    PI X (.Tuple elts kk tpos) (.Call (.Name "enumerate" p) [e] [] pos) (iEnumA X.K ta) := by
  refine ⟨fun pins s σ H R I h => ?_⟩
  refine Call_ (ld_blt I hg hm boot_enumerate (PyProof.Rows.callWith_type1 (thn (ha.run pos pins s σ H _ I h) fun us s1 ⟨vs, H1, I1, r1, q1⟩ => ?_) hs rfl))
  obtain ⟨a, xs, ex, q⟩ := q1
  subst ex
  cases r1 with
  | cons r rr =>
    cases rr
    cases r
    have two : ∀ b, b ∈ [s1.heap.objs.size + 1, s1.heap.objs.size] → FpOk X pins H1 b := fun b hb => by
      have e' : b = s1.heap.objs.size + 1 ∨ b = s1.heap.objs.size := by simpa using hb
      have hle : s1.heap.objs.size ≤ b := by omega
      exact I1.fpOk hle (I1.hok.fresh hle)
    rcases q with ⟨hq, q⟩ | ⟨hq, q⟩
    · obtain ⟨its, rv, p', hz⟩ := I1.list hq
      refine call_enumerate_list p'.isList fun h' he hit hsz hk => wpAny_pyIter_enum he ?_
      have I2 : Inv X pins σ H1 { s1 with heap := h' } := I1.kept (t' := s1.toks) hk
      exact ⟨s1.heap.objs.size + 1, [s1.heap.objs.size + 1, s1.heap.objs.size], _, _, H1, rfl, I2, turn_enum a (s1.heap.objs.size + 1) s1.heap.objs.size, ⟨⟨.none, he⟩, hit, Nat.succ_ne_self _⟩, two, q⟩
    · obtain ⟨its, rv, p', hz⟩ := I1.tuple hq
      have hl : a < s1.heap.objs.size := by obtain ⟨_, q, _⟩ := id p'; exact Heap.lt_size q
      refine enum_begins1 (PySem.begins_tuple a its.toArray) p' fun h' he hit hsz hk => wpAny_pyIter_enum he ?_
      have I2 : Inv X pins σ H1 { s1 with heap := h' } := I1.kept (t' := s1.toks) hk
      exact ⟨s1.heap.objs.size + 1, [s1.heap.objs.size + 1, s1.heap.objs.size], _, _, H1, rfl, I2, turn_enumT a (s1.heap.objs.size + 1) s1.heap.objs.size, ⟨⟨.none, he⟩, ⟨_, hit, rfl, rfl⟩, Nat.succ_ne_self _, Nat.ne_of_lt hl, Nat.ne_of_lt (Nat.lt_succ_of_lt hl)⟩, two, q⟩
/-! ### as sources -/
section
variable {R : RC} {S' H' : Hp} {Fb : Fp}
theorem itok_pair {J : It} {n : Nat} {G : Hp → Prop} {fx fy : Nat → Option V} (wk : Walk J n G (YPair fx fy)) {items : List (D × D)} (hn : items.length = n) (dom : ∀ x, 0 < Fb x → (∃ w, H' x = some w) ∧ S' x = none)
    (hG : ∀ H2, Kept S' H' Fb H2 → G H2) (hit : ∀ i d1 d2, items[i]? = some (d1, d2) → ∃ x y F1 F2, fx i = some x ∧ fy i = some y ∧ rep R S' H' d1 x F1 ∧ rep R S' H' d2 y F2 ∧ ∀ a, 0 < F1 a + F2 a → 0 < Fb a) :
    ItOk R J S' H' (items.map fun p => .tup [p.1, p.2]) Fb := by
  refine ⟨dom, G, YPair fx fy, by rw [List.length_map, hn]; exact wk, hG, ?_⟩
  rintro i S2 H2 v H3 d es sh kk dm hi ⟨T, x, y, rfl, hT, rfl, hx, hy⟩
  rw [List.getElem?_map] at hi
  cases q : items[i]? with
  | none => rw [q] at hi; cases hi
  | some p =>
    rw [q] at hi; cases hi
    obtain ⟨x', y', F1, F2, e1, e2, r1, r2, hF⟩ := hit i p.1 p.2 q
    rw [e1] at hx; rw [e2] at hy
    cases hx; cases hy
    have t : Stp S2 H2 f0 S2 (upd H2 T (.tup [x, y])) f0 := (Stp.make sh hT).zero
    refine ⟨t, fadd F1 F2, ?_, fun a ha => hF a (by rw [fadd_at] at ha; exact ha)⟩
    have k1 := rep_step t _ _ _ (rep_keep es kk dm r1 (fun a ha => hF a (by omega)) sh) fun _ _ => rfl
    have k2 := rep_step t _ _ _ (rep_keep es kk dm r2 (fun a ha => hF a (by omega)) sh) fun _ _ => rfl
    simp only [rep, reps]
    exact ⟨T, [x, y], rfl, .inl (.inl upd_same), x, [y], F1, F2, rfl, k1, ⟨y, [], F2, f0, rfl, k2, ⟨rfl, rfl⟩, (fadd_f0 F2).symm⟩, rfl⟩
def numbered (l : List D) : List (D × D) := l.zipIdx.map fun p => (.int (p.2 : Nat), p.1)
theorem numbered_len (l : List D) : (numbered l).length = l.length := by unfold numbered; rw [List.length_map, List.length_zipIdx]
theorem numbered_at {l : List D} {i : Nat} {d1 d2 : D} (h : (numbered l)[i]? = some (d1, d2)) : d1 = .int (i : Nat) ∧ l[i]? = some d2 := by
  unfold numbered at h
  rw [List.getElem?_map, List.getElem?_zipIdx] at h
  cases q : l[i]? with
  | none => rw [q] at h; cases h
  | some d => rw [q] at h; simp at h; exact ⟨h.1.symm, by rw [h.2]⟩
def pairT (p : D × D) : D := .tup [p.1, p.2]
/-- how a list or a tuple stands, walked beside -/
theorem seq_keep {d : D} {l : List D} {v : V} (sh : Ext S' H') (r : rep R S' H' d v Fb) (hd : dItems d = some l) : ∃ a vs F', v = .ref a ∧ reps R S' H' l vs F' ∧ (∀ x, 0 < F' x → 0 < Fb x) ∧
    ((SqL R.K H' a vs ∧ (∃ o, d = .lst o l) ∧ ∀ (H2 : Hp) (G : Fp), (∀ x, 0 < Fb x → 0 < G x) → Kept S' H' G H2 → SqL R.K H2 a vs) ∨ (SqT R.K H' a vs ∧ d = .tup l ∧ ∀ (H2 : Hp) (G : Fp), Kept S' H' G H2 → SqT R.K H2 a vs)) := by
  cases d <;> simp only [dItems] at hd <;> cases hd
  case tup =>
    simp only [rep] at r
    obtain ⟨a, vs, rfl, hh, hr⟩ := r
    refine ⟨a, vs, Fb, rfl, hr, fun _ h => h, .inr ⟨hh, rfl, fun H2 G kk => ?_⟩⟩
    rcases hh with (z | ⟨ob, z⟩) | z
    · exact .inl (.inl (kk a _ z (.inr (.inl fun m => m))))
    · exact .inl (.inr ⟨ob, kk a _ z (.inr (.inl fun m => m))⟩)
    · exact .inr z
  case lst o =>
    simp only [rep] at r
    obtain ⟨a, vs, F', rfl, hh, hr⟩ := r
    obtain ⟨hrd, hf⟩ := hh.dom0 sh
    exact ⟨a, vs, F', rfl, hr, hh.sub, .inl ⟨.inl hrd, ⟨o, rfl⟩, fun H2 G hG kk => .inl (kk.rd hrd (hf.imp (hG a) id) sh)⟩⟩
/-- enumerate -/
theorem itok_enum {d : D} {l : List D} {v : V} (sh : Ext S' H') (r : rep R S' H' d v Fb) (hd : dItems d = some l) : ∃ a vs, v = .ref a ∧
    ((SqL R.K H' a vs ∧ ItOk R (Ite R.K a) S' H' ((numbered l).map pairT) Fb) ∨ (SqT R.K H' a vs ∧ ItOk R (IteT R.K a) S' H' ((numbered l).map pairT) Fb)) := by
  obtain ⟨a, vs, F', rfl, hr, hs, h⟩ := seq_keep sh r hd
  have hit : ∀ i d1 d2, (numbered l)[i]? = some (d1, d2) → ∃ x y F1 F2, some (V.int (i : Nat)) = some x ∧ vs[i]? = some y ∧ rep R S' H' d1 x F1 ∧ rep R S' H' d2 y F2 ∧ ∀ a, 0 < F1 a + F2 a → 0 < Fb a := fun i d1 d2 q => by
    obtain ⟨rfl, q2⟩ := numbered_at q
    obtain ⟨y, Fi, g1, g2, g3⟩ := reps_get hr q2
    exact ⟨_, y, f0, Fi, rfl, g1, repI .., g2, fun a ha => hs a (by have := g3 a; rw [f0_at] at ha; omega)⟩
  have hn : (numbered l).length = vs.length := by rw [numbered_len, reps_len hr]
  refine ⟨a, vs, rfl, ?_⟩
  rcases h with ⟨h1, _, h2⟩ | ⟨h1, _, h2⟩
  · exact .inl ⟨h1, itok_pair walk_enum hn (rep_dom _ _ _ r) (fun H2 kk => h2 H2 Fb (fun _ h => h) kk) hit⟩
  · exact .inr ⟨h1, itok_pair walk_enumT hn (rep_dom _ _ _ r) (fun H2 kk => h2 H2 Fb kk) hit⟩
end
def eEnum (gs : En → Option (List D)) (e : En) : Option (List D) := (gs e).bind fun ds => match ds with
  | [d] => (dItems d).bind fun l => some ((numbered l).map pairT)
  | _ => none
def isT : D → Bool
  | .tup _ => true
  | _ => false
def eZip (gs : En → Option (List D)) (e : En) : Option (List D) := (gs e).bind fun ds => match ds with
  | [c, d] => if isT c = isT d then (dItems c).bind fun l => (dItems d).bind fun m => some ((l.zip m).map pairT) else none
  | _ => none
section
variable {X : Cx} {a b tg : Expr} {elts : List Expr} {kk : Nat} {gs : En → Option (List D)} {p pos tpos : Pos}
theorem eEnum_some {e : En} {items : List D} (h : eEnum gs e = some items) : ∃ d l, gs e = some [d] ∧ dItems d = some l ∧ items = (numbered l).map pairT := by
  unfold eEnum at h
  cases q : gs e with
  | none => rw [q] at h; cases h
  | some ds =>
    rw [q] at h
    simp only [Option.bind_some] at h
    split at h
    · rename_i d
      cases q2 : dItems d with
      | none => rw [q2] at h; cases h
      | some l => rw [q2] at h; cases h; exact ⟨d, l, rfl, q2, rfl⟩
    · cases h
theorem reps1' {R : RC} {S H : Hp} {d : D} {vs : List V} {F : Fp} (h : reps R S H [d] vs F) : ∃ v, vs = [v] ∧ rep R S H d v F := reps1 h
theorem i_enum (hg : Gl X "enumerate") (hm : X.mg "enumerate" = none) (ha : PAb X [a] gs) (hs : starEach [a] X.env = [(false, eval a X.env)] := by rfl) : PIb X (.Tuple elts kk tpos) (.Call (.Name "enumerate" p) [a] [] pos) (eEnum gs) :=
  pi_imp (pi_enumA hg hm ha hs) fun σ H P ⟨S, e, F, B, items, A, hq, k⟩ => by
    obtain ⟨d, l, q1, q2, rfl⟩ := eEnum_some hq
    refine ⟨S, e, F, B, [d], A, q1, fun vs S1 H1 Fb t1 r1 o1 => ?_⟩
    obtain ⟨v, rfl, r⟩ := reps1 r1
    obtain ⟨a, xs, rfl, h⟩ := itok_enum t1.sh r q2
    exact ⟨a, xs, rfl, h.imp (fun h => ⟨h.1, k _ S1 H1 Fb t1 h.2 o1⟩) fun h => ⟨h.1, k _ S1 H1 Fb t1 h.2 o1⟩⟩
theorem if_enum (hg : Gl X "enumerate") (hm : X.mg "enumerate" = none) (ha : PAf X [a] gs) (hs : starEach [a] X.env = [(false, eval a X.env)] := by rfl) : PIf X (.Tuple elts kk tpos) (.Call (.Name "enumerate" p) [a] [] pos) (eEnum gs) :=
  pi_imp (pi_enumA hg hm ha hs) fun σ H P ⟨S, e, F, B, items, A, hq, k⟩ => by
    obtain ⟨d, l, q1, q2, rfl⟩ := eEnum_some hq
    refine ⟨S, e, F, B, [d], A, q1, fun vs S1 H1 Fb t1 n1 r1 => ?_⟩
    obtain ⟨v, rfl, r⟩ := reps1 r1
    have fr : ∀ a, 0 < Fb a → H a = none := fun a ha => (t1.ft a ha).elim (fun z => absurd z (Nat.lt_irrefl 0)) id
    obtain ⟨a, xs, rfl, h⟩ := itok_enum t1.sh r q2
    exact ⟨a, xs, rfl, h.imp (fun h => ⟨h.1, k _ S1 H1 Fb t1.zero h.2 fr⟩) fun h => ⟨h.1, k _ S1 H1 Fb t1.zero h.2 fr⟩⟩
theorem eZip_some {e : En} {items : List D} (h : eZip gs e = some items) : ∃ c d l m, gs e = some [c, d] ∧ isT c = isT d ∧ dItems c = some l ∧ dItems d = some m ∧ items = (l.zip m).map pairT := by
  unfold eZip at h
  cases q : gs e with
  | none => rw [q] at h; cases h
  | some ds =>
    rw [q] at h
    simp only [Option.bind_some] at h
    split at h
    · rename_i c d
      split at h
      case isFalse => cases h
      case isTrue hz =>
        cases q2 : dItems c with
        | none => rw [q2] at h; cases h
        | some l =>
          rw [q2] at h
          cases q3 : dItems d with
          | none => rw [q3] at h; cases h
          | some m => rw [q3] at h; cases h; exact ⟨c, d, l, m, rfl, hz, q2, q3, rfl⟩
    · cases h
theorem itok_zip {R : RC} {S' H' : Hp} {c d : D} {l m : List D} {vs : List V} {Fb : Fp} (sh : Ext S' H') (r : reps R S' H' [c, d] vs Fb) (ht : isT c = isT d) (hc : dItems c = some l) (hd : dItems d = some m) :
    ∃ a b xs ys, vs = [.ref a, .ref b] ∧ ((SqL R.K H' a xs ∧ SqL R.K H' b ys ∧ ItOk R (Itz R.K a b) S' H' ((l.zip m).map pairT) Fb) ∨ (SqT R.K H' a xs ∧ SqT R.K H' b ys ∧ ItOk R (RZ.ItzT R.K a b) S' H' ((l.zip m).map pairT) Fb)) := by
  have r0 := r
  simp only [reps] at r
  obtain ⟨v, vr, F1, F2, rfl, h1, ⟨v', vr', F3, F4, rfl, h2, ⟨rfl, rfl⟩, rfl⟩, rfl⟩ := r
  rw [fadd_f0] at r0 ⊢
  obtain ⟨a, xs, G1, rfl, q1, s1, w1⟩ := seq_keep sh h1 hc
  obtain ⟨b, ys, G2, rfl, q2, s2, w2⟩ := seq_keep sh h2 hd
  have hn : (l.zip m).length = min xs.length ys.length := by rw [List.length_zip, reps_len q1, reps_len q2]
  have hit : ∀ i d1 d2, (l.zip m)[i]? = some (d1, d2) → ∃ x y K1 K2, xs[i]? = some x ∧ ys[i]? = some y ∧ rep R S' H' d1 x K1 ∧ rep R S' H' d2 y K2 ∧ ∀ a, 0 < K1 a + K2 a → 0 < fadd F1 F3 a := fun i d1 d2 q => by
    obtain ⟨e1, e2⟩ := List.getElem?_zip_eq_some.mp q
    obtain ⟨x, K1, g1, g2, g3⟩ := reps_get q1 e1
    obtain ⟨y, K2, g4, g5, g6⟩ := reps_get q2 e2
    refine ⟨x, y, K1, K2, g1, g4, g2, g5, fun a ha => ?_⟩
    rw [fadd_at]
    rcases Nat.eq_zero_or_pos (K1 a) with z | z
    · have := s2 a (by have := g6 a; omega); omega
    · have := s1 a (by have := g3 a; omega); omega
  have dom : ∀ x, 0 < fadd F1 F3 x → (∃ w, H' x = some w) ∧ S' x = none := fun x hx => reps_dom _ _ _ r0 x hx
  refine ⟨a, b, xs, ys, rfl, ?_⟩
  rcases w1 with ⟨u1, ⟨o1, z1⟩, k1⟩ | ⟨u1, z1, k1⟩ <;> rcases w2 with ⟨u2, z2, k2⟩ | ⟨u2, z2, k2⟩
  · exact .inl ⟨u1, u2, itok_pair (walk_zip rfl) hn dom (fun H2 kk => ⟨k1 H2 _ (fun x hx => by rw [fadd_at]; omega) kk, k2 H2 _ (fun x hx => by rw [fadd_at]; omega) kk⟩) hit⟩
  · rw [z1, z2] at ht; cases ht
  · obtain ⟨o2, z2⟩ := z2
    rw [z1, z2] at ht; cases ht
  · exact .inr ⟨u1, u2, itok_pair (walk_zipT rfl) hn dom (fun H2 kk => ⟨k1 H2 _ kk, k2 H2 _ kk⟩) hit⟩
theorem i_zip (hg : Gl X "zip") (hm : X.mg "zip" = none) (ha : PAb X [a, b] gs) (hs : starEach [a, b] X.env = (false, eval a X.env) :: starEach [b] X.env := by rfl) (hpl : (backTo pos (starEach [b] X.env)).any (·.1) = false := by rfl) :
    PIb X (.Tuple elts kk tpos) (.Call (.Name "zip" p) [a, b] [] pos) (eZip gs) := pi_imp (RZ.pi_zipA hg hm ha hs hpl) fun σ H P ⟨S, e, F, B, items, A, hq, k⟩ => by
  obtain ⟨c, d, l, m, q1, q2, q3, q4, rfl⟩ := eZip_some hq
  refine ⟨S, e, F, B, [c, d], A, q1, fun vs S1 H1 Fb t1 r1 o1 => ?_⟩
  obtain ⟨a, b, xs, ys, rfl, h⟩ := itok_zip t1.sh r1 q2 q3 q4
  exact ⟨a, b, xs, ys, rfl, h.imp (fun h => ⟨h.1, h.2.1, k _ S1 H1 Fb t1 h.2.2 o1⟩) fun h => ⟨h.1, h.2.1, k _ S1 H1 Fb t1 h.2.2 o1⟩⟩
theorem if_zip (hg : Gl X "zip") (hm : X.mg "zip" = none) (ha : PAf X [a, b] gs) (hs : starEach [a, b] X.env = (false, eval a X.env) :: starEach [b] X.env := by rfl) (hpl : (backTo pos (starEach [b] X.env)).any (·.1) = false := by rfl) :
    PIf X (.Tuple elts kk tpos) (.Call (.Name "zip" p) [a, b] [] pos) (eZip gs) := pi_imp (RZ.pi_zipA hg hm ha hs hpl) fun σ H P ⟨S, e, F, B, items, A, hq, k⟩ => by
  obtain ⟨c, d, l, m, q1, q2, q3, q4, rfl⟩ := eZip_some hq
  refine ⟨S, e, F, B, [c, d], A, q1, fun vs S1 H1 Fb t1 n1 r1 => ?_⟩
  have fr : ∀ a, 0 < Fb a → H a = none := fun a ha => (t1.ft a ha).elim (fun z => absurd z (Nat.lt_irrefl 0)) id
  obtain ⟨a, b, xs, ys, rfl, h⟩ := itok_zip t1.sh r1 q2 q3 q4
  exact ⟨a, b, xs, ys, rfl, h.imp (fun h => ⟨h.1, h.2.1, k _ S1 H1 Fb t1.zero h.2.2 fr⟩) fun h => ⟨h.1, h.2.1, k _ S1 H1 Fb t1.zero h.2.2 fr⟩⟩
end

/-! range -/
def upTo (lo : Int) (n : Nat) : List D := (List.range n).map fun i => .int (lo + (i : Nat))
def rng1Of : List D → Option (List D)
  | [.int n] => if -1000000000 ≤ n ∧ n ≤ 1000000 then some (upTo 0 n.toNat) else none
  | _ => none
def rng2Of : List D → Option (List D)
  | [.int i, .int j] => if -1000000000 ≤ i ∧ i ≤ 1000000000 ∧ -1000000000 ≤ j ∧ j ≤ 1000000000 then some (upTo i (j - i).toNat) else none
  | _ => none
def eRng (r : List D → Option (List D)) (gs : En → Option (List D)) (e : En) : Option (List D) := (gs e).bind r
def vRng (r : List D → Option (List D)) (fs : En → Option (List D × En)) (e : En) : Option (List D × En) := (fs e).bind fun p => (r p.1).bind fun l => some (l, p.2)
theorem itok_rng {R : RC} {S' H' : Hp} (lo : Int) (n : Nat) (sh : Ext S' H') : ItOk R (Itr lo n) S' H' (upTo lo n) f0 := by
  refine ⟨fun x hx => absurd hx (Nat.lt_irrefl 0), fun _ => True, YFn fun i => .int (lo + i), by unfold upTo; rw [List.length_map, List.length_range]; exact walk_range, fun _ _ => True.intro, ?_⟩
  rintro i S2 H2 x H3 d es sh2 kk dm hi ⟨rfl, rfl⟩
  unfold upTo at hi
  rw [List.getElem?_map] at hi
  cases q : (List.range n)[i]? with
  | none => rw [q] at hi; cases hi
  | some j =>
    rw [q] at hi; cases hi
    have : j = i := by
      obtain ⟨h1, h2⟩ := List.getElem?_eq_some_iff.mp q
      rw [List.getElem_range] at h2; exact h2.symm
    subst this
    exact ⟨.refl0 sh2, f0, repI .., fun a ha => absurd ha (Nat.lt_irrefl 0)⟩
section
variable {X : Cx} {a b tg : Expr} {gs : En → Option (List D)} {fs : En → Option (List D × En)} {p pos : Pos}
theorem rng1Of_ok {ds : List D} {items : List D} {R : RC} {S H : Hp} {vs : List V} {F : Fp} (h : rng1Of ds = some items) (r : reps R S H ds vs F) :
    ∃ n : Int, vs = [.int n] ∧ items = upTo 0 n.toNat ∧ -1000000000 ≤ n ∧ n ≤ 1000000 := by
  unfold rng1Of at h
  split at h
  · split at h
    case isFalse => cases h
    case isTrue hz =>
      cases h
      obtain ⟨v, rfl, w⟩ := reps1 r
      simp only [rep] at w
      exact ⟨_, by rw [w.1], rfl, hz⟩
  · cases h
theorem rng2Of_ok {ds : List D} {items : List D} {R : RC} {S H : Hp} {vs : List V} {F : Fp} (h : rng2Of ds = some items) (r : reps R S H ds vs F) :
    ∃ i j : Int, vs = [.int i, .int j] ∧ items = upTo i (j - i).toNat ∧ -1000000000 ≤ i ∧ i ≤ 1000000000 ∧ -1000000000 ≤ j ∧ j ≤ 1000000000 := by
  unfold rng2Of at h
  split at h
  · split at h
    case isFalse => cases h
    case isTrue hz =>
      cases h
      obtain ⟨v, v', F1, F2, rfl, w1, w2⟩ := reps2 r
      simp only [rep] at w1 w2
      exact ⟨_, _, by rw [w1.1, w2.1], rfl, hz⟩
  · cases h
theorem bind_some2 {α β : Type} {o : Option α} {f : α → Option β} {b : β} (h : o.bind f = some b) : ∃ a, o = some a ∧ f a = some b := by
  cases o with
  | none => cases h
  | some a => exact ⟨a, rfl, h⟩
theorem if_rng1 (hg : Gl X "range") (hm : X.mg "range" = none) (ha : PAb X [a] gs) (hs : starEach [a] X.env = [(false, eval a X.env)] := by rfl) : PIf X tg (.Call (.Name "range" p) [a] [] pos) (eRng rng1Of gs) :=
  pi_imp (pi_range1 hg hm ha hs) fun σ H P ⟨S, e, F, B, items, A, hq, k⟩ => by
    obtain ⟨ds, q1, q2⟩ := bind_some2 hq
    refine ⟨S, e, F, B, ds, A, q1, fun vs S1 H1 Fb t1 r1 _ => ?_⟩
    obtain ⟨n, rfl, rfl, n1, n2⟩ := rng1Of_ok q2 r1
    exact ⟨n, rfl, by omega, by omega, k _ S1 H1 f0 t1 (itok_rng 0 _ t1.sh) fun a ha => absurd ha (Nat.lt_irrefl 0)⟩
theorem if_rng2 (hg : Gl X "range") (hm : X.mg "range" = none) (ha : PAb X [a, b] gs) (hs : starEach [a, b] X.env = [(false, eval a X.env), (false, eval b X.env)] := by rfl) (hs2 : starEach [b] X.env = [(false, eval b X.env)] := by rfl) : PIf X tg (.Call (.Name "range" p) [a, b] [] pos) (eRng rng2Of gs) :=
  pi_imp (pi_range2 hg hm ha hs hs2) fun σ H P ⟨S, e, F, B, items, A, hq, k⟩ => by
    obtain ⟨ds, q1, q2⟩ := bind_some2 hq
    refine ⟨S, e, F, B, ds, A, q1, fun vs S1 H1 Fb t1 r1 _ => ?_⟩
    obtain ⟨i, j, rfl, rfl, n1, n2, n3, n4⟩ := rng2Of_ok q2 r1
    exact ⟨i, j, rfl, ⟨by omega, by omega, by omega, by omega⟩, k _ S1 H1 f0 t1 (itok_rng i _ t1.sh) fun a ha => absurd ha (Nat.lt_irrefl 0)⟩
theorem iv_rng1 (hg : Gl X "range") (hm : X.mg "range" = none) (ha : PAv X [a] fs) (hs : starEach [a] X.env = [(false, eval a X.env)] := by rfl) : PIv X tg (.Call (.Name "range" p) [a] [] pos) (vRng rng1Of fs) :=
  pi_imp (pi_range1 hg hm ha hs) fun σ H P ⟨S, e, F, B, items, e', A, hq, k⟩ => by
    obtain ⟨ds, q1, q3⟩ := bind_some2 hq
    obtain ⟨l, q2, q4⟩ := bind_some2 q3
    cases q4
    refine ⟨S, e, F, B, ds.1, ds.2, A, q1, fun vs S1 H1 Fv F1 t1 A1 r1 n m => ?_⟩
    obtain ⟨n, rfl, rfl, n1, n2⟩ := rng1Of_ok q2 r1
    exact ⟨n, rfl, by omega, by omega, k _ S1 H1 F1 f0 (t1.less fun a ha => .inl (by rw [fadd_at]; omega)) A1 (itok_rng 0 _ t1.sh) fun a ha => absurd ha (Nat.lt_irrefl 0)⟩
theorem iv_rng2 (hg : Gl X "range") (hm : X.mg "range" = none) (ha : PAv X [a, b] fs) (hs : starEach [a, b] X.env = [(false, eval a X.env), (false, eval b X.env)] := by rfl) (hs2 : starEach [b] X.env = [(false, eval b X.env)] := by rfl) : PIv X tg (.Call (.Name "range" p) [a, b] [] pos) (vRng rng2Of fs) :=
  pi_imp (pi_range2 hg hm ha hs hs2) fun σ H P ⟨S, e, F, B, items, e', A, hq, k⟩ => by
    obtain ⟨ds, q1, q3⟩ := bind_some2 hq
    obtain ⟨l, q2, q4⟩ := bind_some2 q3
    cases q4
    refine ⟨S, e, F, B, ds.1, ds.2, A, q1, fun vs S1 H1 Fv F1 t1 A1 r1 n m => ?_⟩
    obtain ⟨i, j, rfl, rfl, n1, n2, n3, n4⟩ := rng2Of_ok q2 r1
    exact ⟨i, j, rfl, ⟨by omega, by omega, by omega, by omega⟩, k _ S1 H1 F1 f0 (t1.less fun a ha => .inl (by rw [fadd_at]; omega)) A1 (itok_rng i _ t1.sh) fun a ha => absurd ha (Nat.lt_irrefl 0)⟩
end
end Z

set_option Elab.async false
set_option linter.all false
set_option maxRecDepth 100000
set_option maxHeartbeats 1000000
/-! # Places (a slot, its fields, its items), what changes them -/
namespace Z
open PySem PySem.Spec PyProof.Rows L2

inductive Sp1 where
  | fld (c f : Str)
  | at (k : Nat)
/-- a change at the j-th -/
def modAt (f : D → Option (D × D)) : List D → Nat → Option (D × List D)
  | [], _ => none
  | d :: l, 0 => (f d).bind fun r => some (r.1, r.2 :: l)
  | d :: l, n + 1 => (modAt f l n).bind fun r => some (r.1, d :: r.2)
def modF (f : D → Option (D × D)) (x : Str) : List Str → List D → Option (D × List D)
  | k :: ks, d :: l => if k = x then (f d).bind fun r => some (r.1, r.2 :: l) else (modF f x ks l).bind fun r => some (r.1, d :: r.2)
  | _, _ => none
def modP (f : D → Option (D × D)) : List Sp1 → D → Option (D × D)
  | [], d => f d
  | .fld c x :: p, .ob true c' fs ds => if c' = c then (modF (modP f p) x fs ds).bind fun r => some (r.1, .ob true c' fs r.2) else none
  | .at k :: p, .lst true l => (modAt (modP f p) l k).bind fun r => some (r.1, .lst true r.2)
  | _, _ => none
def PathV (R : RC) (H : Hp) : List Sp1 → V → V → Prop
  | [], v, w => w = v
  | .fld c x :: p, v, w => ∃ a C dx kvs u, v = .ref a ∧ R.mg c = some (.ref C) ∧ H a = some (.ins C dx kvs) ∧ kvs.lookup x = some u ∧ PathV R H p u w
  | .at k :: p, v, w => ∃ a xs u, v = .ref a ∧ H a = some (.lst xs) ∧ xs[k]? = some u ∧ PathV R H p u w
theorem PathV.inj {R : RC} {H : Hp} : ∀ {p : List Sp1} {v w w' : V}, PathV R H p v w → PathV R H p v w' → w' = w
  | [], _, _, _, h, h' => h'.trans h.symm
  | .fld c x :: p, _, _, _, ⟨a, C, dx, kvs, u, e, e1, e2, e3, h⟩, ⟨a', C', dx', kvs', u', e', e1', e2', e3', h'⟩ => by
    rw [e] at e'; cases e'
    rw [e2] at e2'; cases e2'
    rw [e3] at e3'; cases e3'
    exact PathV.inj h h'
  | .at k :: p, _, _, _, ⟨a, xs, u, e, e2, e3, h⟩, ⟨a', xs', u', e', e2', e3', h'⟩ => by
    rw [e] at e'; cases e'
    rw [e2] at e2'; cases e2'
    rw [e3] at e3'; cases e3'
    exact PathV.inj h h'
theorem PathV.ext {R : RC} {H H' : Hp} (x : Ext H H') : ∀ {p : List Sp1} {v w : V}, PathV R H p v w → PathV R H' p v w
  | [], _, _, h => h
  | .fld c f :: p, _, _, ⟨a, C, dx, kvs, u, e, e1, e2, e3, h⟩ => ⟨a, C, dx, kvs, u, e, e1, x _ _ e2, e3, PathV.ext x h⟩
  | .at k :: p, _, _, ⟨a, xs, u, e, e2, e3, h⟩ => ⟨a, xs, u, e, x _ _ e2, e3, PathV.ext x h⟩
/-- the data at a place, the rest; what takes its place stands there -/
def Foc (R : RC) (S H : Hp) (f : D → Option (D × D)) (r : D) (d' : D) (v : V) (F : Fp) (P : V → Prop) : Prop :=
  ∃ d1 v1 F1 Fr d1', f d1 = some (r, d1') ∧ P v1 ∧ rep R S H d1 v1 F1 ∧ (∀ a, F a = F1 a + Fr a) ∧
    ∀ S' H' G G' F1', Stp S H G S' H' G' → (∀ x, 0 < Fr x → G x = 0) → rep R S' H' d1' v1 F1' → rep R S' H' d' v (fadd F1' Fr)
section
variable {R : RC} {S H : Hp} {f : D → Option (D × D)}
def FocL (R : RC) (S H : Hp) (f : D → Option (D × D)) (r : D) (l' : List D) (vs : List V) (F : Fp) (P : V → Prop) : Prop :=
  ∃ d1 v1 F1 Fr d1', f d1 = some (r, d1') ∧ P v1 ∧ rep R S H d1 v1 F1 ∧ (∀ a, F a = F1 a + Fr a) ∧
    ∀ S' H' G G' F1', Stp S H G S' H' G' → (∀ x, 0 < Fr x → G x = 0) → rep R S' H' d1' v1 F1' → reps R S' H' l' vs (fadd F1' Fr)
theorem focL_head {r d' : D} {l : List D} {v : V} {vs : List V} {F1 F2 : Fp} {P : V → Prop} (h : Foc R S H f r d' v F1 P) (h2 : reps R S H l vs F2) : FocL R S H f r (d' :: l) (v :: vs) (fadd F1 F2) P := by
  obtain ⟨d1, v1, G1, Gr, d1', e1, e2, e3, e4, k⟩ := h
  refine ⟨d1, v1, G1, fadd Gr F2, d1', e1, e2, e3, fun a => by rw [fadd_at, fadd_at, e4 a]; omega, fun S' H' G G' F1' t hd hr => ?_⟩
  simp only [reps]
  exact ⟨v, vs, fadd F1' Gr, F2, rfl, k S' H' G G' F1' t (fun x hx => hd x (by rw [fadd_at]; omega)) hr, reps_step t l vs F2 h2 fun x hx => hd x (by rw [fadd_at]; omega), (fadd_assoc ..).symm⟩
theorem focL_tail {r d : D} {l' : List D} {v : V} {vs : List V} {F1 F2 : Fp} {P : V → Prop} (h1 : rep R S H d v F1) (h : FocL R S H f r l' vs F2 P) : FocL R S H f r (d :: l') (v :: vs) (fadd F1 F2) P := by
  obtain ⟨d1, v1, G1, Gr, d1', e1, e2, e3, e4, k⟩ := h
  refine ⟨d1, v1, G1, fadd F1 Gr, d1', e1, e2, e3, fun a => by rw [fadd_at, fadd_at, e4 a]; omega, fun S' H' G G' F1' t hd hr => ?_⟩
  simp only [reps]
  refine ⟨v, vs, F1, fadd F1' Gr, rfl, rep_step t d v F1 h1 fun x hx => hd x (by rw [fadd_at]; omega), k S' H' G G' F1' t (fun x hx => hd x (by rw [fadd_at]; omega)) hr, ?_⟩
  rw [← fadd_assoc, ← fadd_assoc, fadd_comm F1 F1']
theorem modAt_ok {g : D → Option (D × D)} {P : V → V → Prop} (hg : ∀ r d v F d', rep R S H d v F → (∀ a, F a ≤ 1) → g d = some (r, d') → Foc R S H f r d' v F (P v)) : ∀ {l : List D} {vs : List V} {F : Fp} {k : Nat} {r : D} {l' : List D},
    reps R S H l vs F → (∀ a, F a ≤ 1) → modAt g l k = some (r, l') → ∃ v, vs[k]? = some v ∧ FocL R S H f r l' vs F (P v)
  | [], _, _, _, _, _, _, _, e => by cases e
  | d :: l, vs, F, 0, r, l', h, n, e => by
    simp only [reps] at h
    obtain ⟨v, vr, F1, F2, rfl, h1, h2, rfl⟩ := h
    unfold modAt at e
    cases q : g d with
    | none => rw [q] at e; cases e
    | some p =>
      rw [q] at e; cases e
      exact ⟨v, rfl, focL_head (hg p.1 d v F1 p.2 h1 (fun a => by have := n a; rw [fadd_at] at this; omega) q) h2⟩
  | d :: l, vs, F, k + 1, r, l', h, n, e => by
    simp only [reps] at h
    obtain ⟨v, vr, F1, F2, rfl, h1, h2, rfl⟩ := h
    unfold modAt at e
    cases q : modAt g l k with
    | none => rw [q] at e; cases e
    | some p =>
      rw [q] at e; cases e
      obtain ⟨w, e1, e2⟩ := modAt_ok hg h2 (fun a => by have := n a; rw [fadd_at] at this; omega) q
      exact ⟨w, by simpa using e1, focL_tail h1 e2⟩
theorem modF_ok {g : D → Option (D × D)} {P : V → V → Prop} {x : Str} (hg : ∀ r d v F d', rep R S H d v F → (∀ a, F a ≤ 1) → g d = some (r, d') → Foc R S H f r d' v F (P v)) : ∀ {kvs : List (Str × V)} {l : List D} {F : Fp} {r : D} {l' : List D},
    reps R S H l (kvs.map (·.2)) F → (∀ a, F a ≤ 1) → modF g x (kvs.map (·.1)) l = some (r, l') → ∃ v, kvs.lookup x = some v ∧ FocL R S H f r l' (kvs.map (·.2)) F (P v)
  | [], _, _, _, _, _, _, e => by cases e
  | p :: kvs, [], _, _, _, _, _, e => by cases e
  | (k, v) :: kvs, d :: l, F, r, l', h, n, e => by
    simp only [List.map_cons, reps] at h
    obtain ⟨v', vr, F1, F2, e0, h1, h2, rfl⟩ := h
    cases e0
    simp only [List.map_cons, modF] at e
    by_cases z : k = x
    · rw [if_pos z] at e
      cases q : g d with
      | none => rw [q] at e; cases e
      | some p =>
        rw [q] at e; cases e
        exact ⟨v, by rw [z]; exact List.lookup_cons_self, focL_head (hg p.1 d v F1 p.2 h1 (fun a => by have := n a; rw [fadd_at] at this; omega) q) h2⟩
    · rw [if_neg z] at e
      cases q : modF g x (kvs.map (·.1)) l with
      | none => rw [q] at e; cases e
      | some p =>
        rw [q] at e; cases e
        obtain ⟨w, e1, e2⟩ := modF_ok hg h2 (fun a => by have := n a; rw [fadd_at] at this; omega) q
        refine ⟨w, ?_, focL_tail h1 e2⟩
        have hb : (x == k) = false := beq_eq_false_iff_ne.mpr fun e => z e.symm
        rw [List.lookup_cons, hb]; exact e1
theorem modP_ok (sh : Ext S H) : ∀ (p : List Sp1) (r d : D) (v : V) (F : Fp) (d' : D), rep R S H d v F → (∀ a, F a ≤ 1) → modP f p d = some (r, d') → Foc R S H f r d' v F (PathV R H p v)
  | [], r, d, v, F, d', h, n, e => by
    refine ⟨d, v, F, f0, d', by simpa [modP] using e, rfl, h, fun a => rfl, fun S' H' G G' F1' t hd hr => by rw [fadd_f0]; exact hr⟩
  | .fld c x :: p, r, d, v, F, d', h, n, e => by
    cases d <;> try (simp only [modP] at e; cases e; done)
    case ob o c' fs ds =>
      cases o <;> simp only [modP] at e <;> try (cases e; done)
      split at e
      case isFalse => cases e
      case isTrue hz =>
        subst hz
        cases q : modF (modP f p) x fs ds with
        | none => rw [q] at e; cases e
        | some w =>
          rw [q] at e; cases e
          simp only [rep] at h
          obtain ⟨a, C, dx, kvs, F', rfl, hC, ⟨h1, h2, rfl⟩, h3, h4⟩ := h
          subst h3
          obtain ⟨u, e1, d1, v1, G1, Gr, d1', g1, g2, g3, g4, g5⟩ := modF_ok (P := fun v w => PathV R H p v w) (fun r d v F d' hr hn hm => modP_ok sh p r d v F d' hr hn hm) h4 (fun b => by have := n b; rw [fadd_at] at this; omega) q
          refine ⟨d1, v1, G1, fadd (f1 a) Gr, d1', g1, ⟨a, C, dx, kvs, u, rfl, hC, h1, e1, g2⟩, g3, fun b => by rw [fadd_at, fadd_at, g4 b]; omega, fun S' H' G G' F1' t hd hr => ?_⟩
          have ga : G a = 0 := hd a (by rw [fadd_at, f1_same]; omega)
          simp only [rep]
          refine ⟨a, C, dx, kvs, fadd F1' Gr, rfl, hC, ⟨t.kp a _ h1 (.inl ga), ?_, ?_⟩, rfl, g5 S' H' G G' F1' t (fun b hb => hd b (by rw [fadd_at]; omega)) hr⟩
          · cases z : S' a with
            | none => rfl
            | some o =>
              rcases t.st a o z with y | y | y
              · rw [h2] at y; cases y
              · omega
              · rw [h1] at y; cases y
          · rw [← fadd_assoc, ← fadd_assoc, fadd_comm (f1 a) F1']
  | .at k :: p, r, d, v, F, d', h, n, e => by
    cases d <;> try (simp only [modP] at e; cases e; done)
    case lst o l =>
      cases o <;> simp only [modP] at e <;> try (cases e; done)
      cases q : modAt (modP f p) l k with
      | none => rw [q] at e; cases e
      | some w =>
        rw [q] at e; cases e
        simp only [rep] at h
        obtain ⟨a, vs, F', rfl, ⟨h1, h2, rfl⟩, h4⟩ := h
        obtain ⟨u, e1, d1, v1, G1, Gr, d1', g1, g2, g3, g4, g5⟩ := modAt_ok (P := fun v w => PathV R H p v w) (fun r d v F d' hr hn hm => modP_ok sh p r d v F d' hr hn hm) h4 (fun b => by have := n b; rw [fadd_at] at this; omega) q
        refine ⟨d1, v1, G1, fadd (f1 a) Gr, d1', g1, ⟨a, vs, u, rfl, h1, e1, g2⟩, g3, fun b => by rw [fadd_at, fadd_at, g4 b]; omega, fun S' H' G G' F1' t hd hr => ?_⟩
        have ga : G a = 0 := hd a (by rw [fadd_at, f1_same]; omega)
        simp only [rep]
        refine ⟨a, vs, fadd F1' Gr, rfl, ⟨t.kp a _ h1 (.inl ga), ?_, ?_⟩, g5 S' H' G G' F1' t (fun b hb => hd b (by rw [fadd_at]; omega)) hr⟩
        · cases z : S' a with
          | none => rfl
          | some o =>
            rcases t.st a o z with y | y | y
            · rw [h2] at y; cases y
            · omega
            · rw [h1] at y; cases y
        · rw [← fadd_assoc, ← fadd_assoc, fadd_comm (f1 a) F1']
end
end Z

set_option Elab.async false
set_option linter.all false
set_option maxRecDepth 100000
set_option maxHeartbeats 1000000
/-! # Methods and stores that change what stands at a place -/
namespace Z
open PySem PySem.Spec PyProof.Rows L2

def updE (e : En) (i : Nat) (p : List Sp1) (f : D → Option (D × D)) : Option (D × En) := match e[i]? with
  | some (.ow d0) => (modP f p d0).bind fun r => some (r.1, e.set i (.ow r.2))
  | _ => none
section
variable {R : RC} {S H : Hp} {σ : L2.St} {e e' : En} {F B : Fp}
theorem At.upd {i : Nat} {p : List Sp1} {f : D → Option (D × D)} {r : D} (A : At R S H σ e F B) (hu : updE e i p f = some (r, e')) :
    ∃ v0 d1 v1 F1 Fr d1', σ[i]? = some (some v0) ∧ PathV R H p v0 v1 ∧ f d1 = some (r, d1') ∧ rep R S H d1 v1 F1 ∧ (∀ a, F a = F1 a + Fr a) ∧
      ∀ S' H' G G' F1', Stp S H G S' H' G' → (∀ x, 0 < Fr x + B x → G x = 0) → rep R S' H' d1' v1 F1' → (∀ a, F1' a + Fr a + B a ≤ 1) → Muf H' F1' → At R S' H' σ e' (fadd F1' Fr) B := by
  unfold updE at hu
  cases q : e[i]? with
  | none => rw [q] at hu; cases hu
  | some s =>
    rw [q] at hu
    cases s with
    | no => cases hu
    | lk d => cases hu
    | ow d0 =>
      simp only at hu
      cases qm : modP f p d0 with
      | none => rw [qm] at hu; cases hu
      | some w =>
        obtain ⟨r0, d'⟩ := w
        rw [qm] at hu
        simp only [Option.bind_some, Option.some.injEq, Prod.mk.injEq] at hu
        obtain ⟨rfl, rfl⟩ := hu
        obtain ⟨o, Fi, Bi, Fr0, Br, g1, g2, g3, g4, g5⟩ := A.re.get q
        obtain ⟨⟨v0, rfl, rp⟩, hb⟩ := g2
        have hB : Br = B := by rw [g4, hb, f0_fadd]
        obtain ⟨d1, v1, F1, Frp, d1', k1, k2, k3, k4, k5⟩ := modP_ok A.sh p r0 d0 v0 Fi d' rp (fun a => by have := A.nd a; rw [g3, fadd_at] at this; omega) qm
        refine ⟨v0, d1, v1, F1, fadd Frp Fr0, d1', g1, k2, k1, k3, fun a => by rw [g3, fadd_at, fadd_at, k4 a]; omega, fun S' H' G G' F1' t hd hr hn hm => ?_⟩
        have r' := k5 S' H' G G' F1' t (fun x hx => hd x (by rw [fadd_at]; omega)) hr
        have re := g5 S' H' G G' t (fun x hx => hd x (by rw [fadd_at]; rw [hB] at hx; omega)) (some v0) (.ow d') (fadd F1' Frp) f0 ⟨⟨v0, rfl, r'⟩, rfl⟩
        rw [set_self g1, f0_fadd, hB, fadd_assoc] at re
        refine ⟨⟨t.sh, re⟩, fun a => by have := hn a; rw [fadd_at]; omega, fun a ha => ?_⟩
        rw [fadd_at] at ha
        rcases Nat.eq_zero_or_pos (F1' a) with z | z
        · have old : 0 < F a := by rw [g3, fadd_at, k4 a]; rw [fadd_at] at ha; omega
          exact Muf.step (F := fadd Frp Fr0) (fun b hb => A.mu b (by rw [g3, fadd_at, k4 b]; rw [fadd_at] at hb; omega)) t (fun x hx => hd x (by omega)) a (by omega)
        · exact hm a z
end

/-- a change by values: the receiver, the arguments -/
def MuD (R : RC) (r : V → List V → Hp → VK → Prop) (mu : D → List D → Option (D × D)) : Prop := ∀ (S H : Hp) (x : V) (vs : List V) (dx : D) (ds : List D) (Fx Fv : Fp) (d dx' : D) (Q : VK), Ext S H → rep R S H dx x Fx → reps R S H ds vs Fv →
  (∀ a, Fx a + Fv a ≤ 1) → Muf H Fx → Muf H Fv → mu dx ds = some (d, dx') →
  (∀ v S' H' Fd Fx', Stp S H (fadd Fx Fv) S' H' (fadd Fd Fx') → rep R S' H' d v Fd → rep R S' H' dx' x Fx' → (∀ a, Fd a + Fx' a ≤ 1) → Muf H' Fd → Muf H' Fx' → Q v H') → r x vs H Q
def MuOk (X : Cx) (id : String) (mu : D → List D → Option (D × D)) : Prop := ∃ r, MtR X id r ∧ MuD (Cx.R X) r mu
def isTy (T : String) : D → Bool
  | .lst _ _ => T == "list"
  | .dk true _ _ => T == "dict"
  | .str _ => T == "str"
  | _ => false
theorem isTy_ok {R : RC} {S H : Hp} {T : String} {d : D} {v : V} {F : Fp} (sh : Ext S H) (h : rep R S H d v F) (t : isTy T d = true) : tyV R.K T v H := by
  cases d <;> try (simp only [isTy] at t; cases t; done)
  case str s =>
    simp only [rep] at h
    simp only [isTy, beq_iff_eq] at t
    rw [h.1]; exact t
  case lst o l =>
    simp only [isTy, beq_iff_eq] at t
    simp only [rep] at h
    obtain ⟨a, vs, F', rfl, h1, h2⟩ := h
    exact .inl ⟨t, vs, .inl (h1.rq sh).rd⟩
  case dk o ks ds =>
    cases o <;> simp only [isTy] at t
    · cases t
    simp only [beq_iff_eq] at t
    simp only [rep] at h
    obtain ⟨a, vs, F', rfl, h1, h2⟩ := h
    exact .inr (.inr (.inl ⟨t, .inl ⟨vs, h1.1⟩⟩))

/-! ### a method of a name's data, the arguments may change other names' -/
def vMeth (T : String) (i : Nat) (mu : D → List D → Option (D × D)) (fs : En → Option (List D × En)) (e : En) : Option (D × En) := match e[i]? with
  | some (.ow d0) => if isTy T d0 = true then (fs e).bind fun p => updE p.2 i [] fun d => mu d p.1 else none
  | _ => none
section
variable {X : Cx}
theorem semV_meth {T : String} {i : Nat} {r : V → List V → Hp → VK → Prop} {mu : D → List D → Option (D × D)} (hm : MuD (Cx.R X) r mu) {fs : En → Option (List D × En)} (σ : L2.St) (H : Hp) (Q : VK) (w : semV (Cx.R X) (vMeth T i mu fs) σ H Q) :
    tBM X.K T r (tVar i) (semVs (Cx.R X) fs) σ H Q := by
  obtain ⟨S, e, F, B, d, e', A, hg, k⟩ := w
  unfold vMeth at hg
  cases q : e[i]? with
  | none => rw [q] at hg; cases hg
  | some s =>
    rw [q] at hg
    cases s with
    | no => cases hg
    | lk d => cases hg
    | ow d0 =>
      simp only at hg
      split at hg
      case isFalse => cases hg
      case isTrue hz =>
        obtain ⟨o, Fi, Bi, Fr, Br, g1, g2, g3, g4, g5⟩ := A.re.get q
        obtain ⟨⟨v0, rfl, rp⟩, hb⟩ := g2
        cases q2 : fs e with
        | none => rw [q2] at hg; cases hg
        | some p =>
          obtain ⟨ds, e1⟩ := p
          rw [q2] at hg
          simp only [Option.bind_some] at hg
          refine ⟨v0, g1, isTy_ok A.sh rp hz, S, e, F, B, ds, e1, A, q2, fun vs S1 H1 Fv F1 t1 A1 r1 n1 m1 => ?_⟩
          obtain ⟨v0', d1, v1, G1, Gr, d1', h1, h2, h3, h4, h5, h6⟩ := A1.upd hg
          rw [g1] at h1; cases h1
          have h2 : v1 = v0 := h2
          subst h2
          refine hm S1 H1 v1 vs d1 ds G1 Fv d d1' Q A1.sh h4 r1 (fun a => by have := n1 a; have := h5 a; omega) (fun a ha => A1.mu a (by have := h5 a; omega)) m1 h3 fun v S2 H2 Fd Fx t2 rd rx nd md mx => ?_
          have out : ∀ x, 0 < Gr x + B x → fadd G1 Fv x = 0 := fun x hx => by
            rw [fadd_at]
            have := n1 x; have := h5 x; omega
          have new : ∀ x, 0 < Fd x + Fx x → Gr x + B x = 0 := fun x hx => by
            rcases t2.ft x (by rw [fadd_at]; exact hx) with y | y
            · rw [fadd_at] at y; have := n1 x; have := h5 x; omega
            · rcases Nat.eq_zero_or_pos (Gr x + B x) with z | z
              · exact z
              · exact absurd y (A1.toAt0.old (by have := h5 x; omega))
          have A2 := h6 S2 H2 _ _ Fx t2 out rx (fun a => by
            rcases Nat.eq_zero_or_pos (Fd a + Fx a) with z | z
            · have := A1.nd a; have := h5 a; omega
            · have := new a z; have := nd a; omega) mx
          refine k v S2 H2 Fd (fadd Fx Gr) ?_ A2 rd (fun a => ?_) md
          · have T2 := t2.frame Gr
            have e1 : fadd Gr (fadd Fd Fx) = fadd Fd (fadd Fx Gr) := by rw [fadd_comm, fadd_assoc]
            have e2 : fadd Gr (fadd G1 Fv) = fadd Fv F1 := by funext x; simp only [fadd_at]; have := h5 x; omega
            rw [e1, e2] at T2
            exact t1.trans T2
          · rw [fadd_at]
            rcases Nat.eq_zero_or_pos (Fd a + Fx a) with z | z
            · have := A1.nd a; have := h5 a; omega
            · have := new a z; have := nd a; omega
theorem v_bm {T id : String} {name x : Str} {i : Nat} {mu : D → List D → Option (D × D)} {fs : En → Option (List D × En)} {e : Expr} {es : List Expr} {npos apos cpos : Pos} (pa : PlainAttrs T) (slot : Slot T name id) (hty : typeOf (.builtin id) = pure (.type "method_descriptor")) (hm : MuOk X id mu)
    (hN : X.N[i]? = some x) (hv : Vis X.env.scope x) (ha : PAv X (e :: es) fs) (hd : (x == ("__debug__" : Str)) = false := by decide) (hcd : (x == ("__classdict__" : Str)) = false := by decide)
    (hbase : attributeBase (.Name x npos) name X.env (eval (.Name x npos) X.env) = eval (.Name x npos) X.env := by rfl)
    (hfew : ((backTo cpos (starEach (e :: es) X.env)).all (fun x => !x.1) && (backToKw cpos (keywordEach [] X.env)).all (fun x => x.1.isSome)
      && decide ((e :: es).length + ([] : List Keyword).length + (if ([] : List Keyword).isEmpty then 0 else 1) < 30)) = true := by rfl)
    (hline : (apos.endLine == cpos.line) = true := by rfl) (hs : starEach (e :: es) X.env = (false, eval e X.env) :: starEach es X.env := by rfl) (hplain : (backTo cpos (starEach es X.env)).any (·.1) = false := by rfl) :
    PEv X (.Call (.Attribute (.Name x npos) name apos) (e :: es) [] cpos) (vMeth T i mu fs) := by
  obtain ⟨r, h1, h2⟩ := hm
  exact pe_imp (pe_bm pa slot hty h1 (pe_var hN hv hd hcd) ha hbase hfew hline hs hplain) (semV_meth h2)
theorem v_bm0 {T id : String} {name x : Str} {i : Nat} {mu : D → List D → Option (D × D)} {npos apos cpos : Pos} (pa : PlainAttrs T) (slot : Slot T name id) (hty : typeOf (.builtin id) = pure (.type "method_descriptor")) (hm : MuOk X id mu)
    (hN : X.N[i]? = some x) (hv : Vis X.env.scope x) (hd : (x == ("__debug__" : Str)) = false := by decide) (hcd : (x == ("__classdict__" : Str)) = false := by decide)
    (hbase : attributeBase (.Name x npos) name X.env (eval (.Name x npos) X.env) = eval (.Name x npos) X.env := by rfl) (hline : (apos.endLine == cpos.line) = true := by rfl) :
    PEv X (.Call (.Attribute (.Name x npos) name apos) [] [] cpos) (vMeth T i mu vsNil) := by
  obtain ⟨r, h1, h2⟩ := hm
  refine pe_imp (pe_bm0 pa slot hty h1 (pe_var hN hv hd hcd) hbase hline) fun σ H Q w => ?_
  obtain ⟨v, g1, ty, S, e, F, B, ds, e', A, hq, k⟩ := semV_meth h2 σ H Q w
  cases hq
  exact ⟨v, g1, ty, k [] S H f0 F (by rw [f0_fadd]; exact .refl A.sh) A (by simp only [reps]; exact ⟨trivial, trivial⟩) (fun x => by have := A.nd x; rw [f0_at]; omega) .zero⟩
end
end Z

set_option Elab.async false
set_option linter.all false
set_option maxRecDepth 100000
set_option maxHeartbeats 1000000
/-! # The changes: lists, dicts -/
namespace Z
open PySem PySem.Spec PyProof.Rows L2

section
variable {R : RC} {S H : Hp}
theorem reps_erase : ∀ {l : List D} {vs : List V} {F : Fp} {j : Nat} {d : D}, reps R S H l vs F → l[j]? = some d → ∃ v Fi Fr, vs[j]? = some v ∧ rep R S H d v Fi ∧ reps R S H (l.eraseIdx j) (vs.eraseIdx j) Fr ∧ ∀ a, F a = Fi a + Fr a
  | [], _, _, j, d, _, hi => by simp at hi
  | d0 :: l, vs, F, 0, d, h, hi => by
    simp only [reps] at h
    obtain ⟨v, vr, F1, F2, rfl, h1, h2, rfl⟩ := h
    simp only [List.getElem?_cons_zero, Option.some.injEq] at hi
    subst hi
    exact ⟨v, F1, F2, rfl, h1, h2, fun a => rfl⟩
  | d0 :: l, vs, F, j + 1, d, h, hi => by
    simp only [reps] at h
    obtain ⟨v, vr, F1, F2, rfl, h1, h2, rfl⟩ := h
    simp only [List.getElem?_cons_succ] at hi
    obtain ⟨w, Fi, Fr, g1, g2, g3, g4⟩ := reps_erase h2 hi
    refine ⟨w, Fi, fadd F1 Fr, by simpa using g1, g2, ?_, fun a => by rw [fadd_at, fadd_at, g4 a]; omega⟩
    rw [List.eraseIdx_cons_succ, List.eraseIdx_cons_succ]
    simp only [reps]
    exact ⟨v, vr.eraseIdx j, F1, Fr, rfl, h1, g3, rfl⟩
theorem reps_set {d' : D} {v' : V} {F' : Fp} (h' : rep R S H d' v' F') : ∀ {l : List D} {vs : List V} {F : Fp} {j : Nat}, reps R S H l vs F → j < l.length → ∃ Fi Fr : Fp, reps R S H (l.set j d') (vs.set j v') (fadd F' Fr) ∧ ∀ a, F a = Fi a + Fr a
  | [], _, _, j, _, hi => by simp at hi
  | d0 :: l, vs, F, 0, h, hi => by
    simp only [reps] at h
    obtain ⟨v, vr, F1, F2, rfl, h1, h2, rfl⟩ := h
    refine ⟨F1, F2, ?_, fun a => rfl⟩
    rw [List.set_cons_zero, List.set_cons_zero]
    simp only [reps]
    exact ⟨v', vr, F', F2, rfl, h', h2, rfl⟩
  | d0 :: l, vs, F, j + 1, h, hi => by
    simp only [reps] at h
    obtain ⟨v, vr, F1, F2, rfl, h1, h2, rfl⟩ := h
    obtain ⟨Fi, Fr, g3, g4⟩ := reps_set h' (j := j) h2 (by simpa using hi)
    refine ⟨Fi, fadd F1 Fr, ?_, fun a => by rw [fadd_at, fadd_at, g4 a]; omega⟩
    rw [List.set_cons_succ, List.set_cons_succ]
    simp only [reps]
    refine ⟨v, vr.set j v', F1, fadd F' Fr, rfl, h1, g3, ?_⟩
    rw [← fadd_assoc, ← fadd_assoc, fadd_comm F' F1]
theorem reps_split : ∀ {l m : List D} {vs : List V} {F : Fp}, reps R S H (l ++ m) vs F → ∃ v1 v2 F1 F2, vs = v1 ++ v2 ∧ v1.length = l.length ∧ reps R S H l v1 F1 ∧ reps R S H m v2 F2 ∧ F = fadd F1 F2
  | [], m, vs, F, h => ⟨[], vs, f0, F, rfl, rfl, by simp only [reps]; exact ⟨trivial, trivial⟩, h, (f0_fadd F).symm⟩
  | d :: l, m, vs, F, h => by
    change reps R S H (d :: (l ++ m)) vs F at h
    simp only [reps] at h
    obtain ⟨v, vr, F1, F2, rfl, h1, h2, rfl⟩ := h
    obtain ⟨v1, v2, G1, G2, rfl, e, k1, k2, rfl⟩ := reps_split h2
    refine ⟨v :: v1, v2, fadd F1 G1, G2, rfl, by simp [e], ?_, k2, (fadd_assoc ..).symm⟩
    simp only [reps]
    exact ⟨v, v1, F1, G1, rfl, h1, k1, rfl⟩
/-- one object is written: what stands in it now is what stood in it and what came, but for what is handed out -/
theorem mu_done {a : Addr} {u u' : HO} {d dx' : D} {v : V} {F' Fv Fd F2 : Fp} {Q : VK} (sh : Ext S H) (h1 : H a = some u) (h2 : S a = none) (mu : Mut (some u)) (mu' : Mut (some u')) (nd : ∀ b, fadd (f1 a) F' b + Fv b ≤ 1) (mx : Muf H (fadd (f1 a) F')) (mv : Muf H Fv)
    (rd : rep R S H d v Fd) (hs : ∀ b, Fd b + F2 b ≤ F' b + Fv b) (rx : ∀ S', Stp S H (f1 a) S' (upd H a u') (f1 a) → S' a = none → (∀ b, 0 < F2 b → f1 a b = 0) → rep R S' (upd H a u') dx' (.ref a) (fadd (f1 a) F2))
    (k : ∀ v S' H' Fd Fx', Stp S H (fadd (fadd (f1 a) F') Fv) S' H' (fadd Fd Fx') → rep R S' H' d v Fd → rep R S' H' dx' (.ref a) Fx' → (∀ a, Fd a + Fx' a ≤ 1) → Muf H' Fd → Muf H' Fx' → Q v H') : Q v (upd H a u') := by
  have W := Stp.write (o' := u') sh h1 mu h2
  have off : ∀ b, 0 < F' b + Fv b → f1 a b = 0 := fun b hb => by have := nd b; rw [fadd_at] at this; omega
  have offd : ∀ b, 0 < Fd b → f1 a b = 0 := fun b hb => off b (by have := hs b; omega)
  have off2 : ∀ b, 0 < F2 b → f1 a b = 0 := fun b hb => off b (by have := hs b; omega)
  have md : Muf H (fadd F' Fv) := Muf.add (fun b hb => mx b (by rw [fadd_at]; omega)) mv
  refine k v S _ Fd (fadd (f1 a) F2) ?_ (rep_step W d v Fd rd offd) (rx S W h2 off2) (fun b => ?_) (Muf.step (fun b hb => md b (by rw [fadd_at]; have := hs b; omega)) W offd)
    ((Muf.one upd_same mu').add (Muf.step (fun b hb => md b (by rw [fadd_at]; have := hs b; omega)) W off2))
  · have T := (W.frame (fadd F' Fv)).weak (G := fadd (fadd (f1 a) F') Fv) fun b hb => by simp only [fadd_at] at hb ⊢; omega
    exact T.less fun b hb => .inl (by simp only [fadd_at] at hb ⊢; have := hs b; omega)
  · have := nd b; have := hs b; rw [fadd_at] at *; omega
theorem mu_lst {a : Addr} {xs ys : List V} {d : D} {l' : List D} {v : V} {F' Fv Fd F2 : Fp} {Q : VK} (sh : Ext S H) (h1 : H a = some (.lst xs)) (h2 : S a = none) (nd : ∀ b, fadd (f1 a) F' b + Fv b ≤ 1) (mx : Muf H (fadd (f1 a) F')) (mv : Muf H Fv)
    (rd : rep R S H d v Fd) (hs : ∀ b, Fd b + F2 b ≤ F' b + Fv b) (r : reps R S H l' ys F2)
    (k : ∀ v S' H' Fd Fx', Stp S H (fadd (fadd (f1 a) F') Fv) S' H' (fadd Fd Fx') → rep R S' H' d v Fd → rep R S' H' (.lst true l') (.ref a) Fx' → (∀ a, Fd a + Fx' a ≤ 1) → Muf H' Fd → Muf H' Fx' → Q v H') : Q v (upd H a (.lst ys)) :=
  mu_done (u' := .lst ys) sh h1 h2 True.intro True.intro nd mx mv rd hs (fun S' W n off => by
    simp only [rep]
    exact ⟨a, ys, F2, rfl, ⟨upd_same, n, rfl⟩, reps_step W l' ys F2 r off⟩) k
end

def mAppend (d : D) (ds : List D) : Option (D × D) := match d, ds with
  | .lst true l, [x] => if l.length < lim then some (.non, .lst true (l ++ [x])) else none
  | _, _ => none
def mPop (d : D) (ds : List D) : Option (D × D) := match d, ds with
  | .lst true l, [] => (l[l.length - 1]?).bind fun x => some (x, .lst true l.dropLast)
  | _, _ => none
def mPopAt (d : D) (ds : List D) : Option (D × D) := match d, ds with
  | .lst true l, [.int i] => if -1000000000 ≤ i ∧ i ≤ 1000000000 then (ixN l.length i).bind fun j => (l[j]?).bind fun x => some (x, .lst true (l.eraseIdx j)) else none
  | _, _ => none
/-- l[i] = x -/
def mSetL (d : D) (ds : List D) : Option (D × D) := match d, ds with
  | .lst true l, [.int i, x] => (ixN l.length i).bind fun j => some (.non, .lst true (l.set j x))
  | _, _ => none
/-- insert, from the front -/
def mInsert (d : D) (ds : List D) : Option (D × D) := match d, ds with
  | .lst true l, [.int i, x] => if 0 ≤ i ∧ i ≤ 1000000000 ∧ l.length < lim then some (.non, .lst true (l.take i.toNat ++ [x] ++ l.drop i.toNat)) else none
  | _, _ => none
section
variable {X : Cx}
theorem mu_append : MuOk X "list.append" mAppend := by
  refine ⟨rAppend, mt_append, fun S H x vs dx ds Fx Fv d dx' Q sh rx rv nd mx mv hd k => ?_⟩
  unfold mAppend at hd
  split at hd
  · split at hd
    case isFalse => cases hd
    case isTrue hz =>
      cases hd
      obtain ⟨v, rfl, r1⟩ := reps1 rv
      simp only [rep] at rx
      obtain ⟨a, xs, F', rfl, ⟨h1, h2, rfl⟩, h3⟩ := rx
      exact ⟨a, xs, v, rfl, rfl, h1, by rw [reps_len h3]; exact Nat.lt_trans hz lim_lt, mu_lst sh h1 h2 nd mx mv (repN ..) (fun b => by rw [f0_at, fadd_at]; omega) (reps_append h3 (reps_one r1)) k⟩
  · cases hd
theorem reps_dropLast {R : RC} {S H : Hp} {l : List D} {vs : List V} {F : Fp} {d : D} (h : reps R S H l vs F) (hd : l[l.length - 1]? = some d) : ∃ v Fi Fr, vs[vs.length - 1]? = some v ∧ rep R S H d v Fi ∧ reps R S H l.dropLast vs.dropLast Fr ∧ ∀ a, F a = Fi a + Fr a := by
  obtain ⟨v, Fi, Fr, g1, g2, g3, g4⟩ := reps_erase h hd
  have e := reps_len h
  rw [List.eraseIdx_length_sub_one] at g3
  rw [← e, List.eraseIdx_length_sub_one] at g3
  exact ⟨v, Fi, Fr, by rw [e]; exact g1, g2, g3, g4⟩
theorem mu_pop : MuOk X "list.pop" mPop := by
  refine ⟨rPop, mt_pop, fun S H x vs dx ds Fx Fv d dx' Q sh rx rv nd mx mv hd k => ?_⟩
  unfold mPop at hd
  split at hd
  · obtain ⟨y, q, e⟩ := bind_some2 hd
    cases e
    simp only [reps] at rv
    obtain ⟨rfl, rfl⟩ := rv
    simp only [rep] at rx
    obtain ⟨a, xs, F', rfl, ⟨h1, h2, rfl⟩, h3⟩ := rx
    obtain ⟨v, Fi, Fr, g1, g2, g3, g4⟩ := reps_dropLast h3 q
    exact ⟨a, xs, v, rfl, rfl, h1, g1, mu_lst sh h1 h2 nd mx mv g2 (fun b => by have := g4 b; omega) g3 k⟩
  · cases hd
theorem mu_popAt : MuOk X "list.pop" mPopAt := by
  refine ⟨rPopAt, mt_popAt, fun S H x vs dx ds Fx Fv d dx' Q sh rx rv nd mx mv hd k => ?_⟩
  unfold mPopAt at hd
  split at hd
  · split at hd
    case isFalse => cases hd
    case isTrue hz =>
      obtain ⟨j, q1, e⟩ := bind_some2 hd
      obtain ⟨y, q, e⟩ := bind_some2 e
      cases e
      obtain ⟨v0, rfl, r1⟩ := reps1 rv
      simp only [rep] at rx r1
      obtain ⟨a, xs, F', rfl, ⟨h1, h2, rfl⟩, h3⟩ := rx
      obtain ⟨v, Fi, Fr, g1, g2, g3, g4⟩ := reps_erase h3 q
      exact ⟨a, xs, _, j, v, rfl, by rw [r1.1], h1, by omega, by omega, by rw [reps_len h3]; exact (ixN_seq q1).1, g1, mu_lst sh h1 h2 nd mx mv g2 (fun b => by have := g4 b; omega) g3 k⟩
  · cases hd
theorem mu_insert : MuOk X "list.insert" mInsert := by
  refine ⟨_, mt_insert, fun S H x vs dx ds Fx Fv d dx' Q sh rx rv nd mx mv hd k => ?_⟩
  unfold mInsert at hd
  split at hd
  · split at hd
    case isFalse => cases hd
    case isTrue hz =>
      cases hd
      rename_i l i y
      simp only [reps] at rv
      obtain ⟨v0, vr, G1, G2, rfl, w1, ⟨v, vr', G3, G4, rfl, w2, ⟨rfl, rfl⟩, rfl⟩, rfl⟩ := rv
      simp only [rep] at rx w1
      obtain ⟨rfl, rfl⟩ := w1
      obtain ⟨a, xs, F', rfl, ⟨h1, h2, rfl⟩, h3⟩ := rx
      have h3' := h3
      rw [← List.take_append_drop i.toNat l] at h3'
      obtain ⟨v1, v2, F1, F2, e, el, k1, k2, rfl⟩ := reps_split h3'
      refine ⟨a, xs, i, v, rfl, rfl, h1, by rw [reps_len h3]; exact Nat.lt_trans hz.2.2 lim_lt, hz.1, by omega, ?_⟩
      have e1 : xs.take i.toNat = v1 := by
        rw [e]
        rw [List.length_take] at el
        rcases Nat.lt_or_ge i.toNat l.length with z | z
        · rw [List.take_append_of_le_length (by omega), List.take_of_length_le (by omega)]
        · have : v2 = [] := by
            have := reps_len k2; rw [List.length_drop] at this
            exact List.eq_nil_of_length_eq_zero (by omega)
          rw [this, List.append_nil, List.take_of_length_le (by omega)]
      have e2 : xs.drop i.toNat = v2 := by
        have q : xs.take i.toNat ++ xs.drop i.toNat = v1 ++ v2 := by rw [List.take_append_drop, e]
        rw [e1] at q
        exact List.append_cancel_left q
      rw [e1, e2]
      refine mu_lst sh h1 h2 nd mx mv (repN ..) (F2 := fadd (fadd F1 G3) F2) (fun b => ?_) (reps_append (reps_append k1 (reps_one w2)) k2) k
      simp only [fadd_at, f0_at]; omega
  · cases hd
/-- a store by values, as a change -/
def rSet (t : TSet) : V → List V → Hp → VK → Prop := fun x vs H Q => ∃ i v, vs = [i, v] ∧ t x i v H fun H' => Q .non H'
def StOk (X : Cx) (mu : D → List D → Option (D × D)) : Prop := ∃ t, PSet X t ∧ MuD (Cx.R X) (rSet t) mu
theorem st_lst : StOk X mSetL := by
  refine ⟨rSetL, set_list, fun S H x vs dx ds Fx Fv d dx' Q sh rx rv nd mx mv hd k => ?_⟩
  unfold mSetL at hd
  split at hd
  · obtain ⟨j, q1, e⟩ := bind_some2 hd
    cases e
    simp only [reps] at rv
    obtain ⟨v0, vr, G1, G2, rfl, w1, ⟨v, vr', G3, G4, rfl, w2, ⟨rfl, rfl⟩, rfl⟩, rfl⟩ := rv
    simp only [rep] at rx w1
    obtain ⟨rfl, rfl⟩ := w1
    obtain ⟨a, xs, F', rfl, ⟨h1, h2, rfl⟩, h3⟩ := rx
    obtain ⟨Fi, Fr, g1, g2⟩ := reps_set w2 (j := j) h3 (ixN_seq q1).2.1
    refine ⟨_, v, rfl, a, xs, _, j, rfl, rfl, h1, by rw [reps_len h3]; exact q1, ?_⟩
    exact mu_lst sh h1 h2 nd mx mv (repN ..) (F2 := fadd G3 Fr) (fun b => by have := g2 b; simp only [fadd_at, f0_at]; omega) g1 k
  · cases hd
end
end Z

set_option Elab.async false
set_option linter.all false
set_option maxRecDepth 100000
set_option maxHeartbeats 1000000
/-! # The changes: dicts -/
namespace Z
open PySem PySem.Spec PyProof.Rows L2

def repD {κ : Type} [DecidableEq κ] (k : κ) (d : D) : List κ → List D → List D
  | x :: ks, y :: ds => (if x = k then d else y) :: repD k d ks ds
  | _, _ => []
def dropD {κ : Type} [DecidableEq κ] (k : κ) : List κ → List D → List D
  | x :: ks, y :: ds => if x = k then dropD k ks ds else y :: dropD k ks ds
  | _, _ => []
/-- where a key has an entry, the entry is frozen -/
def putD {κ : Type} [DecidableEq κ] (k : κ) (d : D) (ks : List κ) (ds : List D) : Option (List κ × List D) :=
  if k ∈ ks then (if isFz d = true then some (ks, repD k d ks ds) else none) else some (ks ++ [k], ds ++ [d])
section
variable {R : RC} {S H : Hp} {κ : Type} [DecidableEq κ]
theorem any_mem (kvs : List (κ × V)) (k : κ) : (kvs.any fun kv => decide (kv.1 = k)) = decide (k ∈ kvs.map (·.1)) := by
  induction kvs with
  | nil => rfl
  | cons p kvs ih =>
    rw [List.any_cons, ih, List.map_cons]
    by_cases h : p.1 = k
    · simp [h]
    · have h' : ¬ k = p.1 := fun e => h e.symm
      simp [h, h']
theorem reps_repD {d : D} {v : V} (hd : rep R S H d v f0) (k : κ) : ∀ {kvs : List (κ × V)} {ds : List D} {F : Fp}, reps R S H ds (kvs.map (·.2)) F → ∃ F2 : Fp, reps R S H (repD k d (kvs.map (·.1)) ds) ((kvs.map fun kv => if kv.1 = k then (kv.1, v) else kv).map (·.2)) F2 ∧ ∀ a, F2 a ≤ F a
  | [], ds, F, h => by
    cases ds with
    | nil => exact ⟨F, h, fun _ => Nat.le_refl _⟩
    | cons d l => simp [reps] at h
  | (x, w) :: kvs, [], F, h => by simp [reps] at h
  | (x, w) :: kvs, y :: ds, F, h => by
    simp only [List.map_cons, reps] at h
    obtain ⟨v', vr, F1, F2, e, h1, h2, rfl⟩ := h
    cases e
    obtain ⟨G, g1, g2⟩ := reps_repD hd k h2
    by_cases z : x = k
    · refine ⟨G, ?_, fun a => by have := g2 a; rw [fadd_at]; omega⟩
      simp only [List.map_cons, repD, if_pos z, reps]
      exact ⟨v, _, f0, G, rfl, hd, g1, (f0_fadd G).symm⟩
    · refine ⟨fadd F1 G, ?_, fun a => by have := g2 a; rw [fadd_at, fadd_at]; omega⟩
      simp only [List.map_cons, repD, if_neg z, reps]
      exact ⟨w, _, F1, G, rfl, h1, g1, rfl⟩
theorem reps_drop0 (k : κ) : ∀ {kvs : List (κ × V)} {ds : List D} {F : Fp}, reps R S H ds (kvs.map (·.2)) F → ∃ F2 : Fp, reps R S H (dropD k (kvs.map (·.1)) ds) ((dropK kvs k).map (·.2)) F2 ∧ ∀ a, F2 a ≤ F a
  | [], ds, F, h => by
    cases ds with
    | nil => exact ⟨F, h, fun _ => Nat.le_refl _⟩
    | cons d l => simp [reps] at h
  | (x, w) :: kvs, [], F, h => by simp [reps] at h
  | (x, w) :: kvs, y :: ds, F, h => by
    simp only [List.map_cons, reps] at h
    obtain ⟨v', vr, F1, F2, e, h1, h2, rfl⟩ := h
    cases e
    obtain ⟨G, g1, g2⟩ := reps_drop0 k h2
    have eq : dropK ((x, w) :: kvs) k = if x = k then dropK kvs k else (x, w) :: dropK kvs k := by
      unfold dropK; rw [List.filter_cons]; by_cases z : x = k <;> simp [z]
    rw [eq]
    by_cases z : x = k
    · refine ⟨G, ?_, fun a => by have := g2 a; rw [fadd_at]; omega⟩
      simp only [List.map_cons, dropD, if_pos z]
      exact g1
    · refine ⟨fadd F1 G, ?_, fun a => by have := g2 a; rw [fadd_at, fadd_at]; omega⟩
      simp only [List.map_cons, dropD, if_neg z, reps]
      exact ⟨w, _, F1, G, rfl, h1, g1, rfl⟩
theorem reps_dropD (k : κ) : ∀ {kvs : List (κ × V)} {ds : List D} {F : Fp} {d : D}, reps R S H ds (kvs.map (·.2)) F → getK (kvs.map (·.1)) ds k = some d → ∃ (v : V) (Fi F2 : Fp), valV kvs k = some v ∧ rep R S H d v Fi ∧
    reps R S H (dropD k (kvs.map (·.1)) ds) ((dropK kvs k).map (·.2)) F2 ∧ ∀ a, Fi a + F2 a ≤ F a
  | [], _, _, _, _, e => by cases e
  | p :: kvs, [], _, _, _, e => by cases e
  | (x, w) :: kvs, y :: ds, F, d, h, e => by
    simp only [List.map_cons, reps] at h
    obtain ⟨v', vr, F1, F2, e0, h1, h2, rfl⟩ := h
    cases e0
    simp only [List.map_cons, getK] at e
    have eq : dropK ((x, w) :: kvs) k = if x = k then dropK kvs k else (x, w) :: dropK kvs k := by
      unfold dropK; rw [List.filter_cons]; by_cases z : x = k <;> simp [z]
    rw [eq]
    by_cases z : x = k
    · rw [if_pos z] at e; cases e
      obtain ⟨G, g1, g2⟩ := reps_drop0 k h2
      refine ⟨w, F1, G, valV_pos z, h1, ?_, fun a => by have := g2 a; rw [fadd_at]; omega⟩
      simp only [List.map_cons, dropD, if_pos z]
      exact g1
    · rw [if_neg z] at e
      obtain ⟨v, Fi, G, e1, e2, e3, e4⟩ := reps_dropD k h2 e
      refine ⟨v, Fi, fadd F1 G, (valV_neg z).trans e1, e2, ?_, fun a => by have := e4 a; rw [fadd_at, fadd_at]; omega⟩
      simp only [List.map_cons, dropD, if_neg z, reps]
      exact ⟨w, _, F1, G, rfl, h1, e3, rfl⟩
theorem keys_drop (kvs : List (κ × V)) (k : κ) : (dropK kvs k).map (·.1) = (kvs.map (·.1)).filter fun x => decide (x ≠ k) := by
  unfold dropK; rw [List.filter_map]; rfl
/-- an entry put -/
theorem reps_putD {k : κ} {kvs : List (κ × V)} {ds ds' : List D} {ks' : List κ} {F Fv : Fp} {d : D} {v : V} (h : reps R S H ds (kvs.map (·.2)) F) (hd : rep R S H d v Fv) (e : putD k d (kvs.map (·.1)) ds = some (ks', ds')) :
    ∃ F2 : Fp, (putK kvs k v).map (·.1) = ks' ∧ reps R S H ds' ((putK kvs k v).map (·.2)) F2 ∧ ∀ a, F2 a ≤ F a + Fv a := by
  unfold putD at e
  unfold putK
  rw [any_mem]
  by_cases z : k ∈ kvs.map (·.1)
  · rw [if_pos z] at e
    split at e
    case isFalse => cases e
    case isTrue hz =>
      cases e
      have := isFz_f0 d v Fv hd hz
      subst this
      obtain ⟨F2, g1, g2⟩ := reps_repD hd k h
      rw [if_pos (by simp only [z, decide_true])]
      refine ⟨F2, ?_, g1, fun a => by have := g2 a; omega⟩
      rw [List.map_map]
      apply List.map_congr_left
      intro p _
      simp only [Function.comp]
      split <;> rfl
  · rw [if_neg z] at e
    cases e
    rw [if_neg (by simp only [z, decide_false]; exact Bool.false_ne_true)]
    refine ⟨fadd F Fv, by rw [List.map_append]; rfl, ?_, fun a => by rw [fadd_at]; omega⟩
    rw [List.map_append]
    exact reps_append h (reps_one hd)
end
/-- the write of one dict -/
theorem mu_dk {R : RC} {S H : Hp} {a : Addr} {kvs kvs' : List (Key × V)} {ks : List Key} {d : D} {ds' : List D} {v : V} {F' Fv Fd F2 : Fp} {Q : VK} (sh : Ext S H) (h1 : H a = some (.dK kvs)) (h2 : S a = none) (nd : ∀ b, fadd (f1 a) F' b + Fv b ≤ 1) (mx : Muf H (fadd (f1 a) F')) (mv : Muf H Fv)
    (rd : rep R S H d v Fd) (hs : ∀ b, Fd b + F2 b ≤ F' b + Fv b) (hk : kvs'.map (·.1) = ks) (r : reps R S H ds' (kvs'.map (·.2)) F2)
    (k : ∀ v S' H' Fd Fx', Stp S H (fadd (fadd (f1 a) F') Fv) S' H' (fadd Fd Fx') → rep R S' H' d v Fd → rep R S' H' (.dk true ks ds') (.ref a) Fx' → (∀ a, Fd a + Fx' a ≤ 1) → Muf H' Fd → Muf H' Fx' → Q v H') : Q v (upd H a (.dK kvs')) :=
  mu_done (u' := .dK kvs') sh h1 h2 True.intro True.intro nd mx mv rd hs (fun S' W n off => by
    simp only [rep]
    exact ⟨a, kvs', F2, rfl, ⟨upd_same, n, rfl⟩, hk, reps_step W ds' _ F2 r off⟩) k
def mSetD (d : D) (vs : List D) : Option (D × D) := match d, vs with
  | .dk true ks ds, [k, x] => (keyD k).bind fun k => if ks.length < lim then (putD k x ks ds).bind fun r => some (.non, .dk true r.1 r.2) else none
  | _, _ => none
def mPopD (d : D) (vs : List D) : Option (D × D) := match d, vs with
  | .dk true ks ds, [k] => (keyD k).bind fun k => (getK ks ds k).bind fun x => some (x, .dk true (ks.filter fun y => decide (y ≠ k)) (dropD k ks ds))
  | _, _ => none
def mergeD : List Key → List D → List Key → List D → Option (List Key × List D)
  | k :: ks2, d :: ds2, ks, ds => (putD k d ks ds).bind fun r => mergeD ks2 ds2 r.1 r.2
  | [], [], ks, ds => some (ks, ds)
  | _, _, _, _ => none
def mUpdD (d : D) (vs : List D) : Option (D × D) := match d, vs with
  | .dk true ks ds, [.dk true ks2 ds2] => if ks.length + ks2.length ≤ lim then (mergeD ks2 ds2 ks ds).bind fun r => some (.non, .dk true r.1 r.2) else none
  | _, _ => none
theorem reps_mergeD {R : RC} {S H : Hp} : ∀ {more kvs : List (Key × V)} {ds2 ds : List D} {F Fv : Fp} {ks' : List Key} {ds' : List D}, reps R S H ds2 (more.map (·.2)) Fv → reps R S H ds (kvs.map (·.2)) F → mergeD (more.map (·.1)) ds2 (kvs.map (·.1)) ds = some (ks', ds') →
    ∃ F2 : Fp, (mergeK kvs more).map (·.1) = ks' ∧ reps R S H ds' ((mergeK kvs more).map (·.2)) F2 ∧ ∀ a, F2 a ≤ F a + Fv a
  | [], kvs, ds2, ds, F, Fv, ks', ds', h2, h, e => by
    cases ds2 with
    | cons d l => simp [reps] at h2
    | nil => cases e; exact ⟨F, rfl, h, fun a => by omega⟩
  | (k, v) :: more, kvs, [], ds, F, Fv, ks', ds', h2, h, e => by simp [reps] at h2
  | (k, v) :: more, kvs, d :: ds2, ds, F, Fv, ks', ds', h2, h, e => by
    simp only [List.map_cons, reps] at h2
    obtain ⟨v', vr, F1, F2, e0, h1, h2, rfl⟩ := h2
    cases e0
    simp only [List.map_cons, mergeD] at e
    obtain ⟨r, e1, e2⟩ := bind_some2 e
    obtain ⟨G, g1, g2, g3⟩ := reps_putD (ks' := r.1) (ds' := r.2) h h1 e1
    rw [← g1] at e2
    obtain ⟨G2, k1, k2, k3⟩ := reps_mergeD h2 g2 e2
    exact ⟨G2, k1, k2, fun a => by have := g3 a; have := k3 a; rw [fadd_at]; omega⟩
section
variable {X : Cx}
theorem st_dk (hu : X.A.units + 64 < cLine) : StOk X mSetD := by
  refine ⟨rSetD, set_dict (by omega), fun S H x vs dx ds Fx Fv d dx' Q sh rx rv nd mx mv hd k => ?_⟩
  unfold mSetD at hd
  split at hd
  · obtain ⟨kk, q1, e⟩ := bind_some2 hd
    split at e
    case isFalse => cases e
    case isTrue hz =>
      obtain ⟨r, q2, e⟩ := bind_some2 e
      cases e
      simp only [reps] at rv
      obtain ⟨v0, vr, G1, G2, rfl, w1, ⟨v, vr', G3, G4, rfl, w2, ⟨rfl, rfl⟩, rfl⟩, rfl⟩ := rv
      obtain ⟨rfl, rfl⟩ := keyD_rep w1 q1
      simp only [rep] at rx
      obtain ⟨a, kvs, F', rfl, ⟨h1, h2, rfl⟩, h3, h4⟩ := rx
      subst h3
      obtain ⟨F2, g1, g2, g3⟩ := reps_putD (ks' := r.1) (ds' := r.2) h4 w2 q2
      refine ⟨_, v, rfl, a, _, rfl, .inl ⟨kvs, kk, h1, rfl, by rw [List.length_map] at hz; exact Nat.lt_trans hz lim_lt, rfl⟩, ?_⟩
      exact mu_dk sh h1 h2 nd mx mv (repN ..) (fun b => by have := g3 b; simp only [fadd_at, f0_at]; omega) g1 g2 k
  · cases hd
def rPopZ : V → List V → Hp → VK → Prop := fun x vs H Q => ∃ a kvs k v, x = V.ref a ∧ vs = [kV k] ∧ H a = some (.dK kvs) ∧ valV kvs k = some v ∧ Q v (upd H a (.dK (dropK kvs k)))
theorem mt_popZ : MtR X "dict.pop" rPopZ := by
  intro pins s σ H x vs v us Q I rx rv h
  obtain ⟨a, kvs, k, w, rfl, rfl, ha, hv, q⟩ := h
  cases rx
  obtain ⟨u, rfl, ru⟩ := vals1 rv
  exact d_pop I ha ru hv (.inl rfl) fun w' s' I' r' => ⟨w, _, I', r', q⟩
theorem mu_popD : MuOk X "dict.pop" mPopD := by
  refine ⟨rPopZ, mt_popZ, fun S H x vs dx ds Fx Fv d dx' Q sh rx rv nd mx mv hd k => ?_⟩
  unfold mPopD at hd
  split at hd
  · obtain ⟨kk, q1, e⟩ := bind_some2 hd
    obtain ⟨y, q2, e⟩ := bind_some2 e
    cases e
    obtain ⟨v0, rfl, w1⟩ := reps1 rv
    obtain ⟨rfl, rfl⟩ := keyD_rep w1 q1
    simp only [rep] at rx
    obtain ⟨a, kvs, F', rfl, ⟨h1, h2, rfl⟩, h3, h4⟩ := rx
    subst h3
    obtain ⟨v, Fi, F2, g1, g2, g3, g4⟩ := reps_dropD kk h4 q2
    refine ⟨a, kvs, kk, v, rfl, rfl, h1, g1, ?_⟩
    exact mu_dk sh h1 h2 nd mx mv g2 (fun b => by have := g4 b; omega) (keys_drop kvs kk) g3 k
  · cases hd
def rUpdZ : V → List V → Hp → VK → Prop := fun x vs H Q => ∃ a b kvs more, x = V.ref a ∧ vs = [V.ref b] ∧ a ≠ b ∧ H a = some (.dK kvs) ∧ H b = some (.dK more) ∧ kvs.length + more.length ≤ sizeLine ∧ Q .non (upd H a (.dK (mergeK kvs more)))
theorem mt_updZ : MtR X "dict.update" rUpdZ := by
  intro pins s σ H x vs v us Q I rx rv h
  obtain ⟨a, b, kvs, more, rfl, rfl, hne, ha, hb, hz, q⟩ := h
  cases rx
  obtain ⟨u, rfl, ru⟩ := vals1 rv
  cases ru
  obtain ⟨z1, n1, vs1, rel1, dd1⟩ := dk_of I.hok ha
  obtain ⟨z2, n2, vs2, rel2, dd2⟩ := dk_of I.hok hb
  refine call_meetsIn PySem.F.slot_dict_update dd1.typeIs PySem.F.entry_dict_update (PySem.F.args_dict_update_2 _ _) (meets_dict_update (mixKind X.prog X.w) a b hne n2)
    ⟨vs1, vs2, dd1, dd2, by rw [← rel1.length, ← rel2.length]; exact hz, fun h' dd' _ hs => ?_⟩
  have he : ∃ q, h'.get? a = some q := let ⟨q, _, _, hq, _⟩ := dd'; ⟨q, hq⟩
  refine ⟨.non, _, d_write I (by rw [ha]; exact True.intro) hs he (dk_new (Nat.le_trans (length_mergeK more kvs) hz) n1 (KV.merge rel2 rel1) dd'), rfl, q⟩
theorem mu_updD : MuOk X "dict.update" mUpdD := by
  refine ⟨rUpdZ, mt_updZ, fun S H x vs dx ds Fx Fv d dx' Q sh rx rv nd mx mv hd k => ?_⟩
  unfold mUpdD at hd
  split at hd
  · split at hd
    case isFalse => cases hd
    case isTrue hz =>
      obtain ⟨r, q1, e⟩ := bind_some2 hd
      cases e
      obtain ⟨v0, rfl, w1⟩ := reps1 rv
      simp only [rep] at rx w1
      obtain ⟨a, kvs, F', rfl, ⟨h1, h2, rfl⟩, h3, h4⟩ := rx
      obtain ⟨b, more, F'', rfl, ⟨h5, h6, rfl⟩, h7, h8⟩ := w1
      subst h3 h7
      have hne : a ≠ b := fun e => by
        have := nd a
        rw [fadd_at, fadd_at, f1_same, e, f1_same] at this; omega
      obtain ⟨F2, g1, g2, g3⟩ := reps_mergeD (ks' := r.1) (ds' := r.2) h8 h4 q1
      refine ⟨a, b, kvs, more, rfl, rfl, hne, h1, h5, by rw [List.length_map, List.length_map] at hz; exact Nat.le_trans hz (Nat.le_of_lt lim_lt), ?_⟩
      exact mu_dk sh h1 h2 nd mx mv (repN ..) (fun c => by have := g3 c; simp only [fadd_at, f0_at]; omega) g1 g2 k
  · cases hd
end
end Z

set_option Elab.async false
set_option linter.all false
set_option maxRecDepth 100000
set_option maxHeartbeats 1000000
/-! # Places as expressions; methods, stores there; targets; assignments -/
namespace Z
open PySem PySem.Spec PyProof.Rows L2

def getP : List Sp1 → D → Option D
  | [], d => some d
  | .fld c x :: p, .ob true c' fs ds => if c' = c then (getF fs ds x).bind (getP p) else none
  | .at k :: p, .lst true l => (l[k]?).bind (getP p)
  | _, _ => none
theorem getP_ok {R : RC} {S H : Hp} : ∀ {p : List Sp1} {d d1 : D} {v : V} {F : Fp}, rep R S H d v F → getP p d = some d1 → ∃ v1 F1, PathV R H p v v1 ∧ rep R S H d1 v1 F1 ∧ ∀ a, 0 < F1 a → 0 < F a
  | [], d, d1, v, F, h, e => by cases e; exact ⟨v, F, rfl, h, fun _ h => h⟩
  | .fld c x :: p, d, d1, v, F, h, e => by
    cases d <;> try (simp only [getP] at e; cases e; done)
    case ob o c' fs ds =>
      cases o <;> simp only [getP] at e <;> try (cases e; done)
      split at e
      case isFalse => cases e
      case isTrue hz =>
        subst hz
        obtain ⟨y, e1, e2⟩ := bind_some2 e
        simp only [rep] at h
        obtain ⟨a, C, dx, kvs, F', rfl, hC, ⟨h1, h2, rfl⟩, h3, h4⟩ := h
        subst h3
        obtain ⟨w, Fi, g1, g2, g3⟩ := getF_some h4 e1
        obtain ⟨v1, F1, k1, k2, k3⟩ := getP_ok g2 e2
        exact ⟨v1, F1, ⟨a, C, dx, kvs, w, rfl, hC, h1, g1, k1⟩, k2, fun b hb => by have := k3 b hb; have := g3 b; rw [fadd_at]; omega⟩
  | .at k :: p, d, d1, v, F, h, e => by
    cases d <;> try (simp only [getP] at e; cases e; done)
    case lst o l =>
      cases o <;> simp only [getP] at e <;> try (cases e; done)
      obtain ⟨y, e1, e2⟩ := bind_some2 e
      simp only [rep] at h
      obtain ⟨a, vs, F', rfl, ⟨h1, h2, rfl⟩, h4⟩ := h
      obtain ⟨w, Fi, g1, g2, g3⟩ := reps_get h4 e1
      obtain ⟨v1, F1, k1, k2, k3⟩ := getP_ok g2 e2
      exact ⟨v1, F1, ⟨a, vs, w, rfl, h1, g1, k1⟩, k2, fun b hb => by have := k3 b hb; have := g3 b; rw [fadd_at]; omega⟩
theorem PathV.snoc {R : RC} {H : Hp} {q : List Sp1} : ∀ {p : List Sp1} {v u w : V}, PathV R H p v u → PathV R H q u w → PathV R H (p ++ q) v w
  | [], _, _, _, h, h' => by have h : _ = _ := h; subst h; exact h'
  | .fld c f :: p, _, _, _, ⟨a, C, dx, kvs, u, e, e1, e2, e3, h⟩, h' => ⟨a, C, dx, kvs, u, e, e1, e2, e3, PathV.snoc h h'⟩
  | .at k :: p, _, _, _, ⟨a, xs, u, e, e2, e3, h⟩, h' => ⟨a, xs, u, e, e2, e3, PathV.snoc h h'⟩
def getE (e : En) (i : Nat) (p : List Sp1) : Option D := match e[i]? with
  | some (.ow d0) => getP p d0
  | _ => none
def semPl (R : RC) (pl : En → Option (Nat × List Sp1)) : TE := fun σ H Q => ∃ S e F B i p d1, At0 R S H σ e F B ∧ pl e = some (i, p) ∧ getE e i p = some d1 ∧
  ∀ v0 v1 S' H' F1, Stp S H f0 S' H' f0 → σ[i]? = some (some v0) → PathV R H' p v0 v1 → rep R S' H' d1 v1 F1 → Q v1 H'
def PPl (X : Cx) (x : Expr) (pl : En → Option (Nat × List Sp1)) : Prop := PE X x (semPl (Cx.R X) pl)
def plName (i : Nat) (e : En) : Option (Nat × List Sp1) := match e[i]? with
  | some (.ow _) => some (i, [])
  | _ => none
def plFld (c f : Str) (pl : En → Option (Nat × List Sp1)) (e : En) : Option (Nat × List Sp1) := (pl e).bind fun q => match getE e q.1 q.2 with
  | some (.ob true c' _ _) => if c' = c then some (q.1, q.2 ++ [.fld c f]) else none
  | _ => none
section
variable {X : Cx} {pl : En → Option (Nat × List Sp1)} {x : Str} {i : Nat} {c f : Str} {C : Addr} {o : Expr} {pos : Pos}
theorem getE_some {R : RC} {S H : Hp} {σ : L2.St} {e : En} {F B : Fp} {i : Nat} {p : List Sp1} {d1 : D} (A : At0 R S H σ e F B) (h : getE e i p = some d1) : ∃ v0 v1 F1, σ[i]? = some (some v0) ∧ PathV R H p v0 v1 ∧ rep R S H d1 v1 F1 ∧ ∀ a, 0 < F1 a → 0 < F a := by
  unfold getE at h
  cases q : e[i]? with
  | none => rw [q] at h; cases h
  | some s =>
    rw [q] at h
    cases s with
    | no => cases h
    | lk d => cases h
    | ow d0 =>
      obtain ⟨o, Fi, Bi, Fr, Br, g1, g2, g3, g4, g5⟩ := A.re.get q
      obtain ⟨⟨v0, rfl, rp⟩, hb⟩ := g2
      obtain ⟨v1, F1, k1, k2, k3⟩ := getP_ok rp h
      exact ⟨v0, v1, F1, g1, k1, k2, fun a ha => by have := k3 a ha; rw [g3, fadd_at]; omega⟩
theorem pl_name (hN : X.N[i]? = some x) (hv : Vis X.env.scope x) (hd : (x == ("__debug__" : Str)) = false := by decide) (hcd : (x == ("__classdict__" : Str)) = false := by decide) : PPl X (.Name x pos) (plName i) :=
  pe_imp (pe_var hN hv hd hcd) fun σ H Q ⟨S, e, F, B, j, p, d1, A, hp, hg, k⟩ => by
    unfold plName at hp
    cases q : e[i]? with
    | none => rw [q] at hp; cases hp
    | some s =>
      rw [q] at hp
      cases s with
      | no => cases hp
      | lk d => cases hp
      | ow d0 =>
        cases hp
        obtain ⟨v0, v1, F1, g1, g2, g3, _⟩ := getE_some A hg
        have g2 : v1 = v0 := g2
        subst g2
        exact ⟨v1, g1, k v1 v1 S H F1 (.refl0 A.sh) g1 rfl g3⟩
theorem pl_fld (hc : X.mg c = some (.ref C)) (cl : Cls X.K C) (na : NoAttr X.K C f) (h : PPl X o pl) (hb : attributeBase o f X.env (eval o X.env) = eval o X.env := by rfl) : PPl X (.Attribute o f pos) (plFld c f pl) :=
  pe_imp (pe_fld h hb) fun σ H Q ⟨S, e, F, B, j, p, d1, A, hp, hg, k⟩ => by
    unfold plFld at hp
    obtain ⟨q, e1, e2⟩ := bind_some2 hp
    cases q2 : getE e q.1 q.2 with
    | none => rw [q2] at e2; cases e2
    | some d0 =>
      rw [q2] at e2
      cases d0 <;> try (cases e2; done)
      case ob ow c' fs ds =>
        cases ow <;> simp only at e2 <;> try (cases e2; done)
        split at e2
        case isFalse => cases e2
        case isTrue hz =>
          subst hz
          simp only [Option.some.injEq, Prod.mk.injEq] at e2
          obtain ⟨rfl, rfl⟩ := e2
          refine ⟨S, e, F, B, q.1, q.2, _, A, e1, q2, fun v0 v1 S1 H1 F1 t1 g1 g2 g3 => ?_⟩
          obtain ⟨a, dx, kvs, F', rfl, h1, h0, h2, h3⟩ := rep_ob t1.sh hc g3
          -- the field's value
          obtain ⟨v0', w, F2, k1, k2, k3, _⟩ := getE_some (A.step t1) hg
          rw [g1] at k1; cases k1
          obtain ⟨u, m1, m2⟩ : ∃ u, kvs.lookup f = some u ∧ w = u := by
            have : ∀ {p : List Sp1} {v : V}, PathV (Cx.R X) H1 p v (.ref a) → PathV (Cx.R X) H1 (p ++ [.fld c' f]) v w → ∃ u, kvs.lookup f = some u ∧ w = u := by
              intro p
              induction p with
              | nil =>
                intro v hv hw
                have hv : V.ref a = v := hv
                subst hv
                obtain ⟨a', C', dx', kvs', u, e, e1, e2, e3, hh⟩ := hw
                cases e
                rw [h0] at e2; cases e2
                exact ⟨u, e3, hh⟩
              | cons s p ih =>
                intro v hv hw
                cases s with
                | fld c2 f2 =>
                  obtain ⟨b, C2, dx2, kv2, u2, e, e1, e2, e3, hh⟩ := hv
                  obtain ⟨b', C2', dx2', kv2', u2', e', e1', e2', e3', hh'⟩ := hw
                  rw [e] at e'; cases e'
                  rw [e2] at e2'; cases e2'
                  rw [e3] at e3'; cases e3'
                  exact ih hh hh'
                | «at» k2 =>
                  obtain ⟨b, xs2, u2, e, e2, e3, hh⟩ := hv
                  obtain ⟨b', xs2', u2', e', e2', e3', hh'⟩ := hw
                  rw [e] at e'; cases e'
                  rw [e2] at e2'; cases e2'
                  rw [e3] at e3'; cases e3'
                  exact ih hh hh'
            exact this g2 k2
          subst m2
          exact ⟨a, C, dx, kvs, w, rfl, h0, cl, na, m1, k v0 w S1 H1 F2 t1 g1 k2 k3⟩
end

/-! ### a method of what stands at a place, the arguments new or frozen -/
def vMethP (T : String) (pl : En → Option (Nat × List Sp1)) (mu : D → List D → Option (D × D)) (gs : En → Option (List D)) (e : En) : Option (D × En) :=
  (pl e).bind fun q => (gs e).bind fun ds => match getE e q.1 q.2 with
    | some d1 => if isTy T d1 = true then updE e q.1 q.2 fun d => mu d ds else none
    | _ => none
section
variable {X : Cx}
/-- the change itself, the receiver's value and the arguments standing -/
theorem upd_core {R : RC} {r : V → List V → Hp → VK → Prop} {mu : D → List D → Option (D × D)} (hm : MuD R r mu) {S H S1 H1 : Hp} {σ : L2.St} {e e' : En} {F B Fv : Fp} {i : Nat} {p : List Sp1} {ds : List D} {vs : List V} {d : D} {v0 v1 : V} {Q : VK}
    (A : At R S H σ e F B) (t : Stp S H f0 S1 H1 Fv) (n : Okf H1 Fv) (rv : reps R S1 H1 ds vs Fv) (g1 : σ[i]? = some (some v0)) (g2 : PathV R H1 p v0 v1) (hg : updE e i p (fun d => mu d ds) = some (d, e'))
    (k : ∀ v S' H' Fv F', Stp S H F S' H' (fadd Fv F') → At R S' H' σ e' F' B → rep R S' H' d v Fv → (∀ a, Fv a + F' a + B a ≤ 1) → Muf H' Fv → Q v H') : r v1 vs H1 Q := by
  have A1 : At R S1 H1 σ e F B := A.step t
  have n1 := A.new t n.nd
  obtain ⟨v0', d1, v1', G1, Gr, d1', h1, h2, h3, h4, h5, h6⟩ := A1.upd hg
  rw [g1] at h1; cases h1
  have := PathV.inj g2 h2
  subst this
  refine hm S1 H1 v1' vs d1 ds G1 Fv d d1' Q A1.sh h4 rv (fun a => by have := n1 a; have := h5 a; omega) (fun a ha => A1.mu a (by have := h5 a; omega)) n.mu h3 fun v S2 H2 Fd Fx t2 rd rx nd md mx => ?_
  have out : ∀ x, 0 < Gr x + B x → fadd G1 Fv x = 0 := fun x hx => by
    rw [fadd_at]
    have := n1 x; have := h5 x; omega
  have new : ∀ x, 0 < Fd x + Fx x → Gr x + B x = 0 := fun x hx => by
    rcases t2.ft x (by rw [fadd_at]; exact hx) with y | y
    · rw [fadd_at] at y; have := n1 x; have := h5 x; omega
    · rcases Nat.eq_zero_or_pos (Gr x + B x) with z | z
      · exact z
      · exact absurd y (A1.toAt0.old (by have := h5 x; omega))
  have A2 := h6 S2 H2 _ _ Fx t2 out rx (fun a => by
    rcases Nat.eq_zero_or_pos (Fd a + Fx a) with z | z
    · have := A1.nd a; have := h5 a; omega
    · have := new a z; have := nd a; omega) mx
  refine k v S2 H2 Fd (fadd Fx Gr) ?_ A2 rd (fun a => ?_) md
  · have T2 := t2.frame Gr
    have e1 : fadd Gr (fadd Fd Fx) = fadd Fd (fadd Fx Gr) := by rw [fadd_comm, fadd_assoc]
    have e2 : fadd Gr (fadd G1 Fv) = fadd Fv F := by funext x; simp only [fadd_at]; have := h5 x; omega
    rw [e1, e2] at T2
    exact (t.beside F).trans T2
  · rw [fadd_at]
    rcases Nat.eq_zero_or_pos (Fd a + Fx a) with z | z
    · have := A1.nd a; have := h5 a; omega
    · have := new a z; have := nd a; omega
theorem semV_methP {T : String} {pl : En → Option (Nat × List Sp1)} {r : V → List V → Hp → VK → Prop} {mu : D → List D → Option (D × D)} (hm : MuD (Cx.R X) r mu) {gs : En → Option (List D)} (σ : L2.St) (H : Hp) (Q : VK) (w : semV (Cx.R X) (vMethP T pl mu gs) σ H Q) :
    tBM X.K T r (semPl (Cx.R X) pl) (semFs (Cx.R X) gs) σ H Q := by
  obtain ⟨S, e, F, B, d, e', A, hg, k⟩ := w
  unfold vMethP at hg
  obtain ⟨q, e1, hg⟩ := bind_some2 hg
  obtain ⟨ds, e2, hg⟩ := bind_some2 hg
  cases q3 : getE e q.1 q.2 with
  | none => rw [q3] at hg; cases hg
  | some d1 =>
    rw [q3] at hg
    simp only at hg
    split at hg
    case isFalse => cases hg
    case isTrue hz =>
      refine ⟨S, e, F, B, q.1, q.2, d1, A.toAt0, e1, q3, fun v0 v1 S1 H1 F1 t1 g1 g2 g3 => ⟨isTy_ok t1.sh g3 hz, ?_⟩⟩
      have A1 : At (Cx.R X) S1 H1 σ e F B := A.step t1
      refine ⟨S1, e, F, B, ds, A1.toAt0, e2, fun vs S2 H2 Fv t2 n2 r2 => ?_⟩
      have T1 : Stp S H F S1 H1 F := by have := t1.beside F; rw [f0_fadd] at this; exact this
      exact upd_core hm A1 t2 n2 r2 g1 (g2.ext t2.ext) hg fun v S' H' Fv F' t A' r n m => k v S' H' Fv F' (T1.trans t) A' r n m
theorem v_bmP {T id : String} {name : Str} {pl : En → Option (Nat × List Sp1)} {mu : D → List D → Option (D × D)} {gs : En → Option (List D)} {o e : Expr} {es : List Expr} {apos cpos : Pos} (pa : PlainAttrs T) (slot : Slot T name id) (hty : typeOf (.builtin id) = pure (.type "method_descriptor")) (hm : MuOk X id mu)
    (ho : PPl X o pl) (ha : PAf X (e :: es) gs) (hbase : attributeBase o name X.env (eval o X.env) = eval o X.env := by rfl)
    (hfew : ((backTo cpos (starEach (e :: es) X.env)).all (fun x => !x.1) && (backToKw cpos (keywordEach [] X.env)).all (fun x => x.1.isSome)
      && decide ((e :: es).length + ([] : List Keyword).length + (if ([] : List Keyword).isEmpty then 0 else 1) < 30)) = true := by rfl)
    (hline : (apos.endLine == cpos.line) = true := by rfl) (hs : starEach (e :: es) X.env = (false, eval e X.env) :: starEach es X.env := by rfl) (hplain : (backTo cpos (starEach es X.env)).any (·.1) = false := by rfl) :
    PEv X (.Call (.Attribute o name apos) (e :: es) [] cpos) (vMethP T pl mu gs) := by
  obtain ⟨r, h1, h2⟩ := hm
  exact pe_imp (pe_bm pa slot hty h1 ho ha hbase hfew hline hs hplain) (semV_methP h2)
end

/-! ### targets that take what is handed out -/
def semGv (R : RC) (as : List Nat) (bd : D → En → Option En) : TG := fun v σ H Q => ∃ S e F B d e' Fv, At R S H σ e F B ∧ rep R S H d v Fv ∧ (∀ a, Fv a + F a + B a ≤ 1) ∧ Muf H Fv ∧ bd d e = some e' ∧
  ∀ σ' S' H' F', Stp S H (fadd Fv F) S' H' F' → At R S' H' σ' e' F' B → Sm as σ σ' → Q σ' H'
def semGvs (R : RC) (as : List Nat) (bd : List D → En → Option En) : TGs := fun vs σ H Q => ∃ S e F B ds e' Fv, At R S H σ e F B ∧ reps R S H ds vs Fv ∧ (∀ a, Fv a + F a + B a ≤ 1) ∧ Muf H Fv ∧ bd ds e = some e' ∧
  ∀ σ' S' H' F', Stp S H (fadd Fv F) S' H' F' → At R S' H' σ' e' F' B → Sm as σ σ' → Q σ' H'
def PGv (X : Cx) (as : List Nat) (tg : Expr) (bd : D → En → Option En) : Prop := PG X tg (semGv (Cx.R X) as bd)
def PGvs (X : Cx) (as : List Nat) (tg : List Expr) (bd : List D → En → Option En) : Prop := PGs X tg (semGvs (Cx.R X) as bd)
def bSub (pl : En → Option (Nat × List Sp1)) (gi : En → Option D) (mu : D → List D → Option (D × D)) (d : D) (e : En) : Option En :=
  (pl e).bind fun q => (gi e).bind fun i => match getE e q.1 q.2 with
    | some _ => if isFz i = true then (updE e q.1 q.2 fun x => mu x [i, d]).bind fun r => some r.2 else none
    | _ => none
section
variable {X : Cx} {as : List Nat}
theorem y_name {i : Nat} {n : Str} {pos : Pos} (hN : X.N.Nodup) (hi : X.N[i]? = some n) (hx : Loc X.env.scope n) (hv : i ∈ as) (hf : X.fn n = true ∨ X.env.scope.names.lookup n = some .local := by first | exact .inl rfl | exact .inr rfl | assumption) :
    PGv X as (.Name n pos) (boName i) := pg_imp (pg_name hN hi hx hf) fun v σ H P ⟨S, e, F, B, d, e', Fv, A, r, n, m, hb, k⟩ => by
  unfold boName at hb
  split at hb
  · rename_i ho
    cases hb
    obtain ⟨F2, A2, l⟩ := A.bind ho r n m
    exact k _ S H F2 ((Stp.refl A.sh).less fun a ha => .inl (l a ha)) A2 (.set hv)
  · cases hb
theorem ys_nil : PGvs X as [] bdNil := pgs_imp pgs_nil fun xs σ H P ⟨S, e, F, B, ds, e', Fv, A, r, n, m, hb, k⟩ => by
  cases ds with
  | nil =>
    cases hb
    simp only [reps] at r
    exact ⟨r.1, k σ S H F ((Stp.refl A.sh).less fun a ha => .inl (by rw [fadd_at]; omega)) A (.refl as σ)⟩
  | cons d l => cases hb
theorem ys_cons {t : Expr} {ts : List Expr} {b : D → En → Option En} {bs : List D → En → Option En} (h : PGv X as t b) (hs : PGvs X as ts bs)
    (he : (assignEach (t :: ts) X.env).map (·.2) = assign t X.env :: (assignEach ts X.env).map (·.2) := by rfl) : PGvs X as (t :: ts) (bdCons b bs) :=
  pgs_imp (pgs_cons h hs he) fun xs σ H P ⟨S, e, F, B, ds, e', Fv, A, r, n, m, hb, k⟩ => by
    cases ds with
    | nil => cases hb
    | cons d l =>
      obtain ⟨e1, q, hb⟩ := bind_some2 (show (b d e).bind (bs l) = some e' from hb)
      simp only [reps] at r
      obtain ⟨v, vr, F1, F2, rfl, r1, r2, rfl⟩ := r
      have n' : ∀ a, F1 a + F2 a + F a + B a ≤ 1 := fun a => by have := n a; rw [fadd_at] at this; omega
      refine ⟨v, vr, rfl, S, e, F, B, d, e1, F1, A, r1, fun a => by have := n' a; omega, fun a ha => m a (by rw [fadd_at]; omega), q, fun σ1 S1 H1 Fa t1 A1 m1 => ?_⟩
      have off : ∀ x, 0 < F2 x → fadd F1 F x = 0 := fun x hx => by have := n' x; rw [fadd_at]; omega
      have off2 : ∀ x, 0 < F2 x → Fa x + B x = 0 := fun x hx => by
        rcases Nat.eq_zero_or_pos (Fa x) with z | z
        · have := n' x; omega
        · rcases t1.ft x z with y | y
          · have := off x hx; omega
          · obtain ⟨⟨w, hw⟩, _⟩ := reps_dom l vr F2 r2 x hx
            rw [hw] at y; cases y
      refine ⟨S1, e1, Fa, B, l, e', F2, A1, reps_step t1 l vr F2 r2 off, fun a => ?_, Muf.step (fun a ha => m a (by rw [fadd_at]; omega)) t1 off, hb, fun σ2 S2 H2 Fb t2 A2 m2 => k σ2 S2 H2 Fb ?_ A2 (m1.trans m2)⟩
      · rcases Nat.eq_zero_or_pos (F2 a) with z | z
        · have := A1.nd a; omega
        · have := off2 a z; have := n' a; omega
      · have T := (t1.frame F2).trans t2
        have e3 : fadd F2 (fadd F1 F) = fadd (fadd F1 F2) F := by funext x; simp only [fadd_at]; omega
        rw [e3] at T; exact T
theorem y_tup {es : List Expr} {k n : Nat} {pos : Pos} {bs : List D → En → Option En} (hc : X.calm = true) (h : PGvs X as es bs) (hl : ∀ (l : List D) (e e' : En), bs l e = some e' → l.length = n)
    (hn : (assignEach es X.env).length = n := by rfl) (hst : (assignEach es X.env).findIdx? (·.1) = none := by rfl) : PGv X as (.Tuple es k pos) (bdTup bs) := by
  refine pg_imp (pg_tup hc h hn hst) fun v σ H P ⟨S, e, F, B, d, e', Fv, A, r, n, m, hb, kk⟩ => ?_
  cases d with
  | tup l =>
    simp only [rep] at r
    obtain ⟨a, xs, rfl, h1, h2⟩ := r
    exact ⟨a, xs, rfl, h1, (reps_len h2).trans (hl l e e' hb), S, e, F, B, l, e', Fv, A, h2, n, m, hb, kk⟩
  | _ => cases hb
theorem y_sub {o i : Expr} {pos : Pos} {pl : En → Option (Nat × List Sp1)} {gi : En → Option D} {mu : D → List D → Option (D × D)} (hm : StOk X mu) (ho : PPl X o pl) (hi : PEb X i gi)
    (ha : ∀ v, assign (.Subscript o i pos) X.env v = (do
      let ov ← holding [v] (eval o X.env)
      let iv ← holding [v, ov] (eval i X.env)
      standAt pos
      holding [v, ov, iv] (setItem ov iv v)
      release [v, ov, iv] []) := by intro _; rfl) : PGv X as (.Subscript o i pos) (bSub pl gi mu) := by
  obtain ⟨t, h1, h2⟩ := hm
  refine pg_imp (pg_sub ho hi h1 ha) fun v σ H P ⟨S, e, F, B, d, e', Fv, A, r, n, m, hb, k⟩ => ?_
  unfold bSub at hb
  obtain ⟨q, e1, hb⟩ := bind_some2 hb
  obtain ⟨di, e2, hb⟩ := bind_some2 hb
  cases q3 : getE e q.1 q.2 with
  | none => rw [q3] at hb; cases hb
  | some d1 =>
    rw [q3] at hb
    simp only at hb
    split at hb
    case isFalse => cases hb
    case isTrue hz =>
      obtain ⟨w, e4, e5⟩ := bind_some2 hb
      cases e5
      refine ⟨S, e, F, B, q.1, q.2, d1, A.toAt0, e1, q3, fun v0 v1 S1 H1 F1 t1 g1 g2 g3 => ?_⟩
      have A1 : At (Cx.R X) S1 H1 σ e F B := A.step t1
      refine ⟨S1, e, F, B, di, A1.toAt0, e2, fun iv S2 H2 Fb t2 r2 o2 => ?_⟩
      have hb0 := isFz_f0 di iv Fb r2 hz
      subst hb0
      have T := t1.trans t2
      have A2 : At (Cx.R X) S2 H2 σ e F B := A1.step t2
      have rd := rep_step T d v Fv r fun _ _ => rfl
      have mv : Muf H2 Fv := m.step T fun _ _ => rfl
      have rv : reps (Cx.R X) S2 H2 [di, d] [iv, v] Fv := by
        simp only [reps]
        exact ⟨iv, [v], f0, Fv, rfl, r2, ⟨v, [], Fv, f0, rfl, rd, ⟨rfl, rfl⟩, (fadd_f0 Fv).symm⟩, (f0_fadd Fv).symm⟩
      obtain ⟨v0', d2, v1', G1, Gr, d1', k1, k2, k3, k4, k5, k6⟩ := A2.upd (r := w.1) (e' := w.2) e4
      rw [g1] at k1; cases k1
      have := PathV.inj (g2.ext t2.ext) k2
      subst this
      have z := h2 S2 H2 v1' [iv, v] d2 [di, d] G1 Fv w.1 d1' (fun _ H' => P σ H') A2.sh k4 rv (fun a => by have := n a; have := k5 a; omega) (fun a ha => A2.mu a (by have := k5 a; omega)) mv k3 fun u S3 H3 Fd Fx t3 rd3 rx3 nd3 md3 mx3 => ?_
      · obtain ⟨i', v', e6, z⟩ := z
        cases e6
        exact z
      have out : ∀ x, 0 < Gr x + B x → fadd G1 Fv x = 0 := fun x hx => by
        rw [fadd_at]
        have := n x; have := k5 x; omega
      have new : ∀ x, 0 < Fd x + Fx x → Gr x + B x = 0 := fun x hx => by
        rcases t3.ft x (by rw [fadd_at]; exact hx) with y | y
        · rw [fadd_at] at y; have := n x; have := k5 x; omega
        · rcases Nat.eq_zero_or_pos (Gr x + B x) with z | z
          · exact z
          · exact absurd y (A2.toAt0.old (by have := k5 x; omega))
      have A3 := k6 S3 H3 _ _ Fx t3 out rx3 (fun a => by
        rcases Nat.eq_zero_or_pos (Fd a + Fx a) with z | z
        · have := A2.nd a; have := k5 a; omega
        · have := new a z; have := nd3 a; omega) mx3
      refine k σ S3 H3 (fadd Fx Gr) ?_ A3 (.refl as σ)
      have T3 := t3.frame Gr
      have e7 : fadd Gr (fadd G1 Fv) = fadd Fv F := by funext x; simp only [fadd_at]; have := k5 x; omega
      rw [e7] at T3
      have T0 : Stp S H (fadd Fv F) S2 H2 (fadd Fv F) := by have := T.beside (fadd Fv F); rw [f0_fadd] at this; exact this
      exact (T0.trans T3).less fun a ha => .inl (by simp only [fadd_at] at ha ⊢; omega)
end
end Z

set_option Elab.async false
set_option linter.all false
set_option maxRecDepth 100000
set_option maxHeartbeats 1000000
/-! # Assignments; what is never come to; freezing; fields -/
namespace Z
open PySem PySem.Spec PyProof.Rows L2

/-! target = value -/
def sAsg (f : En → Option (D × En)) (bd : D → En → Option En) : SF := fun e => (f e).bind fun p => (bd p.1 p.2).bind fun e' => some (.nx, e')
def sDead : SF := fun _ => none
/-- the result is frozen -/
def vFz (f : En → Option (D × En)) (e : En) : Option (D × En) := (f e).bind fun p => some (fz p.1, p.2)
section
variable {X : Cx} {as : List Nat} {x tg : Expr} {pos : Pos} {f : En → Option (D × En)} {bd : D → En → Option En}
theorem s_asg (h : PEv X x f) (hg : PGv X as tg bd) (hs : swapsWithSole [tg] x pos.line X.env = pure false := by rfl) (hw : swappedStores [tg] x X.env = pure none := by rfl)
    (h1 : (assignEach [tg] X.env).map (·.2) = [assign tg X.env] := by rfl) : PSv X as (.Assign [tg] x pos) (sAsg f bd) := ps_imp (ps_asg h hg hs hw h1) fun Dn σ H ⟨S, e, F, B, fl, e', A, hf, k⟩ => by
  unfold sAsg at hf
  obtain ⟨p, q1, hf⟩ := bind_some2 hf
  obtain ⟨e2, q2, hf⟩ := bind_some2 hf
  cases hf
  exact ⟨S, e, F, B, p.1, p.2, A, q1, fun v S1 H1 Fv F1 t1 A1 r n m => ⟨S1, p.2, F1, B, p.1, _, Fv, A1, r, n, m, q2, fun σ' S' H' F' t' A' sm => k σ' S' H' F' (t1.trans t') A' sm⟩⟩
theorem s_dead {st : Stmt} : PSv X as st sDead := ⟨fun pins s σ H D I ⟨S, e, F, B, fl, e', A, hf, k⟩ => by cases hf⟩
theorem ss_dead {st : List Stmt} : PSsv X as st sDead := ⟨fun pins s σ H D I ⟨S, e, F, B, fl, e', A, hf, k⟩ => by cases hf⟩
def vDead (_ : En) : Option (D × En) := none
def eDead (_ : En) : Option D := none
theorem v_dead : PEv X x vDead := ⟨fun pins s σ H Q I ⟨S, e, F, B, d, e', A, hf, k⟩ => by cases hf⟩
theorem f_dead : PEf X x eDead := ⟨fun pins s σ H Q I ⟨S, e, F, B, d, A, hf, k⟩ => by cases hf⟩
theorem v_fz (h : PEv X x f) : PEv X x (vFz f) := pe_imp h fun σ H Q ⟨S, e, F, B, d, e', A, hf, k⟩ => by
  unfold vFz at hf
  obtain ⟨p, q1, hf⟩ := bind_some2 hf
  cases hf
  refine ⟨S, e, F, B, p.1, p.2, A, q1, fun v S1 H1 Fv F1 t1 A1 r n m => ?_⟩
  obtain ⟨S2, t2, hS, es, tG⟩ := Stp.freeze (Fi := Fv) A1.sh fun x hx => (rep_dom p.1 v Fv r x hx).2
  have r2 := rep_fz es p.1 v Fv r hS
  have off : ∀ x, 0 < F1 x + B x → Fv x = 0 := fun x hx => by have := n x; omega
  have A2 : At (Cx.R X) S2 H1 σ p.2 F1 B := ⟨⟨t2.sh, A1.re.step t2 off⟩, A1.nd, A1.mu⟩
  refine k v S2 H1 f0 F1 ?_ A2 r2 (fun a => by have := A1.nd a; rw [f0_at]; omega) .zero
  rw [f0_fadd]
  exact t1.trans (tG F1 f0)
end

/-! a, b = x, y with plain local names -/
def sPar (i j : Nat) (fs : En → Option (List D × En)) : SF := fun e => (fs e).bind fun p => match p.1 with
  | [a, b] => if open? p.2 i = true ∧ open? (p.2.set i (.ow a)) j = true then some (.nx, (p.2.set i (.ow a)).set j (.ow b)) else none
  | _ => none
section
variable {X : Cx} {as : List Nat} {i j : Nat} {x y : Str} {a b : Expr} {px py pt pos : Pos} {kt k2 : Nat} {pt2 : Pos} {fs : En → Option (List D × En)}
theorem s_par (hc : X.calm = true) (hN : X.N.Nodup) (hi : X.N[i]? = some x) (hj : X.N[j]? = some y) (hij : i ≠ j) (ai : i ∈ as) (aj : j ∈ as)
    (hx : X.env.scope.names.lookup x = some .local) (hy : X.env.scope.names.lookup y = some .local) (ha : PAv X [a, b] fs)
    (hw : swappedStores [.Tuple [.Name x px, .Name y py] kt pt] (.Tuple [a, b] k2 pt2) X.env = pure (some [x, y]))
    (hs : swapsWithSole [.Tuple [.Name x px, .Name y py] kt pt] (.Tuple [a, b] k2 pt2) pos.line X.env = pure false := by rfl) :
    PSv X as (.Assign [.Tuple [.Name x px, .Name y py] kt pt] (.Tuple [a, b] k2 pt2) pos) (sPar i j fs) := ps_imp (ps_par hc hN hi hj hij hx hy ha hw hs) fun Dn σ H ⟨S, e, F, B, fl, e', A, hf, k⟩ => by
  unfold sPar at hf
  obtain ⟨p, q1, hf⟩ := bind_some2 hf
  split at hf
  · rename_i d1 d2 hp
    split at hf
    case isFalse => cases hf
    case isTrue ho =>
      cases hf
      refine ⟨S, e, F, B, p.1, p.2, A, q1, fun vs S1 H1 Fv F1 t1 A1 r n m => ?_⟩
      rw [hp] at r
      simp only [reps] at r
      obtain ⟨v, vr, G1, G2, rfl, r1, ⟨w, vr', G3, G4, rfl, r2, ⟨rfl, rfl⟩, rfl⟩, rfl⟩ := r
      rw [fadd_f0] at *
      obtain ⟨F2, A2, l2⟩ := A1.bind ho.1 r1 (fun a => by have := n a; rw [fadd_at] at this; omega) fun a ha => m a (by rw [fadd_at]; omega)
      obtain ⟨F3, A3, l3⟩ := A2.bind ho.2 r2 (fun a => by
        have := n a; rw [fadd_at] at this
        rcases Nat.eq_zero_or_pos (F2 a) with z | z
        · omega
        · have := l2 a z; rw [fadd_at] at this; have := A2.nd a; omega) fun a ha => m a (by rw [fadd_at]; omega)
      refine ⟨v, w, rfl, k _ S1 H1 F3 (t1.less fun a ha => .inl ?_) A3 ((Sm.set ai).trans (Sm.set aj))⟩
      have := l3 a ha
      rw [fadd_at] at this
      rw [fadd_at, fadd_at]
      rcases Nat.eq_zero_or_pos (F2 a) with z | z
      · omega
      · have := l2 a z; rw [fadd_at] at this; omega
  · cases hf
end

/-! name op= value, ints -/
def sAug (i : Nat) (op : Int → Int → Int) (g : En → Option D) : SF := fun e => match e[i]? with
  | some (.ow (.int x)) => (g e).bind fun d => match d with
    | .int y => some (.nx, e.set i (.ow (.int (op x y))))
    | _ => none
  | _ => none
def AugOk (X : Cx) (o : Operator) (op : Int → Int → Int) : Prop := PIp X o (ipI op)
section
variable {X : Cx} {as : List Nat} {i : Nat} {x : Str} {a : Expr} {pos px : Pos} {g : En → Option D} {o : Operator} {op : Int → Int → Int}
theorem At.int {R : RC} {S H : Hp} {σ : L2.St} {e : En} {F B : Fp} {i : Nat} {d : D} {v : V} (A : At R S H σ e F B) (ho : open? e i = true) (r : rep R S H d v f0) : ∃ F', At R S H (σ.set i (some v)) (e.set i (.ow d)) F' B ∧ ∀ a, 0 < F' a → 0 < F a := by
  obtain ⟨F2, A2, l⟩ := A.bind ho r (fun a => by have := A.nd a; rw [f0_at]; omega) .zero
  exact ⟨F2, A2, fun a ha => by have := l a ha; rw [fadd_at, f0_at] at this; omega⟩
theorem s_aug (hN : X.N.Nodup) (hi : X.N[i]? = some x) (hx : Loc X.env.scope x) (ha : i ∈ as) (hop : AugOk X o op) (h : PEb X a g) (hf : X.fn x = true ∨ X.env.scope.names.lookup x = some .local := by first | exact .inl rfl | exact .inr rfl | assumption) :
    PSv X as (.AugAssign (.Name x px) o a pos) (sAug i op g) := ps_imp (ps_aug hN hi hx h hop hf) fun Dn σ H ⟨S, e, F, B, fl, e', A, hf, k⟩ => by
  unfold sAug at hf
  split at hf
  · rename_i n q
    obtain ⟨d, q1, hf⟩ := bind_some2 hf
    split at hf
    · rename_i m
      cases hf
      obtain ⟨ov, Fi, Bi, Fr, Br, g1, g2, g3, g4, g5⟩ := A.re.get q
      obtain ⟨⟨v, rfl, r⟩, _⟩ := g2
      simp only [rep] at r
      refine ⟨v, g1, S, e, F, B, .int m, A.toAt0, q1, fun u S1 H1 Fb t1 r1 _ => ?_⟩
      simp only [rep] at r1
      have A1 : At (Cx.R X) S1 H1 σ e F B := A.step t1
      obtain ⟨F2, A2, l⟩ := A1.int (i := i) (d := .int (op n m)) (v := .int (op n m)) (by unfold open?; rw [q]) (repI ..)
      refine ⟨n, m, r.1, r1.1, k _ S1 H1 F2 ?_ A2 (.set ha)⟩
      have := t1.beside F; rw [f0_fadd] at this
      exact this.less fun a ha => .inl (l a ha)
    · cases hf
  · cases hf
end

/-! place[i] op= value, ints -/
def isGet : D → Bool
  | .lst _ _ => true
  | .dk _ _ _ => true
  | _ => false
def sAugS (pl : En → Option (Nat × List Sp1)) (gi : En → Option D) (op : Int → Int → Int) (ge : En → Option D) (mu : D → List D → Option (D × D)) : SF := fun e =>
  (pl e).bind fun q => (gi e).bind fun i => (ge e).bind fun y => (getE e q.1 q.2).bind fun d1 => (dItem d1 i).bind fun x => match x, y with
    | .int n, .int m => if isGet d1 = true ∧ isFz i = true then (updE e q.1 q.2 fun d => mu d [i, .int (op n m)]).bind fun r => some (.nx, r.2) else none
    | _, _ => none
def rGetZ (X : Cx) : V → V → Hp → VK → Prop := fun x y H Q => rIxL X.K x y H Q ∨ rDix x y H Q
section
variable {X : Cx} {as : List Nat}
theorem get_ok (hu : X.A.units + 64 < cLine) : ∃ t, PGet X t ∧ ∀ (S H : Hp) (x y : V) (o : Bool) (l : List D) (ks : List Key) (dx dy d : D) (Fx Fy : Fp) (Q : VK), Ext S H → rep (Cx.R X) S H dx x Fx → rep (Cx.R X) S H dy y Fy → (dx = .lst o l ∨ dx = .dk o ks l) → dItem dx dy = some d → (∀ v Fi, rep (Cx.R X) S H d v Fi → Q v H) → t x y H Q := by
  refine ⟨rGetZ X, fun pins s σ H o i ov iv Q I ro ri h => ?_, fun S H x y o l ks dx dy d Fx Fy Q sh rx ry hdx e k => ?_⟩
  · rcases h with h | h
    · obtain ⟨p, xs, j, w, rfl, rfl, hq, he, q⟩ := h
      cases ro
      obtain ⟨t, rfl⟩ := ri
      obtain ⟨its, r, pl, hz⟩ := I.list hq
      obtain ⟨j', h1, h2, h3, h4, h5⟩ := atI_get he
      obtain ⟨w', ew, rw'⟩ := r.get h2
      have hl := r.length
      have hn := line63
      have fin : EP X pins σ Q w' s := ⟨w, H, I, rw', q⟩
      by_cases h0 : 0 ≤ j
      · have hj : j.toNat = j' := by
          rw [seqIndex_of h0 h5] at h1
          exact Option.some.inj h1
        exact wpAny_getItem_list pl.isList h0 (by omega) (by rw [hj]; simpa using ew) fin
      · have hj : (j + (its.toArray.size : Int)).toNat = j' := by
          rw [seqIndex_neg (by omega) h4] at h1
          rw [List.size_toArray, ← hl]
          exact Option.some.inj h1
        exact wpAny_getItem_list_neg pl.isList (by omega) (by rw [List.size_toArray] <;> omega) (by omega) (by rw [hj]; simpa using ew) fin
    · obtain ⟨a, w, rfl, g, q⟩ := h
      obtain rfl : ov = Value.ref a := ro
      exact d_getItem (by omega) I g ri fun w' s' I' r' => ⟨w, H, I', r', q⟩
  · rcases hdx with rfl | rfl
    · unfold dItem at e
      split at e
      all_goals first | (cases ‹D.lst _ _ = _›; done) | skip
      · rename_i i heq
        cases heq
        simp only [rep] at rx ry
        obtain ⟨p, xs, F', rfl, h1, h2⟩ := rx
        obtain ⟨v, Fi, g1, g2, g3⟩ := atI_reps' h2 e
        exact .inl ⟨p, xs, _, v, rfl, ry.1, .inl (h1.rq sh).rd, g1, k v Fi g2⟩
      · cases e
    · obtain ⟨kk, q, e⟩ := bind_some2 (show (keyD dy).bind (fun k => getK ks l k) = some d from e)
      simp only [rep] at rx
      obtain ⟨p, kvs, F', rfl, h1, h2, h3⟩ := rx
      subst h2
      obtain ⟨rfl, _⟩ := keyD_rep ry q
      obtain ⟨v, Fi, g1, g2, g3⟩ := getK_some h3 e
      exact .inr ⟨p, v, rfl, .inl ⟨kvs, kk, (h1.rq sh).rd, rfl, g1.symm⟩, k v Fi g2⟩
/-- a store, all standing -/
theorem store_core {t : TSet} {mu : D → List D → Option (D × D)} (h2 : MuD (Cx.R X) (rSet t) mu) {S H : Hp} {σ : L2.St} {e e' : En} {F B Fv : Fp} {i : Nat} {p : List Sp1} {di d r : D} {iv v v0 v1 : V} {P : Hp → Prop}
    (A : At (Cx.R X) S H σ e F B) (ri : rep (Cx.R X) S H di iv f0) (rd : rep (Cx.R X) S H d v Fv) (n : ∀ a, Fv a + F a + B a ≤ 1) (mv : Muf H Fv) (g1 : σ[i]? = some (some v0)) (g2 : PathV (Cx.R X) H p v0 v1) (hu : updE e i p (fun x => mu x [di, d]) = some (r, e'))
    (k : ∀ S' H' F', Stp S H (fadd Fv F) S' H' F' → At (Cx.R X) S' H' σ e' F' B → P H') : t v1 iv v H P := by
  have rv : reps (Cx.R X) S H [di, d] [iv, v] Fv := by
    simp only [reps]
    exact ⟨iv, [v], f0, Fv, rfl, ri, ⟨v, [], Fv, f0, rfl, rd, ⟨rfl, rfl⟩, (fadd_f0 Fv).symm⟩, (f0_fadd Fv).symm⟩
  obtain ⟨v0', d2, v1', G1, Gr, d1', k1, k2, k3, k4, k5, k6⟩ := A.upd hu
  rw [g1] at k1; cases k1
  have := PathV.inj g2 k2
  subst this
  have z := h2 S H v1' [iv, v] d2 [di, d] G1 Fv r d1' (fun _ H' => P H') A.sh k4 rv (fun a => by have := n a; have := k5 a; omega) (fun a ha => A.mu a (by have := k5 a; omega)) mv k3 fun u S3 H3 Fd Fx t3 rd3 rx3 nd3 md3 mx3 => ?_
  · obtain ⟨i', v', e6, z⟩ := z
    cases e6
    exact z
  have out : ∀ x, 0 < Gr x + B x → fadd G1 Fv x = 0 := fun x hx => by
    rw [fadd_at]
    have := n x; have := k5 x; omega
  have new : ∀ x, 0 < Fd x + Fx x → Gr x + B x = 0 := fun x hx => by
    rcases t3.ft x (by rw [fadd_at]; exact hx) with y | y
    · rw [fadd_at] at y; have := n x; have := k5 x; omega
    · rcases Nat.eq_zero_or_pos (Gr x + B x) with z | z
      · exact z
      · exact absurd y (A.toAt0.old (by have := k5 x; omega))
  have A3 := k6 S3 H3 _ _ Fx t3 out rx3 (fun a => by
    rcases Nat.eq_zero_or_pos (Fd a + Fx a) with z | z
    · have := A.nd a; have := k5 a; omega
    · have := new a z; have := nd3 a; omega) mx3
  refine k S3 H3 (fadd Fx Gr) ?_ A3
  have T3 := t3.frame Gr
  have e7 : fadd Gr (fadd G1 Fv) = fadd Fv F := by funext x; simp only [fadd_at]; have := k5 x; omega
  rw [e7] at T3
  exact T3.less fun a ha => .inl (by simp only [fadd_at] at ha ⊢; omega)
theorem s_augS {o i e : Expr} {tpos pos : Pos} {pl : En → Option (Nat × List Sp1)} {gi ge : En → Option D} {op : Operator} {f : Int → Int → Int} {mu : D → List D → Option (D × D)} (hu : X.A.units + 64 < cLine) (hm : StOk X mu) (ho : PPl X o pl) (hi : PEb X i gi) (he : PEb X e ge) (hop : AugOk X op f)
    (ha : ∀ ov iv new, augStore i ov iv new = (do holding [new, ov, iv] (setItem ov iv new); release [new, ov, iv] []; pure .next) := by intros; rfl) :
    PSv X as (.AugAssign (.Subscript o i tpos) op e pos) (sAugS pl gi f ge mu) := by
  obtain ⟨t, h1, h2⟩ := hm
  obtain ⟨tg, k1, k2⟩ := get_ok (X := X) hu
  refine ps_imp (ps_augS ho hi k1 he hop h1 ha) fun Dn σ H ⟨S, e, F, B, fl, e', A, hf, k⟩ => ?_
  unfold sAugS at hf
  obtain ⟨q, q1, hf⟩ := bind_some2 hf
  obtain ⟨di, q2, hf⟩ := bind_some2 hf
  obtain ⟨dy, q3, hf⟩ := bind_some2 hf
  obtain ⟨d1, q4, hf⟩ := bind_some2 hf
  obtain ⟨dx, q5, hf⟩ := bind_some2 hf
  have ex : ∃ n m, dx = .int n ∧ dy = .int m := by
    cases dx <;> cases dy <;> first | exact ⟨_, _, rfl, rfl⟩ | (cases hf; done)
  obtain ⟨n, m, rfl, rfl⟩ := ex
  · simp only at hf
    split at hf
    case isFalse => cases hf
    case isTrue hz =>
      obtain ⟨w, q6, hf⟩ := bind_some2 hf
      cases hf
      have hdx : ∃ o l ks, d1 = .lst o l ∨ d1 = .dk o ks l := by
        cases d1 <;> first | exact ⟨_, _, [], .inl rfl⟩ | exact ⟨_, _, _, .inr rfl⟩ | exact absurd hz.1 Bool.false_ne_true
      obtain ⟨oo, ll, kk, hdx⟩ := hdx
      refine ⟨S, e, F, B, q.1, q.2, d1, A.toAt0, q1, q4, fun v0 v1 S1 H1 F1 t1 g1 g2 g3 => ?_⟩
      have A1 : At (Cx.R X) S1 H1 σ e F B := A.step t1
      refine ⟨S1, e, F, B, di, A1.toAt0, q2, fun iv S2 H2 Fb t2 r2 o2 => ?_⟩
      have hb0 := isFz_f0 di iv Fb r2 hz.2
      subst hb0
      have A2 : At (Cx.R X) S2 H2 σ e F B := A1.step t2
      refine k2 S2 H2 v1 iv oo ll kk d1 di (.int n) F1 f0 _ A2.sh (rep_step t2 d1 v1 F1 g3 fun _ _ => rfl) r2 hdx q5 fun x3 Fi r3 => ?_
      simp only [rep] at r3
      refine ⟨S2, e, F, B, .int m, A2.toAt0, q3, fun u S3 H3 Fc t3 r4 _ => ?_⟩
      simp only [rep] at r4
      refine ⟨n, m, r3.1, r4.1, ?_⟩
      have A3 : At (Cx.R X) S3 H3 σ e F B := A2.step t3
      have T := (t1.trans t2).trans t3
      refine store_core (r := w.1) (e' := w.2) h2 A3 (rep_step t3 di iv f0 r2 fun _ _ => rfl) (repI _ S3 H3 (f n m)) (fun a => by have := A3.nd a; rw [f0_at]; omega) .zero g1 ((g2.ext t2.ext).ext t3.ext) q6 fun S' H' F' t' A' => ?_
      rw [f0_fadd] at t'
      have T0 : Stp S H F S3 H3 F := by have := T.beside F; rw [f0_fadd] at this; exact this
      exact k σ S' H' F' (T0.trans t') A' (.refl as σ)
end

/-! fields -/
def putFD (f : Str) (d : D) : List Str → List D → List Str × List D
  | k :: ks, y :: ds => if k = f then (k :: ks, d :: ds) else let r := putFD f d ks ds; (k :: r.1, y :: r.2)
  | _, _ => ([f], [d])
def mSetF (c f : Str) (d : D) (vs : List D) : Option (D × D) := match d, vs with
  | .ob true c' fs ds, [x] => if c' = c ∧ fs.length < 900 then let r := putFD f x fs ds; some (.non, .ob true c' r.1 r.2) else none
  | _, _ => none
section
variable {R : RC} {S H : Hp}
theorem putFD_ok {f : Str} {d : D} {v : V} {Fv : Fp} (hd : rep R S H d v Fv) : ∀ {kvs : List (Str × V)} {ds : List D} {F : Fp}, reps R S H ds (kvs.map (·.2)) F →
    ∃ F2 : Fp, (putF f v kvs).map (·.1) = (putFD f d (kvs.map (·.1)) ds).1 ∧ reps R S H (putFD f d (kvs.map (·.1)) ds).2 ((putF f v kvs).map (·.2)) F2 ∧ ∀ a, F2 a ≤ F a + Fv a
  | [], ds, F, h => by
    cases ds with
    | cons d l => simp [reps] at h
    | nil => exact ⟨Fv, rfl, reps_one hd, fun a => by omega⟩
  | (k, w) :: kvs, [], F, h => by simp [reps] at h
  | (k, w) :: kvs, y :: ds, F, h => by
    simp only [List.map_cons, reps] at h
    obtain ⟨v', vr, F1, F2, e, h1, h2, rfl⟩ := h
    cases e
    unfold putF
    simp only [List.map_cons, putFD]
    by_cases z : k = f
    · rw [if_pos z, if_pos z]
      refine ⟨fadd Fv F2, rfl, ?_, fun a => by rw [fadd_at, fadd_at]; omega⟩
      simp only [List.map_cons, reps]
      exact ⟨v, _, Fv, F2, rfl, hd, h2, rfl⟩
    · rw [if_neg z, if_neg z]
      obtain ⟨G, g1, g2, g3⟩ := putFD_ok hd h2
      refine ⟨fadd F1 G, by rw [List.map_cons, g1], ?_, fun a => by have := g3 a; rw [fadd_at, fadd_at]; omega⟩
      simp only [List.map_cons, reps]
      exact ⟨w, _, F1, G, rfl, h1, g2, rfl⟩
end
def sFldSet (c f : Str) (fv : En → Option (D × En)) (pl : En → Option (Nat × List Sp1)) : SF := fun e => (fv e).bind fun p => (pl p.2).bind fun q => match getE p.2 q.1 q.2 with
  | some _ => (updE p.2 q.1 q.2 fun x => mSetF c f x [p.1]).bind fun r => some (.nx, r.2)
  | _ => none
section
variable {X : Cx} {as : List Nat} {o value : Expr} {c f : Str} {C : Addr} {pos pos' : Pos} {fv : En → Option (D × En)} {pl : En → Option (Nat × List Sp1)}
theorem s_fld (hc : X.mg c = some (.ref C)) (cl : Cls X.K C) (na : NoAttr X.K C f) (ho : PPl X o pl) (hv : PEv X value fv) (hs : swapsWith value (some (.Attribute o f pos')) pos.line X.env = pure false := by rfl) : PSv X as (.Assign [.Attribute o f pos'] value pos) (sFldSet c f fv pl) :=
  ps_imp (ps_fld ho hv hs) fun Dn σ H ⟨S, e, F, B, fl, e', A, hf, k⟩ => by
    unfold sFldSet at hf
    obtain ⟨p, q1, hf⟩ := bind_some2 hf
    obtain ⟨q, q2, hf⟩ := bind_some2 hf
    cases q3 : getE p.2 q.1 q.2 with
    | none => rw [q3] at hf; cases hf
    | some d1 =>
      rw [q3] at hf
      obtain ⟨w, q4, hf⟩ := bind_some2 hf
      cases hf
      refine ⟨S, e, F, B, p.1, p.2, A, q1, fun v S1 H1 Fv F1 t1 A1 r n m => ⟨S1, p.2, F1, B, q.1, q.2, d1, A1.toAt0, q2, q3, fun v0 v1 S2 H2 F2 t2 g1 g2 g3 => ?_⟩⟩
      have A2 : At (Cx.R X) S2 H2 σ p.2 F1 B := A1.step t2
      have r2 := rep_step t2 p.1 v Fv r fun _ _ => rfl
      obtain ⟨v0', d2, v1', G1, Gr, d1', k1, k2, k3, k4, k5, k6⟩ := A2.upd (r := w.1) (e' := w.2) q4
      rw [g1] at k1; cases k1
      have := PathV.inj g2 k2
      subst this
      unfold mSetF at k3
      split at k3
      · rename_i c' fs ds x he
        split at k3
        case isFalse => cases k3
        case isTrue hz =>
          cases he
          obtain ⟨rfl, hlen⟩ := hz
          simp only [Option.some.injEq, Prod.mk.injEq] at k3
          obtain ⟨_, rfl⟩ := k3
          simp only [rep] at k4
          obtain ⟨a, C', dx, kvs, F', rfl, hC, ⟨h1, h2, rfl⟩, h3, h4⟩ := k4
          have eC : C' = C := by
            have hC : X.mg c' = some (.ref C') := hC
            rw [hc] at hC; cases hC; rfl
          subst eC h3
          refine ⟨a, C', dx, kvs, rfl, h1, cl, na, by rw [List.length_map] at hlen; omega, ?_⟩
          obtain ⟨F3, m1, m2, m3⟩ := putFD_ok (f := f) r2 h4
          have nn : ∀ b, fadd (f1 a) F' b + Fv b ≤ 1 := fun b => by have := n b; have := k5 b; omega
          refine mu_done (R := Cx.R X) (d := .non) (v := .non) (dx' := .ob true c' (putFD f p.1 (kvs.map (·.1)) ds).1 (putFD f p.1 (kvs.map (·.1)) ds).2) (F' := F') (Fv := Fv) (Fd := f0) (F2 := F3) (Q := fun _ H' => Dn.nx σ H') A2.sh h1 h2 True.intro True.intro nn (fun b hb => A2.mu b (by have := k5 b; omega)) (Muf.step m t2 fun _ _ => rfl) (repN ..) (fun b => by have := m3 b; rw [f0_at]; omega)
            (fun S' W nS off => ?_) fun u S3 H3 Fd Fx t3 rd3 rx3 nd3 md3 mx3 => ?_
          · simp only [rep]
            exact ⟨a, C', dx, putF f v kvs, F3, rfl, hc, ⟨upd_same, nS, rfl⟩, m1, reps_step W _ _ F3 m2 off⟩
          · have out : ∀ x, 0 < Gr x + B x → fadd (fadd (f1 a) F') Fv x = 0 := fun x hx => by
              have := n x; have := k5 x; rw [fadd_at]; omega
            have new : ∀ x, 0 < Fd x + Fx x → Gr x + B x = 0 := fun x hx => by
              rcases t3.ft x (by rw [fadd_at]; exact hx) with y | y
              · rw [fadd_at] at y; have := n x; have := k5 x; omega
              · rcases Nat.eq_zero_or_pos (Gr x + B x) with z | z
                · exact z
                · exact absurd y (A2.toAt0.old (by have := k5 x; omega))
            have A3 := k6 S3 H3 _ _ Fx t3 out rx3 (fun b => by
              rcases Nat.eq_zero_or_pos (Fd b + Fx b) with z | z
              · have := A2.nd b; have := k5 b; omega
              · have := new b z; have := nd3 b; omega) mx3
            refine k σ S3 H3 (fadd Fx Gr) ?_ A3 (.refl as σ)
            have T3 := t3.frame Gr
            have e7 : fadd Gr (fadd (fadd (f1 a) F') Fv) = fadd Fv F1 := by funext x; have := k5 x; simp only [fadd_at] at *; omega
            rw [e7] at T3
            have T0 : Stp S1 H1 (fadd Fv F1) S2 H2 (fadd Fv F1) := by have := t2.beside (fadd Fv F1); rw [f0_fadd] at this; exact this
            exact (t1.trans (T0.trans T3)).less fun b hb => .inl (by simp only [fadd_at] at hb ⊢; omega)
      · cases k3
end
end Z

set_option Elab.async false
set_option linter.all false
set_option maxRecDepth 100000
set_option maxHeartbeats 1000000
/-! # Methods, instances made, dict comprehensions, ranges as lists, turned about, in -/
namespace Z
open PySem PySem.Spec PyProof.Rows L2

/-! ### methods that only look -/
def eMeth (c m : Str) (F : Fn) (g : En → Option D) (gs : En → Option (List D)) (e : En) : Option D := (g e).bind fun d => match d with
  | .ob o c' fs ds => if c' = c ∧ m ∉ fs then (gs e).bind fun l => (F (fzs (.ob o c' fs ds :: l))).bind fun p => if noFz p.1 = true then some p.1 else none else none
  | _ => none
theorem lookup_none {α : Type} {x : Str} : ∀ {kvs : List (Str × α)}, x ∉ kvs.map (·.1) → kvs.lookup x = none
  | [], _ => rfl
  | (k, v) :: kvs, h => by
    have hb : (x == k) = false := beq_eq_false_iff_ne.mpr fun e => h (by simp [e])
    rw [List.lookup_cons, hb]
    exact lookup_none fun q => h (by rw [List.map_cons]; exact List.mem_cons_of_mem _ q)
section
variable {X : Cx} {k : Nat} {f C : Addr} {fd : FuncData} {ps : List Str} {n : Nat} {F : Fn} {c m : Str} {pos apos : Pos} {a o : Expr} {as : List Expr} {gs : En → Option (List D)} {g : En → Option D}
theorem semF_meth (hc : X.mg c = some (.ref C)) (hn : ∀ e ds, gs e = some ds → ds.length + 1 = n) (E : XK) (σ : L2.St) (H : Hp) (Q : VK) (w : semF (Cx.R X) (eMeth c m F g gs) σ H Q) : tMeth C m (spFn (Cx.R X) n [] F) [] E (semB (Cx.R X) g) (semBs (Cx.R X) gs) σ H Q := by
  obtain ⟨S, e, F0, B, d, A, hg, k⟩ := w
  unfold eMeth at hg
  obtain ⟨do_, q1, hg⟩ := bind_some2 hg
  split at hg
  · rename_i ow c' fs ds
    split at hg
    case isFalse => cases hg
    case isTrue hz =>
      obtain ⟨l, q2, hg⟩ := bind_some2 hg
      obtain ⟨p, q3, hg⟩ := bind_some2 hg
      obtain ⟨r, out⟩ := p
      simp only at hg
      split at hg
      case isFalse => cases hg
      case isTrue hnf =>
        cases hg
        obtain ⟨rfl, hm⟩ := hz
        refine ⟨S, e, F0, B, _, A, q1, fun v S1 H1 Fb t1 r1 o1 => ?_⟩
        obtain ⟨a, dx, kvs, F', rfl, h1, h0, h2, h3⟩ := rep_ob t1.sh hc r1
        refine ⟨a, dx, kvs, rfl, h0, lookup_none (by rw [h2]; exact hm), S1, e, F0, B, l, A.step t1, q2, fun vs S2 H2 Fc t2 rp ob => ?_⟩
        show spFn (Cx.R X) n [] F (.ref a :: (vs ++ [])) H2 Q E
        rw [List.append_nil]
        have rr : reps (Cx.R X) S2 H2 (.ob ow c' fs ds :: l) (.ref a :: vs) (fadd Fb Fc) := by
          simp only [reps]
          exact ⟨.ref a, vs, Fb, Fc, rfl, rep_step t2 _ _ Fb r1 fun _ _ => rfl, rp, rfl⟩
        refine ⟨(reps_len rr).trans (by rw [List.length_cons]; exact hn e l q2), H2, _, f0, d, out, .refl H2, reps_fz t2.sh _ _ _ rr (fun _ _ => rfl), .zero, q3, fun v S' H' Fv Fo t rv ro ok => ?_⟩
        have nw : ∀ a, 0 < Fv a → H2 a = none := fun a ha => (t.ft a (by rw [fadd_at]; omega)).elim (fun z => absurd z (Nat.lt_irrefl 0)) id
        have T : Stp S2 H2 f0 S2 H' Fv := ⟨.refl S2, fun x o h => t.ext x o (t2.sh x o h), t.kp, fun a ha => .inr (nw a ha), fun a o h => .inl h⟩
        refine k v S2 H' Fv ((t1.trans t2).trans T) (fun a => ⟨by have := (ok a).1; rw [fadd_at] at this; omega, fun ha => (ok a).2 (by rw [fadd_at]; omega)⟩) (rep_noFz d v Fv rv hnf fun x hx => ?_)
        cases z : S2 x with
        | none => rfl
        | some o => have := t2.sh x o z; rw [nw x hx] at this; cases this
  · cases hg
theorem f_meth {pl : Sem Bool} (hF : FnG X.prog X.w X.K X.mg X.base CX0 k f fd ps (spFn (Cx.R X) n [] F)) (hr : RoomG k X.A) (hc : X.mg c = some (.ref C)) (cl : Cls X.K C) (hm : Meth X.K C m f) (hb : Binds X.K fd ps []) (ho : PEb X o g)
    (ha : PAb X (a :: as) gs) (hn : ∀ (e : En) (ds : List D), gs e = some ds → ds.length + 1 = n) (hst : starEach (a :: as) X.env = (false, eval a X.env) :: starEach as X.env := by rfl) (hpl : (backTo pos (starEach as X.env)).any (·.1) = false := by rfl)
    (ht : eval (.Call (.Attribute o m apos) (a :: as) [] pos) X.env = (do
      let ov ← eval o X.env
      standAt apos.atName
      let (f, first) ← holding [ov] (getMethod ov m pl)
      callWith pos f first (backTo pos (starEach (a :: as) X.env)) (backToKw pos (keywordEach [] X.env))) := by rfl) :
    PEf X (.Call (.Attribute o m apos) (a :: as) [] pos) (eMeth c m F g gs) := pe_imp (pe_methG (pl := pl) ho cl hm hF hr hb pass0 ha hst hpl ht) (semF_meth hc hn _)
theorem f_meth0 {pl : Sem Bool} (hF : FnG X.prog X.w X.K X.mg X.base CX0 k f fd ps (spFn (Cx.R X) 1 [] F)) (hr : RoomG k X.A) (hc : X.mg c = some (.ref C)) (cl : Cls X.K C) (hm : Meth X.K C m f) (hb : Binds X.K fd ps []) (ho : PEb X o g)
    (ht : eval (.Call (.Attribute o m apos) [] [] pos) X.env = (do
      let ov ← eval o X.env
      standAt apos.atName
      let (f, first) ← holding [ov] (getMethod ov m pl)
      callWith pos f first (backTo pos (starEach [] X.env)) (backToKw pos (keywordEach [] X.env))) := by rfl) :
    PEf X (.Call (.Attribute o m apos) [] [] pos) (eMeth c m F g esNil) := pe_imp (pe_methG0 (pl := pl) ho cl hm hF hr hb pass0 ht) fun σ H Q w => by
  obtain ⟨S, e, F0, B, d, A, hg, k⟩ := semF_meth (n := 1) hc (fun e ds h => by cases h; rfl) (fun _ _ _ => False) σ H Q w
  refine ⟨S, e, F0, B, d, A, hg, fun v S' H' Fb t r o => ?_⟩
  obtain ⟨a, dx, fs, e1, e2, e3, S2, e', F2, B2, ds, A2, h2, k2⟩ := k v S' H' Fb t r o
  cases h2
  exact ⟨a, dx, fs, e1, e2, e3, k2 [] S2 H' f0 (.refl0 A2.sh) (by simp only [reps]; exact ⟨trivial, trivial⟩) fun x hx => absurd hx (Nat.lt_irrefl 0)⟩

/-! ### methods that change their instance: a name's -/
def vMethC (c m : Str) (F : Fn) (i : Nat) (as : List Ar) (e : En) : Option (D × En) := match e[i]? with
  | some (.ow (.ob true c' fs _)) => if c' = c ∧ m ∉ fs then vCall F (.lend i :: as) e else none
  | _ => none
theorem semV_methC {ls : List Nat} {i : Nat} {as : List Ar} (hc : X.mg c = some (.ref C)) (hl : lendIx 0 (.lend i :: as) = ls) (hn : as.length + 1 = n) (E : XK) (σ : L2.St) (H : Hp) (Q : VK) (w : semV (Cx.R X) (vMethC c m F i as) σ H Q) :
    tMeth C m (spFn (Cx.R X) n ls F) [] E (tVar i) (semA (Cx.R X) as) σ H Q := by
  obtain ⟨S, e, F0, B, d, e', A, hg, k⟩ := w
  unfold vMethC at hg
  split at hg
  · rename_i c' fs ds qi
    split at hg
    case isFalse => cases hg
    case isTrue hz =>
      obtain ⟨rfl, hm⟩ := hz
      obtain ⟨ov, Fi, Bi, Fr, Br, g1, g2, g3, g4, g5⟩ := A.re.get qi
      obtain ⟨⟨v, rfl, r⟩, hb⟩ := g2
      obtain ⟨a, dx, kvs, F', rfl, h1, h0, h2, h3⟩ := rep_ob A.sh hc r
      refine ⟨_, g1, a, dx, kvs, rfl, h0, lookup_none (by rw [h2]; exact hm), ?_⟩
      unfold vCall at hg
      obtain ⟨p, q, hg⟩ := bind_some2 hg
      unfold arGo at q
      rw [qi] at q
      simp only at q
      obtain ⟨w, q2, q3⟩ := bind_some2 q
      cases q3
      refine ⟨S, e, F0, B, w.1, w.2, A, q2, fun vs S1 H1 Fv F1 t1 A1 ar n1 m1 => ?_⟩
      show spFn (Cx.R X) n ls F (.ref a :: (vs ++ [])) H1 Q E
      rw [List.append_nil]
      exact call_core (as := .lend i :: as) (ds := none :: w.1) (vs := .ref a :: vs) hl (by rw [List.length_cons]; exact hn) t1 A1 ⟨_, _, rfl, g1, ar⟩ n1 m1 hg k
  · cases hg
theorem v_meth {pl : Sem Bool} {ls : List Nat} {i : Nat} {ar : List Ar} {x : Str} {npos : Pos} (hF : FnG X.prog X.w X.K X.mg X.base CX0 k f fd ps (spFn (Cx.R X) n ls F)) (hr : RoomG k X.A) (hc : X.mg c = some (.ref C)) (cl : Cls X.K C) (hm : Meth X.K C m f) (hb : Binds X.K fd ps [])
    (hN : X.N[i]? = some x) (hv : Vis X.env.scope x) (ha : PAa X (a :: as) ar) (hl : lendIx 0 (.lend i :: ar) = ls) (hn : ar.length + 1 = n) (hd : (x == ("__debug__" : Str)) = false := by decide) (hcd : (x == ("__classdict__" : Str)) = false := by decide)
    (hst : starEach (a :: as) X.env = (false, eval a X.env) :: starEach as X.env := by rfl) (hpl : (backTo pos (starEach as X.env)).any (·.1) = false := by rfl)
    (ht : eval (.Call (.Attribute (.Name x npos) m apos) (a :: as) [] pos) X.env = (do
      let ov ← eval (.Name x npos) X.env
      standAt apos.atName
      let (f, first) ← holding [ov] (getMethod ov m pl)
      callWith pos f first (backTo pos (starEach (a :: as) X.env)) (backToKw pos (keywordEach [] X.env))) := by rfl) :
    PEv X (.Call (.Attribute (.Name x npos) m apos) (a :: as) [] pos) (vMethC c m F i ar) := pe_imp (pe_methG (pl := pl) (pe_var hN hv hd hcd) cl hm hF hr hb pass0 ha hst hpl ht) (semV_methC hc hl hn _)
theorem v_meth0 {pl : Sem Bool} {i : Nat} {x : Str} {npos : Pos} (hF : FnG X.prog X.w X.K X.mg X.base CX0 k f fd ps (spFn (Cx.R X) 1 [0] F)) (hr : RoomG k X.A) (hc : X.mg c = some (.ref C)) (cl : Cls X.K C) (hm : Meth X.K C m f) (hb : Binds X.K fd ps [])
    (hN : X.N[i]? = some x) (hv : Vis X.env.scope x) (hd : (x == ("__debug__" : Str)) = false := by decide) (hcd : (x == ("__classdict__" : Str)) = false := by decide)
    (ht : eval (.Call (.Attribute (.Name x npos) m apos) [] [] pos) X.env = (do
      let ov ← eval (.Name x npos) X.env
      standAt apos.atName
      let (f, first) ← holding [ov] (getMethod ov m pl)
      callWith pos f first (backTo pos (starEach [] X.env)) (backToKw pos (keywordEach [] X.env))) := by rfl) :
    PEv X (.Call (.Attribute (.Name x npos) m apos) [] [] pos) (vMethC c m F i []) := pe_imp (pe_methG0 (pl := pl) (pe_var hN hv hd hcd) cl hm hF hr hb pass0 ht) fun σ H Q w => by
  obtain ⟨v, g1, a, dx, fs, e1, e2, e3, S2, e', F2, B2, ds, e4, A2, h2, k2⟩ := semV_methC (n := 1) (ls := [0]) hc rfl rfl (fun _ _ _ => False) σ H Q w
  cases h2
  exact ⟨v, g1, a, dx, fs, e1, e2, e3, k2 [] S2 H f0 F2 (by rw [f0_fadd]; exact .refl A2.sh) A2 ⟨rfl, rfl⟩ (fun a => by have := A2.nd a; rw [f0_at]; omega) .zero⟩

/-! ### an instance made -/
def vMake (c : Str) (F : Fn) (fs : En → Option (List D × En)) (e : En) : Option (D × En) := (fs e).bind fun p => (F (.ob true c [] [] :: fzs p.1)).bind fun r => match r with
  | (.non, [s]) => some (s, p.2)
  | _ => none
theorem semV_make {fs : En → Option (List D × En)} (hc : X.mg c = some (.ref C)) (hn : ∀ e p, fs e = some p → p.1.length + 1 = n) (E : XK) (σ : L2.St) (H : Hp) (Q : VK) (w : semV (Cx.R X) (vMake c F fs) σ H Q) : tMake C (spFn (Cx.R X) n [0] F) [] E (semVs (Cx.R X) fs) σ H Q := by
  obtain ⟨S, e, F0, B, d, e', A, hg, k⟩ := w
  unfold vMake at hg
  obtain ⟨p, q1, hg⟩ := bind_some2 hg
  obtain ⟨r, q2, hg⟩ := bind_some2 hg
  split at hg
  · cases hg
    refine ⟨S, e, F0, B, p.1, p.2, A, q1, fun vs S1 H1 Fv F1 t1 A1 rp n1 m1 => fun x dx hx hdx hne => ?_⟩
    show spFn (Cx.R X) n [0] F (.ref x :: (vs ++ [])) _ _ E
    rw [List.append_nil]
    obtain ⟨Sc, tc, hS, es, tG⟩ := Stp.freeze (Fi := Fv) A1.sh fun y hy => (reps_dom p.1 vs Fv rp y hy).2
    have r2 := reps_fz es p.1 vs Fv rp hS
    have hxn : (upd H1 dx (.own x)) x = none := by rw [upd_ne (fun z => hne z.symm)]; exact hx
    have t3 : Stp Sc H1 f0 Sc (upd H1 dx (.own x)) f0 := (Stp.make tc.sh hdx).zero
    have t4 : Stp Sc (upd H1 dx (.own x)) f0 Sc (upd (upd H1 dx (.own x)) x (.ins C dx [])) (f1 x) := Stp.make t3.sh hxn
    have t5 := t3.trans t4
    have hSx : Sc x = none := by
      cases z : Sc x with
      | none => rfl
      | some o => have := tc.sh x o z; rw [hx] at this; cases this
    have rx : rep (Cx.R X) Sc (upd (upd H1 dx (.own x)) x (.ins C dx [])) (.ob true c [] []) (.ref x) (f1 x) := by
      simp only [rep]
      exact ⟨x, C, dx, [], f0, rfl, hc, ⟨upd_same, hSx, (fadd_f0 _).symm⟩, rfl, by simp only [List.map_nil, reps]; exact ⟨trivial, trivial⟩⟩
    have rr : reps (Cx.R X) Sc (upd (upd H1 dx (.own x)) x (.ins C dx [])) (.ob true c [] [] :: fzs p.1) (.ref x :: vs) (f1 x) := by
      simp only [reps]
      exact ⟨.ref x, vs, f1 x, f0, rfl, rx, reps_step t5 _ _ f0 r2 fun _ _ => rfl, (fadd_f0 _).symm⟩
    refine ⟨by rw [List.length_cons, reps_len rp]; exact hn e p q1, Sc, _, f1 x, .non, [d], t5.sh, rr, fun a => ⟨by rw [f1_at]; split <;> omega, fun ha => ?_⟩, q2, fun v S' H' Fv' Fo t rv ro ok => ?_⟩
    · rw [f1_at] at ha
      by_cases z : a = x
      · rw [z, upd_same]; exact True.intro
      · rw [if_neg z] at ha; omega
    · simp only [rep] at rv
      obtain ⟨rfl, rfl⟩ := rv
      obtain ⟨u, hu, rd⟩ := reps1 ro
      have hu : [V.ref x] = [u] := hu
      cases hu
      refine ⟨rfl, ?_⟩
      rw [f0_fadd] at t ok
      have bd : ∀ a, Fv a + F1 a + B a ≤ 1 := n1
      -- the rest of the slots
      have nx : ∀ a, 0 < F1 a + B a → f1 x a = 0 := fun a ha => by
        rw [f1_at]
        split
        · rename_i z
          have := A1.toAt0.old ha
          rw [z] at this
          exact absurd hx this
        · rfl
      have re2 : relE (Cx.R X) S' H' σ p.2 F1 B := ((A1.re.step tc fun y hy => by have := bd y; omega).step t5 fun _ _ => rfl).step t fun y hy => nx y hy
      have mu1 : Muf H' F1 := Muf.step (Muf.step A1.mu t5 fun _ _ => rfl) t fun y hy => nx y (by omega)
      have A2 : At (Cx.R X) S' H' σ p.2 F1 B := ⟨⟨t.sh, re2⟩, A1.nd, mu1⟩
      have ap : ∀ a, 0 < Fo a → F1 a + B a = 0 := fun a ha => by
        rcases Nat.eq_zero_or_pos (F1 a + B a) with z | z
        · exact z
        · have ho := A1.toAt0.old z
          rcases t.ft a ha with y | y
          · have := nx a z; omega
          · cases q : H1 a with
            | none => exact absurd q ho
            | some o =>
              have := t5.ext a o q
              rw [y] at this; cases this
      refine k (.ref x) S' H' Fo F1 ?_ A2 rd (fun a => ?_) fun a ha => (ok a).2 ha
      · have T2 : Stp S1 H1 (fadd Fv F1) Sc H1 F1 := tG F1 f0
        have T3 := t5.beside F1
        have T4 := t.frame F1
        have e1 : fadd F1 (f1 x) = fadd (f1 x) F1 := fadd_comm _ _
        rw [e1] at T4
        have T := (t1.trans T2).trans (T3.trans T4)
        rw [fadd_comm F1 Fo] at T
        exact T
      · rcases Nat.eq_zero_or_pos (Fo a) with z | z
        · have := A1.nd a; omega
        · have := ap a z; have := (ok a).1; omega
  · cases hg
theorem v_make {fs : En → Option (List D × En)} {p : Pos} (M : Mk X.K C f) (hF : FnG X.prog X.w X.K X.mg X.base CX0 k f fd ps (spFn (Cx.R X) n [0] F)) (hr : RoomG (k + 1) X.A) (hg : Gl X c) (hm : X.mg c = some (.ref C)) (hb : Binds X.K fd ps [])
    (ha : PAv X (a :: as) fs) (hn : ∀ (e : En) (p : List D × En), fs e = some p → p.1.length + 1 = n) (hdb : (c == ("__debug__" : Str)) = false := by decide) (he : starEach (a :: as) X.env = (false, eval a X.env) :: starEach as X.env := by rfl) (hpl : (backTo pos (starEach as X.env)).any (·.1) = false := by rfl) :
    PEv X (.Call (.Name c p) (a :: as) [] pos) (vMake c F fs) := pe_imp (pe_makeG M hF hr hg hm hb pass0 ha hdb he hpl) (semV_make hm hn _)
end
end Z

set_option Elab.async false
set_option linter.all false
set_option maxRecDepth 100000
set_option maxHeartbeats 1000000
/-! # Dict comprehensions, ranges as lists, turned about, in -/
namespace Z
open PySem PySem.Spec PyProof.Rows L2

theorem dc_it {J : It} {n : Nat} {G : Hp → Prop} {Y : Nat → Hp → V → Hp → Prop} (w : Walk J n G Y) {g : TG} {tt : TT} {tk tv : TE} {vs : List Nat} {σ : L2.St} {H1 : Hp} {D : Addr} {Qd : Hp → Prop} (Pv : Nat → Hp → Prop) (h0 : Pv 0 (upd H1 D (.dK []))) (hG : ∀ i H, i ≤ n → Pv i H → G H)
    (hs : ∀ i x H H', i < n → Pv i H → Y i H x H' → g x (wipe σ vs) H' fun σ2 H2 => wipe σ2 vs = wipe σ vs ∧ tt σ2 H2 fun b H3 =>
      if b = true then tk σ2 H3 fun y H4 => tv σ2 H4 fun z H5 => ∃ kvs k, y = kV k ∧ H5 D = some (.dK kvs) ∧ kvs.length < sizeLine ∧ Pv (i + 1) (upd H5 D (.dK (putK kvs k z))) else Pv (i + 1) H3) (hd : ∀ H, Pv n H → Qd H) :
    ∃ W : Nat → Nat → Hp → Prop, (∃ m, W 0 m (upd H1 D (.dK []))) ∧ ∀ i m H, W i m H →
      (J.stop i H ∧ Qd H) ∨ (J.go i H ∧ ∃ Nx : Hp → Prop, (∀ H', Nx H' → ∃ m', m' < m ∧ W (i + 1) m' H') ∧ ∀ x H', J.yld i H x H' → g x (wipe σ vs) H' fun σ2 H2 => wipe σ2 vs = wipe σ vs ∧ tt σ2 H2 fun b H3 =>
        if b = true then tk σ2 H3 fun y H4 => tv σ2 H4 fun z H5 => ∃ kvs k, y = kV k ∧ H5 D = some (.dK kvs) ∧ kvs.length < sizeLine ∧ Nx (upd H5 D (.dK (putK kvs k z))) else Nx H3) := by
  refine ⟨fun i m H => m = n - i ∧ i ≤ n ∧ Pv i H, ⟨n, by simp, Nat.zero_le _, h0⟩, ?_⟩
  rintro i m H ⟨rfl, hi, p⟩
  have q := hG i H hi p
  by_cases hlt : i < n
  · exact .inr ⟨w.goes i H hlt q, Pv (i + 1), fun H' p' => ⟨n - (i + 1), by omega, rfl, hlt, p'⟩, fun x H' y => hs i x H H' hlt p (w.yields i H x H' hlt q y)⟩
  · have e : i = n := by omega
    subst e
    exact .inl ⟨w.stops H q, hd H p⟩
/-- entries one after another, all frozen -/
def dcGo (bd : D → En → Option En) (gt : En → Option Bool) (gk gv : En → Option D) (e0 : En) : List D → List Key → List D → Option (List Key × List D)
  | [], ks, ds => some (ks, ds)
  | it :: r, ks, ds => (bd it e0).bind fun e1 => (gt e1).bind fun b => if b = true then (gk e1).bind fun dk => (gv e1).bind fun d => (keyD dk).bind fun k => if isFz d = true then (putD k d ks ds).bind fun w => dcGo bd gt gk gv e0 r w.1 w.2 else none
    else dcGo bd gt gk gv e0 r ks ds
def eDc (vs : List Nat) (gi : En → Option (List D)) (bd : D → En → Option En) (gt : En → Option Bool) (gk gv : En → Option D) (e : En) : Option D :=
  (gi e).bind fun items => if items.length ≤ lim then (dcGo bd gt gk gv (wipeE e vs) items [] []).bind fun w => some (.dk true w.1 w.2) else none
section
variable {R : RC} {vs : List Nat} {gi : En → Option (List D)} {bd : D → En → Option En} {gt : En → Option Bool} {gk gv : En → Option D}
theorem putK_len (kvs : List (Key × V)) (k : Key) (v : V) : (putK kvs k v).length ≤ kvs.length + 1 := by
  unfold putK
  split
  · rw [List.length_map]; omega
  · rw [List.length_append]; simp
theorem semF_dc (σ : L2.St) (H : Hp) (Q : VK) (w : semF R (eDc vs gi bd gt gk gv) σ H Q) : tDc (semI R gi) (semG R vs bd) (semT R gt) (semB R gk) (semB R gv) vs σ H Q := by
  obtain ⟨S, e, F, B, d, A, hg, k⟩ := w
  unfold eDc at hg
  obtain ⟨items, q, hg⟩ := bind_some2 hg
  split at hg
  case isFalse => cases hg
  case isTrue hz =>
    obtain ⟨fin, q2, hg⟩ := bind_some2 hg
    cases hg
    refine ⟨S, e, F, B, items, A, q, fun J S1 H1 Fb t1 it hb => ?_⟩
    intro p hp
    obtain ⟨G, Y, wk, hG, hY⟩ := it.ex
    have A1 := A.step t1
    obtain ⟨F0, B0, re0, _, _⟩ := A1.re.wipe A1.sh vs
    refine dc_it wk (fun i H2 => ∃ S2 kvs ds, Stp S1 H1 f0 S2 H2 (f1 p) ∧ S2 p = none ∧ H2 p = some (.dK kvs) ∧ reps R S2 H2 ds (kvs.map (·.2)) f0 ∧
      dcGo bd gt gk gv (wipeE e vs) (items.drop i) (kvs.map (·.1)) ds = some fin ∧ kvs.length ≤ i) ?_ ?_ ?_ ?_
    · refine ⟨S1, [], [], .make t1.sh hp, ?_, upd_same, by simp only [List.map_nil, reps]; exact ⟨trivial, trivial⟩, q2, Nat.zero_le _⟩
      cases z : S1 p with
      | none => rfl
      | some o => rw [t1.sh p o z] at hp; cases hp
    · rintro i H2 hi ⟨S2, kvs, ds, t2, _⟩
      exact hG H2 fun x o hx _ => t2.ext x o hx
    · rintro i x H2 H3 hi ⟨S2, kvs, ds, t2, np, hacc, rr, hrest, hlen⟩ hy
      have hx : items[i]? = some items[i] := List.getElem?_eq_getElem hi
      have kk : Kept S1 H1 Fb H2 := fun x o hx _ => t2.ext x o hx
      have dom : ∀ a, 0 < Fb a → S2 a = none := fun a ha => by
        obtain ⟨⟨w, hw⟩, hs⟩ := it.dom a ha
        cases z : S2 a with
        | none => rfl
        | some o =>
          rcases t2.st a o z with y | y | y
          · rw [hs] at y; cases y
          · exact absurd y (Nat.lt_irrefl 0)
          · rw [hw] at y; cases y
      obtain ⟨t3, Fx, rx, _⟩ := hY i S2 H2 x H3 items[i] t2.es t2.sh kk dom hx hy
      rw [List.drop_eq_getElem_cons hi] at hrest
      unfold dcGo at hrest
      obtain ⟨e1, qb, hrest⟩ := bind_some2 hrest
      obtain ⟨b, qt, hrest⟩ := bind_some2 hrest
      have A2 : At0 R S2 H3 (wipe σ vs) (wipeE e vs) F0 B0 := ⟨t3.sh, (re0.step t2 fun _ _ => rfl).step t3 fun _ _ => rfl⟩
      refine ⟨S2, wipeE e vs, F0, B0, items[i], e1, Fx, A2, rx, qb, fun σ2 F2 B2 A3 ag ln => ?_⟩
      refine ⟨wipe_same ag ln, S2, e1, F2, B2, b, A3, qt, fun S4 H4 t4 => ?_⟩
      have keep : ∀ {S5 H5 : Hp}, Stp S2 H3 f0 S5 H5 f0 → S5 p = none ∧ H5 p = some (.dK kvs) ∧ reps R S5 H5 ds (kvs.map (·.2)) f0 ∧ Stp S1 H1 f0 S5 H5 (f1 p) := fun {S5 H5} t => by
        have T := t3.trans t
        refine ⟨?_, T.ext p _ hacc, reps_step T ds _ f0 rr fun _ _ => rfl, ?_⟩
        · cases z : S5 p with
          | none => rfl
          | some o =>
            rcases T.st p o z with y | y | y
            · rw [np] at y; cases y
            · exact absurd y (Nat.lt_irrefl 0)
            · rw [hacc] at y; cases y
        · have := t2.trans ((T.frame (f1 p)).weak (G := f1 p) fun a ha => by rw [fadd_f0] at ha; exact ha)
          rw [fadd_f0] at this; exact this
      dsimp only
      cases b with
      | false =>
        rw [if_neg Bool.false_ne_true] at hrest ⊢
        obtain ⟨k1, k2, k3, k4⟩ := keep t4
        exact ⟨S4, kvs, ds, k4, k1, k2, k3, hrest, by omega⟩
      | true =>
        rw [if_pos rfl] at hrest ⊢
        obtain ⟨dk, qk, hrest⟩ := bind_some2 hrest
        obtain ⟨dv, qv, hrest⟩ := bind_some2 hrest
        obtain ⟨kk, qkk, hrest⟩ := bind_some2 hrest
        split at hrest
        case isFalse => cases hrest
        case isTrue hzz =>
          obtain ⟨wn, qp, hrest⟩ := bind_some2 hrest
          refine ⟨S4, e1, F2, B2, dk, A3.step t4, qk, fun y S5 H5 F5 t5 r5 o5 => ?_⟩
          refine ⟨S5, e1, F2, B2, dv, (A3.step t4).step t5, qv, fun z S6 H6 F6 t6 r6 o6 => ?_⟩
          obtain ⟨rfl, _⟩ := keyD_rep r5 qkk
          have h6 := isFz_f0 dv z F6 r6 hzz
          subst h6
          obtain ⟨k1, k2, k3, k4⟩ := keep ((t4.trans t5).trans t6)
          obtain ⟨G2, g1, g2, g3⟩ := reps_putD (ks' := wn.1) (ds' := wn.2) k3 r6 qp
          have : G2 = f0 := by funext a; have := g3 a; rw [f0_at] at *; omega
          subst this
          refine ⟨kvs, kk, rfl, k2, Nat.lt_of_le_of_lt hlen (Nat.lt_of_lt_of_le hi (Nat.le_trans hz (Nat.le_of_lt lim_lt))), S6, putK kvs kk z, wn.2, ?_, k1, upd_same, ?_, by rw [g1]; exact hrest, by have := putK_len kvs kk z; omega⟩
          · exact k4.trans (Stp.write (o' := .dK (putK kvs kk z)) t6.sh k2 True.intro k1)
          · exact reps_step (Stp.write (o' := .dK (putK kvs kk z)) t6.sh k2 True.intro k1) _ _ f0 g2 fun x hx => absurd hx (Nat.lt_irrefl 0)
    · rintro H2 ⟨S2, kvs, ds, t2, np, hacc, rr, hrest, hlen⟩
      rw [List.drop_length] at hrest
      cases hrest
      refine k (.ref p) S2 H2 (f1 p) (t1.trans t2) (fun a => ⟨by rw [f1_at]; split <;> omega, fun ha => ?_⟩) ?_
      · rw [f1_at] at ha
        by_cases z : a = p
        · rw [z, hacc]; exact True.intro
        · rw [if_neg z] at ha; omega
      · simp only [rep]
        exact ⟨p, kvs, f0, rfl, ⟨hacc, np, (fadd_f0 _).symm⟩, rfl, rr⟩
end
section
variable {X : Cx} {vs : List Nat} {gi : En → Option (List D)} {bd : D → En → Option En} {gt : En → Option Bool} {gk gv : En → Option D} {kx vx tg iter : Expr} {ifs : List Expr} {scope : Scope} {own : List (Str × Nat)} {pos : Pos}
theorem f_dc (hc : X.calm = true) (hN : X.N.Nodup) (hi : PIb X tg iter gi) (ok : BlkOk X.N X.env.scope scope own) (hv : own.map (·.2) = vs)
    (hg : ∀ (s : Shared) (H : Hp) (C : Addr) (cl : List (Str × Addr)) (fp : List Addr), PGb (X.blk s H scope (compEnvC scope cl C X.env) fp) vs tg bd)
    (ht : ∀ (s : Shared) (H : Hp) (C : Addr) (cl : List (Str × Addr)) (fp : List Addr), PTsb (X.blk s H scope (compEnvC scope cl C X.env) fp) ifs gt)
    (hk : ∀ (s : Shared) (H : Hp) (C : Addr) (cl : List (Str × Addr)) (fp : List Addr), PEb (X.blk s H scope (compEnvC scope cl C X.env) fp) kx gk)
    (he : ∀ (s : Shared) (H : Hp) (C : Addr) (cl : List (Str × Addr)) (fp : List Addr), PEb (X.blk s H scope (compEnvC scope cl C X.env) fp) vx gv) (hs : ∀ x, foldedSetIterable iter X.env x = pure x := by intro _; rfl) :
    PEf X (.DictComp kx vx [⟨tg, iter, ifs, 0⟩] scope pos) (eDc vs gi bd gt gk gv) := by
  subst hv
  exact pe_imp (pe_dc (g := semG (Cx.R X) (own.map fun x : Str × Nat => x.2) bd) (tt := semT (Cx.R X) gt) (tk := semB (Cx.R X) gk) (tv := semB (Cx.R X) gv) hc hN hi ok (fun s H C cl fp => hg s H C cl fp) (fun s H C cl fp => ht s H C cl fp) (fun s H C cl fp => hk s H C cl fp) (fun s H C cl fp => he s H C cl fp) hs) semF_dc
/-- {} -/
theorem f_emp : PEf X (.Dict [] [] pos) (eC (.dk true [] [])) := pe_imp pe_dnewK fun σ H Q ⟨S, e, F, B, d, A, hg, k⟩ p hp => by
  cases hg
  have t := Stp.make (o := .dK []) A.sh hp
  refine k (.ref p) S _ (f1 p) t (fun a => ⟨by rw [f1_at]; split <;> omega, fun ha => ?_⟩) ?_
  · rw [f1_at] at ha
    by_cases z : a = p
    · rw [z, upd_same]; exact True.intro
    · rw [if_neg z] at ha; omega
  · simp only [rep]
    refine ⟨p, [], f0, rfl, ⟨upd_same, ?_, (fadd_f0 _).symm⟩, rfl, by simp only [List.map_nil, reps]; exact ⟨trivial, trivial⟩⟩
    cases z : S p with
    | none => rfl
    | some o => rw [A.sh p o z] at hp; cases hp
end

/-! ranges as lists -/
def eRgL (r : List D → Option (List D)) (gs : En → Option (List D)) (e : En) : Option D := (gs e).bind fun ds => (r ds).bind fun l => some (.lst true l)
def eRgT (r : List D → Option (List D)) (gs : En → Option (List D)) (e : En) : Option D := (gs e).bind fun ds => (r ds).bind fun l => some (.tup l)
section
variable {X : Cx} {a b : Expr} {g h : En → Option D} {p pos p2 pos2 : Pos}
theorem rg_upTo (i j : Int) : rgV i j = (List.range (j - i).toNat).map fun k => V.int (i + (k : Nat)) := rfl
theorem reps_upTo {R : RC} {S H : Hp} (lo : Int) (n : Nat) : reps R S H (upTo lo n) ((List.range n).map fun k => V.int (lo + (k : Nat))) f0 := by
  unfold upTo
  have e : (List.range n).map (fun k => V.int (lo + (k : Nat))) = ((List.range n).map fun k => lo + ((k : Nat) : Int)).map V.int := by rw [List.map_map]; rfl
  have e2 : (List.range n).map (fun i => D.int (lo + (i : Nat))) = ((List.range n).map fun k => lo + ((k : Nat) : Int)).map D.int := by rw [List.map_map]; rfl
  rw [e, e2]
  exact reps_ints _
theorem rng1_int {d : D} {items : List D} (h : rng1Of [d] = some items) : ∃ n : Int, d = .int n ∧ items = upTo 0 n.toNat ∧ -1000000000 ≤ n ∧ n ≤ 1000000 := by
  unfold rng1Of at h
  split at h
  · rename_i n q
    cases q
    split at h
    case isFalse => cases h
    case isTrue hz => cases h; exact ⟨n, rfl, rfl, hz⟩
  · cases h
theorem f_rgL (hc : X.calm = true) (hg : Gl X "list") (hm : X.mg "list" = none) (hg2 : Gl X "range") (hm2 : X.mg "range" = none) (ha : PEb X a g) (na : starEach [a] X.env = (false, eval a X.env) :: starEach [] X.env := by rfl)
    (na2 : starEach [.Call (.Name "range" p2) [a] [] pos2] X.env = (false, eval (.Call (.Name "range" p2) [a] [] pos2) X.env) :: starEach [] X.env := by rfl) :
    PEf X (.Call (.Name "list" p) [.Call (.Name "range" p2) [a] [] pos2] [] pos) (eRgL rng1Of (esCons g esNil)) := pe_imp (pe_listRg hc hg hm (prg_1 hg2 hm2 ha na) na2) fun σ H Q ⟨S, e, F, B, d, A, hq, k⟩ => by
  unfold eRgL esCons at hq
  obtain ⟨ds, q1, hq⟩ := bind_some2 hq
  obtain ⟨d0, q2, q3⟩ := bind_some2 q1
  cases q3
  obtain ⟨l, q4, hq⟩ := bind_some2 hq
  cases hq
  obtain ⟨n, rfl, rfl, n1, n2⟩ := rng1_int q4
  refine ⟨S, e, F, B, .int n, A, q2, fun v S1 H1 Fb t1 r1 _ => ?_⟩
  simp only [rep] at r1
  refine ⟨n, r1.1, ⟨by omega, by omega, by omega, by omega, by omega⟩, fun q hq => ?_⟩
  have K := PostF.at (S := S) (H := H) (fun v S' H' Fb t n r => k v S' H' Fb t n r) t1
  have e1 : (n - 0).toNat = n.toNat := by rw [Int.sub_zero]
  rw [rg_upTo, e1]
  exact K.newL t1.sh (reps_upTo 0 n.toNat) hq
theorem f_rgT (hc : X.calm = true) (hg : Gl X "tuple") (hm : X.mg "tuple" = none) (hg2 : Gl X "range") (hm2 : X.mg "range" = none) (ha : PEb X a g) (na : starEach [a] X.env = (false, eval a X.env) :: starEach [] X.env := by rfl)
    (na2 : starEach [.Call (.Name "range" p2) [a] [] pos2] X.env = (false, eval (.Call (.Name "range" p2) [a] [] pos2) X.env) :: starEach [] X.env := by rfl) :
    PEf X (.Call (.Name "tuple" p) [.Call (.Name "range" p2) [a] [] pos2] [] pos) (eRgT rng1Of (esCons g esNil)) := pe_imp (pe_tupRg hc hg hm (prg_1 hg2 hm2 ha na) na2) fun σ H Q ⟨S, e, F, B, d, A, hq, k⟩ => by
  unfold eRgT esCons at hq
  obtain ⟨ds, q1, hq⟩ := bind_some2 hq
  obtain ⟨d0, q2, q3⟩ := bind_some2 q1
  cases q3
  obtain ⟨l, q4, hq⟩ := bind_some2 hq
  cases hq
  obtain ⟨n, rfl, rfl, n1, n2⟩ := rng1_int q4
  refine ⟨S, e, F, B, .int n, A, q2, fun v S1 H1 Fb t1 r1 _ => ?_⟩
  simp only [rep] at r1
  refine ⟨n, r1.1, ⟨by omega, by omega, by omega, by omega, by omega⟩, fun q hq => ?_⟩
  have K := PostF.at (S := S) (H := H) (fun v S' H' Fb t n r => k v S' H' Fb t n r) t1
  have e1 : (n - 0).toNat = n.toNat := by rw [Int.sub_zero]
  rw [rg_upTo, e1]
  exact K.newT t1.sh (reps_upTo 0 n.toNat) hq
end
end Z

set_option Elab.async false
set_option linter.all false
set_option maxRecDepth 100000
set_option maxHeartbeats 1000000
/-! # x[::-1], in -/
namespace Z
open PySem PySem.Spec PyProof.Rows L2

section
variable {prog : Program} {w : World} {A : Around} {E : Value → Shared → Prop} {s : Shared}
theorem rev_pick (xs : Array Value) : ((List.range xs.size).filterMap fun (k : Nat) => xs[(((xs.size : Int) - 1) + (k : Int) * (-1)).toNat]?).toArray = xs.toList.reverse.toArray := by
  congr 1
  have e : ∀ k ∈ List.range xs.size, xs[(((xs.size : Int) - 1) + (k : Int) * (-1)).toNat]? = some (xs.toList.reverse.getD k Value.none) := fun k hk => by
    have hk := List.mem_range.mp hk
    have e1 : (((xs.size : Int) - 1) + (k : Int) * (-1)).toNat = xs.size - 1 - k := by omega
    rw [e1]
    have h1 : xs.size - 1 - k < xs.size := by omega
    rw [Array.getElem?_eq_getElem h1]
    rw [List.getD_eq_getElem?_getD, List.getElem?_reverse (by simpa using hk)]
    simp [h1]
  apply List.ext_getElem?
  intro i
  have e2 : ∀ l : List Nat, (∀ k ∈ l, k ∈ List.range xs.size) → l.filterMap (fun (k : Nat) => xs[(((xs.size : Int) - 1) + (k : Int) * (-1)).toNat]?) = l.map fun k => xs.toList.reverse.getD k Value.none := by
    intro l
    induction l with
    | nil => intro _; rfl
    | cons k l ih =>
      intro h
      rw [List.filterMap_cons, e k (h k List.mem_cons_self), List.map_cons, ih fun j hj => h j (List.mem_cons_of_mem _ hj)]
  rw [e2 _ fun _ h => h, List.getElem?_map]
  by_cases hi : i < xs.size
  · rw [List.getElem?_range hi]
    simp [List.getD_eq_getElem?_getD, List.getElem?_reverse, hi]
  · rw [List.getElem?_eq_none (by simp; omega), List.getElem?_eq_none (by simp; omega)]
    rfl
theorem getItem_tuple_rev {t sl : Addr} {items : Array Value} {u : Tok} {Q : Value → Shared → Prop} (ht : IsTup s.heap t items) (hs : s.heap.IsSliceOf sl .none .none (.int (-1) u))
    (h : Q (.ref s.heap.objs.size) { s with heap := s.heap.push { cls := .type "tuple", data := .seq items.toList.reverse.toArray } }) (hsz : items.size ≤ sizeLine) : wpAny (model prog w) A (getItem (.ref t) (.ref sl)) Q E s := by
  obtain ⟨os, hos, hcs, hds⟩ := id hs
  have hTs : s.TypeIs (.ref sl) "slice" := ⟨os, hos, hcs⟩
  unfold getItem
  try with_reducible refine wpAny_holding ?_
  first | refine wpAny_bind (wpAny_pure ?_) | skip
  refine wpAny_bind (wpAny_sequenceKey ht.typeIs (by decide) ?_)
  refine wpAny_bind (wpAny_callSpecial?_slot (name := Str.ofString "__getitem__") ht.typeIs PyProof.Rows.slot_tuple_getitem
    (wpAny_call_entry PyProof.Rows.slot_tuple_getitem ht.typeIs entry_tuple_getitem ?_ (args_tuple_getitem _ _)))
  show wpAny _ _ (Builtin.Tuple.tupleItemsOf (.ref t) >>= _) _ _ s
  refine wpAny_bind (tupleItemsOf_ ht ?_)
  refine wpAny_bind (wpAny_typeOf hTs ?_)
  rw [if_pos (by decide)]
  have app : ∀ {Q : Int × Int × Nat → Shared → Prop} {A : Around} {E : Value → Shared → Prop}, Q ((items.size : Int) - 1, -1, items.size) s → wpAny (model prog w) A (Builtin.Slice.sliceApplied (.ref sl) (pure (items.size : Int))) Q E s := fun {Q A E} hq => by
    unfold Builtin.Slice.sliceApplied Builtin.Slice.sliceFields
    refine wpAny_bind (wpAny_bind (wpAny_field hos hds (x := .none) rfl (wpAny_bind (wpAny_field hos hds (x := .none) rfl (wpAny_bind (wpAny_field hos hds (x := .int (-1) u) rfl (wpAny_pure ?_)))))))
    refine wpAny_bind (slicePart_int ?_)
    show wpAny _ _ (if ((-1 : Int) == 0) = true then _ else _) _ _ s
    rw [if_neg (by decide)]
    refine wpAny_bind (slicePart_none (wpAny_bind (slicePart_none (wpAny_bind (wpAny_pure ?_)))))
    show wpAny _ _ (match Builtin.Slice.sliceAdjust none none (-1) (items.size : Int) with | (lo, hi) => pure (lo, (-1 : Int), Builtin.Slice.slicePlaces lo hi (-1))) _ _ s
    have e1 : Builtin.Slice.sliceAdjust none none (-1) (items.size : Int) = ((items.size : Int) - 1, -1) := rfl
    rw [e1]
    have e2 : Builtin.Slice.slicePlaces ((items.size : Int) - 1) (-1) (-1) = items.size := by
      unfold Builtin.Slice.slicePlaces
      rw [if_neg (by decide)]
      split
      · have : (-(-1 : Int)) = 1 := rfl
        rw [this, Int.ediv_one]; omega
      · omega
    show wpAny _ _ (pure ((items.size : Int) - 1, (-1 : Int), Builtin.Slice.slicePlaces ((items.size : Int) - 1) (-1) (-1))) _ _ s
    rw [e2]
    exact wpAny_pure hq
  refine wpAny_bind (app ?_)
  have hno : ¬ ((((items.size : Int) - 1) == 0 && (-1 : Int) == 1 && items.size == items.size) = true) := by
    intro q
    rw [Bool.and_eq_true, Bool.and_eq_true] at q
    exact absurd q.1.2 (by decide)
  show wpAny _ _ (if (((items.size : Int) - 1) == 0 && (-1 : Int) == 1 && items.size == items.size) = true then _ else _) _ _ s
  have hz : sizeOk (.seq items.toList.reverse.toArray) := by
    show items.toList.reverse.toArray.size ≤ sizeLine
    simpa using hsz
  rw [if_neg hno, rev_pick]
  first
    | exact wpAny_bind (m := Builtin.Tuple.tupleExact _) (wpAny_newObj_type (wpAny_pure ⟨_, rfl, wpAny_pure h⟩) hz)
    | exact wpAny_bind (m := Builtin.Tuple.tupleExact _) (wpAny_newObj_type (wpAny_bind (wpAny_pure (wpAny_pure ⟨_, rfl, wpAny_pure h⟩))) hz)
    | exact wpAny_bind (wpAny_bind (m := Builtin.Tuple.tupleExact _) (wpAny_newObj_type (wpAny_pure (wpAny_pure ⟨_, rfl, wpAny_pure h⟩)) hz))
    | exact wpAny_bind (wpAny_bind (m := Builtin.Tuple.tupleExact _) (wpAny_newObj_type (wpAny_pure ⟨_, rfl, wpAny_pure h⟩) hz))
end

def tRevT (K : PySem.W.Frag) (te : TE) : TE := fun σ H Q => te σ H fun x H1 => ∃ a xs, x = .ref a ∧ SqT K H1 a xs ∧ ∀ p, H1 p = none → Q (.ref p) (upd H1 p (.tup xs.reverse))
section
variable {X : Cx} {e : Expr} {te : TE} {k : Nat} {p1 p2 p3 pos : Pos} {g : En → Option D}
theorem pe_revT (he : PE X e te) : PE X (.Subscript e (.Slice none none (some (.UnaryOp .USub (.Constant (.int 1) k p1) p2)) p3) pos) (tRevT X.K te) := by
  refine ⟨fun pins s σ H Q I h => ?_⟩
  refine Subscript_ (thn (he.run pins s σ H _ I h) fun v s1 ⟨x, H1, I1, r1, q1⟩ => ?_)
  obtain ⟨a, xs, ex, hx, q⟩ := q1
  subst ex
  cases r1
  have hst : PO X (some (.UnaryOp .USub (.Constant (.int 1) k p1) p2)) (tPart (tUn (rU fun i => .int (-i)) (tC (.int 1)))) := po_some (pe_un un_neg pe_int)
  refine wpAny_Slice (thn (po_none.run pins s1 σ H1 (fun o H2 => o = none ∧ H2 = H1) I1 ⟨rfl, rfl⟩) fun vl s2 ⟨l, H2, I2, pl, el, e2⟩ => ?_)
  subst el e2
  refine thn (po_none.run pins s2 σ H2 (fun o H3 => o = none ∧ H3 = H2) I2 ⟨rfl, rfl⟩) fun vu s3 ⟨u, H3, I3, pu, eu, e3⟩ => ?_
  subst eu e3
  refine thn (hst.run pins s3 σ H3 (fun o H4 => o = some (-1) ∧ H4 = H3) I3 ⟨1, rfl, -1, rfl, rfl, rfl⟩) fun vs s4 ⟨o, H4, I4, ps, eo, e4⟩ => ?_
  subst eo e4
  have I5 : Inv X pins σ H4 { s4 with heap := s4.heap.push { cls := .type "slice", data := .fields #[vl, vu, vs] } } := I4.kept (t' := s4.toks) fun b ob q => Heap.get?_push_of_some _ q
  obtain ⟨its, r, ht, hz⟩ := I5.tuple hx
  have hlen := r.length
  cases pl
  cases pu
  obtain ⟨t, rfl⟩ : ∃ t, vs = .int (-1) t := by cases ps; exact ⟨_, rfl⟩
  show wpAny (model X.prog X.w) X.A (subscriptTail e (.Slice none none (some (.UnaryOp .USub (.Constant (.int 1) k p1) p2)) p3) (.ref a) (.ref s4.heap.objs.size)) (EP X pins σ Q) X.xe { s4 with heap := s4.heap.push { cls := .type "slice", data := .fields #[.none, .none, .int (-1) t] } }
  refine tail_any (ops := [.ref a, .ref s4.heap.objs.size]) (show Shared.TypeIs _ (.ref a) "tuple" from IsTup.typeIs ht) (PyProof.Rows.slot_tuple_getitem.lookup) ?_ (by with_unfolding_all rfl)
  refine getItem_tuple_rev ht (Heap.IsSliceOf.new _ .none .none (.int (-1) t)) ?_ (by rw [List.size_toArray]; omega)
  refine ⟨.ref _, _, I5.laid (t' := s4.toks) (o := .tup xs.reverse) (fun b ob q => Heap.get?_push_of_some _ q) (Nat.le_refl _) ?_, rfl, q _ (I5.hok.fresh (Nat.le_refl _))⟩
  exact ⟨by rw [List.length_reverse]; exact hz, _, r.reverse, ⟨_, Heap.get?_push_size _ rfl, rfl, 0, by simp⟩⟩
theorem pe_either {x : Expr} {t u : TE} (h : PE X x t) (h' : PE X x u) : PE X x (fun σ H Q => t σ H Q ∨ u σ H Q) := ⟨fun pins s σ H Q I z => z.elim (h.run pins s σ H Q I) (h'.run pins s σ H Q I)⟩
def dRev : D → Option D
  | .tup l => if isFzs l = true then some (.tup l.reverse) else none
  | .lst _ l => if isFzs l = true then some (.lst true l.reverse) else none
  | _ => none
theorem reps_reverse {R : RC} {S H : Hp} : ∀ {l : List D} {vs : List V}, reps R S H l vs f0 → reps R S H l.reverse vs.reverse f0
  | [], vs, h => by simp only [reps] at h; rw [h.1]; simp only [List.reverse_nil, reps]; exact ⟨trivial, trivial⟩
  | d :: l, vs, h => by
    simp only [reps] at h
    obtain ⟨v, vr, F1, F2, rfl, h1, h2, z⟩ := h
    obtain ⟨rfl, rfl⟩ := fadd_zero z.symm
    rw [List.reverse_cons, List.reverse_cons]
    have := reps_append (reps_reverse h2) (reps_one h1)
    rw [fadd_f0] at this; exact this
theorem f_rev (h : PEb X e g) : PEf X (.Subscript e (.Slice none none (some (.UnaryOp .USub (.Constant (.int 1) k p1) p2)) p3) pos) (eUn dRev g) := pe_imp (pe_either (pe_revL h) (pe_revT h)) fun σ H Q ⟨S, e, F, B, d, A, hg, kk⟩ => by
  unfold eUn at hg
  obtain ⟨d0, q, hg⟩ := bind_some2 hg
  cases d0 <;> try (simp only [dRev] at hg; cases hg; done)
  case tup l =>
    simp only [dRev] at hg
    split at hg
    case isFalse => cases hg
    case isTrue hz =>
      cases hg
      refine .inr ⟨S, e, F, B, .tup l, A, q, fun v S1 H1 Fb t1 r1 _ => ?_⟩
      have K := PostF.at (S := S) (H := H) (fun v S' H' Fb t n r => kk v S' H' Fb t n r) t1
      obtain ⟨a, xs, rfl, h1, h2⟩ := rep_tup r1
      exact ⟨a, xs, rfl, h1, fun p hp => K.newT t1.sh (reps_reverse (reps_fzz h2 hz)) hp⟩
  case lst o l =>
    simp only [dRev] at hg
    split at hg
    case isFalse => cases hg
    case isTrue hz =>
      cases hg
      refine .inl ⟨S, e, F, B, .lst o l, A, q, fun v S1 H1 Fb t1 r1 _ => ?_⟩
      have K := PostF.at (S := S) (H := H) (fun v S' H' Fb t n r => kk v S' H' Fb t n r) t1
      obtain ⟨a, xs, F', rfl, h1, h2⟩ := rep_lst t1.sh r1
      exact ⟨a, xs, rfl, h1, fun p hp => K.newL t1.sh (reps_reverse (reps_fzz h2 hz)) hp⟩
end

/-! x in y -/
def memK {κ : Type} [DecidableEq κ] (k : κ) (ks : List κ) : Bool := decide (k ∈ ks)
def dIn (x y : D) : Option D := match y with
  | .dk _ ks _ => (keyD x).bind fun k => some (.bl (memK k ks))
  | .lst o l => if (eqOk x && eqOk (.lst o l)) = true then some (.bl ((dPys l).any fun z => PyData.eqv z (dPy x))) else none
  | _ => none
def dNotIn (x y : D) : Option D := (dIn x y).bind fun d => match d with
  | .bl b => some (.bl (!b))
  | _ => none
def rDInZ (neg : Bool) : R2 := fun y x H Q => ∃ a o, x = .ref a ∧ DGet H a y o ∧ Q (.bl (if neg then !o.isSome else o.isSome)) H
section
variable {X : Cx}
theorem op_dinZ (hu : X.A.units + 64 < cLine) : OpR X (compareOp .In) (rDInZ false) := by
  intro pins s σ H y x iv u Q I ry rx h
  obtain ⟨a, o, rfl, g, q⟩ := h
  obtain rfl : u = Value.ref a := rx
  exact d_in (by omega) I g ry fun s3 I3 => ⟨.bl o.isSome, H, I3, rfl, q⟩
theorem op_dninZ (hu : X.A.units + 64 < cLine) : OpR X (compareOp .NotIn) (rDInZ true) := by
  intro pins s σ H y x iv u Q I ry rx h
  obtain ⟨a, o, rfl, g, q⟩ := h
  obtain rfl : u = Value.ref a := rx
  exact d_notIn (by omega) I g ry fun s3 I3 => ⟨.bl (!o.isSome), H, I3, rfl, q⟩
theorem in_dk {R : RC} {S H : Hp} {x y : V} {dx : D} {o : Bool} {ks : List Key} {ds : List D} {Fx Fy : Fp} {k : Key} (sh : Ext S H) (rx : rep R S H dx x Fx) (ry : rep R S H (.dk o ks ds) y Fy) (e : keyD dx = some k) : ∃ a r, y = .ref a ∧ DGet H a x r ∧ r.isSome = memK k ks := by
  simp only [rep] at ry
  obtain ⟨a, kvs, F', rfl, h1, h2, h3⟩ := ry
  subst h2
  obtain ⟨rfl, _⟩ := keyD_rep rx e
  exact ⟨a, _, rfl, .inl ⟨kvs, k, (h1.rq sh).rd, rfl, rfl⟩, valV_in kvs k⟩
theorem ok_in (hu : X.A.units + 65 < cLine) : OpOk X (compareOp .In) dIn := by
  refine ⟨_, (op_dinZ (by omega)).or (op_inD hu), fun S H x y dx dy Fx Fy d Q sh rx ry hd k => ?_⟩
  unfold dIn at hd
  split at hd
  · obtain ⟨kk, q, hd⟩ := bind_some2 hd
    cases hd
    obtain ⟨a, r, rfl, g, e⟩ := in_dk sh rx ry q
    refine .inl ⟨a, r, rfl, g, ?_⟩
    rw [if_neg Bool.false_ne_true, e]
    exact k.scal sh (repB ..)
  · split at hd
    case isFalse => cases hd
    case isTrue hz =>
      cases hd
      simp only [Bool.and_eq_true, eqOk] at hz
      have h2 := rep_dp sh _ y Fy ry hz.2.1
      simp only [dPy] at h2
      exact .inr ⟨_, _, rep_dp sh dx x Fx rx hz.1.1, h2, hz.1.2, by have := hz.2.2; simp only [dPy] at this; exact this, k.scal sh (repB ..)⟩
  · cases hd
theorem ok_notIn (hu : X.A.units + 65 < cLine) : OpOk X (compareOp .NotIn) dNotIn := by
  refine ⟨_, (op_dninZ (by omega)).or (op_notInD hu), fun S H x y dx dy Fx Fy d Q sh rx ry hd k => ?_⟩
  unfold dNotIn at hd
  obtain ⟨d0, q0, hd⟩ := bind_some2 hd
  unfold dIn at q0
  split at q0
  · obtain ⟨kk, q, q1⟩ := bind_some2 q0
    cases q1
    cases hd
    obtain ⟨a, r, rfl, g, e⟩ := in_dk sh rx ry q
    refine .inl ⟨a, r, rfl, g, ?_⟩
    rw [if_pos rfl, e]
    exact k.scal sh (repB ..)
  · split at q0
    case isFalse => cases q0
    case isTrue hz =>
      cases q0
      cases hd
      simp only [Bool.and_eq_true, eqOk] at hz
      have h2 := rep_dp sh _ y Fy ry hz.2.1
      simp only [dPy] at h2
      exact .inr ⟨_, _, rep_dp sh dx x Fx rx hz.1.1, h2, hz.1.2, by have := hz.2.2; simp only [dPy] at this; exact this, k.scal sh (repB ..)⟩
  · cases q0
end
end Z

set_option Elab.async false
set_option linter.all false
set_option maxRecDepth 100000
set_option maxHeartbeats 1000000
/-! # Short words for derivations -/
namespace Z
open PySem PySem.Spec PyProof.Rows L2
section
variable {X : Cx} {as as' : List Nat}
theorem nb (i : Nat) {x : Str} {pos : Pos} (hN : X.N[i]? = some x := by rfl) (hv : Vis X.env.scope x := by first | exact Or.inl rfl | exact Or.inr (Or.inl rfl) | exact Or.inr (Or.inr rfl)) (hd : (x == ("__debug__" : Str)) = false := by decide)
    (hcd : (x == ("__classdict__" : Str)) = false := by decide) : PEb X (.Name x pos) (eVar i) := b_var hN hv hd hcd
theorem nf (i : Nat) {x : Str} {pos : Pos} (hN : X.N[i]? = some x := by rfl) (hv : Vis X.env.scope x := by first | exact Or.inl rfl | exact Or.inr (Or.inl rfl) | exact Or.inr (Or.inr rfl)) (hd : (x == ("__debug__" : Str)) = false := by decide)
    (hcd : (x == ("__classdict__" : Str)) = false := by decide) : PEf X (.Name x pos) (eFz (eVar i)) := f_of_b (b_var hN hv hd hcd)
theorem nm (i : Nat) {x : Str} {pos : Pos} (hN : X.N[i]? = some x := by rfl) (hv : Vis X.env.scope x := by first | exact Or.inl rfl | exact Or.inr (Or.inl rfl) | exact Or.inr (Or.inr rfl)) (hd : (x == ("__debug__" : Str)) = false := by decide)
    (hcd : (x == ("__classdict__" : Str)) = false := by decide) : PEv X (.Name x pos) (vMove i) := v_move hN hv hd hcd
theorem nz (i : Nat) {x : Str} {pos : Pos} (hN : X.N[i]? = some x := by rfl) (hv : Vis X.env.scope x := by first | exact Or.inl rfl | exact Or.inr (Or.inl rfl) | exact Or.inr (Or.inr rfl)) (hd : (x == ("__debug__" : Str)) = false := by decide)
    (hcd : (x == ("__classdict__" : Str)) = false := by decide) : PEv X (.Name x pos) (vFreeze i) := v_freeze hN hv hd hcd
theorem np (i : Nat) {x : Str} {pos : Pos} (hN : X.N[i]? = some x := by rfl) (hv : Vis X.env.scope x := by first | exact Or.inl rfl | exact Or.inr (Or.inl rfl) | exact Or.inr (Or.inr rfl)) (hd : (x == ("__debug__" : Str)) = false := by decide)
    (hcd : (x == ("__classdict__" : Str)) = false := by decide) : PPl X (.Name x pos) (plName i) := pl_name hN hv hd hcd
/-- an item, effects within -/
theorem v_ix {a b : Expr} {f f' : En → Option (D × En)} {pos : Pos} {o : D → D → Option D} (ho : IxOk X o) (ha : PEv X a f) (hb : PEv X b f') (hs : PlainIx b := by intro _ _; rfl) : PEv X (.Subscript a b pos) (vOp o f f') := by
  obtain ⟨r, h1, h2⟩ := ho
  exact pe_imp (pe_ix h1 ha hb hs) (semV_op h2)
theorem Sm.mono {σ σ' : L2.St} (h : ∀ i ∈ as', i ∈ as) (m : Sm as' σ σ') : Sm as σ σ' := ⟨fun i hi => m.ag i fun q => hi (h i q), m.ln⟩
theorem s_more {st : Stmt} {f : SF} (h : ∀ i ∈ as', i ∈ as) (p : PSv X as' st f) : PSv X as st f := ps_imp p fun D σ H ⟨S, e, F, B, fl, e', A, hf, k⟩ => ⟨S, e, F, B, fl, e', A, hf, by
  cases fl with
  | nx => exact fun σ' S' H' F' t A m => k σ' S' H' F' t A (m.mono h)
  | bk => exact fun σ' S' H' F' t A m => k σ' S' H' F' t A (m.mono h)
  | ct => exact fun σ' S' H' F' t A m => k σ' S' H' F' t A (m.mono h)
  | rt d => exact fun σ' v S' H' Fv F' t A r n mu m => k σ' v S' H' Fv F' t A r n mu (m.mono h)⟩
end
theorem RoomG.u64 {k : Nat} {A : Around} (r : RoomG k A) : A.units + 64 < cLine := r.toRoom.units
theorem RoomG.u65 {k : Nat} {A : Around} (r : RoomG k A) : A.units + 65 < cLine := by have := r.toRoom.un; omega
/-- a def of the module -/
structure DefAt (K : PySem.W.Frag) (mg : Str → Option Value) (x qual : Str) (st : Stmt) (ps : List Str) (f : Addr) (fd : FuncData) : Prop where
  F : Fun K x qual st f fd
  g : mg x = some (.ref f)
  b : Binds K fd ps []
structure MethAt (K : PySem.W.Frag) (C : Addr) (x qual : Str) (st : Stmt) (ps : List Str) (f : Addr) (fd : FuncData) : Prop where
  F : Fun K x qual st f fd
  m : Meth K C x f
  b : Binds K fd ps []
section
variable {X : Cx} {k k' : Nat} {f C : Addr} {fd : FuncData} {ps : List Str} {n : Nat} {F : Fn} {x q : Str} {st : Stmt} {p pos : Pos} {a : Expr} {as : List Expr} {gs : En → Option (List D)} {ar : List Ar} {ls : List Nat}
theorem cf (Dd : DefAt X.K X.mg x q st ps f fd) (hF : FnG X.prog X.w X.K X.mg X.base CX0 k f fd ps (spFn (Cx.R X) n [] F)) (hr : RoomG k' X.A) (ha : PAb X (a :: as) gs) (hn : ∀ (e : En) (ds : List D), gs e = some ds → ds.length = n) (hk : k ≤ k' := by decide)
    (hg : Gl X x := by rfl) (hdb : (x == ("__debug__" : Str)) = false := by decide) (he : starEach (a :: as) X.env = (false, eval a X.env) :: starEach as X.env := by rfl) (hpl : (backTo pos (starEach as X.env)).any (·.1) = false := by rfl) :
    PEf X (.Call (.Name x p) (a :: as) [] pos) (eCall F gs) := f_call (hF.mono hk) hr hg Dd.g Dd.F.kp Dd.b ha hn hdb he hpl
theorem cv (Dd : DefAt X.K X.mg x q st ps f fd) (hF : FnG X.prog X.w X.K X.mg X.base CX0 k f fd ps (spFn (Cx.R X) n ls F)) (hr : RoomG k' X.A) (ha : PAa X (a :: as) ar) (hl : lendIx 0 ar = ls := by rfl) (hn : ar.length = n := by rfl) (hk : k ≤ k' := by decide)
    (hg : Gl X x := by rfl) (hdb : (x == ("__debug__" : Str)) = false := by decide) (he : starEach (a :: as) X.env = (false, eval a X.env) :: starEach as X.env := by rfl) (hpl : (backTo pos (starEach as X.env)).any (·.1) = false := by rfl) :
    PEv X (.Call (.Name x p) (a :: as) [] pos) (vCall F ar) := v_call (hF.mono hk) hr hg Dd.g Dd.F.kp Dd.b ha hl hn hdb he hpl
theorem al (i : Nat) {x : Str} {pos : Pos} {xs : List Expr} {as : List Ar} (hr : PAa X xs as) (hN : X.N[i]? = some x := by rfl) (hv : Vis X.env.scope x := by first | exact Or.inl rfl | exact Or.inr (Or.inl rfl) | exact Or.inr (Or.inr rfl))
    (hd : (x == ("__debug__" : Str)) = false := by decide) (hcd : (x == ("__classdict__" : Str)) = false := by decide)
    (hs : starEach (.Name x pos :: xs) X.env = (false, eval (.Name x pos) X.env) :: starEach xs X.env := by rfl) : PAa X (.Name x pos :: xs) (.lend i :: as) := a_lend hN hv hr hd hcd hs
theorem st1 (i : Nat) {as : List Nat} {y : Str} {pos' : Pos} {v : En → Option (D × En)} (hN : X.N.Nodup) (h : PEv X a v) (hi : X.N[i]? = some y := by rfl) (hx : Loc X.env.scope y := by first | exact Or.inl rfl | exact Or.inr rfl) (ha : i ∈ as := by decide) (hs : swapsWith a (some (.Name y pos')) pos.line X.env = pure false := by rfl)
    (hf : X.fn y = true ∨ X.env.scope.names.lookup y = some .local := by first | exact .inl rfl | exact .inr rfl) : PSv X as (.Assign [.Name y pos'] a pos) (sSet i v) := s_set hN hi hx ha h hs hf
theorem au1 (i : Nat) {as : List Nat} {y : Str} {px : Pos} {g : En → Option D} {o : Operator} {op : Int → Int → Int} (hN : X.N.Nodup) (hop : AugOk X o op) (h : PEb X a g) (hi : X.N[i]? = some y := by rfl) (hx : Loc X.env.scope y := by first | exact Or.inl rfl | exact Or.inr rfl) (ha : i ∈ as := by decide)
    (hf : X.fn y = true ∨ X.env.scope.names.lookup y = some .local := by first | exact .inl rfl | exact .inr rfl) : PSv X as (.AugAssign (.Name y px) o a pos) (sAug i op g) := s_aug hN hi hx ha hop h hf
theorem tgo (i : Nat) {as : List Nat} {y : Str} (hN : X.N.Nodup) (hi : X.N[i]? = some y := by rfl) (hx : Loc X.env.scope y := by first | exact Or.inl rfl | exact Or.inr rfl) (ha : i ∈ as := by decide)
    (hf : X.fn y = true ∨ X.env.scope.names.lookup y = some .local := by first | exact .inl rfl | exact .inr rfl) : PGo X as (.Name y pos) (boName i) := o_name hN hi hx ha hf
theorem tgv (i : Nat) {as : List Nat} {y : Str} (hN : X.N.Nodup) (hi : X.N[i]? = some y := by rfl) (hx : Loc X.env.scope y := by first | exact Or.inl rfl | exact Or.inr rfl) (ha : i ∈ as := by decide)
    (hf : X.fn y = true ∨ X.env.scope.names.lookup y = some .local := by first | exact .inl rfl | exact .inr rfl) : PGv X as (.Name y pos) (boName i) := y_name hN hi hx ha hf
theorem tgb (i : Nat) {vs : List Nat} {y : Str} (hN : X.N.Nodup) (hi : X.N[i]? = some y := by rfl) (hx : Loc X.env.scope y := by first | exact Or.inl rfl | exact Or.inr rfl) (ha : i ∈ vs := by decide)
    (hf : X.fn y = true ∨ X.env.scope.names.lookup y = some .local := by first | exact .inl rfl | exact .inr rfl) : PGb X vs (.Name y pos) (bdName i) := g_name hN hi hx ha hf
end
end Z

set_option Elab.async false
set_option linter.all false
set_option maxRecDepth 100000
set_option maxHeartbeats 1000000
/-! # Reckoning with what is computed -/
namespace Z
open PySem

theorem kit_int_int : L2.kitB "int" "int" = some true := by decide +kernel
theorem kit_bool_int : L2.kitB "bool" "int" = some true := by decide +kernel
theorem kit_bool_bool : L2.kitB "bool" "bool" = some true := by decide +kernel
theorem kit_int_bool : L2.kitB "int" "bool" = some false := by decide +kernel
theorem kit_str_int : L2.kitB "str" "int" = some false := by decide +kernel
theorem kit_str_bool : L2.kitB "str" "bool" = some false := by decide +kernel
theorem kit_tuple_int : L2.kitB "tuple" "int" = some false := by decide +kernel
theorem kit_list_int : L2.kitB "list" "int" = some false := by decide +kernel
theorem kit_dict_int : L2.kitB "dict" "int" = some false := by decide +kernel
theorem kit_none_int : L2.kitB "NoneType" "int" = some false := by decide +kernel
theorem kit_tuple_tuple : L2.kitB "tuple" "tuple" = some true := by decide +kernel
theorem kit_list_tuple : L2.kitB "list" "tuple" = some false := by decide +kernel
theorem kit_dict_tuple : L2.kitB "dict" "tuple" = some false := by decide +kernel
theorem kit_none_tuple : L2.kitB "NoneType" "tuple" = some false := by decide +kernel
theorem kit_int_tuple : L2.kitB "int" "tuple" = some false := by decide +kernel
theorem kit_bool_tuple : L2.kitB "bool" "tuple" = some false := by decide +kernel
theorem kit_str_tuple : L2.kitB "str" "tuple" = some false := by decide +kernel

/-- the end of a def -/
def fin (ls : List Nat) (r : Option (Fl × En)) : Option (D × List D) := r.bind fun p => match p.1 with
  | .rt d => (outs ls p.2).bind fun l => some (d, l)
  | .nx => (outs ls p.2).bind fun l => some (.non, l)
  | _ => none

/-! items frozen through and through -/
theorem isFzs_map {α : Type} (f : α → D) (h : ∀ x, isFz (f x) = true) : ∀ l : List α, isFzs (l.map f) = true
  | [] => by simp [isFzs]
  | x :: l => by simp [isFzs, h x, isFzs_map f h l]
theorem isFzs_all : ∀ {l : List D}, (∀ d ∈ l, isFz d = true) → isFzs l = true
  | [], _ => by simp [isFzs]
  | d :: l, h => by simp [isFzs, h d List.mem_cons_self, isFzs_all fun x hx => h x (List.mem_cons_of_mem _ hx)]
theorem isFzs_mem : ∀ {l : List D}, isFzs l = true → ∀ d ∈ l, isFz d = true
  | d :: l, h, x, hx => by
    simp only [isFzs, Bool.and_eq_true] at h
    rcases List.mem_cons.mp hx with rfl | hx
    · exact h.1
    · exact isFzs_mem h.2 x hx
theorem isFzs_append (l m : List D) : isFzs (l ++ m) = (isFzs l && isFzs m) := by
  induction l with
  | nil => simp [isFzs]
  | cons d l ih => simp [isFzs, ih, Bool.and_assoc]
mutual
theorem fz_same : ∀ d : D, isFz d = true → fz d = d
  | .non, _ => rfl | .bl _, _ => rfl | .int _, _ => rfl | .str _, _ => rfl | .gl _, _ => rfl | .scr _, _ => rfl | .ty _, _ => rfl
  | .tup l, h => by simp only [isFz] at h; simp only [fz, fzs_same l h]
  | .lst o l, h => by simp only [isFz, Bool.and_eq_true, Bool.not_eq_true'] at h; simp only [fz, fzs_same l h.2, h.1]
  | .dk o ks l, h => by simp only [isFz, Bool.and_eq_true, Bool.not_eq_true'] at h; simp only [fz, fzs_same l h.2, h.1]
  | .dt o ks l, h => by simp only [isFz, Bool.and_eq_true, Bool.not_eq_true'] at h; simp only [fz, fzs_same l h.2, h.1]
  | .ob o c fs l, h => by simp only [isFz, Bool.and_eq_true, Bool.not_eq_true'] at h; simp only [fz, fzs_same l h.2, h.1]
theorem fzs_same : ∀ l : List D, isFzs l = true → fzs l = l
  | [], _ => rfl
  | d :: l, h => by simp only [isFzs, Bool.and_eq_true] at h; simp only [fzs, fz_same d h.1, fzs_same l h.2]
end
/-! a comprehension over data -/
theorem lcGo_map {α β : Type} {bd : D → En → Option En} {gt : En → Option Bool} {ge : En → Option D} {e0 : En} (enc : α → D) (E : α → En) (p : α → Bool) (r : α → D) : ∀ (xs : List α),
    (∀ x ∈ xs, bd (enc x) e0 = some (E x) ∧ gt (E x) = some (p x) ∧ (p x = true → ge (E x) = some (r x))) → lcGo bd gt ge e0 (xs.map enc) = some ((xs.filter p).map r)
  | [], _ => rfl
  | x :: xs, h => by
    obtain ⟨h1, h2, h3⟩ := h x List.mem_cons_self
    have ih := lcGo_map (β := β) enc E p r xs fun y hy => h y (List.mem_cons_of_mem _ hy)
    rw [List.map_cons, lcGo, h1, Option.bind_some, h2, Option.bind_some, ih]
    cases q : p x with
    | true => rw [if_pos rfl, h3 q, List.filter_cons, if_pos q]; rfl
    | false => rw [if_neg Bool.false_ne_true, List.filter_cons, q]; rfl
/-- .. over any data -/
theorem lcGo_all {bd : D → En → Option En} {gt : En → Option Bool} {ge : En → Option D} {e0 : En} (E : D → En) (p : D → Bool) (r : D → D) (xs : List D)
    (h : ∀ x ∈ xs, bd x e0 = some (E x) ∧ gt (E x) = some (p x) ∧ (p x = true → ge (E x) = some (r x))) : lcGo bd gt ge e0 xs = some ((xs.filter p).map r) := by
  have := lcGo_map (β := Unit) id E p r xs h
  rwa [List.map_id] at this
theorem blsOf_all {α : Type} (p : α → Bool) (l : List α) : blsOf (l.map fun x => D.bl (p x)) = some (l.map p) := by
  have := blsOf_map (l.map p)
  rw [List.map_map] at this; exact this
theorem intsOf_all {α : Type} (p : α → Int) (l : List α) : intsOf (l.map fun x => D.int (p x)) = some (l.map p) := by
  have := intsOf_map (l.map p)
  rw [List.map_map] at this; exact this

/-! how each word reckons -/
section
variable {e e' : En} {f g : SF} {i j k : Nat} {d d' : D} {t u : En → Option Bool} {tv uv : En → Option (Bool × En)} {a b : En → Option D} {v w : En → Option (D × En)} {gs : En → Option (List D)} {fs : En → Option (List D × En)}
@[simp] theorem z_sNil : sNil e = some (.nx, e) := rfl
@[simp] theorem z_sSeq : sSeq f g e = (f e).bind fun p => match p.1 with | .nx => g p.2 | fl => some (fl, p.2) := rfl
@[simp] theorem z_sBk : sBk e = some (.bk, e) := rfl
@[simp] theorem z_sCt : sCt e = some (.ct, e) := rfl
@[simp] theorem z_sRet : sRet v e = (v e).bind fun p => some (.rt p.1, p.2) := rfl
@[simp] theorem z_sRetN : sRetN e = some (.rt .non, e) := rfl
@[simp] theorem z_sIf : sIf t f g e = (t e).bind fun c => if c = true then f e else g e := rfl
@[simp] theorem z_sIfV : sIfV tv f g e = (tv e).bind fun c => if c.1 = true then f c.2 else g c.2 := rfl
@[simp] theorem z_sDrop : sDrop v e = (v e).bind fun p => some (.nx, p.2) := rfl
@[simp] theorem z_sSet : sSet i v e = (v e).bind fun p => if open? p.2 i = true then some (.nx, p.2.set i (.ow p.1)) else none := rfl
@[simp] theorem z_sAsg {bd : D → En → Option En} : sAsg v bd e = (v e).bind fun p => (bd p.1 p.2).bind fun e' => some (.nx, e') := rfl
@[simp] theorem z_sFor {gi : En → Option (List D × En)} {bd : D → En → Option En} : sFor gi bd f e = (gi e).bind fun p => sForGo bd f p.1 p.2 := rfl
@[simp] theorem z_iOf : iOf gs e = (gs e).bind fun l => some (l, e) := rfl
@[simp] theorem z_eItems : eItems a e = (a e).bind dItems := rfl
@[simp] theorem z_dItems1 {l : List D} : dItems (.tup l) = some l := rfl
@[simp] theorem z_dItems2 {o : Bool} {l : List D} : dItems (.lst o l) = some l := rfl
@[simp] theorem z_vOf : vOf a e = (a e).bind fun d => some (d, e) := by unfold vOf; cases a e <;> rfl
@[simp] theorem z_eC : eC d e = some d := rfl
@[simp] theorem z_eFz : eFz a e = (a e).bind fun d => if isFz d = true then some d else none := by unfold eFz; cases a e <;> rfl
@[simp] theorem z_eOp {o : D → D → Option D} : eOp o a b e = (a e).bind fun x => (b e).bind fun y => o x y := rfl
@[simp] theorem z_eUn {o : D → Option D} : eUn o a e = (a e).bind o := rfl
@[simp] theorem z_vOp {o : D → D → Option D} : vOp o v w e = (v e).bind fun p => (w p.2).bind fun q => (o p.1 q.1).bind fun d => some (d, q.2) := rfl
@[simp] theorem z_vFz : vFz v e = (v e).bind fun p => some (fz p.1, p.2) := rfl
@[simp] theorem z_eIf : eIf t a b e = (t e).bind fun c => if c = true then a e else b e := rfl
@[simp] theorem z_vIf : vIf tv v w e = (tv e).bind fun c => if c.1 = true then v c.2 else w c.2 := rfl
@[simp] theorem z_tBl : tBl a e = (a e).bind fun d => match d with | .bl b => some b | _ => none := by
  unfold tBl
  cases a e with
  | none => rfl
  | some d => cases d <;> rfl
@[simp] theorem z_tBlV : tBlV v e = (v e).bind fun p => match p.1 with | .bl b => some (b, p.2) | _ => none := by
  unfold tBlV
  cases v e with
  | none => rfl
  | some p => obtain ⟨d, e'⟩ := p; cases d <;> rfl
@[simp] theorem z_tAndB : tAndB t u e = (t e).bind fun c => if c = true then u e else some false := rfl
@[simp] theorem z_tOrB : tOrB t u e = (t e).bind fun c => if c = true then some true else u e := rfl
@[simp] theorem z_tNotB : tNotB t e = (t e).bind fun c => some (!c) := rfl
@[simp] theorem z_tAndVv : tAndVv tv uv e = (tv e).bind fun c => if c.1 = true then uv c.2 else some (false, c.2) := rfl
@[simp] theorem z_tOrVv : tOrVv tv uv e = (tv e).bind fun c => if c.1 = true then some (true, c.2) else uv c.2 := rfl
@[simp] theorem z_tNotVv : tNotVv tv e = (tv e).bind fun c => some (!c.1, c.2) := rfl
@[simp] theorem z_tOf : tOf t e = (t e).bind fun c => some (c, e) := rfl
@[simp] theorem z_gYes : gYes e = some true := rfl
@[simp] theorem z_eAnd : eAnd a b e = (tBl a e).bind fun c => if c = true then (tBl b e).bind fun c => some (.bl c) else some (.bl false) := rfl
@[simp] theorem z_eOr : eOr a b e = (tBl a e).bind fun c => if c = true then some (.bl true) else (tBl b e).bind fun c => some (.bl c) := rfl
@[simp] theorem z_eNot : eNot a e = (tBl a e).bind fun c => some (.bl (!c)) := rfl
@[simp] theorem z_esNil : esNil e = some [] := rfl
@[simp] theorem z_esCons : esCons a gs e = (a e).bind fun d => (gs e).bind fun l => some (d :: l) := rfl
@[simp] theorem z_vsNil : vsNil e = some ([], e) := rfl
@[simp] theorem z_vsCons : vsCons v fs e = (v e).bind fun p => (fs p.2).bind fun q => some (p.1 :: q.1, q.2) := rfl
@[simp] theorem z_eTup : eTup gs e = (gs e).bind fun l => some (.tup l) := by unfold eTup; cases gs e <;> rfl
@[simp] theorem z_eLst : eLst gs e = (gs e).bind fun l => some (.lst true l) := by unfold eLst; cases gs e <;> rfl
@[simp] theorem z_vTup : vTup fs e = (fs e).bind fun p => some (.tup p.1, p.2) := by unfold vTup; cases fs e <;> rfl
@[simp] theorem z_vLst : vLst fs e = (fs e).bind fun p => some (.lst true p.1, p.2) := by unfold vLst; cases fs e <;> rfl
@[simp] theorem z_eBi {o : List D → Option D} : eBi o gs e = (gs e).bind o := rfl
@[simp] theorem z_vBi {o : List D → Option D} : vBi o fs e = (fs e).bind fun p => (o p.1).bind fun d => some (d, p.2) := rfl
@[simp] theorem z_eNoP : eNoP e = some none := rfl
@[simp] theorem z_eP : eP a e = (a e).bind fun d => match d with | .int i => some (some i) | _ => none := by
  unfold eP
  cases a e with
  | none => rfl
  | some d => cases d <;> rfl
@[simp] theorem z_eSl {l h : En → Option (Option Int)} : eSl a l h e = (a e).bind fun d => (l e).bind fun lo => (h e).bind fun hi => dSl d lo hi := rfl
@[simp] theorem z_eCall {F : Fn} : eCall F gs e = (gs e).bind fun ds => (F (fzs ds)).bind fun p => if noFz p.1 = true then some p.1 else none := rfl
@[simp] theorem z_vCall {F : Fn} {as : List Ar} : vCall F as e = (arGo as e).bind fun p => (arTake as p.1 p.2).bind fun q => (F q.1).bind fun r => (arBack as r.2 q.2).bind fun e' => some (r.1, e') := rfl
@[simp] theorem z_arGo0 : arGo [] e = some ([], e) := rfl
@[simp] theorem z_arGo1 {as : List Ar} : arGo (.val v :: as) e = (v e).bind fun p => (arGo as p.2).bind fun q => some (some p.1 :: q.1, q.2) := rfl
@[simp] theorem z_arTake0 : arTake [] [] e = some ([], e) := rfl
@[simp] theorem z_arTake1 {as : List Ar} {ds : List (Option D)} : arTake (.val v :: as) (some d :: ds) e = (arTake as ds e).bind fun q => some (fz d :: q.1, q.2) := rfl
@[simp] theorem z_arBack0 : arBack [] [] e = some e := rfl
@[simp] theorem z_arBack1 {as : List Ar} {out : List D} : arBack (.val v :: as) out e = arBack as out e := by cases out <;> rfl
@[simp] theorem z_arBack2 {as : List Ar} {out : List D} : arBack (.lend i :: as) (d :: out) e = if open? e i = true then arBack as out (e.set i (.ow d)) else none := rfl
@[simp] theorem z_eChain {l : List Lk} : eChain a l e = (a e).bind fun x => eCh l x e := rfl
@[simp] theorem z_eCh1 {o : D → D → Option D} : eCh [(o, a)] d e = (a e).bind fun b => o d b := rfl
@[simp] theorem z_eEnum : eEnum gs e = (gs e).bind fun ds => match ds with | [d] => (dItems d).bind fun l => some ((numbered l).map pairT) | _ => none := rfl
@[simp] theorem z_eZip : eZip gs e = (gs e).bind fun ds => match ds with | [c, d] => if isT c = isT d then (dItems c).bind fun l => (dItems d).bind fun m => some ((l.zip m).map pairT) else none | _ => none := rfl
@[simp] theorem z_eRng {r : List D → Option (List D)} : eRng r gs e = (gs e).bind r := rfl
@[simp] theorem z_vRng {r : List D → Option (List D)} : vRng r fs e = (fs e).bind fun p => (r p.1).bind fun l => some (l, p.2) := rfl
@[simp] theorem z_eRgL {r : List D → Option (List D)} : eRgL r gs e = (gs e).bind fun ds => (r ds).bind fun l => some (.lst true l) := rfl
@[simp] theorem z_eRgT {r : List D → Option (List D)} : eRgT r gs e = (gs e).bind fun ds => (r ds).bind fun l => some (.tup l) := rfl
@[simp] theorem z_bdNil : bdNil [] e = some e := rfl
@[simp] theorem z_bdCons {bd : D → En → Option En} {bs : List D → En → Option En} {l : List D} : bdCons bd bs (d :: l) e = (bd d e).bind (bs l) := rfl
@[simp] theorem z_bdTup {bs : List D → En → Option En} {l : List D} : bdTup bs (.tup l) e = bs l e := rfl
@[simp] theorem z_bdName : bdName i d e = if i < e.length then some (e.set i (bindSl d)) else none := rfl
@[simp] theorem z_boName : boName i d e = if open? e i = true then some (e.set i (.ow d)) else none := rfl
@[simp] theorem z_outs0 : outs [] e = some [] := rfl
theorem z_bindSl (h : isFz d = true) : bindSl d = .ow d := if_pos h
@[simp] theorem z_wipe0 : wipeE e [] = e := rfl
@[simp] theorem z_wipe1 {vs : List Nat} : wipeE e (i :: vs) = (wipeE e vs).set i .no := rfl
@[simp] theorem z_eLc {vs : List Nat} {gi : En → Option (List D)} {bd : D → En → Option En} : eLc vs gi bd t a e = (gi e).bind fun items => if items.length ≤ lim then (lcGo bd t a (wipeE e vs) items).bind fun l => some (.lst true l) else none := rfl
end
@[simp] theorem z_addI {i j : Int} : dAdd (.int i) (.int j) = some (.int (i + j)) := rfl
@[simp] theorem z_addT {a b : List D} : dAdd (.tup a) (.tup b) = if a.length + b.length ≤ lim ∧ isFzs a = true ∧ isFzs b = true then some (.tup (a ++ b)) else none := rfl
@[simp] theorem z_addL {o o' : Bool} {a b : List D} : dAdd (.lst o a) (.lst o' b) = if a.length + b.length ≤ lim ∧ isFzs a = true ∧ isFzs b = true then some (.lst true (a ++ b)) else none := rfl
@[simp] theorem z_sub {i j : Int} : dSub (.int i) (.int j) = some (.int (i - j)) := rfl
@[simp] theorem z_neg {i : Int} : dNeg (.int i) = some (.int (-i)) := rfl
@[simp] theorem z_lt {i j : Int} : dLt (.int i) (.int j) = some (.bl (decide (i < j))) := rfl
@[simp] theorem z_le {i j : Int} : dLe (.int i) (.int j) = some (.bl (decide (i ≤ j))) := rfl
@[simp] theorem z_gt {i j : Int} : dGt (.int i) (.int j) = some (.bl (decide (j < i))) := rfl
@[simp] theorem z_ge {i j : Int} : dGe (.int i) (.int j) = some (.bl (decide (j ≤ i))) := rfl
@[simp] theorem z_mulI {i j : Int} : dMul (.int i) (.int j) = if (-big < i ∧ i < big) ∨ (-big < j ∧ j < big) then some (.int (i * j)) else none := rfl
@[simp] theorem z_mod {i j : Int} : dMod (.int i) (.int j) = if 0 < j then some (.int (i % j)) else none := rfl
@[simp] theorem z_fdiv {i j : Int} : dFdiv (.int i) (.int j) = if 0 < j ∧ j < 1073741824 then some (.int (i / j)) else none := rfl
@[simp] theorem z_isB {a b : Bool} : dIsB (.bl a) (.bl b) = some (.bl (a == b)) := rfl
@[simp] theorem z_notB {a b : Bool} : dNotB (.bl a) (.bl b) = some (.bl (a != b)) := rfl
@[simp] theorem z_isFzT {l : List D} : isFz (.tup l) = isFzs l := by simp [isFz]
@[simp] theorem z_isFzI {i : Int} : isFz (.int i) = true := by simp [isFz]
@[simp] theorem z_isFzB {i : Bool} : isFz (.bl i) = true := by simp [isFz]
@[simp] theorem z_isFzN : isFz .non = true := by simp [isFz]
@[simp] theorem z_isFzS {i : Str} : isFz (.str i) = true := by simp [isFz]
@[simp] theorem z_isFz0 : isFzs [] = true := by simp [isFzs]
@[simp] theorem z_isFz1 {d : D} {l : List D} : isFzs (d :: l) = (isFz d && isFzs l) := by simp [isFzs]
@[simp] theorem z_fzI {i : Int} : fz (.int i) = .int i := rfl
@[simp] theorem z_fzs0 : fzs [] = [] := rfl
@[simp] theorem z_fzs1 {d : D} {l : List D} : fzs (d :: l) = fz d :: fzs l := rfl
@[simp] theorem z_noFzI {i : Int} : noFz (.int i) = true := by simp [noFz]
@[simp] theorem z_noFzB {i : Bool} : noFz (.bl i) = true := by simp [noFz]
@[simp] theorem z_noFzN : noFz .non = true := by simp [noFz]
@[simp] theorem z_noFzT {l : List D} : noFz (.tup l) = noFzs l := by simp [noFz]
@[simp] theorem z_noFzL {l : List D} : noFz (.lst true l) = noFzs l := by simp [noFz]
@[simp] theorem z_itemT {l : List D} {i : Int} : dItem (.tup l) (.int i) = L2.atI l i := rfl
@[simp] theorem z_itemL {o : Bool} {l : List D} {i : Int} : dItem (.lst o l) (.int i) = L2.atI l i := rfl
@[simp] theorem z_ixF {a b : D} : dIxF a b = (dItem a b).bind fun d => if isFz d = true then some d else none := rfl
@[simp] theorem z_fin {ls : List Nat} {d : D} {e : En} : fin ls (some (.rt d, e)) = (outs ls e).bind fun l => some (d, l) := rfl
@[simp] theorem z_finN {ls : List Nat} {e : En} : fin ls (some (.nx, e)) = (outs ls e).bind fun l => some (.non, l) := rfl
@[simp] theorem z_len1 {l : List D} : bLen [.tup l] = some (.int l.length) := rfl
@[simp] theorem z_len2 {o : Bool} {l : List D} : bLen [.lst o l] = some (.int l.length) := rfl
@[simp] theorem z_len3 {o : Bool} {ks : List L2.Key} {l : List D} : bLen [.dk o ks l] = some (.int ks.length) := rfl
theorem z_all {o : Bool} {l : List D} : bAll [.lst o l] = (blsOf l).bind fun ns => some (.bl (ns.all id)) := rfl
theorem z_any {o : Bool} {l : List D} : bAny [.lst o l] = (blsOf l).bind fun ns => some (.bl (ns.any id)) := rfl
theorem z_sum {o : Bool} {l : List D} : bSum [.lst o l] = (intsOf l).bind fun ns => some (.int ns.sum) := rfl
@[simp] theorem z_tupL {o : Bool} {l : List D} : bTup [.lst o l] = if isFzs l = true then some (.tup l) else none := rfl
@[simp] theorem z_tupT {l : List D} : bTup [.tup l] = if isFzs l = true then some (.tup l) else none := rfl
@[simp] theorem z_listL {o : Bool} {l : List D} : bList [.lst o l] = if isFzs l = true then some (.lst true l) else none := rfl
@[simp] theorem z_listT {l : List D} : bList [.tup l] = if isFzs l = true then some (.lst true l) else none := rfl
end Z

set_option Elab.async false
set_option linter.all false
set_option maxRecDepth 100000
set_option maxHeartbeats 1000000
/-! # The end of a law by FnG -/
namespace Z
open PySem PySem.Spec PyProof.Rows L2

theorem hokOnly {P : Program} {w : World} {h h' : Heap} {H H' : Hp} (hO : Only H) (hok : HOk P w H h) (hok' : HOk P w H' h') (keep : ∀ b o, h.get? b = some o → H b = none → h'.get? b = some o) (fr : ∀ b o u, H b = some (.frz o u) → H' b = some (.frz o u)) :
    ∀ b o, h.get? b = some o → h'.get? b = some o := fun b o e => by
  cases q : H b with
  | none => exact keep b o e q
  | some u =>
    rcases hO b with z | ⟨ob, xs, z⟩
    · rw [q] at z; cases z
    · obtain ⟨e1, _⟩ := hok b _ z
      obtain ⟨e2, _⟩ := hok' b _ (fr b ob _ z)
      rw [e] at e1; cases e1
      exact e2
theorem law_callG {P : Program} {w : World} {K : PySem.W.Frag} {mg mb : Str → Option Value} {CX : CXT} {k : Nat} {fa a : Addr} {fd : FuncData} {x : Str} {sp : Sp} {s₁ : Shared} {vs : List Value} {ns : List Int}
    (KX : K.In s₁.heap) (hns : s₁.heap.Ns mainGlobals mg) (hb : s₁.heap.Ns builtinsNs mb) (hbb : ∀ x : Str, x ≠ "__name__" → mb x = bootBuiltins x) (hlim : s₁.heap.NoLimit) (hg : s₁.gens = #[])
    (ha : s₁.heap.get? a = some { cls := .type "list", data := .seq vs.toArray }) (hi : IntsAre vs ns) (hl : ns.length ≤ sizeLine) (hr : RoomG k callerA)
    (F : ∀ base : Heap, K.In base → base.Ns mainGlobals mg → FnG P w K mg base CX k fa fd [x] sp) (hbind : ∀ (s : Shared) (u : Value), BindsTo s fd ⟨[u], []⟩ [(x, u)])
    (hsp : ∀ H : Hp, Only H → SqL K H a (ns.map V.int) → sp [.ref a] H (fun v _ => v = .bl true) fun _ _ _ => False)
    (hCX : ∀ H e s', CX [] H s₁ (fun _ _ _ => False) e s' → False) :
    codeAny (model P w) callerA (.call (.ref fa) ⟨[.ref a], []⟩) (fun r s' => r = .ok (.ret (.bool true)) ∧ OldK s₁.heap s'.heap ∧ s'.os = s₁.os ∧ AllBare s'.gens) s₁ := by
  have rv := vals_ints hi
  have core : ∀ H : Hp, Only H → SqL K H a (ns.map V.int) → HOk P w H s₁.heap → (∀ b, H b ≠ none → b = a) → (H a ≠ none → K.lookup a = none) →
      codeAny (model P w) callerA (.call (.ref fa) ⟨[.ref a], []⟩) (fun r s' => r = .ok (.ret (.bool true)) ∧ OldK s₁.heap s'.heap ∧ s'.os = s₁.os ∧ AllBare s'.gens) s₁ := by
    intro H hO hS hok hA hK
    have free : ∀ {b : Addr} {o : Obj}, s₁.heap.get? b = some o → (b = a → H b ≠ none → False) → (hidT s₁.heap H).get? b = some o := fun {b o} e n => hidT_get e (by
      cases q : H b with
      | none => rfl
      | some u => exact (n (hA b (by rw [q]; simp)) (by rw [q]; simp)).elim)
    have nsK : ∀ {b : Addr} {m : Str → Option Value}, s₁.heap.Ns b m → (hidT s₁.heap H).Ns b m := fun {b m} ⟨o, es, ep, e, d, r⟩ => ⟨o, es, ep, free e fun z _ => by
      subst z
      rw [ha] at e; cases e
      exact Data.noConfusion d, d, r⟩
    have hKb : K.In (hidT s₁.heap H) := fun b o e => free (KX b o e) fun z n => by
      subst z
      rw [hK n] at e; cases e
    have e0 : Env0 P w K mg (hidT s₁.heap H) callerA [] s₁ H := ⟨rfl, ⟨hKb, nsK hns, ⟨mb, nsK hb, hbb⟩, let ⟨mc, h1, h2⟩ := hlim; ⟨mc, nsK h1, h2⟩⟩, fun b o e => of_hidT e, Nat.le_of_eq (hidT_size _ _), trivial, fun b hb => absurd (show b ∈ ([] : List Addr) from hb) (by simp), hok, .of_eq hg⟩
    refine codeAny_mono ((F _ hKb (nsK hns)).run callerA [] s₁ H ⟨[.ref a], []⟩ [.ref a] [.ref a] _ _ hr e0 (hbind s₁ (.ref a)) (.cons rfl .nil) (hsp H hO hS)) fun r s' h => ?_
    cases r with
    | error e => exact (hCX H e s' h).elim
    | ok fl =>
      cases fl with
      | next => exact False.elim h
      | brk => exact False.elim h
      | cont => exact False.elim h
      | ret u =>
        obtain ⟨v, H', os, bare, un, hok', r', q⟩ := h
        have q' : v = .bl true := q
        subst q'
        obtain rfl : u = Value.bool true := r'
        exact ⟨rfl, OldK.of_keep (hokOnly hO hok hok' (fun b o e q => un.keep b o e q (by intro z; exact absurd (show b ∈ ([] : List Addr) from z) (by simp)) (by simp)) fun b o u z => un.frzs b o u z), os, bare⟩
  cases hk : K.lookup a with
  | some o =>
    have e := KX a o hk
    rw [ha] at e
    cases e
    exact core (fun _ => none) (fun _ => .inl rfl) (.inr ⟨_, vs.toArray, _, hk, rfl, rfl, rfl, by rw [List.size_toArray, hi.length]; exact hl, by simpa using rv⟩) (fun b u z => by cases z) (fun b z => absurd rfl z) fun z => absurd rfl z
  | none =>
    refine core (fun b => if b = a then some (.frz { cls := .type "list", data := .seq vs.toArray } (.lst (ns.map V.int))) else none) (fun b => ?_) (.inl (.inr ⟨{ cls := .type "list", data := .seq vs.toArray }, if_pos rfl⟩)) (fun b u z => ?_) (fun b z => ?_) fun _ => hk
    · by_cases hb : b = a
      · exact .inr ⟨_, _, if_pos hb⟩
      · exact .inl (if_neg hb)
    · by_cases hb : b = a
      · have z' := (if_pos hb).symm.trans z
        cases z'
        subst hb
        exact ⟨ha, by rw [List.length_map]; exact hl, vs, _, rv, ha⟩
      · have z' := (if_neg hb).symm.trans z
        cases z'
    · exact Decidable.byContradiction fun hb => z (if_neg hb)
/-- the goal that k_head leaves (case hc) -/
theorem walk_ofG {l : PySem.W.OpenLaw} {n k : Nat} {q : Program} {loose : List Str} {XP : (Str → Option Value) → Heap → Prop} {YP : World → Heap → Prop} {d : DefRec} {K : Params → PySem.W.Frag} {sp : PySem.W.Frag → (Str → Option Value) → Sp} {x : Str}
    (hn : l.most = some n) (hn2 : n ≤ sizeLine) (hdf : d.params.defaults = []) (hr : RoomG k callerA)
    (hY : ∀ (w : World) (h : Heap), YP w h → (K w.params).In h)
    (F : ∀ (w : World) (mg : Str → Option Value) (fa : Addr) (h : Heap), (K w.params).In h → h.Ns mainGlobals mg → mg d.name = some (.ref fa) →
      ∃ fd : FuncData, (∀ (s : Shared) (u : Value), BindsTo s fd ⟨[u], []⟩ [(x, u)]) ∧
        ∀ base : Heap, (K w.params).In base → base.Ns mainGlobals mg → FnG l.prog w (K w.params) mg base CX0 k fa fd [x] (sp (K w.params) mg))
    (hsp : ∀ (K : PySem.W.Frag) (mg : Str → Option Value) (H : Hp) (a : Addr) (ns : List Int), ns.length ≤ n → Only H → SqL K H a (ns.map V.int) → sp K mg [.ref a] H (fun v _ => v = .bl true) fun _ _ _ => False) :
    PySem.W.WalkO q loose XP YP l.row.toRowW d [] (fun f vs => PySem.call f vs) := by
  refine Att.attach_call hn hdf fun w s₀ s₁ mg mb fa o pm cd doc a vs ns G Y ho hd hcd hmg hobj hints hlen hg => ?_
  have KX := hY w _ Y
  obtain ⟨fd, hb, hF⟩ := F w mg fa _ KX G.T.g hmg
  exact law_callG KX G.T.g G.T.b G.T.builtins G.T.nolimit hg hobj hints (Nat.le_trans hlen hn2) hr hF hb (fun H hO hS => hsp (K w.params) mg H a ns hlen hO hS) fun H e s' z => z
end Z

set_option Elab.async false
set_option linter.all false
set_option maxRecDepth 100000
set_option maxHeartbeats 4000000
namespace K74
open PySem PySem.Spec PyProof.Rows L2 Z
def top (i : Nat) : Stmt := PySem.Challenge.pw_workhall_k74_whole_offers_apart.main.body.getD i (.Pass ⟨0, 0, 0, 0⟩)
def b_is_integer : SF := sSeq (sRet (vOf (eAnd (eBi bIsi (esCons (eVar 0) (esCons (eC (.ty "int")) (esNil)))) (eNot (eBi bIsi (esCons (eVar 0) (esCons (eC (.ty "bool")) (esNil)))))))) (sNil)
def m_is_integer : Fn := fnOf 1 0 [] b_is_integer
def b_is_within : SF := sSeq (sRet (vOf (eAnd (eCall m_is_integer (esCons (eVar 0) (esNil))) (eChain (eVar 1) [(dLe, eVar 0), (dLe, eVar 2)])))) (sNil)
def m_is_within : Fn := fnOf 3 0 [] b_is_within
def b_are_ascending : SF := sSeq (sRet (vOf (eBi bAll (esCons (eLc [1, 2] (eZip (esCons (eVar 0) (esCons (eSl (eVar 0) (eP (eC (.int 1))) (eNoP)) (esNil)))) (bdTup (bdCons (bdName 1) (bdCons (bdName 2) (bdNil)))) (gYes) (eOp dLt (eVar 1) (eVar 2))) (esNil))))) (sNil)
def m_are_ascending : Fn := fnOf 1 2 [] b_are_ascending
def b_is_group_of : SF := sSeq (sIf (tOrB (tNotB (tBl (eBi bIsi (esCons (eVar 1) (esCons (eC (.ty "tuple")) (esNil)))))) (tNotB (tBl (eBi bAll (esCons (eLc [2] (eItems (eVar 1)) (bdName 2) (gYes) (eCall m_is_within (esCons (eVar 2) (esCons (eC (.int 0)) (esCons (eOp dSub (eVar 0) (eC (.int 1))) (esNil)))))) (esNil)))))) (sSeq (sRet (vOf (eC (.bl false)))) (sNil)) (sNil)) (sSeq (sRet (vOf (eCall m_are_ascending (esCons (eVar 1) (esNil))))) (sNil))
def m_is_group_of : Fn := fnOf 2 1 [] b_is_group_of
def b_is_offer : SF := sSeq (sIf (tOrB (tNotB (tBl (eBi bIsi (esCons (eVar 0) (esCons (eC (.ty "tuple")) (esNil)))))) (tOrB (tBl (eOp dNe (eBi bLen (esCons (eVar 0) (esNil))) (eC (.int 3)))) (tNotB (tBl (eBi bAll (esCons (eLc [1] (eItems (eVar 0)) (bdName 1) (gYes) (eCall m_is_integer (esCons (eVar 1) (esNil)))) (esNil))))))) (sSeq (sRet (vOf (eC (.bl false)))) (sNil)) (sNil)) (sSeq (sRet (vOf (eAnd (eChain (eC (.int 0)) [(dLe, eOp dItem (eVar 0) (eC (.int 0))), (dLt, eOp dItem (eVar 0) (eC (.int 1))), (dLe, eC (.int 1000000))]) (eChain (eC (.int 0)) [(dLe, eOp dItem (eVar 0) (eC (.int 2))), (dLe, eC (.int 1000000))])))) (sNil))
def m_is_offer : Fn := fnOf 1 1 [] b_is_offer
def b_check_offers : SF := sSeq (sIf (tOrB (tNotB (tBl (eBi bIsi (esCons (eVar 0) (esCons (eC (.ty "tuple")) (esNil)))))) (tOrB (tBl (eOp dGt (eBi bLen (esCons (eVar 0) (esNil))) (eC (.int 40)))) (tNotB (tBl (eBi bAll (esCons (eLc [2] (eItems (eVar 0)) (bdName 2) (gYes) (eCall m_is_offer (esCons (eVar 2) (esNil)))) (esNil))))))) (sSeq (sDead) (sNil)) (sNil)) (sSeq (sIf (tNotB (tBl (eCall m_is_within (esCons (eVar 1) (esCons (eC (.int 1)) (esCons (eC (.int 8)) (esNil))))))) (sSeq (sDead) (sNil)) (sNil)) (sNil))
def m_check_offers : Fn := fnOf 2 1 [] b_check_offers
def b_hours_of : SF := sSeq (sSet 1 (vOf (eC (.dk true [] [])))) (sSeq (sFor (iOf (eItems (eFz (eVar 0)))) (boName 2) (sSeq (sDrop (vMeth "dict" 1 mUpdD (vsCons (vOf (eDc [3] (eItems (eSl (eVar 2) (eNoP) (eP (eC (.int 2))))) (bdName 3) (gYes) (eVar 3) (eC (.bl true)))) (vsNil)))) (sNil))) (sSeq (sRet (vOf (eBi bSorted (esCons (eVar 1) (esNil))))) (sNil)))
def m_hours_of : Fn := fnOf 1 3 [] b_hours_of
def b_busiest : SF := sSeq (sSet 2 (vOf (eLst (esCons (eC (.int 0)) (esNil))))) (sSeq (sFor (iOf (eItems (eCall m_hours_of (esCons (eVar 0) (esNil))))) (boName 3) (sSeq (sDrop (vMeth "list" 2 mAppend (vsCons (vOf (eBi bLen (esCons (eLc [4] (eItems (eVar 1)) (bdName 4) (tBl (eChain (eOp dItem (eOp dItem (eVar 0) (eVar 4)) (eC (.int 0))) [(dLe, eVar 3), (dLt, eOp dItem (eOp dItem (eVar 0) (eVar 4)) (eC (.int 1)))])) (eFz (eVar 4))) (esNil)))) (vsNil)))) (sNil))) (sSeq (sRet (vOf (eBi bMax (esCons (eVar 2) (esNil))))) (sNil)))
def m_busiest : Fn := fnOf 2 3 [] b_busiest
def b_does_fit : SF := sSeq (sDrop (vOf (eCall m_check_offers (esCons (eVar 0) (esCons (eVar 1) (esNil)))))) (sSeq (sRet (vOf (eAnd (eCall m_is_group_of (esCons (eBi bLen (esCons (eVar 0) (esNil))) (esCons (eVar 2) (esNil)))) (eOp dLe (eCall m_busiest (esCons (eVar 0) (esCons (eVar 2) (esNil)))) (eVar 1))))) (sNil))
def m_does_fit : Fn := fnOf 3 0 [] b_does_fit
def b_Lines_steps : SF := sSeq (sSet 1 (vOf (eLst (esNil)))) (sSeq (sFor (iOf (eEnum (esCons (eFz (eUn (dFld "Lines" "idle") (eVar 0))) (esNil)))) (bdTup (bdCons (boName 2) (bdCons (boName 3) (bdNil)))) (sSeq (sDrop (vMeth "list" 1 mAppend (vsCons (vOf (eTup (esCons (eFz (eVar 2)) (esCons (eOp dAdd (eVar 2) (eC (.int 1))) (esCons (eC (.int 0)) (esCons (eC (.str "idle")) (esCons (eFz (eVar 2)) (esNil)))))))) (vsNil)))) (sSeq (sIf (tBl (eOp dGt (eVar 3) (eC (.int 0)))) (sSeq (sDrop (vMeth "list" 1 mAppend (vsCons (vOf (eTup (esCons (eOp dAdd (eVar 2) (eC (.int 1))) (esCons (eFz (eVar 2)) (esCons (eC (.int 0)) (esCons (eC (.str "less")) (esCons (eFz (eVar 2)) (esNil)))))))) (vsNil)))) (sNil)) (sNil)) (sNil)))) (sSeq (sFor (iOf (eEnum (esCons (eFz (eUn (dFld "Lines" "offers") (eVar 0))) (esNil)))) (bdTup (bdCons (boName 4) (bdCons (boName 5) (bdNil)))) (sSeq (sPar 6 7 (vsCons (vOf (eOp dIxF (eUn (dFld "Lines" "places") (eVar 0)) (eOp dItem (eVar 5) (eC (.int 0))))) (vsCons (vOf (eOp dIxF (eUn (dFld "Lines" "places") (eVar 0)) (eOp dItem (eVar 5) (eC (.int 1))))) (vsNil)))) (sSeq (sIf (tBl (eOp dIn (eVar 4) (eUn (dFld "Lines" "taken") (eVar 0)))) (sSeq (sDrop (vMeth "list" 1 mAppend (vsCons (vOf (eTup (esCons (eFz (eVar 7)) (esCons (eFz (eVar 6)) (esCons (eOp dIxF (eVar 5) (eC (.int 2))) (esCons (eC (.str "drop")) (esCons (eFz (eVar 4)) (esNil)))))))) (vsNil)))) (sNil)) (sSeq (sDrop (vMeth "list" 1 mAppend (vsCons (vOf (eTup (esCons (eFz (eVar 6)) (esCons (eFz (eVar 7)) (esCons (eUn dNeg (eOp dItem (eVar 5) (eC (.int 2)))) (esCons (eC (.str "take")) (esCons (eFz (eVar 4)) (esNil)))))))) (vsNil)))) (sNil))) (sNil)))) (sSeq (sRet (vMove 1)) (sNil))))
def m_Lines_steps : Fn := fnOf 1 7 [] b_Lines_steps
def b_Lines_distances : SF := sSeq (sPar 1 2 (vsCons (vOf (eOp dMul (eLst (esCons (eC .non) (esNil))) (eBi bLen (esCons (eUn (dFld "Lines" "hours") (eVar 0)) (esNil))))) (vsCons (vOf (eOp dMul (eLst (esCons (eC .non) (esNil))) (eBi bLen (esCons (eUn (dFld "Lines" "hours") (eVar 0)) (esNil))))) (vsNil)))) (sSeq (sAsg (vOf (eC (.int 0))) (bSub (plName 1) (eC (.int 0)) mSetL)) (sSeq (sSet 3 (vOf (eC (.bl true)))) (sSeq (sWhile (tOf (tBl (eVar 3))) (sSeq (sSet 3 (vOf (eC (.bl false)))) (sSeq (sFor (iOf (eItems (eMeth "Lines" "steps" m_Lines_steps (eVar 0) esNil))) (boName 4) (sSeq (sAsg (vOf (eSl (eVar 4) (eNoP) (eP (eC (.int 3))))) (bdTup (bdCons (boName 5) (bdCons (boName 6) (bdCons (boName 7) (bdNil)))))) (sSeq (sIf (tAndB (tBl (eOp dNotNg (eOp dItem (eVar 1) (eVar 5)) (eC .non))) (tOrB (tBl (eOp dIsNg (eOp dItem (eVar 1) (eVar 6)) (eC .non))) (tBl (eOp dLt (eOp dAdd (eOp dItem (eVar 1) (eVar 5)) (eVar 7)) (eOp dItem (eVar 1) (eVar 6)))))) (sSeq (sAsg (vOf (eTup (esCons (eOp dAdd (eOp dItem (eVar 1) (eVar 5)) (eVar 7)) (esCons (eFz (eVar 4)) (esNil))))) (bdTup (bdCons (bSub (plName 1) (eVar 6) mSetL) (bdCons (bSub (plName 2) (eVar 6) mSetL) (bdNil))))) (sSeq (sSet 3 (vOf (eC (.bl true)))) (sNil))) (sNil)) (sNil)))) (sNil))) 1000000) (sSeq (sRet (vTup (vsCons (vMove 1) (vsCons (vMove 2) (vsNil))))) (sNil)))))
def m_Lines_distances : Fn := fnOf 1 7 [] b_Lines_distances
def b_Lines_lead : SF := sSeq (sIf (tBl (eOp dEq (eBi bLen (esCons (eUn (dFld "Lines" "hours") (eVar 0)) (esNil))) (eC (.int 0)))) (sSeq (sRetN) (sNil)) (sNil)) (sSeq (sPar 1 2 (vsCons (vOf (eOp dSub (eBi bLen (esCons (eUn (dFld "Lines" "hours") (eVar 0)) (esNil))) (eC (.int 1)))) (vsCons (vOf (eOp dItem (eMeth "Lines" "distances" m_Lines_distances (eVar 0) esNil) (eC (.int 1)))) (vsNil)))) (sSeq (sWhile (tOf (tBl (eOp dNe (eVar 1) (eC (.int 0))))) (sSeq (sAsg (vOf (eOp dIxF (eVar 2) (eVar 1))) (bdTup (bdCons (boName 3) (bdCons (boName 4) (bdCons (boName 5) (bdCons (boName 6) (bdCons (boName 7) (bdNil)))))))) (sSeq (sIf (tBl (eOp dEq (eVar 6) (eC (.str "idle")))) (sSeq (sAugS (plFld "Lines" "idle" (plName 0)) (eVar 7) (fun i j => i + j) (eC (.int 1)) mSetL) (sNil)) (sSeq (sIf (tBl (eOp dEq (eVar 6) (eC (.str "less")))) (sSeq (sAugS (plFld "Lines" "idle" (plName 0)) (eVar 7) (fun i j => i - j) (eC (.int 1)) mSetL) (sNil)) (sSeq (sIf (tBl (eOp dEq (eVar 6) (eC (.str "take")))) (sSeq (sAsg (vOf (eC (.bl true))) (bSub (plFld "Lines" "taken" (plName 0)) (eVar 7) mSetD)) (sNil)) (sSeq (sDrop (vMethP "dict" (plFld "Lines" "taken" (plName 0)) mPopD (esCons (eFz (eVar 7)) (esNil)))) (sNil))) (sNil))) (sNil))) (sSeq (sSet 1 (vOf (eFz (eVar 3)))) (sNil)))) 1000000) (sNil)))
def m_Lines_lead : Fn := fnOf 1 7 [0] b_Lines_lead
def b_Lines___init__ : SF := sSeq (sFldSet "Lines" "offers" (vOf (eFz (eVar 1))) (plName 0)) (sSeq (sFldSet "Lines" "hours" (vOf (eCall m_hours_of (esCons (eVar 1) (esNil)))) (plName 0)) (sSeq (sFldSet "Lines" "places" (vOf (eDc [4, 5] (eEnum (esCons (eUn (dFld "Lines" "hours") (eVar 0)) (esNil))) (bdTup (bdCons (bdName 4) (bdCons (bdName 5) (bdNil)))) (gYes) (eVar 5) (eVar 4))) (plName 0)) (sSeq (sFldSet "Lines" "idle" (vOf (eOp dMul (eLst (esCons (eC (.int 0)) (esNil))) (eBi bMax (esCons (eC (.int 0)) (esCons (eOp dSub (eBi bLen (esCons (eUn (dFld "Lines" "hours") (eVar 0)) (esNil))) (eC (.int 1))) (esNil)))))) (plName 0)) (sSeq (sFldSet "Lines" "taken" (vOf (eC (.dk true [] []))) (plName 0)) (sSeq (sFor (iOf (eRng rng1Of (esCons (eVar 2) (esNil)))) (boName 3) (sSeq (sDrop (vMethC "Lines" "lead" m_Lines_lead 0 [])) (sNil))) (sNil))))))
def m_Lines___init__ : Fn := fnOf 3 3 [0] b_Lines___init__
def b_prices_of : SF := sSeq (sIf (tBl (eOp dEq (eBi bLen (esCons (eUn (dFld "Lines" "hours") (eVar 0)) (esNil))) (eC (.int 0)))) (sSeq (sRet (vOf (eTup (esNil)))) (sNil)) (sNil)) (sSeq (sSet 1 (vOf (eOp dItem (eMeth "Lines" "distances" m_Lines_distances (eVar 0) esNil) (eC (.int 0))))) (sSeq (sRet (vOf (eBi bTup (esCons (eLc [2, 3] (eZip (esCons (eVar 1) (esCons (eSl (eVar 1) (eP (eC (.int 1))) (eNoP)) (esNil)))) (bdTup (bdCons (bdName 2) (bdCons (bdName 3) (bdNil)))) (gYes) (eOp dSub (eVar 2) (eVar 3))) (esNil))))) (sNil)))
def m_prices_of : Fn := fnOf 1 3 [] b_prices_of
def b_dearest : SF := sSeq (sDrop (vOf (eCall m_check_offers (esCons (eVar 0) (esCons (eVar 1) (esNil)))))) (sSeq (sSet 2 (vMake "Lines" m_Lines___init__ (vsCons (vOf (eFz (eVar 0))) (vsCons (vOf (eFz (eVar 1))) (vsNil))))) (sSeq (sSet 3 (vOf (eBi bTup (esCons (eBi bSorted (esCons (eUn (dFld "Lines" "taken") (eVar 2)) (esNil))) (esNil))))) (sSeq (sRet (vTup (vsCons (vOf (eBi bSum (esCons (eLc [4] (eItems (eVar 3)) (bdName 4) (gYes) (eOp dIxF (eOp dItem (eVar 0) (eVar 4)) (eC (.int 2)))) (esNil)))) (vsCons (vFreeze 3) (vsCons (vOf (eCall m_prices_of (esCons (eVar 2) (esNil)))) (vsNil)))))) (sNil))))
def m_dearest : Fn := fnOf 2 3 [] b_dearest
def b_many_at : SF := sSeq (sRet (vOf (eBi bLen (esCons (eLc [3] (eItems (eVar 1)) (bdName 3) (tBl (eChain (eOp dItem (eOp dItem (eVar 0) (eVar 3)) (eC (.int 0))) [(dLe, eVar 2), (dLt, eOp dItem (eOp dItem (eVar 0) (eVar 3)) (eC (.int 1)))])) (eFz (eVar 3))) (esNil))))) (sNil)
def m_many_at : Fn := fnOf 3 1 [] b_many_at
def b_fewest_benches : SF := sSeq (sDrop (vOf (eCall m_check_offers (esCons (eVar 0) (esCons (eC (.int 1)) (esNil)))))) (sSeq (sAsg (vOf (eTup (esCons (eLst (esNil)) (esCons (eC (.dk true [] [])) (esNil))))) (bdTup (bdCons (boName 1) (bdCons (boName 2) (bdNil))))) (sSeq (sFor (iOf (eItems (eBi bSorted (esCons (eLc [5, 9] (eEnum (esCons (eVar 0) (esNil))) (bdTup (bdCons (bdName 5) (bdCons (bdName 9) (bdNil)))) (gYes) (eTup (esCons (eOp dIxF (eVar 9) (eC (.int 0))) (esCons (eOp dIxF (eVar 9) (eC (.int 1))) (esCons (eFz (eVar 5)) (esNil)))))) (esNil))))) (bdTup (bdCons (boName 3) (bdCons (boName 4) (bdCons (boName 5) (bdNil))))) (sSeq (sSet 6 (vOf (eLc [10, 11] (eEnum (esCons (eVar 1) (esNil))) (bdTup (bdCons (bdName 10) (bdCons (bdName 11) (bdNil)))) (tBl (eOp dLe (eVar 11) (eVar 3))) (eFz (eVar 10))))) (sSeq (sIf (tBl (eOp dGt (eBi bLen (esCons (eVar 6) (esNil))) (eC (.int 0)))) (sSeq (sAsg (vOf (eOp dIxF (eVar 6) (eC (.int 0)))) (bSub (plName 2) (eVar 5) mSetD)) (sSeq (sAsg (vOf (eFz (eVar 4))) (bSub (plName 1) (eOp dItem (eVar 6) (eC (.int 0))) mSetL)) (sNil))) (sSeq (sAsg (vOf (eBi bLen (esCons (eVar 1) (esNil)))) (bSub (plName 2) (eVar 5) mSetD)) (sSeq (sDrop (vMeth "list" 1 mAppend (vsCons (vOf (eFz (eVar 4))) (vsNil)))) (sNil)))) (sNil)))) (sSeq (sSet 7 (vOf (eRgT rng1Of (esCons (eBi bLen (esCons (eVar 0) (esNil))) esNil)))) (sSeq (sSet 8 (vOf (eLc [12] (eItems (eCall m_hours_of (esCons (eVar 0) (esNil)))) (bdName 12) (tBl (eOp dEq (eCall m_many_at (esCons (eVar 0) (esCons (eVar 7) (esCons (eVar 12) (esNil))))) (eBi bLen (esCons (eVar 1) (esNil))))) (eFz (eVar 12))))) (sSeq (sRet (vOf (eTup (esCons (eBi bLen (esCons (eVar 1) (esNil))) (esCons (eBi bTup (esCons (eLc [5] (eItems (eVar 7)) (bdName 5) (gYes) (eOp dIxF (eVar 2) (eVar 5))) (esNil))) (esCons (eIf (tBl (eOp dGt (eBi bLen (esCons (eVar 8) (esNil))) (eC (.int 0)))) (eOp dIxF (eVar 8) (eC (.int 0))) (eC (.int 0))) (esNil))))))) (sNil))))))
def m_fewest_benches : Fn := fnOf 1 12 [] b_fewest_benches
def b_by_end : SF := sSeq (sRet (vOf (eLc [1, 2] (eItems (eBi bSorted (esCons (eLc [2, 3] (eEnum (esCons (eVar 0) (esNil))) (bdTup (bdCons (bdName 2) (bdCons (bdName 3) (bdNil)))) (gYes) (eTup (esCons (eOp dIxF (eVar 3) (eC (.int 1))) (esCons (eFz (eVar 2)) (esNil))))) (esNil)))) (bdTup (bdCons (bdName 1) (bdCons (bdName 2) (bdNil)))) (gYes) (eFz (eVar 2))))) (sNil)
def m_by_end : Fn := fnOf 1 3 [] b_by_end
def b_apart_ones : SF := sSeq (sPar 1 2 (vsCons (vOf (eLst (esNil))) (vsCons (vOf (eC .non)) (vsNil)))) (sSeq (sFor (iOf (eItems (eCall m_by_end (esCons (eVar 0) (esNil))))) (boName 3) (sSeq (sIf (tOrB (tBl (eOp dIsNg (eVar 2) (eC .non))) (tBl (eOp dGe (eOp dItem (eOp dItem (eVar 0) (eVar 3)) (eC (.int 0))) (eVar 2)))) (sSeq (sDrop (vMeth "list" 1 mAppend (vsCons (vOf (eFz (eVar 3))) (vsNil)))) (sSeq (sSet 2 (vOf (eOp dIxF (eOp dItem (eVar 0) (eVar 3)) (eC (.int 1))))) (sNil))) (sNil)) (sNil))) (sSeq (sRet (vMove 1)) (sNil)))
def m_apart_ones : Fn := fnOf 1 3 [] b_apart_ones
def b_most_apart : SF := sSeq (sDrop (vOf (eCall m_check_offers (esCons (eVar 0) (esCons (eC (.int 1)) (esNil)))))) (sSeq (sSet 1 (vOf (eCall m_apart_ones (esCons (eVar 0) (esNil))))) (sSeq (sRet (vOf (eTup (esCons (eBi bLen (esCons (eVar 1) (esNil))) (esCons (eBi bTup (esCons (eBi bSorted (esCons (eVar 1) (esNil))) (esNil))) (esCons (eBi bTup (esCons (eLc [2] (eItems (eVar 1)) (bdName 2) (gYes) (eOp dSub (eOp dItem (eOp dItem (eVar 0) (eVar 2)) (eC (.int 1))) (eC (.int 1)))) (esNil))) (esNil))))))) (sNil)))
def m_most_apart : Fn := fnOf 1 2 [] b_most_apart
def b_are_apart : SF := sSeq (sSet 2 (vOf (eBi bSorted (esCons (eLc [3] (eItems (eVar 1)) (bdName 3) (gYes) (eSl (eOp dItem (eVar 0) (eVar 3)) (eNoP) (eP (eC (.int 2))))) (esNil))))) (sSeq (sRet (vOf (eBi bAll (esCons (eLc [3, 4] (eZip (esCons (eVar 2) (esCons (eSl (eVar 2) (eP (eC (.int 1))) (eNoP)) (esNil)))) (bdTup (bdCons (bdName 3) (bdCons (bdName 4) (bdNil)))) (gYes) (eOp dLe (eOp dItem (eVar 3) (eC (.int 1))) (eOp dItem (eVar 4) (eC (.int 0))))) (esNil))))) (sNil))
def m_are_apart : Fn := fnOf 2 3 [] b_are_apart
def b_do_meet : SF := sSeq (sRet (vOf (eBi bAll (esCons (eLc [2, 3, 4] (eItems (eVar 0)) (bdTup (bdCons (bdName 2) (bdCons (bdName 3) (bdCons (bdName 4) (bdNil))))) (gYes) (eBi bAny (esCons (eLc [5] (eItems (eVar 1)) (bdName 5) (gYes) (eChain (eVar 2) [(dLe, eVar 5), (dLt, eVar 3)])) (esNil)))) (esNil))))) (sNil)
def m_do_meet : Fn := fnOf 2 4 [] b_do_meet
def b_is_most_apart : SF := sSeq (sDrop (vOf (eCall m_check_offers (esCons (eVar 0) (esCons (eC (.int 1)) (esNil)))))) (sSeq (sIf (tOrB (tNotB (tBl (eBi bIsi (esCons (eVar 1) (esCons (eC (.ty "tuple")) (esNil)))))) (tOrB (tBl (eOp dNe (eBi bLen (esCons (eVar 1) (esNil))) (eC (.int 3)))) (tNotB (tBl (eCall m_is_integer (esCons (eOp dItem (eVar 1) (eC (.int 0))) (esNil))))))) (sSeq (sRet (vOf (eC (.bl false)))) (sNil)) (sNil)) (sSeq (sIf (tOrB (tNotB (tBl (eCall m_is_group_of (esCons (eBi bLen (esCons (eVar 0) (esNil))) (esCons (eOp dItem (eVar 1) (eC (.int 1))) (esNil)))))) (tOrB (tBl (eOp dNe (eBi bLen (esCons (eOp dItem (eVar 1) (eC (.int 1))) (esNil))) (eOp dItem (eVar 1) (eC (.int 0))))) (tNotB (tBl (eCall m_are_apart (esCons (eVar 0) (esCons (eOp dItem (eVar 1) (eC (.int 1))) (esNil)))))))) (sSeq (sRet (vOf (eC (.bl false)))) (sNil)) (sNil)) (sSeq (sIf (tOrB (tNotB (tBl (eBi bIsi (esCons (eOp dItem (eVar 1) (eC (.int 2))) (esCons (eC (.ty "tuple")) (esNil)))))) (tNotB (tBl (eBi bAll (esCons (eLc [2] (eItems (eOp dItem (eVar 1) (eC (.int 2)))) (bdName 2) (gYes) (eCall m_is_integer (esCons (eVar 2) (esNil)))) (esNil)))))) (sSeq (sRet (vOf (eC (.bl false)))) (sNil)) (sNil)) (sSeq (sRet (vOf (eAnd (eCall m_are_ascending (esCons (eOp dItem (eVar 1) (eC (.int 2))) (esNil))) (eAnd (eCall m_do_meet (esCons (eVar 0) (esCons (eOp dItem (eVar 1) (eC (.int 2))) (esNil)))) (eOp dLe (eBi bLen (esCons (eOp dItem (eVar 1) (eC (.int 2))) (esNil))) (eOp dItem (eVar 1) (eC (.int 0)))))))) (sNil)))))
def m_is_most_apart : Fn := fnOf 2 1 [] b_is_most_apart
def b_least_end : SF := sSeq (sDrop (vOf (eCall m_check_offers (esCons (eVar 0) (esCons (eC (.int 1)) (esNil)))))) (sSeq (sIf (tNotB (tBl (eCall m_is_group_of (esCons (eBi bLen (esCons (eVar 0) (esNil))) (esCons (eVar 1) (esNil)))))) (sSeq (sRet (vOf (eC .non))) (sNil)) (sNil)) (sSeq (sSet 2 (vOf (eLc [4] (eItems (eVar 1)) (bdName 4) (gYes) (eOp dIxF (eVar 0) (eVar 4))))) (sSeq (sSet 3 (vOf (eCall m_apart_ones (esCons (eVar 2) (esNil))))) (sSeq (sRet (vOf (eIf (tBl (eOp dGt (eBi bLen (esCons (eVar 3) (esNil))) (eC (.int 0)))) (eOp dIxF (eOp dItem (eVar 2) (eOp dItem (eVar 3) (eUn dNeg (eC (.int 1))))) (eC (.int 1))) (eC (.int 0))))) (sNil)))))
def m_least_end : Fn := fnOf 2 3 [] b_least_end
def b_taken_in_order : SF := sSeq (sDrop (vOf (eCall m_check_offers (esCons (eVar 0) (esCons (eC (.int 1)) (esNil)))))) (sSeq (sSet 1 (vOf (eLst (esNil)))) (sSeq (sFor (iOf (eRng rng1Of (esCons (eBi bLen (esCons (eVar 0) (esNil))) (esNil)))) (boName 2) (sSeq (sIf (tBl (eCall m_are_apart (esCons (eVar 0) (esCons (eOp dAdd (eVar 1) (eLst (esCons (eFz (eVar 2)) (esNil)))) (esNil))))) (sSeq (sDrop (vMeth "list" 1 mAppend (vsCons (vOf (eFz (eVar 2))) (vsNil)))) (sNil)) (sNil)) (sNil))) (sSeq (sRet (vOf (eBi bTup (esCons (eVar 1) (esNil))))) (sNil))))
def m_taken_in_order : Fn := fnOf 1 2 [] b_taken_in_order
def b__law_tape : SF := sSeq (sSet 1 (vOf (eLc [2] (eItems (eSl (eVar 0) (eNoP) (eP (eC (.int 63))))) (bdName 2) (gYes) (eBi bAbs (esCons (eBi bInt (esCons (eVar 2) (esNil))) (esNil)))))) (sSeq (sRet (vLst (vsCons (vFreeze 1) (vsCons (vOf (eC (.int 0))) (vsCons (vOf (eC (.int 0))) (vsCons (vOf (eOp dAdd (eC (.int 31)) (eBi bLen (esCons (eVar 1) (esNil))))) (vsCons (vOf (eC (.int 0))) (vsNil)))))))) (sNil))
def m__law_tape : Fn := fnOf 1 2 [] b__law_tape
def b__law_pick : SF := sSeq (sIf (tAndB (tBl (eOp dEq (eOp dItem (eVar 0) (eC (.int 2))) (eC (.int 0)))) (tBl (eOp dLt (eOp dItem (eVar 0) (eC (.int 1))) (eBi bLen (esCons (eOp dItem (eVar 0) (eC (.int 0))) (esNil)))))) (sSeq (sSet 2 (vOf (eOp dIxF (eOp dItem (eVar 0) (eC (.int 0))) (eOp dItem (eVar 0) (eC (.int 1)))))) (sSeq (sAsg (vOf (eOp dAdd (eOp dItem (eVar 0) (eC (.int 1))) (eC (.int 1)))) (bSub (plName 0) (eC (.int 1)) mSetL)) (sSeq (sAsg (vOf (eOp dMod (eBi bInt (esCons (eOp dAdd (eOp dAdd (eOp dMul (eOp dItem (eVar 0) (eC (.int 3))) (eC (.int 69621))) (eVar 2)) (eC (.int 11))) (esNil))) (eC (.int 2147483629)))) (bSub (plName 0) (eC (.int 3)) mSetL)) (sSeq (sIf (tBl (eOp dGe (eVar 2) (eOp dPow (eC (.int 10)) (eC (.int 18))))) (sSeq (sAsg (vOf (eFz (eVar 2))) (bSub (plName 0) (eC (.int 2)) mSetL)) (sNil)) (sNil)) (sNil))))) (sNil)) (sSeq (sIf (tBl (eOp dGt (eOp dItem (eVar 0) (eC (.int 2))) (eC (.int 0)))) (sSeq (sSet 3 (vOf (eOp dMod (eBi bInt (esCons (eOp dItem (eVar 0) (eC (.int 2))) (esNil))) (eVar 1)))) (sSeq (sAsg (vOf (eOp dFdiv (eOp dItem (eVar 0) (eC (.int 2))) (eVar 1))) (bSub (plName 0) (eC (.int 2)) mSetL)) (sSeq (sRet (vMove 3)) (sNil)))) (sNil)) (sSeq (sAsg (vOf (eOp dAdd (eOp dItem (eVar 0) (eC (.int 4))) (eC (.int 1)))) (bSub (plName 0) (eC (.int 4)) mSetL)) (sSeq (sSet 4 (vOf (eOp dMod (eBi bInt (esCons (eOp dMul (eBi bInt (esCons (eOp dAdd (eOp dItem (eVar 0) (eC (.int 3))) (eOp dMul (eC (.int 7919)) (eOp dItem (eVar 0) (eC (.int 4))))) (esNil))) (eC (.int 48271))) (esNil))) (eC (.int 2147483647))))) (sSeq (sSet 4 (vOf (eOp dMod (eBi bInt (esCons (eOp dMul (eVar 4) (eOp dAdd (eOp dFdiv (eVar 4) (eC (.int 1009))) (eC (.int 69621)))) (esNil))) (eC (.int 2147483647))))) (sSeq (sSet 4 (vOf (eOp dMod (eBi bInt (esCons (eOp dMul (eVar 4) (eOp dAdd (eOp dFdiv (eVar 4) (eC (.int 2003))) (eC (.int 40692)))) (esNil))) (eC (.int 2147483399))))) (sSeq (sRet (vOf (eOp dMod (eBi bInt (esCons (eOp dFdiv (eVar 4) (eC (.int 16))) (esNil))) (eVar 1)))) (sNil)))))))
def m__law_pick : Fn := fnOf 2 3 [0] b__law_pick
def b__law_any : SF := sSeq (sRet (vOp dIxF (vOf (eFz (eVar 1))) (vCall m__law_pick [.lend 0, .val (vOf (eBi bLen (esCons (eVar 1) (esNil))))]))) (sNil)
def m__law_any : Fn := fnOf 2 0 [0] b__law_any
def b__law_mixed : SF := sSeq (sPar 2 3 (vsCons (vOf (eBi bList (esCons (eVar 1) (esNil)))) (vsCons (vOf (eLst (esNil))) (vsNil)))) (sSeq (sWhile (tOf (tBl (eOp dGt (eBi bLen (esCons (eVar 2) (esNil))) (eC (.int 0))))) (sSeq (sDrop (vMeth "list" 3 mAppend (vsCons (vMeth "list" 2 mPopAt (vsCons (vCall m__law_pick [.lend 0, .val (vOf (eBi bLen (esCons (eVar 2) (esNil))))]) (vsNil))) (vsNil)))) (sNil)) 1000000) (sSeq (sRet (vMove 3)) (sNil)))
def m__law_mixed : Fn := fnOf 2 2 [0] b__law_mixed
def b__law_offers : SF := sSeq (sPar 1 2 (vsCons (vCall m__law_any [.lend 0, .val (vOf (eLst (esCons (eC (.int 3)) (esCons (eC (.int 6)) (esCons (eC (.int 12)) (esNil))))))]) (vsCons (vOf (eLst (esNil))) (vsNil)))) (sSeq (sFor (vRng rng1Of (vsCons (vCall m__law_pick [.lend 0, .val (vOf (eC (.int 9)))]) (vsNil))) (boName 3) (sSeq (sSet 4 (vCall m__law_pick [.lend 0, .val (vOf (eFz (eVar 1)))])) (sSeq (sDrop (vMeth "list" 2 mAppend (vsCons (vTup (vsCons (vOf (eFz (eVar 4))) (vsCons (vOp dAdd (vOf (eOp dAdd (eVar 4) (eC (.int 1)))) (vCall m__law_pick [.lend 0, .val (vCall m__law_any [.lend 0, .val (vOf (eLst (esCons (eC (.int 1)) (esCons (eC (.int 3)) (esCons (eFz (eVar 1)) (esNil))))))])])) (vsCons (vCall m__law_pick [.lend 0, .val (vOf (eC (.int 5)))]) (vsNil))))) (vsNil)))) (sSeq (sIfV (tAndVv (tBlV (vOp dEq (vCall m__law_pick [.lend 0, .val (vOf (eC (.int 6)))]) (vOf (eC (.int 0))))) (tOf (tBl (eOp dLt (eBi bLen (esCons (eVar 2) (esNil))) (eC (.int 8)))))) (sSeq (sDrop (vMeth "list" 2 mAppend (vsCons (vOf (eOp dIxF (eVar 2) (eUn dNeg (eC (.int 1))))) (vsNil)))) (sNil)) (sNil)) (sNil))))) (sSeq (sRet (vOf (eBi bTup (esCons (eSl (eVar 2) (eNoP) (eP (eC (.int 8)))) (esNil))))) (sNil)))
def m__law_offers : Fn := fnOf 1 4 [0] b__law_offers
def b__law_groups : SF := sSeq (sSet 1 (vOf (eLst (esCons (eTup (esNil)) (esNil))))) (sSeq (sFor (iOf (eItems (eFz (eVar 0)))) (boName 2) (sSeq (sSet 1 (vOf (eOp dAdd (eVar 1) (eLc [3] (eItems (eVar 1)) (bdName 3) (gYes) (eOp dAdd (eVar 3) (eTup (esCons (eFz (eVar 2)) (esNil)))))))) (sNil))) (sSeq (sRet (vMove 1)) (sNil)))
def m__law_groups : Fn := fnOf 1 3 [] b__law_groups
def b__law_are_apart : SF := sSeq (sFor (iOf (eEnum (esCons (eFz (eVar 1)) (esNil)))) (bdTup (bdCons (boName 2) (bdCons (boName 3) (bdNil)))) (sSeq (sFor (iOf (eItems (eSl (eVar 1) (eP (eOp dAdd (eVar 2) (eC (.int 1)))) (eNoP)))) (boName 4) (sSeq (sIf (tAndB (tBl (eOp dLt (eOp dItem (eOp dItem (eVar 0) (eVar 3)) (eC (.int 0))) (eOp dItem (eOp dItem (eVar 0) (eVar 4)) (eC (.int 1))))) (tBl (eOp dLt (eOp dItem (eOp dItem (eVar 0) (eVar 4)) (eC (.int 0))) (eOp dItem (eOp dItem (eVar 0) (eVar 3)) (eC (.int 1)))))) (sSeq (sRet (vOf (eC (.bl false)))) (sNil)) (sNil)) (sNil))) (sNil))) (sSeq (sRet (vOf (eC (.bl true)))) (sNil))
def m__law_are_apart : Fn := fnOf 2 3 [] b__law_are_apart
def b__law_is_number : SF := sSeq (sRet (vOf (eAnd (eBi bIsi (esCons (eVar 0) (esCons (eC (.ty "int")) (esNil)))) (eAnd (eNot (eBi bIsi (esCons (eVar 0) (esCons (eC (.ty "bool")) (esNil))))) (eChain (eVar 1) [(dLe, eVar 0), (dLe, eVar 2)]))))) (sNil)
def m__law_is_number : Fn := fnOf 3 0 [] b__law_is_number
def b__law_is_group : SF := sSeq (sIf (tOrB (tNotB (tBl (eBi bIsi (esCons (eVar 0) (esCons (eC (.ty "tuple")) (esNil)))))) (tNotB (tBl (eBi bAll (esCons (eLc [2] (eItems (eVar 0)) (bdName 2) (gYes) (eCall m__law_is_number (esCons (eVar 2) (esCons (eC (.int 0)) (esCons (eOp dSub (eVar 1) (eC (.int 1))) (esNil)))))) (esNil)))))) (sSeq (sRet (vOf (eC (.bl false)))) (sNil)) (sNil)) (sSeq (sRet (vOf (eBi bAll (esCons (eLc [2, 3] (eZip (esCons (eVar 0) (esCons (eSl (eVar 0) (eP (eC (.int 1))) (eNoP)) (esNil)))) (bdTup (bdCons (bdName 2) (bdCons (bdName 3) (bdNil)))) (gYes) (eOp dLt (eVar 2) (eVar 3))) (esNil))))) (sNil))
def m__law_is_group : Fn := fnOf 2 2 [] b__law_is_group
def b__law_do_meet : SF := sSeq (sRet (vOf (eBi bAll (esCons (eLc [2, 3, 4] (eItems (eVar 0)) (bdTup (bdCons (bdName 2) (bdCons (bdName 3) (bdCons (bdName 4) (bdNil))))) (gYes) (eBi bAny (esCons (eLc [5] (eItems (eVar 1)) (bdName 5) (gYes) (eChain (eVar 2) [(dLe, eVar 5), (dLt, eVar 3)])) (esNil)))) (esNil))))) (sNil)
def m__law_do_meet : Fn := fnOf 2 4 [] b__law_do_meet
def b__law_is_right : SF := sSeq (sIf (tOrB (tNotB (tBl (eBi bIsi (esCons (eVar 1) (esCons (eC (.ty "tuple")) (esNil)))))) (tOrB (tBl (eOp dNe (eBi bLen (esCons (eVar 1) (esNil))) (eC (.int 3)))) (tNotB (tBl (eCall m__law_is_number (esCons (eOp dItem (eVar 1) (eC (.int 0))) (esCons (eC (.int 0)) (esCons (eOp dPow (eC (.int 10)) (eC (.int 39))) (esNil))))))))) (sSeq (sRet (vOf (eC (.bl false)))) (sNil)) (sNil)) (sSeq (sAsg (vOf (eFz (eVar 1))) (bdTup (bdCons (boName 2) (bdCons (boName 3) (bdCons (boName 4) (bdNil)))))) (sSeq (sIf (tOrB (tNotB (tBl (eCall m__law_is_group (esCons (eVar 3) (esCons (eBi bLen (esCons (eVar 0) (esNil))) (esNil)))))) (tOrB (tBl (eOp dNe (eBi bLen (esCons (eVar 3) (esNil))) (eVar 2))) (tNotB (tBl (eCall m__law_are_apart (esCons (eVar 0) (esCons (eVar 3) (esNil)))))))) (sSeq (sRet (vOf (eC (.bl false)))) (sNil)) (sNil)) (sSeq (sIf (tOrB (tNotB (tBl (eBi bIsi (esCons (eVar 4) (esCons (eC (.ty "tuple")) (esNil)))))) (tNotB (tBl (eBi bAll (esCons (eLc [5] (eItems (eVar 4)) (bdName 5) (gYes) (eCall m__law_is_number (esCons (eVar 5) (esCons (eUn dNeg (eOp dPow (eC (.int 10)) (eC (.int 41)))) (esCons (eOp dPow (eC (.int 10)) (eC (.int 41))) (esNil)))))) (esNil)))))) (sSeq (sRet (vOf (eC (.bl false)))) (sNil)) (sNil)) (sSeq (sIf (tNotB (tBl (eBi bAll (esCons (eLc [6, 7] (eZip (esCons (eVar 4) (esCons (eSl (eVar 4) (eP (eC (.int 1))) (eNoP)) (esNil)))) (bdTup (bdCons (bdName 6) (bdCons (bdName 7) (bdNil)))) (gYes) (eOp dLt (eVar 6) (eVar 7))) (esNil))))) (sSeq (sRet (vOf (eC (.bl false)))) (sNil)) (sNil)) (sSeq (sRet (vOf (eAnd (eOp dEq (eBi bLen (esCons (eVar 4) (esNil))) (eVar 2)) (eCall m__law_do_meet (esCons (eVar 0) (esCons (eVar 4) (esNil))))))) (sNil))))))
def m__law_is_right : Fn := fnOf 2 6 [] b__law_is_right
def b__law_bent : SF := sSeq (sAsg (vOf (eFz (eVar 2))) (bdTup (bdCons (boName 3) (bdCons (boName 4) (bdCons (boName 5) (bdNil)))))) (sSeq (sAsg (vTup (vsCons (vCall m__law_pick [.lend 0, .val (vOf (eOp dAdd (eBi bLen (esCons (eVar 5) (esNil))) (eC (.int 1))))]) (vsCons (vCall m__law_any [.lend 0, .val (vLst (vsCons (vCall m__law_pick [.lend 0, .val (vOf (eC (.int 20)))]) (vsCons (vOf (eUn dNeg (eC (.int 1)))) (vsCons (vOf (eC .non)) (vsCons (vOf (eC (.bl true))) (vsCons (vOf (eC (.str "0"))) (vsCons (vOf (eOp dPow (eC (.int 10)) (eC (.int 30)))) (vsNil))))))))]) (vsNil)))) (bdTup (bdCons (boName 6) (bdCons (boName 7) (bdNil))))) (sSeq (sSet 8 (vBi bTup (vsCons (vBi bSorted (vsCons (vOp dAdd (vOf (eLc [10, 11] (eEnum (esCons (eVar 5) (esNil))) (bdTup (bdCons (bdName 10) (bdCons (bdName 11) (bdNil)))) (tBl (eOp dNe (eVar 10) (eVar 6))) (eFz (eVar 11)))) (vLst (vsCons (vCall m__law_pick [.lend 0, .val (vOf (eC (.int 15)))]) (vsNil)))) (vsNil))) (vsNil)))) (sSeq (sSet 9 (vOf (eLst (esCons (eTup (esCons (eFz (eVar 3)) (esCons (eFz (eVar 4)) (esCons (eOp dAdd (eOp dAdd (eSl (eVar 5) (eNoP) (eP (eVar 6))) (eTup (esCons (eFz (eVar 7)) (esNil)))) (eSl (eVar 5) (eP (eOp dAdd (eVar 6) (eC (.int 1)))) (eNoP))) (esNil))))) (esCons (eTup (esCons (eFz (eVar 3)) (esCons (eFz (eVar 4)) (esCons (eFz (eVar 8)) (esNil))))) (esCons (eTup (esCons (eFz (eVar 3)) (esCons (eFz (eVar 4)) (esCons (eFz (eVar 8)) (esNil))))) (esNil))))))) (sSeq (sSet 9 (vOp dAdd (vFz (vMove 9)) (vFz (vOf (eLst (esCons (eTup (esCons (eFz (eVar 3)) (esCons (eOp dAdd (eOp dAdd (eSl (eVar 4) (eNoP) (eP (eVar 6))) (eTup (esCons (eFz (eVar 7)) (esNil)))) (eSl (eVar 4) (eP (eOp dAdd (eVar 6) (eC (.int 1)))) (eNoP))) (esCons (eFz (eVar 5)) (esNil))))) (esCons (eTup (esCons (eFz (eVar 3)) (esCons (eSl (eVar 4) (eP (eC (.int 1))) (eNoP)) (esCons (eFz (eVar 5)) (esNil))))) (esNil)))))))) (sSeq (sDrop (vMeth "list" 9 mAppend (vsCons (vOf (eTup (esCons (eFz (eVar 3)) (esCons (eFz (eVar 4)) (esCons (eSl (eVar 5) (eP (eC (.int 1))) (eNoP)) (esNil)))))) (vsNil)))) (sSeq (sSet 9 (vOp dAdd (vFz (vMove 9)) (vFz (vOf (eLst (esCons (eTup (esCons (eOp dSub (eVar 3) (eC (.int 1))) (esCons (eSl (eVar 4) (eP (eC (.int 1))) (eNoP)) (esCons (eSl (eVar 5) (eP (eC (.int 1))) (eNoP)) (esNil))))) (esCons (eTup (esCons (eOp dAdd (eVar 3) (eC (.int 1))) (esCons (eFz (eVar 4)) (esCons (eFz (eVar 5)) (esNil))))) (esCons (eTup (esCons (eC (.bl true)) (esCons (eFz (eVar 4)) (esCons (eFz (eVar 5)) (esNil))))) (esNil))))))))) (sSeq (sDrop (vMeth "list" 9 mAppend (vsCons (vOf (eTup (esCons (eFz (eVar 3)) (esCons (eBi bList (esCons (eVar 4) (esNil))) (esCons (eFz (eVar 5)) (esNil)))))) (vsNil)))) (sSeq (sSet 9 (vOp dAdd (vFz (vMove 9)) (vFz (vOf (eLst (esCons (eTup (esCons (eFz (eVar 3)) (esCons (eFz (eVar 4)) (esCons (eBi bList (esCons (eVar 5) (esNil))) (esNil))))) (esCons (eTup (esCons (eFz (eVar 3)) (esCons (eUn dRev (eVar 4)) (esCons (eFz (eVar 5)) (esNil))))) (esCons (eTup (esCons (eFz (eVar 3)) (esCons (eFz (eVar 4)) (esCons (eUn dRev (eVar 5)) (esNil))))) (esNil))))))))) (sSeq (sDrop (vMeth "list" 9 mAppend (vsCons (vOf (eTup (esCons (eFz (eVar 3)) (esCons (eFz (eVar 5)) (esCons (eFz (eVar 4)) (esNil)))))) (vsNil)))) (sSeq (sSet 9 (vOp dAdd (vFz (vMove 9)) (vFz (vLst (vsCons (vTup (vsCons (vOf (eFz (eVar 3))) (vsCons (vCall m__law_any [.lend 0, .val (vOf (eCall m__law_groups (esCons (eRgL rng1Of (esCons (eBi bLen (esCons (eVar 1) (esNil))) esNil)) (esNil))))]) (vsCons (vOf (eFz (eVar 5))) (vsNil))))) (vsCons (vOf (eLst (esCons (eFz (eVar 3)) (esCons (eFz (eVar 4)) (esCons (eFz (eVar 5)) (esNil)))))) (vsNil))))))) (sSeq (sSet 9 (vOp dAdd (vFz (vMove 9)) (vFz (vOf (eLst (esCons (eTup (esCons (eFz (eVar 3)) (esCons (eFz (eVar 4)) (esNil)))) (esCons (eC .non) (esNil)))))))) (sSeq (sSet 9 (vOp dAdd (vFz (vMove 9)) (vFz (vOf (eLst (esCons (eOp dAdd (eVar 2) (eTup (esCons (eC (.int 0)) (esNil)))) (esCons (eC (.dk true [] [])) (esCons (eC (.int 0)) (esCons (eTup (esCons (eFz (eVar 3)) (esCons (eFz (eVar 4)) (esCons (eC .non) (esNil))))) (esCons (eTup (esCons (eFz (eVar 3)) (esCons (eC .non) (esCons (eFz (eVar 5)) (esNil))))) (esCons (eTup (esCons (eBi bStr (esCons (eVar 3) (esNil))) (esCons (eFz (eVar 4)) (esCons (eFz (eVar 5)) (esNil))))) (esNil)))))))))))) (sSeq (sRet (vCall m__law_any [.lend 0, .val (vMove 9)])) (sNil))))))))))))))
def m__law_bent : Fn := fnOf 3 9 [0] b__law_bent
def b__law_least_end : SF := sSeq (sSet 2 (vOf (eLc [4] (eItems (eCall m__law_groups (esCons (eVar 1) (esNil)))) (bdName 4) (tBl (eCall m__law_are_apart (esCons (eVar 0) (esCons (eVar 4) (esNil))))) (eFz (eVar 4))))) (sSeq (sSet 3 (vOf (eBi bMax (esCons (eLc [4] (eItems (eVar 2)) (bdName 4) (gYes) (eBi bLen (esCons (eVar 4) (esNil)))) (esNil))))) (sSeq (sRet (vOf (eBi bMin (esCons (eLc [4] (eItems (eVar 2)) (bdName 4) (tBl (eOp dEq (eBi bLen (esCons (eVar 4) (esNil))) (eVar 3))) (eBi bMax (esCons (eOp dAdd (eLst (esCons (eC (.int 0)) (esNil))) (eLc [5] (eItems (eVar 4)) (bdName 5) (gYes) (eOp dIxF (eOp dItem (eVar 0) (eVar 5)) (eC (.int 1))))) (esNil)))) (esNil))))) (sNil)))
def m__law_least_end : Fn := fnOf 2 4 [] b__law_least_end
def b__law_in_order : SF := sSeq (sSet 1 (vOf (eTup (esNil)))) (sSeq (sFor (iOf (eRng rng1Of (esCons (eBi bLen (esCons (eVar 0) (esNil))) (esNil)))) (boName 2) (sSeq (sIf (tBl (eCall m__law_are_apart (esCons (eVar 0) (esCons (eOp dAdd (eVar 1) (eTup (esCons (eFz (eVar 2)) (esNil)))) (esNil))))) (sSeq (sSet 1 (vOf (eOp dAdd (eVar 1) (eTup (esCons (eFz (eVar 2)) (esNil)))))) (sNil)) (sNil)) (sNil))) (sSeq (sRet (vMove 1)) (sNil)))
def m__law_in_order : Fn := fnOf 1 2 [] b__law_in_order
def b__law_are_ends_right : SF := sSeq (sFor (iOf (eRng rng1Of (esCons (eC (.int 3)) (esNil)))) (boName 2) (sSeq (sSet 3 (vCall m__law_any [.lend 0, .val (vOf (eCall m__law_groups (esCons (eRgL rng1Of (esCons (eBi bLen (esCons (eVar 1) (esNil))) esNil)) (esNil))))])) (sSeq (sIf (tBl (eOp dNe (eBi bRepr (esCons (eCall m_least_end (esCons (eVar 1) (esCons (eVar 3) (esNil)))) (esNil))) (eBi bRepr (esCons (eCall m__law_least_end (esCons (eVar 1) (esCons (eVar 3) (esNil)))) (esNil))))) (sSeq (sRet (vOf (eC (.bl false)))) (sNil)) (sNil)) (sNil)))) (sSeq (sSet 4 (vCall m__law_any [.lend 0, .val (vOf (eLst (esCons (eC .non) (esCons (eLst (esCons (eC (.int 0)) (esNil))) (esCons (eTup (esCons (eBi bLen (esCons (eVar 1) (esNil))) (esNil))) (esCons (eTup (esCons (eUn dNeg (eC (.int 1))) (esNil))) (esCons (eTup (esCons (eC (.int 0)) (esCons (eC (.int 0)) (esNil)))) (esCons (eTup (esCons (eC (.int 1)) (esCons (eC (.int 0)) (esNil)))) (esCons (eTup (esCons (eC (.bl true)) (esNil))) (esCons (eC (.str "0")) (esCons (eC (.int 0)) (esCons (eC (.dk true [] [])) (esCons (eTup (esCons (eTup (esCons (eC (.int 0)) (esNil))) (esNil))) (esCons (eTup (esCons (eC (.str "0")) (esNil))) (esNil)))))))))))))))])) (sSeq (sRet (vOf (eOp dIsNg (eCall m_least_end (esCons (eVar 1) (esCons (eVar 4) (esNil)))) (eC .non)))) (sNil)))
def m__law_are_ends_right : Fn := fnOf 2 3 [0] b__law_are_ends_right
def b__law_are_right : SF := sSeq (sPar 2 3 (vsCons (vOf (eCall m_most_apart (esCons (eVar 1) (esNil)))) (vsCons (vOf (eCall m__law_groups (esCons (eRgL rng1Of (esCons (eBi bLen (esCons (eVar 1) (esNil))) esNil)) (esNil)))) (vsNil)))) (sSeq (sSet 4 (vOf (eBi bMax (esCons (eLc [15] (eItems (eVar 3)) (bdName 15) (tBl (eCall m__law_are_apart (esCons (eVar 1) (esCons (eVar 15) (esNil))))) (eBi bLen (esCons (eVar 15) (esNil)))) (esNil))))) (sSeq (sIf (tOrB (tNotB (tBl (eCall m__law_is_right (esCons (eVar 1) (esCons (eVar 2) (esNil)))))) (tBl (eOp dNe (eOp dItem (eVar 2) (eC (.int 0))) (eVar 4)))) (sSeq (sRet (vOf (eC (.bl false)))) (sNil)) (sNil)) (sSeq (sFor (iOf (eRng rng1Of (esCons (eC (.int 7)) (esNil)))) (boName 5) (sSeq (sSet 6 (vIf (tOf (tBl (eOp dEq (eVar 5) (eC (.int 0))))) (vOf (eFz (eVar 2))) (vCall m__law_bent [.lend 0, .val (vOf (eFz (eVar 1))), .val (vOf (eFz (eVar 2)))]))) (sSeq (sPar 7 8 (vsCons (vOf (eBi bRepr (esCons (eVar 6) (esNil)))) (vsCons (vOf (eCall m__law_is_right (esCons (eVar 1) (esCons (eVar 6) (esNil))))) (vsNil)))) (sSeq (sIf (tOrB (tBl (eOp dNe (eBi bRepr (esCons (eCall m_is_most_apart (esCons (eVar 1) (esCons (eVar 6) (esNil)))) (esNil))) (eBi bRepr (esCons (eVar 8) (esNil))))) (tBl (eOp dNe (eBi bRepr (esCons (eVar 6) (esNil))) (eVar 7)))) (sSeq (sRet (vOf (eC (.bl false)))) (sNil)) (sNil)) (sSeq (sIf (tAndB (tBl (eVar 8)) (tBl (eOp dNe (eOp dItem (eVar 6) (eC (.int 0))) (eVar 4)))) (sSeq (sRet (vOf (eC (.bl false)))) (sNil)) (sNil)) (sNil)))))) (sSeq (sSet 9 (vOf (eCall m_taken_in_order (esCons (eVar 1) (esNil))))) (sSeq (sIf (tOrB (tBl (eOp dNe (eBi bRepr (esCons (eVar 9) (esNil))) (eBi bRepr (esCons (eCall m__law_in_order (esCons (eVar 1) (esNil))) (esNil))))) (tBl (eOp dGt (eBi bLen (esCons (eVar 9) (esNil))) (eVar 4)))) (sSeq (sRet (vOf (eC (.bl false)))) (sNil)) (sNil)) (sSeq (sSet 10 (vOf (eBi bTup (esCons (eLc [16, 17, 18] (eItems (eVar 1)) (bdTup (bdCons (bdName 16) (bdCons (bdName 17) (bdCons (bdName 18) (bdNil))))) (gYes) (eTup (esCons (eFz (eVar 16)) (esCons (eFz (eVar 17)) (esCons (eC (.int 1)) (esNil)))))) (esNil))))) (sSeq (sIf (tOrB (tBl (eOp dNe (eOp dItem (eCall m_dearest (esCons (eVar 10) (esCons (eC (.int 1)) (esNil)))) (eC (.int 0))) (eVar 4))) (tBl (eOp dNotB (eCall m_does_fit (esCons (eVar 1) (esCons (eC (.int 1)) (esCons (eOp dItem (eVar 2) (eC (.int 1))) (esNil))))) (eC (.bl true))))) (sSeq (sRet (vOf (eC (.bl false)))) (sNil)) (sNil)) (sSeq (sSet 11 (vOf (eOp dItem (eCall m_fewest_benches (esCons (eVar 1) (esNil))) (eC (.int 0))))) (sSeq (sIf (tAndB (tBl (eOp dGt (eVar 11) (eC (.int 0)))) (tBl (eOp dNotB (eCall m_does_fit (esCons (eVar 1) (esCons (eVar 11) (esCons (eRgT rng1Of (esCons (eBi bLen (esCons (eVar 1) (esNil))) esNil)) (esNil))))) (eC (.bl true))))) (sSeq (sRet (vOf (eC (.bl false)))) (sNil)) (sNil)) (sSeq (sSet 12 (vCall m__law_pick [.lend 0, .val (vOf (eC (.int 50)))])) (sSeq (sSet 13 (vOf (eBi bTup (esCons (eLc [16, 17, 18] (eItems (eVar 1)) (bdTup (bdCons (bdName 16) (bdCons (bdName 17) (bdCons (bdName 18) (bdNil))))) (gYes) (eTup (esCons (eOp dAdd (eVar 16) (eVar 12)) (esCons (eOp dAdd (eVar 17) (eVar 12)) (esCons (eFz (eVar 18)) (esNil)))))) (esNil))))) (sSeq (sSet 14 (vBi bTup (vsCons (vCall m__law_mixed [.lend 0, .val (vOf (eBi bList (esCons (eVar 1) (esNil))))]) (vsNil)))) (sSeq (sIf (tOrB (tBl (eOp dNe (eLst (esCons (eOp dItem (eCall m_most_apart (esCons (eVar 13) (esNil))) (eC (.int 0))) (esCons (eOp dItem (eCall m_most_apart (esCons (eVar 14) (esNil))) (eC (.int 0))) (esNil)))) (eLst (esCons (eFz (eVar 4)) (esCons (eFz (eVar 4)) (esNil)))))) (tBl (eOp dNe (eCall m_taken_in_order (esCons (eVar 13) (esNil))) (eVar 9)))) (sSeq (sRet (vOf (eC (.bl false)))) (sNil)) (sNil)) (sSeq (sRet (vOf (eOp dGe (eOp dMul (eVar 4) (eVar 11)) (eBi bLen (esCons (eVar 1) (esNil)))))) (sNil)))))))))))))))
def m__law_are_right : Fn := fnOf 2 17 [0] b__law_are_right
def b_law : SF := sSeq (sSet 1 (vCall m__law_tape [.val (vOf (eFz (eVar 0)))])) (sSeq (sSet 2 (vOf (eTup (esCons (eTup (esCons (eC (.int 0)) (esCons (eC (.int 4)) (esCons (eC (.int 1)) (esNil))))) (esCons (eTup (esCons (eC (.int 0)) (esCons (eC (.int 2)) (esCons (eC (.int 1)) (esNil))))) (esCons (eTup (esCons (eC (.int 2)) (esCons (eC (.int 3)) (esCons (eC (.int 1)) (esNil))))) (esCons (eTup (esCons (eC (.int 3)) (esCons (eC (.int 6)) (esCons (eC (.int 1)) (esNil))))) (esCons (eTup (esCons (eC (.int 1)) (esCons (eC (.int 5)) (esCons (eC (.int 1)) (esNil))))) (esNil))))))))) (sSeq (sSet 3 (vOf (eLst (esCons (eOp dItem (eCall m_most_apart (esCons (eVar 2) (esNil))) (eC (.int 0))) (esCons (eCall m_taken_in_order (esCons (eVar 2) (esNil))) (esCons (eCall m_least_end (esCons (eVar 2) (esCons (eTup (esCons (eC (.int 0)) (esCons (eC (.int 3)) (esCons (eC (.int 4)) (esNil))))) (esNil)))) (esCons (eCall m_least_end (esCons (eVar 2) (esCons (eTup (esNil)) (esNil)))) (esNil)))))))) (sSeq (sDrop (vMeth "list" 3 mAppend (vsCons (vOf (eCall m_most_apart (esCons (eTup (esNil)) (esNil)))) (vsNil)))) (sSeq (sIf (tOrB (tBl (eOp dNe (eVar 3) (eLst (esCons (eC (.int 3)) (esCons (eTup (esCons (eC (.int 0)) (esNil))) (esCons (eC (.int 4)) (esCons (eC (.int 0)) (esCons (eTup (esCons (eC (.int 0)) (esCons (eTup (esNil)) (esCons (eTup (esNil)) (esNil))))) (esNil))))))))) (tBl (eOp dNotB (eCall m_is_most_apart (esCons (eVar 2) (esCons (eTup (esCons (eC (.int 3)) (esCons (eTup (esCons (eC (.int 1)) (esCons (eC (.int 2)) (esCons (eC (.int 3)) (esNil))))) (esCons (eTup (esCons (eC (.int 1)) (esCons (eC (.int 2)) (esCons (eC (.int 4)) (esNil))))) (esNil))))) (esNil)))) (eC (.bl true))))) (sSeq (sRet (vOf (eC (.bl false)))) (sNil)) (sNil)) (sSeq (sFor (iOf (eRng rng1Of (esCons (eC (.int 4)) (esNil)))) (boName 4) (sSeq (sSet 2 (vCall m__law_offers [.lend 1])) (sSeq (sIfV (tOrVv (tNotVv (tBlV (vCall m__law_are_right [.lend 1, .val (vOf (eFz (eVar 2)))]))) (tNotVv (tBlV (vCall m__law_are_ends_right [.lend 1, .val (vOf (eFz (eVar 2)))])))) (sSeq (sRet (vOf (eC (.bl false)))) (sNil)) (sNil)) (sNil)))) (sSeq (sRet (vOf (eC (.bl true)))) (sNil)))))))
def m_law : Fn := fnOf 1 4 [] b_law
theorem m_is_integer_eq (x0 : D) : m_is_integer [x0] = fin [] (b_is_integer [.ow x0]) := rfl
theorem m_is_within_eq (x0 x1 x2 : D) : m_is_within [x0, x1, x2] = fin [] (b_is_within [.ow x0, .ow x1, .ow x2]) := rfl
theorem m_are_ascending_eq (x0 : D) : m_are_ascending [x0] = fin [] (b_are_ascending [.ow x0, .no, .no]) := rfl
theorem m_is_group_of_eq (x0 x1 : D) : m_is_group_of [x0, x1] = fin [] (b_is_group_of [.ow x0, .ow x1, .no]) := rfl
theorem m_is_offer_eq (x0 : D) : m_is_offer [x0] = fin [] (b_is_offer [.ow x0, .no]) := rfl
theorem m_check_offers_eq (x0 x1 : D) : m_check_offers [x0, x1] = fin [] (b_check_offers [.ow x0, .ow x1, .no]) := rfl
theorem m_hours_of_eq (x0 : D) : m_hours_of [x0] = fin [] (b_hours_of [.ow x0, .no, .no, .no]) := rfl
theorem m_busiest_eq (x0 x1 : D) : m_busiest [x0, x1] = fin [] (b_busiest [.ow x0, .ow x1, .no, .no, .no]) := rfl
theorem m_does_fit_eq (x0 x1 x2 : D) : m_does_fit [x0, x1, x2] = fin [] (b_does_fit [.ow x0, .ow x1, .ow x2]) := rfl
theorem m_Lines_steps_eq (x0 : D) : m_Lines_steps [x0] = fin [] (b_Lines_steps [.ow x0, .no, .no, .no, .no, .no, .no, .no]) := rfl
theorem m_Lines_distances_eq (x0 : D) : m_Lines_distances [x0] = fin [] (b_Lines_distances [.ow x0, .no, .no, .no, .no, .no, .no, .no]) := rfl
theorem m_Lines_lead_eq (x0 : D) : m_Lines_lead [x0] = fin [0] (b_Lines_lead [.ow x0, .no, .no, .no, .no, .no, .no, .no]) := rfl
theorem m_Lines___init___eq (x0 x1 x2 : D) : m_Lines___init__ [x0, x1, x2] = fin [0] (b_Lines___init__ [.ow x0, .ow x1, .ow x2, .no, .no, .no]) := rfl
theorem m_prices_of_eq (x0 : D) : m_prices_of [x0] = fin [] (b_prices_of [.ow x0, .no, .no, .no]) := rfl
theorem m_dearest_eq (x0 x1 : D) : m_dearest [x0, x1] = fin [] (b_dearest [.ow x0, .ow x1, .no, .no, .no]) := rfl
theorem m_many_at_eq (x0 x1 x2 : D) : m_many_at [x0, x1, x2] = fin [] (b_many_at [.ow x0, .ow x1, .ow x2, .no]) := rfl
theorem m_fewest_benches_eq (x0 : D) : m_fewest_benches [x0] = fin [] (b_fewest_benches [.ow x0, .no, .no, .no, .no, .no, .no, .no, .no, .no, .no, .no, .no]) := rfl
theorem m_by_end_eq (x0 : D) : m_by_end [x0] = fin [] (b_by_end [.ow x0, .no, .no, .no]) := rfl
theorem m_apart_ones_eq (x0 : D) : m_apart_ones [x0] = fin [] (b_apart_ones [.ow x0, .no, .no, .no]) := rfl
theorem m_most_apart_eq (x0 : D) : m_most_apart [x0] = fin [] (b_most_apart [.ow x0, .no, .no]) := rfl
theorem m_are_apart_eq (x0 x1 : D) : m_are_apart [x0, x1] = fin [] (b_are_apart [.ow x0, .ow x1, .no, .no, .no]) := rfl
theorem m_do_meet_eq (x0 x1 : D) : m_do_meet [x0, x1] = fin [] (b_do_meet [.ow x0, .ow x1, .no, .no, .no, .no]) := rfl
theorem m_is_most_apart_eq (x0 x1 : D) : m_is_most_apart [x0, x1] = fin [] (b_is_most_apart [.ow x0, .ow x1, .no]) := rfl
theorem m_least_end_eq (x0 x1 : D) : m_least_end [x0, x1] = fin [] (b_least_end [.ow x0, .ow x1, .no, .no, .no]) := rfl
theorem m_taken_in_order_eq (x0 : D) : m_taken_in_order [x0] = fin [] (b_taken_in_order [.ow x0, .no, .no]) := rfl
theorem m__law_tape_eq (x0 : D) : m__law_tape [x0] = fin [] (b__law_tape [.ow x0, .no, .no]) := rfl
theorem m__law_pick_eq (x0 x1 : D) : m__law_pick [x0, x1] = fin [0] (b__law_pick [.ow x0, .ow x1, .no, .no, .no]) := rfl
theorem m__law_any_eq (x0 x1 : D) : m__law_any [x0, x1] = fin [0] (b__law_any [.ow x0, .ow x1]) := rfl
theorem m__law_mixed_eq (x0 x1 : D) : m__law_mixed [x0, x1] = fin [0] (b__law_mixed [.ow x0, .ow x1, .no, .no]) := rfl
theorem m__law_offers_eq (x0 : D) : m__law_offers [x0] = fin [0] (b__law_offers [.ow x0, .no, .no, .no, .no]) := rfl
theorem m__law_groups_eq (x0 : D) : m__law_groups [x0] = fin [] (b__law_groups [.ow x0, .no, .no, .no]) := rfl
theorem m__law_are_apart_eq (x0 x1 : D) : m__law_are_apart [x0, x1] = fin [] (b__law_are_apart [.ow x0, .ow x1, .no, .no, .no]) := rfl
theorem m__law_is_number_eq (x0 x1 x2 : D) : m__law_is_number [x0, x1, x2] = fin [] (b__law_is_number [.ow x0, .ow x1, .ow x2]) := rfl
theorem m__law_is_group_eq (x0 x1 : D) : m__law_is_group [x0, x1] = fin [] (b__law_is_group [.ow x0, .ow x1, .no, .no]) := rfl
theorem m__law_do_meet_eq (x0 x1 : D) : m__law_do_meet [x0, x1] = fin [] (b__law_do_meet [.ow x0, .ow x1, .no, .no, .no, .no]) := rfl
theorem m__law_is_right_eq (x0 x1 : D) : m__law_is_right [x0, x1] = fin [] (b__law_is_right [.ow x0, .ow x1, .no, .no, .no, .no, .no, .no]) := rfl
theorem m__law_bent_eq (x0 x1 x2 : D) : m__law_bent [x0, x1, x2] = fin [0] (b__law_bent [.ow x0, .ow x1, .ow x2, .no, .no, .no, .no, .no, .no, .no, .no, .no]) := rfl
theorem m__law_least_end_eq (x0 x1 : D) : m__law_least_end [x0, x1] = fin [] (b__law_least_end [.ow x0, .ow x1, .no, .no, .no, .no]) := rfl
theorem m__law_in_order_eq (x0 : D) : m__law_in_order [x0] = fin [] (b__law_in_order [.ow x0, .no, .no]) := rfl
theorem m__law_are_ends_right_eq (x0 x1 : D) : m__law_are_ends_right [x0, x1] = fin [0] (b__law_are_ends_right [.ow x0, .ow x1, .no, .no, .no]) := rfl
theorem m__law_are_right_eq (x0 x1 : D) : m__law_are_right [x0, x1] = fin [0] (b__law_are_right [.ow x0, .ow x1, .no, .no, .no, .no, .no, .no, .no, .no, .no, .no, .no, .no, .no, .no, .no, .no, .no]) := rfl
theorem m_law_eq (x0 : D) : m_law [x0] = fin [] (b_law [.ow x0, .no, .no, .no, .no]) := rfl
theorem bt_abs : bootBuiltins "abs" = some (.builtin "abs") := by decide +kernel
theorem bt_all : bootBuiltins "all" = some (.builtin "all") := by decide +kernel
theorem bt_any : bootBuiltins "any" = some (.builtin "any") := by decide +kernel
theorem bt_bool : bootBuiltins "bool" = some (.type "bool") := by decide +kernel
theorem bt_enumerate : bootBuiltins "enumerate" = some (.type "enumerate") := by decide +kernel
theorem bt_int : bootBuiltins "int" = some (.type "int") := by decide +kernel
theorem bt_isinstance : bootBuiltins "isinstance" = some (.builtin "isinstance") := by decide +kernel
theorem bt_len : bootBuiltins "len" = some (.builtin "len") := by decide +kernel
theorem bt_list : bootBuiltins "list" = some (.type "list") := by decide +kernel
theorem bt_max : bootBuiltins "max" = some (.builtin "max") := by decide +kernel
theorem bt_min : bootBuiltins "min" = some (.builtin "min") := by decide +kernel
theorem bt_range : bootBuiltins "range" = some (.type "range") := by decide +kernel
theorem bt_repr : bootBuiltins "repr" = some (.builtin "repr") := by decide +kernel
theorem bt_sorted : bootBuiltins "sorted" = some (.builtin "sorted") := by decide +kernel
theorem bt_str : bootBuiltins "str" = some (.type "str") := by decide +kernel
theorem bt_sum : bootBuiltins "sum" = some (.builtin "sum") := by decide +kernel
theorem bt_tuple : bootBuiltins "tuple" = some (.type "tuple") := by decide +kernel
theorem bt_zip : bootBuiltins "zip" = some (.type "zip") := by decide +kernel
structure Txt (K : PySem.W.Frag) (mg : Str → Option Value) where
  C_Lines : Addr
  g_Lines : mg "Lines" = some (.ref C_Lines)
  cl_Lines : Cls K C_Lines
  na_Lines_hours : NoAttr K C_Lines "hours"
  na_Lines_idle : NoAttr K C_Lines "idle"
  na_Lines_offers : NoAttr K C_Lines "offers"
  na_Lines_places : NoAttr K C_Lines "places"
  na_Lines_taken : NoAttr K C_Lines "taken"
  a_is_integer : Addr
  d_is_integer : FuncData
  D_is_integer : DefAt K mg "is_integer" "is_integer" (top 1) ["thing"] a_is_integer d_is_integer
  a_is_within : Addr
  d_is_within : FuncData
  D_is_within : DefAt K mg "is_within" "is_within" (top 2) ["thing", "least", "most"] a_is_within d_is_within
  a_are_ascending : Addr
  d_are_ascending : FuncData
  D_are_ascending : DefAt K mg "are_ascending" "are_ascending" (top 3) ["numbers"] a_are_ascending d_are_ascending
  a_is_group_of : Addr
  d_is_group_of : FuncData
  D_is_group_of : DefAt K mg "is_group_of" "is_group_of" (top 10) ["many", "thing"] a_is_group_of d_is_group_of
  a_is_offer : Addr
  d_is_offer : FuncData
  D_is_offer : DefAt K mg "is_offer" "is_offer" (top 14) ["thing"] a_is_offer d_is_offer
  a_check_offers : Addr
  d_check_offers : FuncData
  D_check_offers : DefAt K mg "check_offers" "check_offers" (top 15) ["offers", "benches"] a_check_offers d_check_offers
  a_hours_of : Addr
  d_hours_of : FuncData
  D_hours_of : DefAt K mg "hours_of" "hours_of" (top 16) ["offers"] a_hours_of d_hours_of
  a_busiest : Addr
  d_busiest : FuncData
  D_busiest : DefAt K mg "busiest" "busiest" (top 17) ["offers", "group"] a_busiest d_busiest
  a_does_fit : Addr
  d_does_fit : FuncData
  D_does_fit : DefAt K mg "does_fit" "does_fit" (top 18) ["offers", "benches", "group"] a_does_fit d_does_fit
  a_Lines_steps : Addr
  d_Lines_steps : FuncData
  M_Lines_steps : MethAt K C_Lines "steps" "Lines.steps" (inClass (top 19) 1) ["self"] a_Lines_steps d_Lines_steps
  a_Lines_distances : Addr
  d_Lines_distances : FuncData
  M_Lines_distances : MethAt K C_Lines "distances" "Lines.distances" (inClass (top 19) 2) ["self"] a_Lines_distances d_Lines_distances
  a_Lines_lead : Addr
  d_Lines_lead : FuncData
  M_Lines_lead : MethAt K C_Lines "lead" "Lines.lead" (inClass (top 19) 3) ["self"] a_Lines_lead d_Lines_lead
  a_Lines___init__ : Addr
  d_Lines___init__ : FuncData
  M_Lines___init__ : MethAt K C_Lines "__init__" "Lines.__init__" (inClass (top 19) 0) ["self", "offers", "benches"] a_Lines___init__ d_Lines___init__
  a_prices_of : Addr
  d_prices_of : FuncData
  D_prices_of : DefAt K mg "prices_of" "prices_of" (top 20) ["lines"] a_prices_of d_prices_of
  a_dearest : Addr
  d_dearest : FuncData
  D_dearest : DefAt K mg "dearest" "dearest" (top 21) ["offers", "benches"] a_dearest d_dearest
  a_many_at : Addr
  d_many_at : FuncData
  D_many_at : DefAt K mg "many_at" "many_at" (top 23) ["offers", "group", "hour"] a_many_at d_many_at
  a_fewest_benches : Addr
  d_fewest_benches : FuncData
  D_fewest_benches : DefAt K mg "fewest_benches" "fewest_benches" (top 22) ["offers"] a_fewest_benches d_fewest_benches
  a_by_end : Addr
  d_by_end : FuncData
  D_by_end : DefAt K mg "by_end" "by_end" (top 25) ["offers"] a_by_end d_by_end
  a_apart_ones : Addr
  d_apart_ones : FuncData
  D_apart_ones : DefAt K mg "apart_ones" "apart_ones" (top 26) ["offers"] a_apart_ones d_apart_ones
  a_most_apart : Addr
  d_most_apart : FuncData
  D_most_apart : DefAt K mg "most_apart" "most_apart" (top 27) ["offers"] a_most_apart d_most_apart
  a_are_apart : Addr
  d_are_apart : FuncData
  D_are_apart : DefAt K mg "are_apart" "are_apart" (top 28) ["offers", "group"] a_are_apart d_are_apart
  a_do_meet : Addr
  d_do_meet : FuncData
  D_do_meet : DefAt K mg "do_meet" "do_meet" (top 29) ["offers", "hours"] a_do_meet d_do_meet
  a_is_most_apart : Addr
  d_is_most_apart : FuncData
  D_is_most_apart : DefAt K mg "is_most_apart" "is_most_apart" (top 30) ["offers", "thing"] a_is_most_apart d_is_most_apart
  a_least_end : Addr
  d_least_end : FuncData
  D_least_end : DefAt K mg "least_end" "least_end" (top 31) ["offers", "group"] a_least_end d_least_end
  a_taken_in_order : Addr
  d_taken_in_order : FuncData
  D_taken_in_order : DefAt K mg "taken_in_order" "taken_in_order" (top 32) ["offers"] a_taken_in_order d_taken_in_order
  a__law_tape : Addr
  d__law_tape : FuncData
  D__law_tape : DefAt K mg "_law_tape" "_law_tape" (top 34) ["script"] a__law_tape d__law_tape
  a__law_pick : Addr
  d__law_pick : FuncData
  D__law_pick : DefAt K mg "_law_pick" "_law_pick" (top 35) ["tape", "many"] a__law_pick d__law_pick
  a__law_any : Addr
  d__law_any : FuncData
  D__law_any : DefAt K mg "_law_any" "_law_any" (top 36) ["tape", "things"] a__law_any d__law_any
  a__law_mixed : Addr
  d__law_mixed : FuncData
  D__law_mixed : DefAt K mg "_law_mixed" "_law_mixed" (top 37) ["tape", "things"] a__law_mixed d__law_mixed
  a__law_offers : Addr
  d__law_offers : FuncData
  D__law_offers : DefAt K mg "_law_offers" "_law_offers" (top 38) ["tape"] a__law_offers d__law_offers
  a__law_groups : Addr
  d__law_groups : FuncData
  D__law_groups : DefAt K mg "_law_groups" "_law_groups" (top 39) ["some"] a__law_groups d__law_groups
  a__law_are_apart : Addr
  d__law_are_apart : FuncData
  D__law_are_apart : DefAt K mg "_law_are_apart" "_law_are_apart" (top 40) ["offers", "group"] a__law_are_apart d__law_are_apart
  a__law_is_number : Addr
  d__law_is_number : FuncData
  D__law_is_number : DefAt K mg "_law_is_number" "_law_is_number" (top 41) ["thing", "low", "high"] a__law_is_number d__law_is_number
  a__law_is_group : Addr
  d__law_is_group : FuncData
  D__law_is_group : DefAt K mg "_law_is_group" "_law_is_group" (top 42) ["thing", "many"] a__law_is_group d__law_is_group
  a__law_do_meet : Addr
  d__law_do_meet : FuncData
  D__law_do_meet : DefAt K mg "_law_do_meet" "_law_do_meet" (top 43) ["offers", "hours"] a__law_do_meet d__law_do_meet
  a__law_is_right : Addr
  d__law_is_right : FuncData
  D__law_is_right : DefAt K mg "_law_is_right" "_law_is_right" (top 44) ["offers", "thing"] a__law_is_right d__law_is_right
  a__law_bent : Addr
  d__law_bent : FuncData
  D__law_bent : DefAt K mg "_law_bent" "_law_bent" (top 45) ["tape", "offers", "thing"] a__law_bent d__law_bent
  a__law_least_end : Addr
  d__law_least_end : FuncData
  D__law_least_end : DefAt K mg "_law_least_end" "_law_least_end" (top 46) ["offers", "group"] a__law_least_end d__law_least_end
  a__law_in_order : Addr
  d__law_in_order : FuncData
  D__law_in_order : DefAt K mg "_law_in_order" "_law_in_order" (top 47) ["offers"] a__law_in_order d__law_in_order
  a__law_are_ends_right : Addr
  d__law_are_ends_right : FuncData
  D__law_are_ends_right : DefAt K mg "_law_are_ends_right" "_law_are_ends_right" (top 48) ["tape", "offers"] a__law_are_ends_right d__law_are_ends_right
  a__law_are_right : Addr
  d__law_are_right : FuncData
  D__law_are_right : DefAt K mg "_law_are_right" "_law_are_right" (top 49) ["tape", "offers"] a__law_are_right d__law_are_right
  a_law : Addr
  d_law : FuncData
  D_law : DefAt K mg "law" "law" (top 50) ["script"] a_law d_law
  mk_Lines : Mk K C_Lines a_Lines___init__
  m_abs : mg "abs" = none
  m_all : mg "all" = none
  m_any : mg "any" = none
  m_bool : mg "bool" = none
  m_enumerate : mg "enumerate" = none
  m_int : mg "int" = none
  m_isinstance : mg "isinstance" = none
  m_len : mg "len" = none
  m_list : mg "list" = none
  m_max : mg "max" = none
  m_min : mg "min" = none
  m_range : mg "range" = none
  m_repr : mg "repr" = none
  m_sorted : mg "sorted" = none
  m_str : mg "str" = none
  m_sum : mg "sum" = none
  m_tuple : mg "tuple" = none
  m_zip : mg "zip" = none
  t_MOST : Tok
  c_MOST : mg "MOST" = some (.int 1000000 t_MOST)
  t_MOST_BENCHES : Tok
  c_MOST_BENCHES : mg "MOST_BENCHES" = some (.int 8 t_MOST_BENCHES)
  t_MOST_OFFERS : Tok
  c_MOST_OFFERS : mg "MOST_OFFERS" = some (.int 40 t_MOST_OFFERS)
theorem sc_is_integer : FnScope ["thing"] ["thing"] (defScope (top 1)) := ⟨rfl, rfl, rfl, by decide +kernel, rfl, by decide +kernel, by decide +kernel⟩
theorem sc_is_within : FnScope ["thing", "least", "most"] ["thing", "least", "most"] (defScope (top 2)) := ⟨rfl, rfl, rfl, by decide +kernel, rfl, by decide +kernel, by decide +kernel⟩
theorem sc_are_ascending : FnScope ["numbers", "one", "other"] ["numbers"] (defScope (top 3)) := ⟨rfl, rfl, rfl, by decide +kernel, rfl, by decide +kernel, by decide +kernel⟩
theorem sc_is_group_of : FnScope ["many", "thing", "one"] ["many", "thing"] (defScope (top 10)) := ⟨rfl, rfl, rfl, by decide +kernel, rfl, by decide +kernel, by decide +kernel⟩
theorem sc_is_offer : FnScope ["thing", "part"] ["thing"] (defScope (top 14)) := ⟨rfl, rfl, rfl, by decide +kernel, rfl, by decide +kernel, by decide +kernel⟩
theorem sc_check_offers : FnScope ["offers", "benches", "one"] ["offers", "benches"] (defScope (top 15)) := ⟨rfl, rfl, rfl, by decide +kernel, rfl, by decide +kernel, by decide +kernel⟩
theorem sc_hours_of : FnScope ["offers", "found", "offer", "hour"] ["offers"] (defScope (top 16)) := ⟨rfl, rfl, rfl, by decide +kernel, rfl, by decide +kernel, by decide +kernel⟩
theorem sc_busiest : FnScope ["offers", "group", "many", "hour", "one"] ["offers", "group"] (defScope (top 17)) := ⟨rfl, rfl, rfl, by decide +kernel, rfl, by decide +kernel, by decide +kernel⟩
theorem sc_does_fit : FnScope ["offers", "benches", "group"] ["offers", "benches", "group"] (defScope (top 18)) := ⟨rfl, rfl, rfl, by decide +kernel, rfl, by decide +kernel, by decide +kernel⟩
theorem sc_Lines_steps : FnScope ["self", "found", "at", "many", "one", "offer", "begin", "end"] ["self"] (defScope (inClass (top 19) 1)) := ⟨rfl, rfl, rfl, by decide +kernel, rfl, by decide +kernel, by decide +kernel⟩
theorem sc_Lines_distances : FnScope ["self", "found", "ways", "is_less", "step", "here", "there", "price"] ["self"] (defScope (inClass (top 19) 2)) := ⟨rfl, rfl, rfl, by decide +kernel, rfl, by decide +kernel, by decide +kernel⟩
theorem sc_Lines_lead : FnScope ["self", "here", "ways", "begin", "there", "price", "kind", "number"] ["self"] (defScope (inClass (top 19) 3)) := ⟨rfl, rfl, rfl, by decide +kernel, rfl, by decide +kernel, by decide +kernel⟩
theorem sc_Lines___init__ : FnScope ["self", "offers", "benches", "bench", "at", "hour"] ["self", "offers", "benches"] (defScope (inClass (top 19) 0)) := ⟨rfl, rfl, rfl, by decide +kernel, rfl, by decide +kernel, by decide +kernel⟩
theorem sc_prices_of : FnScope ["lines", "told", "one", "other"] ["lines"] (defScope (top 20)) := ⟨rfl, rfl, rfl, by decide +kernel, rfl, by decide +kernel, by decide +kernel⟩
theorem sc_dearest : FnScope ["offers", "benches", "lines", "group", "one"] ["offers", "benches"] (defScope (top 21)) := ⟨rfl, rfl, rfl, by decide +kernel, rfl, by decide +kernel, by decide +kernel⟩
theorem sc_many_at : FnScope ["offers", "group", "hour", "one"] ["offers", "group", "hour"] (defScope (top 23)) := ⟨rfl, rfl, rfl, by decide +kernel, rfl, by decide +kernel, by decide +kernel⟩
theorem sc_fewest_benches : FnScope ["offers", "ends", "found", "begin", "end", "one", "free", "group", "hours", "offer", "bench", "last", "hour"] ["offers"] (defScope (top 22)) := ⟨rfl, rfl, rfl, by decide +kernel, rfl, by decide +kernel, by decide +kernel⟩
theorem sc_by_end : FnScope ["offers", "end", "one", "offer"] ["offers"] (defScope (top 25)) := ⟨rfl, rfl, rfl, by decide +kernel, rfl, by decide +kernel, by decide +kernel⟩
theorem sc_apart_ones : FnScope ["offers", "found", "last", "one"] ["offers"] (defScope (top 26)) := ⟨rfl, rfl, rfl, by decide +kernel, rfl, by decide +kernel, by decide +kernel⟩
theorem sc_most_apart : FnScope ["offers", "found", "one"] ["offers"] (defScope (top 27)) := ⟨rfl, rfl, rfl, by decide +kernel, rfl, by decide +kernel, by decide +kernel⟩
theorem sc_are_apart : FnScope ["offers", "group", "told", "one", "other"] ["offers", "group"] (defScope (top 28)) := ⟨rfl, rfl, rfl, by decide +kernel, rfl, by decide +kernel, by decide +kernel⟩
theorem sc_do_meet : FnScope ["offers", "hours", "begin", "end", "worth", "hour"] ["offers", "hours"] (defScope (top 29)) := ⟨rfl, rfl, rfl, by decide +kernel, rfl, by decide +kernel, by decide +kernel⟩
theorem sc_is_most_apart : FnScope ["offers", "thing", "hour"] ["offers", "thing"] (defScope (top 30)) := ⟨rfl, rfl, rfl, by decide +kernel, rfl, by decide +kernel, by decide +kernel⟩
theorem sc_least_end : FnScope ["offers", "group", "some", "found", "one"] ["offers", "group"] (defScope (top 31)) := ⟨rfl, rfl, rfl, by decide +kernel, rfl, by decide +kernel, by decide +kernel⟩
theorem sc_taken_in_order : FnScope ["offers", "found", "one"] ["offers"] (defScope (top 32)) := ⟨rfl, rfl, rfl, by decide +kernel, rfl, by decide +kernel, by decide +kernel⟩
theorem sc__law_tape : FnScope ["script", "cells", "cell"] ["script"] (defScope (top 34)) := ⟨rfl, rfl, rfl, by decide +kernel, rfl, by decide +kernel, by decide +kernel⟩
theorem sc__law_pick : FnScope ["tape", "many", "cell", "digit", "number"] ["tape", "many"] (defScope (top 35)) := ⟨rfl, rfl, rfl, by decide +kernel, rfl, by decide +kernel, by decide +kernel⟩
theorem sc__law_any : FnScope ["tape", "things"] ["tape", "things"] (defScope (top 36)) := ⟨rfl, rfl, rfl, by decide +kernel, rfl, by decide +kernel, by decide +kernel⟩
theorem sc__law_mixed : FnScope ["tape", "things", "left", "found"] ["tape", "things"] (defScope (top 37)) := ⟨rfl, rfl, rfl, by decide +kernel, rfl, by decide +kernel, by decide +kernel⟩
theorem sc__law_offers : FnScope ["tape", "wide", "found", "turn", "begin"] ["tape"] (defScope (top 38)) := ⟨rfl, rfl, rfl, by decide +kernel, rfl, by decide +kernel, by decide +kernel⟩
theorem sc__law_groups : FnScope ["some", "found", "one", "group"] ["some"] (defScope (top 39)) := ⟨rfl, rfl, rfl, by decide +kernel, rfl, by decide +kernel, by decide +kernel⟩
theorem sc__law_are_apart : FnScope ["offers", "group", "at", "one", "other"] ["offers", "group"] (defScope (top 40)) := ⟨rfl, rfl, rfl, by decide +kernel, rfl, by decide +kernel, by decide +kernel⟩
theorem sc__law_is_number : FnScope ["thing", "low", "high"] ["thing", "low", "high"] (defScope (top 41)) := ⟨rfl, rfl, rfl, by decide +kernel, rfl, by decide +kernel, by decide +kernel⟩
theorem sc__law_is_group : FnScope ["thing", "many", "one", "other"] ["thing", "many"] (defScope (top 42)) := ⟨rfl, rfl, rfl, by decide +kernel, rfl, by decide +kernel, by decide +kernel⟩
theorem sc__law_do_meet : FnScope ["offers", "hours", "begin", "end", "worth", "hour"] ["offers", "hours"] (defScope (top 43)) := ⟨rfl, rfl, rfl, by decide +kernel, rfl, by decide +kernel, by decide +kernel⟩
theorem sc__law_is_right : FnScope ["offers", "thing", "many", "group", "hours", "hour", "one", "other"] ["offers", "thing"] (defScope (top 44)) := ⟨rfl, rfl, rfl, by decide +kernel, rfl, by decide +kernel, by decide +kernel⟩
theorem sc__law_bent : FnScope ["tape", "offers", "thing", "many", "group", "hours", "at", "odd", "placed", "some", "at_one", "one"] ["tape", "offers", "thing"] (defScope (top 45)) := ⟨rfl, rfl, rfl, by decide +kernel, rfl, by decide +kernel, by decide +kernel⟩
theorem sc__law_least_end : FnScope ["offers", "group", "some", "most", "one", "number"] ["offers", "group"] (defScope (top 46)) := ⟨rfl, rfl, rfl, by decide +kernel, rfl, by decide +kernel, by decide +kernel⟩
theorem sc__law_in_order : FnScope ["offers", "found", "one"] ["offers"] (defScope (top 47)) := ⟨rfl, rfl, rfl, by decide +kernel, rfl, by decide +kernel, by decide +kernel⟩
theorem sc__law_are_ends_right : FnScope ["tape", "offers", "turn", "group", "none"] ["tape", "offers"] (defScope (top 48)) := ⟨rfl, rfl, rfl, by decide +kernel, rfl, by decide +kernel, by decide +kernel⟩
theorem sc__law_are_right : FnScope ["tape", "offers", "told", "groups", "most", "turn", "thing", "shown", "flag", "taken", "alike", "benches", "hours", "later", "mixed", "group", "begin", "end", "worth"] ["tape", "offers"] (defScope (top 49)) := ⟨rfl, rfl, rfl, by decide +kernel, rfl, by decide +kernel, by decide +kernel⟩
theorem sc_law : FnScope ["script", "tape", "offers", "told", "turn"] ["script"] (defScope (top 50)) := ⟨rfl, rfl, rfl, by decide +kernel, rfl, by decide +kernel, by decide +kernel⟩
section
variable {P : Program} {w : World} {K : PySem.W.Frag} {mg : Str → Option Value} {base : Heap}
theorem ok_is_integer (T : Txt K mg) : FnG P w K mg base CX0 1 T.a_is_integer T.d_is_integer ["thing"] (spFn ⟨K, mg⟩ 1 [] m_is_integer) := by
  refine fn_ok (as := [0]) T.D_is_integer.F sc_is_integer rfl rfl (by decide) fun cdv A outer s H E hr => ?_
  exact s_cons (s_ret (v_of_f (f_and (b_of_f (f_bi (ca_isi) (by rfl) T.m_isinstance bt_isinstance (bs_cons (nb 0) (bs_cons (b_of_f (f_tyName (by rfl) T.m_int bt_int)) (bs_nil))))) (b_of_f (f_one (f_not (b_of_f (f_bi (ca_isi) (by rfl) T.m_isinstance bt_isinstance (bs_cons (nb 0) (bs_cons (b_of_f (f_tyName (by rfl) T.m_bool bt_bool)) (bs_nil))))))))))) (s_nil)
theorem ok_is_within (T : Txt K mg) : FnG P w K mg base CX0 2 T.a_is_within T.d_is_within ["thing", "least", "most"] (spFn ⟨K, mg⟩ 3 [] m_is_within) := by
  refine fn_ok (as := [0, 1, 2]) T.D_is_within.F sc_is_within rfl rfl (by decide) fun cdv A outer s H E hr => ?_
  exact s_cons (s_ret (v_of_f (f_and (b_of_f (cf T.D_is_integer (ok_is_integer T) hr (bs_cons (nb 0) (bs_nil)) (esCons_len (esNil_len)))) (b_of_f (f_one (f_chain (nb 1) (.more ok_le (nb 0) (.one ok_le (nb 2))))))))) (s_nil)
theorem ok_are_ascending (T : Txt K mg) : FnG P w K mg base CX0 1 T.a_are_ascending T.d_are_ascending ["numbers"] (spFn ⟨K, mg⟩ 1 [] m_are_ascending) := by
  refine fn_ok (as := [0, 1, 2]) T.D_are_ascending.F sc_are_ascending rfl rfl (by decide) fun cdv A outer s H E hr => ?_
  exact s_cons (s_ret (v_of_f (f_bi (ca_all (by rfl)) (by rfl) T.m_all bt_all (bs_cons (b_of_f (f_lc (by rfl) sc_are_ascending.nd (i_zip (by rfl) T.m_zip (bs_cons (nb 0) (bs_cons (b_of_f (f_sl (nb 0) (p_some (b_of_f (f_int))) (p_none))) (bs_nil)))) (blkOk_by (own := [(("one" : Str), 1), (("other" : Str), 2)]) (by kernel_rfl)) (by rfl) (fun s_ H_ C_ cl_ fp_ => g_tup (by rfl) (gs_cons (tgb 1 sc_are_ascending.nd) (gs_cons (tgb 2 sc_are_ascending.nd) (gs_nil))) (bdCons_len (bdCons_len (bdNil_len)))) (fun s_ H_ C_ cl_ fp_ => ts_nil) (fun s_ H_ C_ cl_ fp_ => f_cmp ok_lt (nb 1) (nb 2) (by rfl)))) (bs_nil))))) (s_nil)
theorem ok_is_group_of (T : Txt K mg) : FnG P w K mg base CX0 3 T.a_is_group_of T.d_is_group_of ["many", "thing"] (spFn ⟨K, mg⟩ 2 [] m_is_group_of) := by
  refine fn_ok (as := [0, 1, 2]) T.D_is_group_of.F sc_is_group_of rfl rfl (by decide) fun cdv A outer s H E hr => ?_
  exact s_cons (s_if (t_of_w (w_or (t_not (t_val (b_of_f (f_bi (ca_isi) (by rfl) T.m_isinstance bt_isinstance (bs_cons (nb 1) (bs_cons (b_of_f (f_tyName (by rfl) T.m_tuple bt_tuple)) (bs_nil))))))) (w_or1 (t_not (t_val (b_of_f (f_bi (ca_all (by rfl)) (by rfl) T.m_all bt_all (bs_cons (b_of_f (f_lc (by rfl) sc_is_group_of.nd (i_list (nb 1)) (blkOk_by (own := [(("one" : Str), 2)]) (by kernel_rfl)) (by rfl) (fun s_ H_ C_ cl_ fp_ => tgb 2 sc_is_group_of.nd) (fun s_ H_ C_ cl_ fp_ => ts_nil) (fun s_ H_ C_ cl_ fp_ => cf T.D_is_within (ok_is_within T) hr (bs_cons (nb 2) (bs_cons (b_of_f (f_int)) (bs_cons (b_of_f (f_op ok_sub (nb 0) (b_of_f (f_int)))) (bs_nil)))) (esCons_len (esCons_len (esCons_len (esNil_len))))))) (bs_nil))))))))) (s_cons (s_ret (v_of_f (f_bl))) (s_nil)) (s_nil)) (s_cons (s_ret (v_of_f (cf T.D_are_ascending (ok_are_ascending T) hr (bs_cons (nb 1) (bs_nil)) (esCons_len (esNil_len))))) (s_nil))
theorem ok_is_offer (T : Txt K mg) : FnG P w K mg base CX0 2 T.a_is_offer T.d_is_offer ["thing"] (spFn ⟨K, mg⟩ 1 [] m_is_offer) := by
  refine fn_ok (as := [0, 1]) T.D_is_offer.F sc_is_offer rfl rfl (by decide) fun cdv A outer s H E hr => ?_
  exact s_cons (s_if (t_of_w (w_or (t_not (t_val (b_of_f (f_bi (ca_isi) (by rfl) T.m_isinstance bt_isinstance (bs_cons (nb 0) (bs_cons (b_of_f (f_tyName (by rfl) T.m_tuple bt_tuple)) (bs_nil))))))) (w_or (t_cmp (ok_ne hr.u64) (b_of_f (f_bi (ca_len) (by rfl) T.m_len bt_len (bs_cons (nb 0) (bs_nil)))) (b_of_f (f_int)) (by rfl)) (w_or1 (t_not (t_val (b_of_f (f_bi (ca_all (by rfl)) (by rfl) T.m_all bt_all (bs_cons (b_of_f (f_lc (by rfl) sc_is_offer.nd (i_list (nb 0)) (blkOk_by (own := [(("part" : Str), 1)]) (by kernel_rfl)) (by rfl) (fun s_ H_ C_ cl_ fp_ => tgb 1 sc_is_offer.nd) (fun s_ H_ C_ cl_ fp_ => ts_nil) (fun s_ H_ C_ cl_ fp_ => cf T.D_is_integer (ok_is_integer T) hr (bs_cons (nb 1) (bs_nil)) (esCons_len (esNil_len))))) (bs_nil)))))))))) (s_cons (s_ret (v_of_f (f_bl))) (s_nil)) (s_nil)) (s_cons (s_ret (v_of_f (f_and (b_of_f (f_chain (b_of_f (f_int)) (.more ok_le (b_ix hr.u64 (nb 0) (b_of_f (f_int))) (.more ok_lt (b_ix hr.u64 (nb 0) (b_of_f (f_int))) (.one ok_le (b_of_f (f_gint (by rfl) T.c_MOST))))))) (b_of_f (f_one (f_chain (b_of_f (f_int)) (.more ok_le (b_ix hr.u64 (nb 0) (b_of_f (f_int))) (.one ok_le (b_of_f (f_gint (by rfl) T.c_MOST)))))))))) (s_nil))
theorem ok_check_offers (T : Txt K mg) : FnG P w K mg base CX0 3 T.a_check_offers T.d_check_offers ["offers", "benches"] (spFn ⟨K, mg⟩ 2 [] m_check_offers) := by
  refine fn_ok (as := [0, 1, 2]) T.D_check_offers.F sc_check_offers rfl rfl (by decide) fun cdv A outer s H E hr => ?_
  exact s_cons (s_if (t_of_w (w_or (t_not (t_val (b_of_f (f_bi (ca_isi) (by rfl) T.m_isinstance bt_isinstance (bs_cons (nb 0) (bs_cons (b_of_f (f_tyName (by rfl) T.m_tuple bt_tuple)) (bs_nil))))))) (w_or (t_cmp ok_gt (b_of_f (f_bi (ca_len) (by rfl) T.m_len bt_len (bs_cons (nb 0) (bs_nil)))) (b_of_f (f_gint (by rfl) T.c_MOST_OFFERS)) (by rfl)) (w_or1 (t_not (t_val (b_of_f (f_bi (ca_all (by rfl)) (by rfl) T.m_all bt_all (bs_cons (b_of_f (f_lc (by rfl) sc_check_offers.nd (i_list (nb 0)) (blkOk_by (own := [(("one" : Str), 2)]) (by kernel_rfl)) (by rfl) (fun s_ H_ C_ cl_ fp_ => tgb 2 sc_check_offers.nd) (fun s_ H_ C_ cl_ fp_ => ts_nil) (fun s_ H_ C_ cl_ fp_ => cf T.D_is_offer (ok_is_offer T) hr (bs_cons (nb 2) (bs_nil)) (esCons_len (esNil_len))))) (bs_nil)))))))))) (s_cons (s_dead) (s_nil)) (s_nil)) (s_cons (s_if (t_not (t_val (b_of_f (cf T.D_is_within (ok_is_within T) hr (bs_cons (nb 1) (bs_cons (b_of_f (f_int)) (bs_cons (b_of_f (f_gint (by rfl) T.c_MOST_BENCHES)) (bs_nil)))) (esCons_len (esCons_len (esCons_len (esNil_len)))))))) (s_cons (s_dead) (s_nil)) (s_nil)) (s_nil))
theorem ok_hours_of (T : Txt K mg) : FnG P w K mg base CX0 1 T.a_hours_of T.d_hours_of ["offers"] (spFn ⟨K, mg⟩ 1 [] m_hours_of) := by
  refine fn_ok (as := [0, 1, 2, 3]) T.D_hours_of.F sc_hours_of rfl rfl (by decide) fun cdv A outer s H E hr => ?_
  exact s_cons (st1 1 sc_hours_of.nd (v_of_f (f_emp))) (s_cons (s_for PassesOwn.never (by rfl) (iv_of_f (if_list (nf 0))) (tgo 2 sc_hours_of.nd) (s_cons (s_expr (v_bm (i := 1) PySem.F.plainAttrs_dict PySem.F.slot_dict_update PySem.F.type_dict_update mu_updD (by rfl) (by first | exact Or.inl rfl | exact Or.inr (Or.inl rfl) | exact Or.inr (Or.inr rfl)) (vs_cons (v_of_f (f_dc (by rfl) sc_hours_of.nd (i_list (b_of_f (f_sl (nb 2) (p_none) (p_some (b_of_f (f_int)))))) (blkOk_by (own := [(("hour" : Str), 3)]) (by kernel_rfl)) (by rfl) (fun s_ H_ C_ cl_ fp_ => tgb 3 sc_hours_of.nd) (fun s_ H_ C_ cl_ fp_ => ts_nil) (fun s_ H_ C_ cl_ fp_ => nb 3) (fun s_ H_ C_ cl_ fp_ => b_of_f (f_bl)))) (vs_nil)))) (s_nil))) (s_cons (s_ret (v_of_f (f_bi (ca_sorted (by rfl) hr.u64) (by rfl) T.m_sorted bt_sorted (bs_cons (nb 1) (bs_nil))))) (s_nil)))
theorem ok_busiest (T : Txt K mg) : FnG P w K mg base CX0 2 T.a_busiest T.d_busiest ["offers", "group"] (spFn ⟨K, mg⟩ 2 [] m_busiest) := by
  refine fn_ok (as := [0, 1, 2, 3, 4]) T.D_busiest.F sc_busiest rfl rfl (by decide) fun cdv A outer s H E hr => ?_
  exact s_cons (st1 2 sc_busiest.nd (v_of_f (f_lst (fs_cons (f_int) (fs_nil)) (esCons_len (esNil_len))))) (s_cons (s_for PassesOwn.never (by rfl) (iv_of_f (if_list (cf T.D_hours_of (ok_hours_of T) hr (bs_cons (nb 0) (bs_nil)) (esCons_len (esNil_len))))) (tgo 3 sc_busiest.nd) (s_cons (s_expr (v_bm (i := 2) PySem.F.plainAttrs_list PySem.F.slot_list_append PySem.F.type_list_append mu_append (by rfl) (by first | exact Or.inl rfl | exact Or.inr (Or.inl rfl) | exact Or.inr (Or.inr rfl)) (vs_cons (v_of_f (f_bi (ca_len) (by rfl) T.m_len bt_len (bs_cons (b_of_f (f_lc (by rfl) sc_busiest.nd (i_list (nb 1)) (blkOk_by (own := [(("one" : Str), 4)]) (by kernel_rfl)) (by rfl) (fun s_ H_ C_ cl_ fp_ => tgb 4 sc_busiest.nd) (fun s_ H_ C_ cl_ fp_ => ts_one (t_chain (b_ix hr.u64 (b_ix hr.u64 (nb 0) (nb 4)) (b_of_f (f_int))) (.more ok_le (nb 3) (.one ok_lt (b_ix hr.u64 (b_ix hr.u64 (nb 0) (nb 4)) (b_of_f (f_int))))))) (fun s_ H_ C_ cl_ fp_ => nf 4))) (bs_nil)))) (vs_nil)))) (s_nil))) (s_cons (s_ret (v_of_f (f_bi (ca_max (by rfl)) (by rfl) T.m_max bt_max (bs_cons (nb 2) (bs_nil))))) (s_nil)))
theorem ok_does_fit (T : Txt K mg) : FnG P w K mg base CX0 4 T.a_does_fit T.d_does_fit ["offers", "benches", "group"] (spFn ⟨K, mg⟩ 3 [] m_does_fit) := by
  refine fn_ok (as := [0, 1, 2]) T.D_does_fit.F sc_does_fit rfl rfl (by decide) fun cdv A outer s H E hr => ?_
  exact s_cons (s_expr (v_of_f (cf T.D_check_offers (ok_check_offers T) hr (bs_cons (nb 0) (bs_cons (nb 1) (bs_nil))) (esCons_len (esCons_len (esNil_len)))))) (s_cons (s_ret (v_of_f (f_and (b_of_f (cf T.D_is_group_of (ok_is_group_of T) hr (bs_cons (b_of_f (f_bi (ca_len) (by rfl) T.m_len bt_len (bs_cons (nb 0) (bs_nil)))) (bs_cons (nb 2) (bs_nil))) (esCons_len (esCons_len (esNil_len))))) (b_of_f (f_one (f_cmp ok_le (b_of_f (cf T.D_busiest (ok_busiest T) hr (bs_cons (nb 0) (bs_cons (nb 2) (bs_nil))) (esCons_len (esCons_len (esNil_len))))) (nb 1) (by rfl))))))) (s_nil))
theorem ok_Lines_steps (T : Txt K mg) : FnG P w K mg base CX0 1 T.a_Lines_steps T.d_Lines_steps ["self"] (spFn ⟨K, mg⟩ 1 [] m_Lines_steps) := by
  refine fn_ok (as := [0, 1, 2, 3, 4, 5, 6, 7]) T.M_Lines_steps.F sc_Lines_steps rfl rfl (by decide) fun cdv A outer s H E hr => ?_
  exact s_cons (st1 1 sc_Lines_steps.nd (v_of_f (f_lst (fs_nil) (esNil_len)))) (s_cons (s_for PassesOwn.never (by rfl) (iv_of_f (if_enum (by rfl) T.m_enumerate (fs_cons (f_of_b (b_fld T.g_Lines T.cl_Lines T.na_Lines_idle (nb 0))) (fs_nil)))) (o_tup (by rfl) (os_cons (tgo 2 sc_Lines_steps.nd) (os_cons (tgo 3 sc_Lines_steps.nd) (os_nil))) (bdCons_len (bdCons_len (bdNil_len)))) (s_cons (s_expr (v_bm (i := 1) PySem.F.plainAttrs_list PySem.F.slot_list_append PySem.F.type_list_append mu_append (by rfl) (by first | exact Or.inl rfl | exact Or.inr (Or.inl rfl) | exact Or.inr (Or.inr rfl)) (vs_cons (v_of_f (f_tup (fs_cons (nf 2) (fs_cons (f_op ok_add (nb 2) (b_of_f (f_int))) (fs_cons (f_int) (fs_cons (f_str) (fs_cons (nf 2) (fs_nil)))))) (esCons_len (esCons_len (esCons_len (esCons_len (esCons_len (esNil_len)))))))) (vs_nil)))) (s_cons (s_if (t_cmp ok_gt (nb 3) (b_of_f (f_int)) (by rfl)) (s_cons (s_expr (v_bm (i := 1) PySem.F.plainAttrs_list PySem.F.slot_list_append PySem.F.type_list_append mu_append (by rfl) (by first | exact Or.inl rfl | exact Or.inr (Or.inl rfl) | exact Or.inr (Or.inr rfl)) (vs_cons (v_of_f (f_tup (fs_cons (f_op ok_add (nb 2) (b_of_f (f_int))) (fs_cons (nf 2) (fs_cons (f_int) (fs_cons (f_str) (fs_cons (nf 2) (fs_nil)))))) (esCons_len (esCons_len (esCons_len (esCons_len (esCons_len (esNil_len)))))))) (vs_nil)))) (s_nil)) (s_nil)) (s_nil)))) (s_cons (s_for PassesOwn.never (by rfl) (iv_of_f (if_enum (by rfl) T.m_enumerate (fs_cons (f_of_b (b_fld T.g_Lines T.cl_Lines T.na_Lines_offers (nb 0))) (fs_nil)))) (o_tup (by rfl) (os_cons (tgo 4 sc_Lines_steps.nd) (os_cons (tgo 5 sc_Lines_steps.nd) (os_nil))) (bdCons_len (bdCons_len (bdNil_len)))) (s_cons (s_par (by rfl) sc_Lines_steps.nd (by rfl) (by rfl) (by decide) (by decide) (by decide) (by rfl) (by rfl) (vs_cons (v_of_f (f_ix (ok_ixF hr.u64) (b_fld T.g_Lines T.cl_Lines T.na_Lines_places (nb 0)) (b_ix hr.u64 (nb 5) (b_of_f (f_int))))) (vs_cons (v_of_f (f_ix (ok_ixF hr.u64) (b_fld T.g_Lines T.cl_Lines T.na_Lines_places (nb 0)) (b_ix hr.u64 (nb 5) (b_of_f (f_int))))) (vs_nil))) (by rfl)) (s_cons (s_if (t_cmp (ok_in hr.u65) (nb 4) (b_fld T.g_Lines T.cl_Lines T.na_Lines_taken (nb 0)) (by rfl)) (s_cons (s_expr (v_bm (i := 1) PySem.F.plainAttrs_list PySem.F.slot_list_append PySem.F.type_list_append mu_append (by rfl) (by first | exact Or.inl rfl | exact Or.inr (Or.inl rfl) | exact Or.inr (Or.inr rfl)) (vs_cons (v_of_f (f_tup (fs_cons (nf 7) (fs_cons (nf 6) (fs_cons (f_ix (ok_ixF hr.u64) (nb 5) (b_of_f (f_int))) (fs_cons (f_str) (fs_cons (nf 4) (fs_nil)))))) (esCons_len (esCons_len (esCons_len (esCons_len (esCons_len (esNil_len)))))))) (vs_nil)))) (s_nil)) (s_cons (s_expr (v_bm (i := 1) PySem.F.plainAttrs_list PySem.F.slot_list_append PySem.F.type_list_append mu_append (by rfl) (by first | exact Or.inl rfl | exact Or.inr (Or.inl rfl) | exact Or.inr (Or.inr rfl)) (vs_cons (v_of_f (f_tup (fs_cons (nf 6) (fs_cons (nf 7) (fs_cons (f_un ok_neg (b_ix hr.u64 (nb 5) (b_of_f (f_int)))) (fs_cons (f_str) (fs_cons (nf 4) (fs_nil)))))) (esCons_len (esCons_len (esCons_len (esCons_len (esCons_len (esNil_len)))))))) (vs_nil)))) (s_nil))) (s_nil)))) (s_cons (s_ret (nm 1)) (s_nil))))
theorem ok_Lines_distances (T : Txt K mg) : FnG P w K mg base CX0 2 T.a_Lines_distances T.d_Lines_distances ["self"] (spFn ⟨K, mg⟩ 1 [] m_Lines_distances) := by
  refine fn_ok (as := [0, 1, 2, 3, 4, 5, 6, 7]) T.M_Lines_distances.F sc_Lines_distances rfl rfl (by decide) fun cdv A outer s H E hr => ?_
  have hr' := hr.mono (j := 1) (by decide)
  exact s_cons (s_par (by rfl) sc_Lines_distances.nd (by rfl) (by rfl) (by decide) (by decide) (by decide) (by rfl) (by rfl) (vs_cons (v_of_f (f_op ok_mul (b_of_f (f_lst (fs_cons (f_non) (fs_nil)) (esCons_len (esNil_len)))) (b_of_f (f_bi (ca_len) (by rfl) T.m_len bt_len (bs_cons (b_fld T.g_Lines T.cl_Lines T.na_Lines_hours (nb 0)) (bs_nil)))))) (vs_cons (v_of_f (f_op ok_mul (b_of_f (f_lst (fs_cons (f_non) (fs_nil)) (esCons_len (esNil_len)))) (b_of_f (f_bi (ca_len) (by rfl) T.m_len bt_len (bs_cons (b_fld T.g_Lines T.cl_Lines T.na_Lines_hours (nb 0)) (bs_nil)))))) (vs_nil))) (by rfl)) (s_cons (s_asg (v_of_f (f_int)) (y_sub st_lst (np 1) (b_of_f (f_int)))) (s_cons (st1 3 sc_Lines_distances.nd (v_of_f (f_bl))) (s_cons (s_while PassesOwn.never (tv_of_b (t_val (nb 3))) (s_cons (st1 3 sc_Lines_distances.nd (v_of_f (f_bl))) (s_cons (s_for PassesOwn.never (by rfl) (iv_of_f (if_list (f_meth0 ((ok_Lines_steps T).mono (by decide)) hr' T.g_Lines T.cl_Lines T.M_Lines_steps.m T.M_Lines_steps.b (nb 0)))) (tgo 4 sc_Lines_distances.nd) (s_cons (s_asg (v_of_f (f_sl (nb 4) (p_none) (p_some (b_of_f (f_int))))) (y_tup (by rfl) (ys_cons (tgv 5 sc_Lines_distances.nd) (ys_cons (tgv 6 sc_Lines_distances.nd) (ys_cons (tgv 7 sc_Lines_distances.nd) (ys_nil)))) (bdCons_len (bdCons_len (bdCons_len (bdNil_len)))))) (s_cons (s_if (t_of_w (w_and (t_cmp ok_notN (b_ix hr.u64 (nb 1) (nb 5)) (b_of_f (f_non)) (by rfl)) (w_and1 (t_of_w (w_or (t_cmp ok_isN (b_ix hr.u64 (nb 1) (nb 6)) (b_of_f (f_non)) (by rfl)) (w_or1 (t_cmp ok_lt (b_of_f (f_op ok_add (b_ix hr.u64 (nb 1) (nb 5)) (nb 7))) (b_ix hr.u64 (nb 1) (nb 6)) (by rfl)))))))) (s_cons (s_asg (v_of_f (f_tup (fs_cons (f_op ok_add (b_ix hr.u64 (nb 1) (nb 5)) (nb 7)) (fs_cons (nf 4) (fs_nil))) (esCons_len (esCons_len (esNil_len))))) (y_tup (by rfl) (ys_cons (y_sub st_lst (np 1) (nb 6)) (ys_cons (y_sub st_lst (np 2) (nb 6)) (ys_nil))) (bdCons_len (bdCons_len (bdNil_len))))) (s_cons (st1 3 sc_Lines_distances.nd (v_of_f (f_bl))) (s_nil))) (s_nil)) (s_nil)))) (s_nil)))) (s_cons (s_ret (v_tup (vs_cons (nm 1) (vs_cons (nm 2) (vs_nil))) (vsCons_len (vsCons_len (vsNil_len))))) (s_nil)))))
theorem ok_Lines_lead (T : Txt K mg) : FnG P w K mg base CX0 3 T.a_Lines_lead T.d_Lines_lead ["self"] (spFn ⟨K, mg⟩ 1 [0] m_Lines_lead) := by
  refine fn_ok (as := [1, 2, 3, 4, 5, 6, 7]) T.M_Lines_lead.F sc_Lines_lead rfl rfl (by decide) fun cdv A outer s H E hr => ?_
  have hr' := hr.mono (j := 2) (by decide)
  exact s_cons (s_if (t_cmp (ok_eq hr.u64) (b_of_f (f_bi (ca_len) (by rfl) T.m_len bt_len (bs_cons (b_fld T.g_Lines T.cl_Lines T.na_Lines_hours (nb 0)) (bs_nil)))) (b_of_f (f_int)) (by rfl)) (s_cons (s_retN) (s_nil)) (s_nil)) (s_cons (s_par (by rfl) sc_Lines_lead.nd (by rfl) (by rfl) (by decide) (by decide) (by decide) (by rfl) (by rfl) (vs_cons (v_of_f (f_op ok_sub (b_of_f (f_bi (ca_len) (by rfl) T.m_len bt_len (bs_cons (b_fld T.g_Lines T.cl_Lines T.na_Lines_hours (nb 0)) (bs_nil)))) (b_of_f (f_int)))) (vs_cons (v_of_f (f_ixN hr.u64 (f_meth0 ((ok_Lines_distances T).mono (by decide)) hr' T.g_Lines T.cl_Lines T.M_Lines_distances.m T.M_Lines_distances.b (nb 0)) (b_of_f (f_int)))) (vs_nil))) (by rfl)) (s_cons (s_while PassesOwn.never (tv_of_b (t_cmp (ok_ne hr.u64) (nb 1) (b_of_f (f_int)) (by rfl))) (s_cons (s_asg (v_of_f (f_ix (ok_ixF hr.u64) (nb 2) (nb 1))) (y_tup (by rfl) (ys_cons (tgv 3 sc_Lines_lead.nd) (ys_cons (tgv 4 sc_Lines_lead.nd) (ys_cons (tgv 5 sc_Lines_lead.nd) (ys_cons (tgv 6 sc_Lines_lead.nd) (ys_cons (tgv 7 sc_Lines_lead.nd) (ys_nil)))))) (bdCons_len (bdCons_len (bdCons_len (bdCons_len (bdCons_len (bdNil_len)))))))) (s_cons (s_if (t_cmp (ok_eq hr.u64) (nb 6) (b_of_f (f_str)) (by rfl)) (s_cons (s_augS hr.u64 st_lst (pl_fld T.g_Lines T.cl_Lines T.na_Lines_idle (np 0)) (nb 7) (b_of_f (f_int)) ip_add) (s_nil)) (s_cons (s_if (t_cmp (ok_eq hr.u64) (nb 6) (b_of_f (f_str)) (by rfl)) (s_cons (s_augS hr.u64 st_lst (pl_fld T.g_Lines T.cl_Lines T.na_Lines_idle (np 0)) (nb 7) (b_of_f (f_int)) ip_sub) (s_nil)) (s_cons (s_if (t_cmp (ok_eq hr.u64) (nb 6) (b_of_f (f_str)) (by rfl)) (s_cons (s_asg (v_of_f (f_bl)) (y_sub (st_dk hr.u64) (pl_fld T.g_Lines T.cl_Lines T.na_Lines_taken (np 0)) (nb 7))) (s_nil)) (s_cons (s_expr (v_bmP PySem.F.plainAttrs_dict PySem.F.slot_dict_pop PySem.F.type_dict_pop mu_popD (pl_fld T.g_Lines T.cl_Lines T.na_Lines_taken (np 0)) (fs_cons (nf 7) (fs_nil)))) (s_nil))) (s_nil))) (s_nil))) (s_cons (st1 1 sc_Lines_lead.nd (v_of_f (nf 3))) (s_nil))))) (s_nil)))
theorem ok_Lines___init__ (T : Txt K mg) : FnG P w K mg base CX0 4 T.a_Lines___init__ T.d_Lines___init__ ["self", "offers", "benches"] (spFn ⟨K, mg⟩ 3 [0] m_Lines___init__) := by
  refine fn_ok (as := [1, 2, 3, 4, 5]) T.M_Lines___init__.F sc_Lines___init__ rfl rfl (by decide) fun cdv A outer s H E hr => ?_
  have hr' := hr.mono (j := 3) (by decide)
  exact s_cons (s_fld T.g_Lines T.cl_Lines T.na_Lines_offers (np 0) (v_of_f (nf 1))) (s_cons (s_fld T.g_Lines T.cl_Lines T.na_Lines_hours (np 0) (v_of_f (cf T.D_hours_of (ok_hours_of T) hr (bs_cons (nb 1) (bs_nil)) (esCons_len (esNil_len))))) (s_cons (s_fld T.g_Lines T.cl_Lines T.na_Lines_places (np 0) (v_of_f (f_dc (by rfl) sc_Lines___init__.nd (i_enum (by rfl) T.m_enumerate (bs_cons (b_fld T.g_Lines T.cl_Lines T.na_Lines_hours (nb 0)) (bs_nil))) (blkOk_by (own := [(("at" : Str), 4), (("hour" : Str), 5)]) (by kernel_rfl)) (by rfl) (fun s_ H_ C_ cl_ fp_ => g_tup (by rfl) (gs_cons (tgb 4 sc_Lines___init__.nd) (gs_cons (tgb 5 sc_Lines___init__.nd) (gs_nil))) (bdCons_len (bdCons_len (bdNil_len)))) (fun s_ H_ C_ cl_ fp_ => ts_nil) (fun s_ H_ C_ cl_ fp_ => nb 5) (fun s_ H_ C_ cl_ fp_ => nb 4)))) (s_cons (s_fld T.g_Lines T.cl_Lines T.na_Lines_idle (np 0) (v_of_f (f_op ok_mul (b_of_f (f_lst (fs_cons (f_int) (fs_nil)) (esCons_len (esNil_len)))) (b_of_f (f_bi (ca_max (by rfl)) (by rfl) T.m_max bt_max (bs_cons (b_of_f (f_int)) (bs_cons (b_of_f (f_op ok_sub (b_of_f (f_bi (ca_len) (by rfl) T.m_len bt_len (bs_cons (b_fld T.g_Lines T.cl_Lines T.na_Lines_hours (nb 0)) (bs_nil)))) (b_of_f (f_int)))) (bs_nil)))))))) (s_cons (s_fld T.g_Lines T.cl_Lines T.na_Lines_taken (np 0) (v_of_f (f_emp))) (s_cons (s_for PassesOwn.never (by rfl) (iv_of_f (if_rng1 (by rfl) T.m_range (bs_cons (nb 2) (bs_nil)))) (tgo 3 sc_Lines___init__.nd) (s_cons (s_expr (v_meth0 (i := 0) ((ok_Lines_lead T).mono (by decide)) hr' T.g_Lines T.cl_Lines T.M_Lines_lead.m T.M_Lines_lead.b (by rfl) (by first | exact Or.inl rfl | exact Or.inr (Or.inl rfl) | exact Or.inr (Or.inr rfl)))) (s_nil))) (s_nil))))))
theorem ok_prices_of (T : Txt K mg) : FnG P w K mg base CX0 3 T.a_prices_of T.d_prices_of ["lines"] (spFn ⟨K, mg⟩ 1 [] m_prices_of) := by
  refine fn_ok (as := [0, 1, 2, 3]) T.D_prices_of.F sc_prices_of rfl rfl (by decide) fun cdv A outer s H E hr => ?_
  have hr' := hr.mono (j := 2) (by decide)
  exact s_cons (s_if (t_cmp (ok_eq hr.u64) (b_of_f (f_bi (ca_len) (by rfl) T.m_len bt_len (bs_cons (b_fld T.g_Lines T.cl_Lines T.na_Lines_hours (nb 0)) (bs_nil)))) (b_of_f (f_int)) (by rfl)) (s_cons (s_ret (v_of_f (f_tup (fs_nil) (esNil_len)))) (s_nil)) (s_nil)) (s_cons (st1 1 sc_prices_of.nd (v_of_f (f_ixN hr.u64 (f_meth0 ((ok_Lines_distances T).mono (by decide)) hr' T.g_Lines T.cl_Lines T.M_Lines_distances.m T.M_Lines_distances.b (nb 0)) (b_of_f (f_int))))) (s_cons (s_ret (v_of_f (f_ty (ca_tup) (by rfl) T.m_tuple bt_tuple (bs_cons (b_of_f (f_lc (by rfl) sc_prices_of.nd (i_zip (by rfl) T.m_zip (bs_cons (nb 1) (bs_cons (b_of_f (f_sl (nb 1) (p_some (b_of_f (f_int))) (p_none))) (bs_nil)))) (blkOk_by (own := [(("one" : Str), 2), (("other" : Str), 3)]) (by kernel_rfl)) (by rfl) (fun s_ H_ C_ cl_ fp_ => g_tup (by rfl) (gs_cons (tgb 2 sc_prices_of.nd) (gs_cons (tgb 3 sc_prices_of.nd) (gs_nil))) (bdCons_len (bdCons_len (bdNil_len)))) (fun s_ H_ C_ cl_ fp_ => ts_nil) (fun s_ H_ C_ cl_ fp_ => f_op ok_sub (nb 2) (nb 3)))) (bs_nil))))) (s_nil)))
theorem ok_dearest (T : Txt K mg) : FnG P w K mg base CX0 6 T.a_dearest T.d_dearest ["offers", "benches"] (spFn ⟨K, mg⟩ 2 [] m_dearest) := by
  refine fn_ok (as := [0, 1, 2, 3, 4]) T.D_dearest.F sc_dearest rfl rfl (by decide) fun cdv A outer s H E hr => ?_
  have hr1 := hr.mono (j := 5) (by decide)
  exact s_cons (s_expr (v_of_f (cf T.D_check_offers (ok_check_offers T) hr (bs_cons (nb 0) (bs_cons (nb 1) (bs_nil))) (esCons_len (esCons_len (esNil_len)))))) (s_cons (st1 2 sc_dearest.nd (v_make T.mk_Lines ((ok_Lines___init__ T).mono (by decide)) hr1 (by rfl) T.g_Lines T.M_Lines___init__.b (vs_cons (v_of_f (nf 0)) (vs_cons (v_of_f (nf 1)) (vs_nil))) (fun e p h => by have := (vsCons_len (vsCons_len (vsNil_len))) e p h; omega))) (s_cons (st1 3 sc_dearest.nd (v_of_f (f_ty (ca_tup) (by rfl) T.m_tuple bt_tuple (bs_cons (b_of_f (f_bi (ca_sorted (by rfl) hr.u64) (by rfl) T.m_sorted bt_sorted (bs_cons (b_fld T.g_Lines T.cl_Lines T.na_Lines_taken (nb 2)) (bs_nil)))) (bs_nil))))) (s_cons (s_ret (v_tup (vs_cons (v_of_f (f_bi (ca_sum (by rfl)) (by rfl) T.m_sum bt_sum (bs_cons (b_of_f (f_lc (by rfl) sc_dearest.nd (i_list (nb 3)) (blkOk_by (own := [(("one" : Str), 4)]) (by kernel_rfl)) (by rfl) (fun s_ H_ C_ cl_ fp_ => tgb 4 sc_dearest.nd) (fun s_ H_ C_ cl_ fp_ => ts_nil) (fun s_ H_ C_ cl_ fp_ => f_ix (ok_ixF hr.u64) (b_ix hr.u64 (nb 0) (nb 4)) (b_of_f (f_int))))) (bs_nil)))) (vs_cons (nz 3) (vs_cons (v_of_f (cf T.D_prices_of (ok_prices_of T) hr (bs_cons (nb 2) (bs_nil)) (esCons_len (esNil_len)))) (vs_nil)))) (vsCons_len (vsCons_len (vsCons_len (vsNil_len)))))) (s_nil))))
theorem ok_many_at (T : Txt K mg) : FnG P w K mg base CX0 1 T.a_many_at T.d_many_at ["offers", "group", "hour"] (spFn ⟨K, mg⟩ 3 [] m_many_at) := by
  refine fn_ok (as := [0, 1, 2, 3]) T.D_many_at.F sc_many_at rfl rfl (by decide) fun cdv A outer s H E hr => ?_
  exact s_cons (s_ret (v_of_f (f_bi (ca_len) (by rfl) T.m_len bt_len (bs_cons (b_of_f (f_lc (by rfl) sc_many_at.nd (i_list (nb 1)) (blkOk_by (own := [(("one" : Str), 3)]) (by kernel_rfl)) (by rfl) (fun s_ H_ C_ cl_ fp_ => tgb 3 sc_many_at.nd) (fun s_ H_ C_ cl_ fp_ => ts_one (t_chain (b_ix hr.u64 (b_ix hr.u64 (nb 0) (nb 3)) (b_of_f (f_int))) (.more ok_le (nb 2) (.one ok_lt (b_ix hr.u64 (b_ix hr.u64 (nb 0) (nb 3)) (b_of_f (f_int))))))) (fun s_ H_ C_ cl_ fp_ => nf 3))) (bs_nil))))) (s_nil)
theorem ok_fewest_benches (T : Txt K mg) : FnG P w K mg base CX0 4 T.a_fewest_benches T.d_fewest_benches ["offers"] (spFn ⟨K, mg⟩ 1 [] m_fewest_benches) := by
  refine fn_ok (as := [0, 1, 2, 3, 4, 5, 6, 7, 8, 9, 10, 11, 12]) T.D_fewest_benches.F sc_fewest_benches rfl rfl (by decide) fun cdv A outer s H E hr => ?_
  exact s_cons (s_expr (v_of_f (cf T.D_check_offers (ok_check_offers T) hr (bs_cons (nb 0) (bs_cons (b_of_f (f_int)) (bs_nil))) (esCons_len (esCons_len (esNil_len)))))) (s_cons (s_asg (v_of_f (f_tup (fs_cons (f_lst (fs_nil) (esNil_len)) (fs_cons (f_emp) (fs_nil))) (esCons_len (esCons_len (esNil_len))))) (y_tup (by rfl) (ys_cons (tgv 1 sc_fewest_benches.nd) (ys_cons (tgv 2 sc_fewest_benches.nd) (ys_nil))) (bdCons_len (bdCons_len (bdNil_len))))) (s_cons (s_for PassesOwn.never (by rfl) (iv_of_f (if_list (f_bi (ca_sorted (by rfl) hr.u64) (by rfl) T.m_sorted bt_sorted (bs_cons (b_of_f (f_lc (by rfl) sc_fewest_benches.nd (i_enum (by rfl) T.m_enumerate (bs_cons (nb 0) (bs_nil))) (blkOk_by (own := [(("one" : Str), 5), (("offer" : Str), 9)]) (by kernel_rfl)) (by rfl) (fun s_ H_ C_ cl_ fp_ => g_tup (by rfl) (gs_cons (tgb 5 sc_fewest_benches.nd) (gs_cons (tgb 9 sc_fewest_benches.nd) (gs_nil))) (bdCons_len (bdCons_len (bdNil_len)))) (fun s_ H_ C_ cl_ fp_ => ts_nil) (fun s_ H_ C_ cl_ fp_ => f_tup (fs_cons (f_ix (ok_ixF hr.u64) (nb 9) (b_of_f (f_int))) (fs_cons (f_ix (ok_ixF hr.u64) (nb 9) (b_of_f (f_int))) (fs_cons (nf 5) (fs_nil)))) (esCons_len (esCons_len (esCons_len (esNil_len))))))) (bs_nil))))) (o_tup (by rfl) (os_cons (tgo 3 sc_fewest_benches.nd) (os_cons (tgo 4 sc_fewest_benches.nd) (os_cons (tgo 5 sc_fewest_benches.nd) (os_nil)))) (bdCons_len (bdCons_len (bdCons_len (bdNil_len))))) (s_cons (s_setLc (by rfl) sc_fewest_benches.nd (by rfl) (by rfl) (by decide) (by rfl) (i_enum (by rfl) T.m_enumerate (bs_cons (nb 1) (bs_nil))) (blkOk_by (own := [(("bench" : Str), 10), (("last" : Str), 11)]) (by kernel_rfl)) (by rfl) (fun s_ H_ C_ cl_ fp_ => g_tup (by rfl) (gs_cons (tgb 10 sc_fewest_benches.nd) (gs_cons (tgb 11 sc_fewest_benches.nd) (gs_nil))) (bdCons_len (bdCons_len (bdNil_len)))) (fun s_ H_ C_ cl_ fp_ => ts_one (t_cmp ok_le (nb 11) (nb 3) (by rfl))) (fun s_ H_ C_ cl_ fp_ => nf 10)) (s_cons (s_if (t_cmp ok_gt (b_of_f (f_bi (ca_len) (by rfl) T.m_len bt_len (bs_cons (nb 6) (bs_nil)))) (b_of_f (f_int)) (by rfl)) (s_cons (s_asg (v_of_f (f_ix (ok_ixF hr.u64) (nb 6) (b_of_f (f_int)))) (y_sub (st_dk hr.u64) (np 2) (nb 5))) (s_cons (s_asg (v_of_f (nf 4)) (y_sub st_lst (np 1) (b_ix hr.u64 (nb 6) (b_of_f (f_int))))) (s_nil))) (s_cons (s_asg (v_of_f (f_bi (ca_len) (by rfl) T.m_len bt_len (bs_cons (nb 1) (bs_nil)))) (y_sub (st_dk hr.u64) (np 2) (nb 5))) (s_cons (s_expr (v_bm (i := 1) PySem.F.plainAttrs_list PySem.F.slot_list_append PySem.F.type_list_append mu_append (by rfl) (by first | exact Or.inl rfl | exact Or.inr (Or.inl rfl) | exact Or.inr (Or.inr rfl)) (vs_cons (v_of_f (nf 4)) (vs_nil)))) (s_nil)))) (s_nil)))) (s_cons (st1 7 sc_fewest_benches.nd (v_of_f (f_rgT (by rfl) (by rfl) T.m_tuple (by rfl) T.m_range (b_of_f (f_bi (ca_len) (by rfl) T.m_len bt_len (bs_cons (nb 0) (bs_nil))))))) (s_cons (s_setLc (by rfl) sc_fewest_benches.nd (by rfl) (by rfl) (by decide) (by rfl) (i_list (b_of_f (cf T.D_hours_of (ok_hours_of T) hr (bs_cons (nb 0) (bs_nil)) (esCons_len (esNil_len))))) (blkOk_by (own := [(("hour" : Str), 12)]) (by kernel_rfl)) (by rfl) (fun s_ H_ C_ cl_ fp_ => tgb 12 sc_fewest_benches.nd) (fun s_ H_ C_ cl_ fp_ => ts_one (t_cmp (ok_eq hr.u64) (b_of_f (cf T.D_many_at (ok_many_at T) hr (bs_cons (nb 0) (bs_cons (nb 7) (bs_cons (nb 12) (bs_nil)))) (esCons_len (esCons_len (esCons_len (esNil_len)))))) (b_of_f (f_bi (ca_len) (by rfl) T.m_len bt_len (bs_cons (nb 1) (bs_nil)))) (by rfl))) (fun s_ H_ C_ cl_ fp_ => nf 12)) (s_cons (s_ret (v_of_f (f_tup (fs_cons (f_bi (ca_len) (by rfl) T.m_len bt_len (bs_cons (nb 1) (bs_nil))) (fs_cons (f_ty (ca_tup) (by rfl) T.m_tuple bt_tuple (bs_cons (b_of_f (f_lc (by rfl) sc_fewest_benches.nd (i_list (nb 7)) (blkOk_by (own := [(("one" : Str), 5)]) (by kernel_rfl)) (by rfl) (fun s_ H_ C_ cl_ fp_ => tgb 5 sc_fewest_benches.nd) (fun s_ H_ C_ cl_ fp_ => ts_nil) (fun s_ H_ C_ cl_ fp_ => f_ix (ok_ixF hr.u64) (nb 2) (nb 5)))) (bs_nil))) (fs_cons (f_if (t_cmp ok_gt (b_of_f (f_bi (ca_len) (by rfl) T.m_len bt_len (bs_cons (nb 8) (bs_nil)))) (b_of_f (f_int)) (by rfl)) (f_ix (ok_ixF hr.u64) (nb 8) (b_of_f (f_int))) (f_int)) (fs_nil)))) (esCons_len (esCons_len (esCons_len (esNil_len))))))) (s_nil))))))
theorem ok_by_end (T : Txt K mg) : FnG P w K mg base CX0 1 T.a_by_end T.d_by_end ["offers"] (spFn ⟨K, mg⟩ 1 [] m_by_end) := by
  refine fn_ok (as := [0, 1, 2, 3]) T.D_by_end.F sc_by_end rfl rfl (by decide) fun cdv A outer s H E hr => ?_
  exact s_cons (s_ret (v_of_f (f_lc (by rfl) sc_by_end.nd (i_list (b_of_f (f_bi (ca_sorted (by rfl) hr.u64) (by rfl) T.m_sorted bt_sorted (bs_cons (b_of_f (f_lc (by rfl) sc_by_end.nd (i_enum (by rfl) T.m_enumerate (bs_cons (nb 0) (bs_nil))) (blkOk_by (own := [(("one" : Str), 2), (("offer" : Str), 3)]) (by kernel_rfl)) (by rfl) (fun s_ H_ C_ cl_ fp_ => g_tup (by rfl) (gs_cons (tgb 2 sc_by_end.nd) (gs_cons (tgb 3 sc_by_end.nd) (gs_nil))) (bdCons_len (bdCons_len (bdNil_len)))) (fun s_ H_ C_ cl_ fp_ => ts_nil) (fun s_ H_ C_ cl_ fp_ => f_tup (fs_cons (f_ix (ok_ixF hr.u64) (nb 3) (b_of_f (f_int))) (fs_cons (nf 2) (fs_nil))) (esCons_len (esCons_len (esNil_len)))))) (bs_nil))))) (blkOk_by (own := [(("end" : Str), 1), (("one" : Str), 2)]) (by kernel_rfl)) (by rfl) (fun s_ H_ C_ cl_ fp_ => g_tup (by rfl) (gs_cons (tgb 1 sc_by_end.nd) (gs_cons (tgb 2 sc_by_end.nd) (gs_nil))) (bdCons_len (bdCons_len (bdNil_len)))) (fun s_ H_ C_ cl_ fp_ => ts_nil) (fun s_ H_ C_ cl_ fp_ => nf 2)))) (s_nil)
theorem ok_apart_ones (T : Txt K mg) : FnG P w K mg base CX0 2 T.a_apart_ones T.d_apart_ones ["offers"] (spFn ⟨K, mg⟩ 1 [] m_apart_ones) := by
  refine fn_ok (as := [0, 1, 2, 3]) T.D_apart_ones.F sc_apart_ones rfl rfl (by decide) fun cdv A outer s H E hr => ?_
  exact s_cons (s_par (by rfl) sc_apart_ones.nd (by rfl) (by rfl) (by decide) (by decide) (by decide) (by rfl) (by rfl) (vs_cons (v_of_f (f_lst (fs_nil) (esNil_len))) (vs_cons (v_of_f (f_non)) (vs_nil))) (by rfl)) (s_cons (s_for PassesOwn.never (by rfl) (iv_of_f (if_list (cf T.D_by_end (ok_by_end T) hr (bs_cons (nb 0) (bs_nil)) (esCons_len (esNil_len))))) (tgo 3 sc_apart_ones.nd) (s_cons (s_if (t_of_w (w_or (t_cmp ok_isN (nb 2) (b_of_f (f_non)) (by rfl)) (w_or1 (t_cmp ok_ge (b_ix hr.u64 (b_ix hr.u64 (nb 0) (nb 3)) (b_of_f (f_int))) (nb 2) (by rfl))))) (s_cons (s_expr (v_bm (i := 1) PySem.F.plainAttrs_list PySem.F.slot_list_append PySem.F.type_list_append mu_append (by rfl) (by first | exact Or.inl rfl | exact Or.inr (Or.inl rfl) | exact Or.inr (Or.inr rfl)) (vs_cons (v_of_f (nf 3)) (vs_nil)))) (s_cons (st1 2 sc_apart_ones.nd (v_of_f (f_ix (ok_ixF hr.u64) (b_ix hr.u64 (nb 0) (nb 3)) (b_of_f (f_int))))) (s_nil))) (s_nil)) (s_nil))) (s_cons (s_ret (nm 1)) (s_nil)))
theorem ok_most_apart (T : Txt K mg) : FnG P w K mg base CX0 4 T.a_most_apart T.d_most_apart ["offers"] (spFn ⟨K, mg⟩ 1 [] m_most_apart) := by
  refine fn_ok (as := [0, 1, 2]) T.D_most_apart.F sc_most_apart rfl rfl (by decide) fun cdv A outer s H E hr => ?_
  exact s_cons (s_expr (v_of_f (cf T.D_check_offers (ok_check_offers T) hr (bs_cons (nb 0) (bs_cons (b_of_f (f_int)) (bs_nil))) (esCons_len (esCons_len (esNil_len)))))) (s_cons (st1 1 sc_most_apart.nd (v_of_f (cf T.D_apart_ones (ok_apart_ones T) hr (bs_cons (nb 0) (bs_nil)) (esCons_len (esNil_len))))) (s_cons (s_ret (v_of_f (f_tup (fs_cons (f_bi (ca_len) (by rfl) T.m_len bt_len (bs_cons (nb 1) (bs_nil))) (fs_cons (f_ty (ca_tup) (by rfl) T.m_tuple bt_tuple (bs_cons (b_of_f (f_bi (ca_sorted (by rfl) hr.u64) (by rfl) T.m_sorted bt_sorted (bs_cons (nb 1) (bs_nil)))) (bs_nil))) (fs_cons (f_ty (ca_tup) (by rfl) T.m_tuple bt_tuple (bs_cons (b_of_f (f_lc (by rfl) sc_most_apart.nd (i_list (nb 1)) (blkOk_by (own := [(("one" : Str), 2)]) (by kernel_rfl)) (by rfl) (fun s_ H_ C_ cl_ fp_ => tgb 2 sc_most_apart.nd) (fun s_ H_ C_ cl_ fp_ => ts_nil) (fun s_ H_ C_ cl_ fp_ => f_op ok_sub (b_ix hr.u64 (b_ix hr.u64 (nb 0) (nb 2)) (b_of_f (f_int))) (b_of_f (f_int))))) (bs_nil))) (fs_nil)))) (esCons_len (esCons_len (esCons_len (esNil_len))))))) (s_nil)))
theorem ok_are_apart (T : Txt K mg) : FnG P w K mg base CX0 1 T.a_are_apart T.d_are_apart ["offers", "group"] (spFn ⟨K, mg⟩ 2 [] m_are_apart) := by
  refine fn_ok (as := [0, 1, 2, 3, 4]) T.D_are_apart.F sc_are_apart rfl rfl (by decide) fun cdv A outer s H E hr => ?_
  exact s_cons (st1 2 sc_are_apart.nd (v_of_f (f_bi (ca_sorted (by rfl) hr.u64) (by rfl) T.m_sorted bt_sorted (bs_cons (b_of_f (f_lc (by rfl) sc_are_apart.nd (i_list (nb 1)) (blkOk_by (own := [(("one" : Str), 3)]) (by kernel_rfl)) (by rfl) (fun s_ H_ C_ cl_ fp_ => tgb 3 sc_are_apart.nd) (fun s_ H_ C_ cl_ fp_ => ts_nil) (fun s_ H_ C_ cl_ fp_ => f_sl (b_ix hr.u64 (nb 0) (nb 3)) (p_none) (p_some (b_of_f (f_int)))))) (bs_nil))))) (s_cons (s_ret (v_of_f (f_bi (ca_all (by rfl)) (by rfl) T.m_all bt_all (bs_cons (b_of_f (f_lc (by rfl) sc_are_apart.nd (i_zip (by rfl) T.m_zip (bs_cons (nb 2) (bs_cons (b_of_f (f_sl (nb 2) (p_some (b_of_f (f_int))) (p_none))) (bs_nil)))) (blkOk_by (own := [(("one" : Str), 3), (("other" : Str), 4)]) (by kernel_rfl)) (by rfl) (fun s_ H_ C_ cl_ fp_ => g_tup (by rfl) (gs_cons (tgb 3 sc_are_apart.nd) (gs_cons (tgb 4 sc_are_apart.nd) (gs_nil))) (bdCons_len (bdCons_len (bdNil_len)))) (fun s_ H_ C_ cl_ fp_ => ts_nil) (fun s_ H_ C_ cl_ fp_ => f_cmp ok_le (b_ix hr.u64 (nb 3) (b_of_f (f_int))) (b_ix hr.u64 (nb 4) (b_of_f (f_int))) (by rfl)))) (bs_nil))))) (s_nil))
theorem ok_do_meet (T : Txt K mg) : FnG P w K mg base CX0 1 T.a_do_meet T.d_do_meet ["offers", "hours"] (spFn ⟨K, mg⟩ 2 [] m_do_meet) := by
  refine fn_ok (as := [0, 1, 2, 3, 4, 5]) T.D_do_meet.F sc_do_meet rfl rfl (by decide) fun cdv A outer s H E hr => ?_
  exact s_cons (s_ret (v_of_f (f_bi (ca_all (by rfl)) (by rfl) T.m_all bt_all (bs_cons (b_of_f (f_lc (by rfl) sc_do_meet.nd (i_list (nb 0)) (blkOk_by (own := [(("begin" : Str), 2), (("end" : Str), 3), (("worth" : Str), 4)]) (by kernel_rfl)) (by rfl) (fun s_ H_ C_ cl_ fp_ => g_tup (by rfl) (gs_cons (tgb 2 sc_do_meet.nd) (gs_cons (tgb 3 sc_do_meet.nd) (gs_cons (tgb 4 sc_do_meet.nd) (gs_nil)))) (bdCons_len (bdCons_len (bdCons_len (bdNil_len))))) (fun s_ H_ C_ cl_ fp_ => ts_nil) (fun s_ H_ C_ cl_ fp_ => f_bi (ca_any (by rfl)) (by rfl) T.m_any bt_any (bs_cons (b_of_f (f_lc (by rfl) sc_do_meet.nd (i_list (nb 1)) (blkOk_by (own := [(("hour" : Str), 5)]) (by kernel_rfl)) (by rfl) (fun s_ H_ C_ cl_ fp_ => tgb 5 sc_do_meet.nd) (fun s_ H_ C_ cl_ fp_ => ts_nil) (fun s_ H_ C_ cl_ fp_ => f_chain (nb 2) (.more ok_le (nb 5) (.one ok_lt (nb 3)))))) (bs_nil))))) (bs_nil))))) (s_nil)
theorem ok_is_most_apart (T : Txt K mg) : FnG P w K mg base CX0 4 T.a_is_most_apart T.d_is_most_apart ["offers", "thing"] (spFn ⟨K, mg⟩ 2 [] m_is_most_apart) := by
  refine fn_ok (as := [0, 1, 2]) T.D_is_most_apart.F sc_is_most_apart rfl rfl (by decide) fun cdv A outer s H E hr => ?_
  exact s_cons (s_expr (v_of_f (cf T.D_check_offers (ok_check_offers T) hr (bs_cons (nb 0) (bs_cons (b_of_f (f_int)) (bs_nil))) (esCons_len (esCons_len (esNil_len)))))) (s_cons (s_if (t_of_w (w_or (t_not (t_val (b_of_f (f_bi (ca_isi) (by rfl) T.m_isinstance bt_isinstance (bs_cons (nb 1) (bs_cons (b_of_f (f_tyName (by rfl) T.m_tuple bt_tuple)) (bs_nil))))))) (w_or (t_cmp (ok_ne hr.u64) (b_of_f (f_bi (ca_len) (by rfl) T.m_len bt_len (bs_cons (nb 1) (bs_nil)))) (b_of_f (f_int)) (by rfl)) (w_or1 (t_not (t_val (b_of_f (cf T.D_is_integer (ok_is_integer T) hr (bs_cons (b_ix hr.u64 (nb 1) (b_of_f (f_int))) (bs_nil)) (esCons_len (esNil_len)))))))))) (s_cons (s_ret (v_of_f (f_bl))) (s_nil)) (s_nil)) (s_cons (s_if (t_of_w (w_or (t_not (t_val (b_of_f (cf T.D_is_group_of (ok_is_group_of T) hr (bs_cons (b_of_f (f_bi (ca_len) (by rfl) T.m_len bt_len (bs_cons (nb 0) (bs_nil)))) (bs_cons (b_ix hr.u64 (nb 1) (b_of_f (f_int))) (bs_nil))) (esCons_len (esCons_len (esNil_len))))))) (w_or (t_cmp (ok_ne hr.u64) (b_of_f (f_bi (ca_len) (by rfl) T.m_len bt_len (bs_cons (b_ix hr.u64 (nb 1) (b_of_f (f_int))) (bs_nil)))) (b_ix hr.u64 (nb 1) (b_of_f (f_int))) (by rfl)) (w_or1 (t_not (t_val (b_of_f (cf T.D_are_apart (ok_are_apart T) hr (bs_cons (nb 0) (bs_cons (b_ix hr.u64 (nb 1) (b_of_f (f_int))) (bs_nil))) (esCons_len (esCons_len (esNil_len))))))))))) (s_cons (s_ret (v_of_f (f_bl))) (s_nil)) (s_nil)) (s_cons (s_if (t_of_w (w_or (t_not (t_val (b_of_f (f_bi (ca_isi) (by rfl) T.m_isinstance bt_isinstance (bs_cons (b_ix hr.u64 (nb 1) (b_of_f (f_int))) (bs_cons (b_of_f (f_tyName (by rfl) T.m_tuple bt_tuple)) (bs_nil))))))) (w_or1 (t_not (t_val (b_of_f (f_bi (ca_all (by rfl)) (by rfl) T.m_all bt_all (bs_cons (b_of_f (f_lc (by rfl) sc_is_most_apart.nd (i_list (b_ix hr.u64 (nb 1) (b_of_f (f_int)))) (blkOk_by (own := [(("hour" : Str), 2)]) (by kernel_rfl)) (by rfl) (fun s_ H_ C_ cl_ fp_ => tgb 2 sc_is_most_apart.nd) (fun s_ H_ C_ cl_ fp_ => ts_nil) (fun s_ H_ C_ cl_ fp_ => cf T.D_is_integer (ok_is_integer T) hr (bs_cons (nb 2) (bs_nil)) (esCons_len (esNil_len))))) (bs_nil))))))))) (s_cons (s_ret (v_of_f (f_bl))) (s_nil)) (s_nil)) (s_cons (s_ret (v_of_f (f_and (b_of_f (cf T.D_are_ascending (ok_are_ascending T) hr (bs_cons (b_ix hr.u64 (nb 1) (b_of_f (f_int))) (bs_nil)) (esCons_len (esNil_len)))) (b_of_f (f_and (b_of_f (cf T.D_do_meet (ok_do_meet T) hr (bs_cons (nb 0) (bs_cons (b_ix hr.u64 (nb 1) (b_of_f (f_int))) (bs_nil))) (esCons_len (esCons_len (esNil_len))))) (b_of_f (f_one (f_cmp ok_le (b_of_f (f_bi (ca_len) (by rfl) T.m_len bt_len (bs_cons (b_ix hr.u64 (nb 1) (b_of_f (f_int))) (bs_nil)))) (b_ix hr.u64 (nb 1) (b_of_f (f_int))) (by rfl))))))))) (s_nil)))))
theorem ok_least_end (T : Txt K mg) : FnG P w K mg base CX0 4 T.a_least_end T.d_least_end ["offers", "group"] (spFn ⟨K, mg⟩ 2 [] m_least_end) := by
  refine fn_ok (as := [0, 1, 2, 3, 4]) T.D_least_end.F sc_least_end rfl rfl (by decide) fun cdv A outer s H E hr => ?_
  exact s_cons (s_expr (v_of_f (cf T.D_check_offers (ok_check_offers T) hr (bs_cons (nb 0) (bs_cons (b_of_f (f_int)) (bs_nil))) (esCons_len (esCons_len (esNil_len)))))) (s_cons (s_if (t_not (t_val (b_of_f (cf T.D_is_group_of (ok_is_group_of T) hr (bs_cons (b_of_f (f_bi (ca_len) (by rfl) T.m_len bt_len (bs_cons (nb 0) (bs_nil)))) (bs_cons (nb 1) (bs_nil))) (esCons_len (esCons_len (esNil_len))))))) (s_cons (s_ret (v_of_f (f_non))) (s_nil)) (s_nil)) (s_cons (s_setLc (by rfl) sc_least_end.nd (by rfl) (by rfl) (by decide) (by rfl) (i_list (nb 1)) (blkOk_by (own := [(("one" : Str), 4)]) (by kernel_rfl)) (by rfl) (fun s_ H_ C_ cl_ fp_ => tgb 4 sc_least_end.nd) (fun s_ H_ C_ cl_ fp_ => ts_nil) (fun s_ H_ C_ cl_ fp_ => f_ix (ok_ixF hr.u64) (nb 0) (nb 4))) (s_cons (st1 3 sc_least_end.nd (v_of_f (cf T.D_apart_ones (ok_apart_ones T) hr (bs_cons (nb 2) (bs_nil)) (esCons_len (esNil_len))))) (s_cons (s_ret (v_of_f (f_if (t_cmp ok_gt (b_of_f (f_bi (ca_len) (by rfl) T.m_len bt_len (bs_cons (nb 3) (bs_nil)))) (b_of_f (f_int)) (by rfl)) (f_ix (ok_ixF hr.u64) (b_ix hr.u64 (nb 2) (b_ix hr.u64 (nb 3) (b_of_f (f_un ok_neg (b_of_f (f_int)))))) (b_of_f (f_int))) (f_int)))) (s_nil)))))
theorem ok_taken_in_order (T : Txt K mg) : FnG P w K mg base CX0 4 T.a_taken_in_order T.d_taken_in_order ["offers"] (spFn ⟨K, mg⟩ 1 [] m_taken_in_order) := by
  refine fn_ok (as := [0, 1, 2]) T.D_taken_in_order.F sc_taken_in_order rfl rfl (by decide) fun cdv A outer s H E hr => ?_
  exact s_cons (s_expr (v_of_f (cf T.D_check_offers (ok_check_offers T) hr (bs_cons (nb 0) (bs_cons (b_of_f (f_int)) (bs_nil))) (esCons_len (esCons_len (esNil_len)))))) (s_cons (st1 1 sc_taken_in_order.nd (v_of_f (f_lst (fs_nil) (esNil_len)))) (s_cons (s_for PassesOwn.never (by rfl) (iv_of_f (if_rng1 (by rfl) T.m_range (bs_cons (b_of_f (f_bi (ca_len) (by rfl) T.m_len bt_len (bs_cons (nb 0) (bs_nil)))) (bs_nil)))) (tgo 2 sc_taken_in_order.nd) (s_cons (s_if (t_val (b_of_f (cf T.D_are_apart (ok_are_apart T) hr (bs_cons (nb 0) (bs_cons (b_of_f (f_op ok_add (nb 1) (b_of_f (f_lst (fs_cons (nf 2) (fs_nil)) (esCons_len (esNil_len)))))) (bs_nil))) (esCons_len (esCons_len (esNil_len)))))) (s_cons (s_expr (v_bm (i := 1) PySem.F.plainAttrs_list PySem.F.slot_list_append PySem.F.type_list_append mu_append (by rfl) (by first | exact Or.inl rfl | exact Or.inr (Or.inl rfl) | exact Or.inr (Or.inr rfl)) (vs_cons (v_of_f (nf 2)) (vs_nil)))) (s_nil)) (s_nil)) (s_nil))) (s_cons (s_ret (v_of_f (f_ty (ca_tup) (by rfl) T.m_tuple bt_tuple (bs_cons (nb 1) (bs_nil))))) (s_nil))))
theorem ok__law_tape (T : Txt K mg) : FnG P w K mg base CX0 1 T.a__law_tape T.d__law_tape ["script"] (spFn ⟨K, mg⟩ 1 [] m__law_tape) := by
  refine fn_ok (as := [0, 1, 2]) T.D__law_tape.F sc__law_tape rfl rfl (by decide) fun cdv A outer s H E hr => ?_
  exact s_cons (s_setLc (by rfl) sc__law_tape.nd (by rfl) (by rfl) (by decide) (by rfl) (i_list (b_of_f (f_sl (nb 0) (p_none) (p_some (b_of_f (f_int)))))) (blkOk_by (own := [(("cell" : Str), 2)]) (by kernel_rfl)) (by rfl) (fun s_ H_ C_ cl_ fp_ => tgb 2 sc__law_tape.nd) (fun s_ H_ C_ cl_ fp_ => ts_nil) (fun s_ H_ C_ cl_ fp_ => f_bi (ca_abs) (by rfl) T.m_abs bt_abs (bs_cons (b_of_f (f_ty (ca_int) (by rfl) T.m_int bt_int (bs_cons (nb 2) (bs_nil)))) (bs_nil)))) (s_cons (s_ret (v_lst (vs_cons (nz 1) (vs_cons (v_of_f (f_int)) (vs_cons (v_of_f (f_int)) (vs_cons (v_of_f (f_op ok_add (b_of_f (f_int)) (b_of_f (f_bi (ca_len) (by rfl) T.m_len bt_len (bs_cons (nb 1) (bs_nil)))))) (vs_cons (v_of_f (f_int)) (vs_nil)))))) (vsCons_len (vsCons_len (vsCons_len (vsCons_len (vsCons_len (vsNil_len)))))))) (s_nil))
theorem ok__law_pick (T : Txt K mg) : FnG P w K mg base CX0 1 T.a__law_pick T.d__law_pick ["tape", "many"] (spFn ⟨K, mg⟩ 2 [0] m__law_pick) := by
  refine fn_ok (as := [1, 2, 3, 4]) T.D__law_pick.F sc__law_pick rfl rfl (by decide) fun cdv A outer s H E hr => ?_
  exact s_cons (s_if (t_of_w (w_and (t_cmp (ok_eq hr.u64) (b_ix hr.u64 (nb 0) (b_of_f (f_int))) (b_of_f (f_int)) (by rfl)) (w_and1 (t_cmp ok_lt (b_ix hr.u64 (nb 0) (b_of_f (f_int))) (b_of_f (f_bi (ca_len) (by rfl) T.m_len bt_len (bs_cons (b_ix hr.u64 (nb 0) (b_of_f (f_int))) (bs_nil)))) (by rfl))))) (s_cons (st1 2 sc__law_pick.nd (v_of_f (f_ix (ok_ixF hr.u64) (b_ix hr.u64 (nb 0) (b_of_f (f_int))) (b_ix hr.u64 (nb 0) (b_of_f (f_int)))))) (s_cons (s_asg (v_of_f (f_op ok_add (b_ix hr.u64 (nb 0) (b_of_f (f_int))) (b_of_f (f_int)))) (y_sub st_lst (np 0) (b_of_f (f_int)))) (s_cons (s_asg (v_of_f (f_op ok_mod (b_of_f (f_ty (ca_int) (by rfl) T.m_int bt_int (bs_cons (b_of_f (f_op ok_add (b_of_f (f_op ok_add (b_of_f (f_op ok_mul (b_ix hr.u64 (nb 0) (b_of_f (f_int))) (b_of_f (f_int)))) (nb 2))) (b_of_f (f_int)))) (bs_nil)))) (b_of_f (f_int)))) (y_sub st_lst (np 0) (b_of_f (f_int)))) (s_cons (s_if (t_cmp ok_ge (nb 2) (b_of_f (f_op ok_pow (b_of_f (f_int)) (b_of_f (f_int)))) (by rfl)) (s_cons (s_asg (v_of_f (nf 2)) (y_sub st_lst (np 0) (b_of_f (f_int)))) (s_nil)) (s_nil)) (s_nil))))) (s_nil)) (s_cons (s_if (t_cmp ok_gt (b_ix hr.u64 (nb 0) (b_of_f (f_int))) (b_of_f (f_int)) (by rfl)) (s_cons (st1 3 sc__law_pick.nd (v_of_f (f_op ok_mod (b_of_f (f_ty (ca_int) (by rfl) T.m_int bt_int (bs_cons (b_ix hr.u64 (nb 0) (b_of_f (f_int))) (bs_nil)))) (nb 1)))) (s_cons (s_asg (v_of_f (f_op ok_fdiv (b_ix hr.u64 (nb 0) (b_of_f (f_int))) (nb 1))) (y_sub st_lst (np 0) (b_of_f (f_int)))) (s_cons (s_ret (nm 3)) (s_nil)))) (s_nil)) (s_cons (s_asg (v_of_f (f_op ok_add (b_ix hr.u64 (nb 0) (b_of_f (f_int))) (b_of_f (f_int)))) (y_sub st_lst (np 0) (b_of_f (f_int)))) (s_cons (st1 4 sc__law_pick.nd (v_of_f (f_op ok_mod (b_of_f (f_ty (ca_int) (by rfl) T.m_int bt_int (bs_cons (b_of_f (f_op ok_mul (b_of_f (f_ty (ca_int) (by rfl) T.m_int bt_int (bs_cons (b_of_f (f_op ok_add (b_ix hr.u64 (nb 0) (b_of_f (f_int))) (b_of_f (f_op ok_mul (b_of_f (f_int)) (b_ix hr.u64 (nb 0) (b_of_f (f_int))))))) (bs_nil)))) (b_of_f (f_int)))) (bs_nil)))) (b_of_f (f_int))))) (s_cons (st1 4 sc__law_pick.nd (v_of_f (f_op ok_mod (b_of_f (f_ty (ca_int) (by rfl) T.m_int bt_int (bs_cons (b_of_f (f_op ok_mul (nb 4) (b_of_f (f_op ok_add (b_of_f (f_op ok_fdiv (nb 4) (b_of_f (f_int)))) (b_of_f (f_int)))))) (bs_nil)))) (b_of_f (f_int))))) (s_cons (st1 4 sc__law_pick.nd (v_of_f (f_op ok_mod (b_of_f (f_ty (ca_int) (by rfl) T.m_int bt_int (bs_cons (b_of_f (f_op ok_mul (nb 4) (b_of_f (f_op ok_add (b_of_f (f_op ok_fdiv (nb 4) (b_of_f (f_int)))) (b_of_f (f_int)))))) (bs_nil)))) (b_of_f (f_int))))) (s_cons (s_ret (v_of_f (f_op ok_mod (b_of_f (f_ty (ca_int) (by rfl) T.m_int bt_int (bs_cons (b_of_f (f_op ok_fdiv (nb 4) (b_of_f (f_int)))) (bs_nil)))) (nb 1)))) (s_nil)))))))
theorem ok__law_any (T : Txt K mg) : FnG P w K mg base CX0 2 T.a__law_any T.d__law_any ["tape", "things"] (spFn ⟨K, mg⟩ 2 [0] m__law_any) := by
  refine fn_ok (as := [1]) T.D__law_any.F sc__law_any rfl rfl (by decide) fun cdv A outer s H E hr => ?_
  exact s_cons (s_ret (v_ix (ok_ixF hr.u64) (v_of_f (nf 1)) (cv T.D__law_pick (ok__law_pick T) hr (al 0 (a_val (v_of_f (f_bi (ca_len) (by rfl) T.m_len bt_len (bs_cons (nb 1) (bs_nil)))) (a_nil)))))) (s_nil)
theorem ok__law_mixed (T : Txt K mg) : FnG P w K mg base CX0 2 T.a__law_mixed T.d__law_mixed ["tape", "things"] (spFn ⟨K, mg⟩ 2 [0] m__law_mixed) := by
  refine fn_ok (as := [1, 2, 3]) T.D__law_mixed.F sc__law_mixed rfl rfl (by decide) fun cdv A outer s H E hr => ?_
  exact s_cons (s_par (by rfl) sc__law_mixed.nd (by rfl) (by rfl) (by decide) (by decide) (by decide) (by rfl) (by rfl) (vs_cons (v_of_f (f_ty (ca_list (by rfl)) (by rfl) T.m_list bt_list (bs_cons (nb 1) (bs_nil)))) (vs_cons (v_of_f (f_lst (fs_nil) (esNil_len))) (vs_nil))) (by rfl)) (s_cons (s_while PassesOwn.never (tv_of_b (t_cmp ok_gt (b_of_f (f_bi (ca_len) (by rfl) T.m_len bt_len (bs_cons (nb 2) (bs_nil)))) (b_of_f (f_int)) (by rfl))) (s_cons (s_expr (v_bm (i := 3) PySem.F.plainAttrs_list PySem.F.slot_list_append PySem.F.type_list_append mu_append (by rfl) (by first | exact Or.inl rfl | exact Or.inr (Or.inl rfl) | exact Or.inr (Or.inr rfl)) (vs_cons (v_bm (i := 2) PySem.F.plainAttrs_list PySem.F.slot_list_pop PySem.F.type_list_pop mu_popAt (by rfl) (by first | exact Or.inl rfl | exact Or.inr (Or.inl rfl) | exact Or.inr (Or.inr rfl)) (vs_cons (cv T.D__law_pick (ok__law_pick T) hr (al 0 (a_val (v_of_f (f_bi (ca_len) (by rfl) T.m_len bt_len (bs_cons (nb 2) (bs_nil)))) (a_nil)))) (vs_nil))) (vs_nil)))) (s_nil))) (s_cons (s_ret (nm 3)) (s_nil)))
theorem ok__law_offers (T : Txt K mg) : FnG P w K mg base CX0 3 T.a__law_offers T.d__law_offers ["tape"] (spFn ⟨K, mg⟩ 1 [0] m__law_offers) := by
  refine fn_ok (as := [1, 2, 3, 4]) T.D__law_offers.F sc__law_offers rfl rfl (by decide) fun cdv A outer s H E hr => ?_
  exact s_cons (s_par (by rfl) sc__law_offers.nd (by rfl) (by rfl) (by decide) (by decide) (by decide) (by rfl) (by rfl) (vs_cons (cv T.D__law_any (ok__law_any T) hr (al 0 (a_val (v_of_f (f_lst (fs_cons (f_int) (fs_cons (f_int) (fs_cons (f_int) (fs_nil)))) (esCons_len (esCons_len (esCons_len (esNil_len)))))) (a_nil)))) (vs_cons (v_of_f (f_lst (fs_nil) (esNil_len))) (vs_nil))) (by rfl)) (s_cons (s_for PassesOwn.never (by rfl) (iv_rng1 (by rfl) T.m_range (vs_cons (cv T.D__law_pick (ok__law_pick T) hr (al 0 (a_val (v_of_f (f_int)) (a_nil)))) (vs_nil))) (tgo 3 sc__law_offers.nd) (s_cons (st1 4 sc__law_offers.nd (cv T.D__law_pick (ok__law_pick T) hr (al 0 (a_val (v_of_f (nf 1)) (a_nil))))) (s_cons (s_expr (v_bm (i := 2) PySem.F.plainAttrs_list PySem.F.slot_list_append PySem.F.type_list_append mu_append (by rfl) (by first | exact Or.inl rfl | exact Or.inr (Or.inl rfl) | exact Or.inr (Or.inr rfl)) (vs_cons (v_tup (vs_cons (v_of_f (nf 4)) (vs_cons (v_op ok_add (v_of_f (f_op ok_add (nb 4) (b_of_f (f_int)))) (cv T.D__law_pick (ok__law_pick T) hr (al 0 (a_val (cv T.D__law_any (ok__law_any T) hr (al 0 (a_val (v_of_f (f_lst (fs_cons (f_int) (fs_cons (f_int) (fs_cons (nf 1) (fs_nil)))) (esCons_len (esCons_len (esCons_len (esNil_len)))))) (a_nil)))) (a_nil))))) (vs_cons (cv T.D__law_pick (ok__law_pick T) hr (al 0 (a_val (v_of_f (f_int)) (a_nil)))) (vs_nil)))) (vsCons_len (vsCons_len (vsCons_len (vsNil_len))))) (vs_nil)))) (s_cons (s_ifV (tv_of_w (wv_and (tv_cmp (ok_eq hr.u64) (cv T.D__law_pick (ok__law_pick T) hr (al 0 (a_val (v_of_f (f_int)) (a_nil)))) (v_of_f (f_int)) (by rfl)) (wv_and1 (tv_of_b (t_cmp ok_lt (b_of_f (f_bi (ca_len) (by rfl) T.m_len bt_len (bs_cons (nb 2) (bs_nil)))) (b_of_f (f_int)) (by rfl)))))) (s_cons (s_expr (v_bm (i := 2) PySem.F.plainAttrs_list PySem.F.slot_list_append PySem.F.type_list_append mu_append (by rfl) (by first | exact Or.inl rfl | exact Or.inr (Or.inl rfl) | exact Or.inr (Or.inr rfl)) (vs_cons (v_of_f (f_ix (ok_ixF hr.u64) (nb 2) (b_of_f (f_un ok_neg (b_of_f (f_int)))))) (vs_nil)))) (s_nil)) (s_nil)) (s_nil))))) (s_cons (s_ret (v_of_f (f_ty (ca_tup) (by rfl) T.m_tuple bt_tuple (bs_cons (b_of_f (f_sl (nb 2) (p_none) (p_some (b_of_f (f_int))))) (bs_nil))))) (s_nil)))
theorem ok__law_groups (T : Txt K mg) : FnG P w K mg base CX0 1 T.a__law_groups T.d__law_groups ["some"] (spFn ⟨K, mg⟩ 1 [] m__law_groups) := by
  refine fn_ok (as := [0, 1, 2, 3]) T.D__law_groups.F sc__law_groups rfl rfl (by decide) fun cdv A outer s H E hr => ?_
  exact s_cons (st1 1 sc__law_groups.nd (v_of_f (f_lst (fs_cons (f_tup (fs_nil) (esNil_len)) (fs_nil)) (esCons_len (esNil_len))))) (s_cons (s_for PassesOwn.never (by rfl) (iv_of_f (if_list (nf 0))) (tgo 2 sc__law_groups.nd) (s_cons (st1 1 sc__law_groups.nd (v_of_f (f_op ok_add (nb 1) (b_of_f (f_lc (by rfl) sc__law_groups.nd (i_list (nb 1)) (blkOk_by (own := [(("group" : Str), 3)]) (by kernel_rfl)) (by rfl) (fun s_ H_ C_ cl_ fp_ => tgb 3 sc__law_groups.nd) (fun s_ H_ C_ cl_ fp_ => ts_nil) (fun s_ H_ C_ cl_ fp_ => f_op ok_add (nb 3) (b_of_f (f_tup (fs_cons (nf 2) (fs_nil)) (esCons_len (esNil_len)))))))))) (s_nil))) (s_cons (s_ret (nm 1)) (s_nil)))
theorem ok__law_are_apart (T : Txt K mg) : FnG P w K mg base CX0 1 T.a__law_are_apart T.d__law_are_apart ["offers", "group"] (spFn ⟨K, mg⟩ 2 [] m__law_are_apart) := by
  refine fn_ok (as := [0, 1, 2, 3, 4]) T.D__law_are_apart.F sc__law_are_apart rfl rfl (by decide) fun cdv A outer s H E hr => ?_
  exact s_cons (s_for PassesOwn.never (by rfl) (iv_of_f (if_enum (by rfl) T.m_enumerate (fs_cons (nf 1) (fs_nil)))) (o_tup (by rfl) (os_cons (tgo 2 sc__law_are_apart.nd) (os_cons (tgo 3 sc__law_are_apart.nd) (os_nil))) (bdCons_len (bdCons_len (bdNil_len)))) (s_cons (s_for PassesOwn.never (by rfl) (iv_of_f (if_list (f_sl (nb 1) (p_some (b_of_f (f_op ok_add (nb 2) (b_of_f (f_int))))) (p_none)))) (tgo 4 sc__law_are_apart.nd) (s_cons (s_if (t_of_w (w_and (t_cmp ok_lt (b_ix hr.u64 (b_ix hr.u64 (nb 0) (nb 3)) (b_of_f (f_int))) (b_ix hr.u64 (b_ix hr.u64 (nb 0) (nb 4)) (b_of_f (f_int))) (by rfl)) (w_and1 (t_cmp ok_lt (b_ix hr.u64 (b_ix hr.u64 (nb 0) (nb 4)) (b_of_f (f_int))) (b_ix hr.u64 (b_ix hr.u64 (nb 0) (nb 3)) (b_of_f (f_int))) (by rfl))))) (s_cons (s_ret (v_of_f (f_bl))) (s_nil)) (s_nil)) (s_nil))) (s_nil))) (s_cons (s_ret (v_of_f (f_bl))) (s_nil))
theorem ok__law_is_number (T : Txt K mg) : FnG P w K mg base CX0 1 T.a__law_is_number T.d__law_is_number ["thing", "low", "high"] (spFn ⟨K, mg⟩ 3 [] m__law_is_number) := by
  refine fn_ok (as := [0, 1, 2]) T.D__law_is_number.F sc__law_is_number rfl rfl (by decide) fun cdv A outer s H E hr => ?_
  exact s_cons (s_ret (v_of_f (f_and (b_of_f (f_bi (ca_isi) (by rfl) T.m_isinstance bt_isinstance (bs_cons (nb 0) (bs_cons (b_of_f (f_tyName (by rfl) T.m_int bt_int)) (bs_nil))))) (b_of_f (f_and (b_of_f (f_not (b_of_f (f_bi (ca_isi) (by rfl) T.m_isinstance bt_isinstance (bs_cons (nb 0) (bs_cons (b_of_f (f_tyName (by rfl) T.m_bool bt_bool)) (bs_nil))))))) (b_of_f (f_one (f_chain (nb 1) (.more ok_le (nb 0) (.one ok_le (nb 2))))))))))) (s_nil)
theorem ok__law_is_group (T : Txt K mg) : FnG P w K mg base CX0 2 T.a__law_is_group T.d__law_is_group ["thing", "many"] (spFn ⟨K, mg⟩ 2 [] m__law_is_group) := by
  refine fn_ok (as := [0, 1, 2, 3]) T.D__law_is_group.F sc__law_is_group rfl rfl (by decide) fun cdv A outer s H E hr => ?_
  exact s_cons (s_if (t_of_w (w_or (t_not (t_val (b_of_f (f_bi (ca_isi) (by rfl) T.m_isinstance bt_isinstance (bs_cons (nb 0) (bs_cons (b_of_f (f_tyName (by rfl) T.m_tuple bt_tuple)) (bs_nil))))))) (w_or1 (t_not (t_val (b_of_f (f_bi (ca_all (by rfl)) (by rfl) T.m_all bt_all (bs_cons (b_of_f (f_lc (by rfl) sc__law_is_group.nd (i_list (nb 0)) (blkOk_by (own := [(("one" : Str), 2)]) (by kernel_rfl)) (by rfl) (fun s_ H_ C_ cl_ fp_ => tgb 2 sc__law_is_group.nd) (fun s_ H_ C_ cl_ fp_ => ts_nil) (fun s_ H_ C_ cl_ fp_ => cf T.D__law_is_number (ok__law_is_number T) hr (bs_cons (nb 2) (bs_cons (b_of_f (f_int)) (bs_cons (b_of_f (f_op ok_sub (nb 1) (b_of_f (f_int)))) (bs_nil)))) (esCons_len (esCons_len (esCons_len (esNil_len))))))) (bs_nil))))))))) (s_cons (s_ret (v_of_f (f_bl))) (s_nil)) (s_nil)) (s_cons (s_ret (v_of_f (f_bi (ca_all (by rfl)) (by rfl) T.m_all bt_all (bs_cons (b_of_f (f_lc (by rfl) sc__law_is_group.nd (i_zip (by rfl) T.m_zip (bs_cons (nb 0) (bs_cons (b_of_f (f_sl (nb 0) (p_some (b_of_f (f_int))) (p_none))) (bs_nil)))) (blkOk_by (own := [(("one" : Str), 2), (("other" : Str), 3)]) (by kernel_rfl)) (by rfl) (fun s_ H_ C_ cl_ fp_ => g_tup (by rfl) (gs_cons (tgb 2 sc__law_is_group.nd) (gs_cons (tgb 3 sc__law_is_group.nd) (gs_nil))) (bdCons_len (bdCons_len (bdNil_len)))) (fun s_ H_ C_ cl_ fp_ => ts_nil) (fun s_ H_ C_ cl_ fp_ => f_cmp ok_lt (nb 2) (nb 3) (by rfl)))) (bs_nil))))) (s_nil))
theorem ok__law_do_meet (T : Txt K mg) : FnG P w K mg base CX0 1 T.a__law_do_meet T.d__law_do_meet ["offers", "hours"] (spFn ⟨K, mg⟩ 2 [] m__law_do_meet) := by
  refine fn_ok (as := [0, 1, 2, 3, 4, 5]) T.D__law_do_meet.F sc__law_do_meet rfl rfl (by decide) fun cdv A outer s H E hr => ?_
  exact s_cons (s_ret (v_of_f (f_bi (ca_all (by rfl)) (by rfl) T.m_all bt_all (bs_cons (b_of_f (f_lc (by rfl) sc__law_do_meet.nd (i_list (nb 0)) (blkOk_by (own := [(("begin" : Str), 2), (("end" : Str), 3), (("worth" : Str), 4)]) (by kernel_rfl)) (by rfl) (fun s_ H_ C_ cl_ fp_ => g_tup (by rfl) (gs_cons (tgb 2 sc__law_do_meet.nd) (gs_cons (tgb 3 sc__law_do_meet.nd) (gs_cons (tgb 4 sc__law_do_meet.nd) (gs_nil)))) (bdCons_len (bdCons_len (bdCons_len (bdNil_len))))) (fun s_ H_ C_ cl_ fp_ => ts_nil) (fun s_ H_ C_ cl_ fp_ => f_bi (ca_any (by rfl)) (by rfl) T.m_any bt_any (bs_cons (b_of_f (f_lc (by rfl) sc__law_do_meet.nd (i_list (nb 1)) (blkOk_by (own := [(("hour" : Str), 5)]) (by kernel_rfl)) (by rfl) (fun s_ H_ C_ cl_ fp_ => tgb 5 sc__law_do_meet.nd) (fun s_ H_ C_ cl_ fp_ => ts_nil) (fun s_ H_ C_ cl_ fp_ => f_chain (nb 2) (.more ok_le (nb 5) (.one ok_lt (nb 3)))))) (bs_nil))))) (bs_nil))))) (s_nil)
theorem ok__law_is_right (T : Txt K mg) : FnG P w K mg base CX0 3 T.a__law_is_right T.d__law_is_right ["offers", "thing"] (spFn ⟨K, mg⟩ 2 [] m__law_is_right) := by
  refine fn_ok (as := [0, 1, 2, 3, 4, 5, 6, 7]) T.D__law_is_right.F sc__law_is_right rfl rfl (by decide) fun cdv A outer s H E hr => ?_
  exact s_cons (s_if (t_of_w (w_or (t_not (t_val (b_of_f (f_bi (ca_isi) (by rfl) T.m_isinstance bt_isinstance (bs_cons (nb 1) (bs_cons (b_of_f (f_tyName (by rfl) T.m_tuple bt_tuple)) (bs_nil))))))) (w_or (t_cmp (ok_ne hr.u64) (b_of_f (f_bi (ca_len) (by rfl) T.m_len bt_len (bs_cons (nb 1) (bs_nil)))) (b_of_f (f_int)) (by rfl)) (w_or1 (t_not (t_val (b_of_f (cf T.D__law_is_number (ok__law_is_number T) hr (bs_cons (b_ix hr.u64 (nb 1) (b_of_f (f_int))) (bs_cons (b_of_f (f_int)) (bs_cons (b_of_f (f_op ok_pow (b_of_f (f_int)) (b_of_f (f_int)))) (bs_nil)))) (esCons_len (esCons_len (esCons_len (esNil_len)))))))))))) (s_cons (s_ret (v_of_f (f_bl))) (s_nil)) (s_nil)) (s_cons (s_asg (v_of_f (nf 1)) (y_tup (by rfl) (ys_cons (tgv 2 sc__law_is_right.nd) (ys_cons (tgv 3 sc__law_is_right.nd) (ys_cons (tgv 4 sc__law_is_right.nd) (ys_nil)))) (bdCons_len (bdCons_len (bdCons_len (bdNil_len)))))) (s_cons (s_if (t_of_w (w_or (t_not (t_val (b_of_f (cf T.D__law_is_group (ok__law_is_group T) hr (bs_cons (nb 3) (bs_cons (b_of_f (f_bi (ca_len) (by rfl) T.m_len bt_len (bs_cons (nb 0) (bs_nil)))) (bs_nil))) (esCons_len (esCons_len (esNil_len))))))) (w_or (t_cmp (ok_ne hr.u64) (b_of_f (f_bi (ca_len) (by rfl) T.m_len bt_len (bs_cons (nb 3) (bs_nil)))) (nb 2) (by rfl)) (w_or1 (t_not (t_val (b_of_f (cf T.D__law_are_apart (ok__law_are_apart T) hr (bs_cons (nb 0) (bs_cons (nb 3) (bs_nil))) (esCons_len (esCons_len (esNil_len))))))))))) (s_cons (s_ret (v_of_f (f_bl))) (s_nil)) (s_nil)) (s_cons (s_if (t_of_w (w_or (t_not (t_val (b_of_f (f_bi (ca_isi) (by rfl) T.m_isinstance bt_isinstance (bs_cons (nb 4) (bs_cons (b_of_f (f_tyName (by rfl) T.m_tuple bt_tuple)) (bs_nil))))))) (w_or1 (t_not (t_val (b_of_f (f_bi (ca_all (by rfl)) (by rfl) T.m_all bt_all (bs_cons (b_of_f (f_lc (by rfl) sc__law_is_right.nd (i_list (nb 4)) (blkOk_by (own := [(("hour" : Str), 5)]) (by kernel_rfl)) (by rfl) (fun s_ H_ C_ cl_ fp_ => tgb 5 sc__law_is_right.nd) (fun s_ H_ C_ cl_ fp_ => ts_nil) (fun s_ H_ C_ cl_ fp_ => cf T.D__law_is_number (ok__law_is_number T) hr (bs_cons (nb 5) (bs_cons (b_of_f (f_un ok_neg (b_of_f (f_op ok_pow (b_of_f (f_int)) (b_of_f (f_int)))))) (bs_cons (b_of_f (f_op ok_pow (b_of_f (f_int)) (b_of_f (f_int)))) (bs_nil)))) (esCons_len (esCons_len (esCons_len (esNil_len))))))) (bs_nil))))))))) (s_cons (s_ret (v_of_f (f_bl))) (s_nil)) (s_nil)) (s_cons (s_if (t_not (t_val (b_of_f (f_bi (ca_all (by rfl)) (by rfl) T.m_all bt_all (bs_cons (b_of_f (f_lc (by rfl) sc__law_is_right.nd (i_zip (by rfl) T.m_zip (bs_cons (nb 4) (bs_cons (b_of_f (f_sl (nb 4) (p_some (b_of_f (f_int))) (p_none))) (bs_nil)))) (blkOk_by (own := [(("one" : Str), 6), (("other" : Str), 7)]) (by kernel_rfl)) (by rfl) (fun s_ H_ C_ cl_ fp_ => g_tup (by rfl) (gs_cons (tgb 6 sc__law_is_right.nd) (gs_cons (tgb 7 sc__law_is_right.nd) (gs_nil))) (bdCons_len (bdCons_len (bdNil_len)))) (fun s_ H_ C_ cl_ fp_ => ts_nil) (fun s_ H_ C_ cl_ fp_ => f_cmp ok_lt (nb 6) (nb 7) (by rfl)))) (bs_nil)))))) (s_cons (s_ret (v_of_f (f_bl))) (s_nil)) (s_nil)) (s_cons (s_ret (v_of_f (f_and (b_of_f (f_cmp (ok_eq hr.u64) (b_of_f (f_bi (ca_len) (by rfl) T.m_len bt_len (bs_cons (nb 4) (bs_nil)))) (nb 2) (by rfl))) (b_of_f (f_one (cf T.D__law_do_meet (ok__law_do_meet T) hr (bs_cons (nb 0) (bs_cons (nb 4) (bs_nil))) (esCons_len (esCons_len (esNil_len))))))))) (s_nil))))))
theorem ok__law_bent (T : Txt K mg) : FnG P w K mg base CX0 3 T.a__law_bent T.d__law_bent ["tape", "offers", "thing"] (spFn ⟨K, mg⟩ 3 [0] m__law_bent) := by
  refine fn_ok (as := [1, 2, 3, 4, 5, 6, 7, 8, 9, 10, 11]) T.D__law_bent.F sc__law_bent rfl rfl (by decide) fun cdv A outer s H E hr => ?_
  exact s_cons (s_asg (v_of_f (nf 2)) (y_tup (by rfl) (ys_cons (tgv 3 sc__law_bent.nd) (ys_cons (tgv 4 sc__law_bent.nd) (ys_cons (tgv 5 sc__law_bent.nd) (ys_nil)))) (bdCons_len (bdCons_len (bdCons_len (bdNil_len)))))) (s_cons (s_asg (v_tup (vs_cons (cv T.D__law_pick (ok__law_pick T) hr (al 0 (a_val (v_of_f (f_op ok_add (b_of_f (f_bi (ca_len) (by rfl) T.m_len bt_len (bs_cons (nb 5) (bs_nil)))) (b_of_f (f_int)))) (a_nil)))) (vs_cons (cv T.D__law_any (ok__law_any T) hr (al 0 (a_val (v_lst (vs_cons (cv T.D__law_pick (ok__law_pick T) hr (al 0 (a_val (v_of_f (f_int)) (a_nil)))) (vs_cons (v_of_f (f_un ok_neg (b_of_f (f_int)))) (vs_cons (v_of_f (f_non)) (vs_cons (v_of_f (f_bl)) (vs_cons (v_of_f (f_str)) (vs_cons (v_of_f (f_op ok_pow (b_of_f (f_int)) (b_of_f (f_int)))) (vs_nil))))))) (vsCons_len (vsCons_len (vsCons_len (vsCons_len (vsCons_len (vsCons_len (vsNil_len)))))))) (a_nil)))) (vs_nil))) (vsCons_len (vsCons_len (vsNil_len)))) (y_tup (by rfl) (ys_cons (tgv 6 sc__law_bent.nd) (ys_cons (tgv 7 sc__law_bent.nd) (ys_nil))) (bdCons_len (bdCons_len (bdNil_len))))) (s_cons (st1 8 sc__law_bent.nd (v_ty (ca_tup) (by rfl) T.m_tuple bt_tuple (vs_cons (v_bi (ca_sorted (by rfl) hr.u64) (by rfl) T.m_sorted bt_sorted (vs_cons (v_op ok_add (v_of_f (f_lc (by rfl) sc__law_bent.nd (i_enum (by rfl) T.m_enumerate (bs_cons (nb 5) (bs_nil))) (blkOk_by (own := [(("at_one" : Str), 10), (("one" : Str), 11)]) (by kernel_rfl)) (by rfl) (fun s_ H_ C_ cl_ fp_ => g_tup (by rfl) (gs_cons (tgb 10 sc__law_bent.nd) (gs_cons (tgb 11 sc__law_bent.nd) (gs_nil))) (bdCons_len (bdCons_len (bdNil_len)))) (fun s_ H_ C_ cl_ fp_ => ts_one (t_cmp (ok_ne hr.u64) (nb 10) (nb 6) (by rfl))) (fun s_ H_ C_ cl_ fp_ => nf 11))) (v_lst (vs_cons (cv T.D__law_pick (ok__law_pick T) hr (al 0 (a_val (v_of_f (f_int)) (a_nil)))) (vs_nil)) (vsCons_len (vsNil_len)))) (vs_nil))) (vs_nil)))) (s_cons (st1 9 sc__law_bent.nd (v_of_f (f_lst (fs_cons (f_tup (fs_cons (nf 3) (fs_cons (nf 4) (fs_cons (f_op ok_add (b_of_f (f_op ok_add (b_of_f (f_sl (nb 5) (p_none) (p_some (nb 6)))) (b_of_f (f_tup (fs_cons (nf 7) (fs_nil)) (esCons_len (esNil_len)))))) (b_of_f (f_sl (nb 5) (p_some (b_of_f (f_op ok_add (nb 6) (b_of_f (f_int))))) (p_none)))) (fs_nil)))) (esCons_len (esCons_len (esCons_len (esNil_len))))) (fs_cons (f_tup (fs_cons (nf 3) (fs_cons (nf 4) (fs_cons (nf 8) (fs_nil)))) (esCons_len (esCons_len (esCons_len (esNil_len))))) (fs_cons (f_tup (fs_cons (nf 3) (fs_cons (nf 4) (fs_cons (nf 8) (fs_nil)))) (esCons_len (esCons_len (esCons_len (esNil_len))))) (fs_nil)))) (esCons_len (esCons_len (esCons_len (esNil_len))))))) (s_cons (st1 9 sc__law_bent.nd (v_op ok_add (v_fz (nm 9)) (v_fz (v_of_f (f_lst (fs_cons (f_tup (fs_cons (nf 3) (fs_cons (f_op ok_add (b_of_f (f_op ok_add (b_of_f (f_sl (nb 4) (p_none) (p_some (nb 6)))) (b_of_f (f_tup (fs_cons (nf 7) (fs_nil)) (esCons_len (esNil_len)))))) (b_of_f (f_sl (nb 4) (p_some (b_of_f (f_op ok_add (nb 6) (b_of_f (f_int))))) (p_none)))) (fs_cons (nf 5) (fs_nil)))) (esCons_len (esCons_len (esCons_len (esNil_len))))) (fs_cons (f_tup (fs_cons (nf 3) (fs_cons (f_sl (nb 4) (p_some (b_of_f (f_int))) (p_none)) (fs_cons (nf 5) (fs_nil)))) (esCons_len (esCons_len (esCons_len (esNil_len))))) (fs_nil))) (esCons_len (esCons_len (esNil_len)))))))) (s_cons (s_expr (v_bm (i := 9) PySem.F.plainAttrs_list PySem.F.slot_list_append PySem.F.type_list_append mu_append (by rfl) (by first | exact Or.inl rfl | exact Or.inr (Or.inl rfl) | exact Or.inr (Or.inr rfl)) (vs_cons (v_of_f (f_tup (fs_cons (nf 3) (fs_cons (nf 4) (fs_cons (f_sl (nb 5) (p_some (b_of_f (f_int))) (p_none)) (fs_nil)))) (esCons_len (esCons_len (esCons_len (esNil_len)))))) (vs_nil)))) (s_cons (st1 9 sc__law_bent.nd (v_op ok_add (v_fz (nm 9)) (v_fz (v_of_f (f_lst (fs_cons (f_tup (fs_cons (f_op ok_sub (nb 3) (b_of_f (f_int))) (fs_cons (f_sl (nb 4) (p_some (b_of_f (f_int))) (p_none)) (fs_cons (f_sl (nb 5) (p_some (b_of_f (f_int))) (p_none)) (fs_nil)))) (esCons_len (esCons_len (esCons_len (esNil_len))))) (fs_cons (f_tup (fs_cons (f_op ok_add (nb 3) (b_of_f (f_int))) (fs_cons (nf 4) (fs_cons (nf 5) (fs_nil)))) (esCons_len (esCons_len (esCons_len (esNil_len))))) (fs_cons (f_tup (fs_cons (f_bl) (fs_cons (nf 4) (fs_cons (nf 5) (fs_nil)))) (esCons_len (esCons_len (esCons_len (esNil_len))))) (fs_nil)))) (esCons_len (esCons_len (esCons_len (esNil_len))))))))) (s_cons (s_expr (v_bm (i := 9) PySem.F.plainAttrs_list PySem.F.slot_list_append PySem.F.type_list_append mu_append (by rfl) (by first | exact Or.inl rfl | exact Or.inr (Or.inl rfl) | exact Or.inr (Or.inr rfl)) (vs_cons (v_of_f (f_tup (fs_cons (nf 3) (fs_cons (f_ty (ca_list (by rfl)) (by rfl) T.m_list bt_list (bs_cons (nb 4) (bs_nil))) (fs_cons (nf 5) (fs_nil)))) (esCons_len (esCons_len (esCons_len (esNil_len)))))) (vs_nil)))) (s_cons (st1 9 sc__law_bent.nd (v_op ok_add (v_fz (nm 9)) (v_fz (v_of_f (f_lst (fs_cons (f_tup (fs_cons (nf 3) (fs_cons (nf 4) (fs_cons (f_ty (ca_list (by rfl)) (by rfl) T.m_list bt_list (bs_cons (nb 5) (bs_nil))) (fs_nil)))) (esCons_len (esCons_len (esCons_len (esNil_len))))) (fs_cons (f_tup (fs_cons (nf 3) (fs_cons (f_rev (nb 4)) (fs_cons (nf 5) (fs_nil)))) (esCons_len (esCons_len (esCons_len (esNil_len))))) (fs_cons (f_tup (fs_cons (nf 3) (fs_cons (nf 4) (fs_cons (f_rev (nb 5)) (fs_nil)))) (esCons_len (esCons_len (esCons_len (esNil_len))))) (fs_nil)))) (esCons_len (esCons_len (esCons_len (esNil_len))))))))) (s_cons (s_expr (v_bm (i := 9) PySem.F.plainAttrs_list PySem.F.slot_list_append PySem.F.type_list_append mu_append (by rfl) (by first | exact Or.inl rfl | exact Or.inr (Or.inl rfl) | exact Or.inr (Or.inr rfl)) (vs_cons (v_of_f (f_tup (fs_cons (nf 3) (fs_cons (nf 5) (fs_cons (nf 4) (fs_nil)))) (esCons_len (esCons_len (esCons_len (esNil_len)))))) (vs_nil)))) (s_cons (st1 9 sc__law_bent.nd (v_op ok_add (v_fz (nm 9)) (v_fz (v_lst (vs_cons (v_tup (vs_cons (v_of_f (nf 3)) (vs_cons (cv T.D__law_any (ok__law_any T) hr (al 0 (a_val (v_of_f (cf T.D__law_groups (ok__law_groups T) hr (bs_cons (b_of_f (f_rgL (by rfl) (by rfl) T.m_list (by rfl) T.m_range (b_of_f (f_bi (ca_len) (by rfl) T.m_len bt_len (bs_cons (nb 1) (bs_nil)))))) (bs_nil)) (esCons_len (esNil_len)))) (a_nil)))) (vs_cons (v_of_f (nf 5)) (vs_nil)))) (vsCons_len (vsCons_len (vsCons_len (vsNil_len))))) (vs_cons (v_of_f (f_lst (fs_cons (nf 3) (fs_cons (nf 4) (fs_cons (nf 5) (fs_nil)))) (esCons_len (esCons_len (esCons_len (esNil_len)))))) (vs_nil))) (vsCons_len (vsCons_len (vsNil_len))))))) (s_cons (st1 9 sc__law_bent.nd (v_op ok_add (v_fz (nm 9)) (v_fz (v_of_f (f_lst (fs_cons (f_tup (fs_cons (nf 3) (fs_cons (nf 4) (fs_nil))) (esCons_len (esCons_len (esNil_len)))) (fs_cons (f_non) (fs_nil))) (esCons_len (esCons_len (esNil_len)))))))) (s_cons (st1 9 sc__law_bent.nd (v_op ok_add (v_fz (nm 9)) (v_fz (v_of_f (f_lst (fs_cons (f_op ok_add (nb 2) (b_of_f (f_tup (fs_cons (f_int) (fs_nil)) (esCons_len (esNil_len))))) (fs_cons (f_emp) (fs_cons (f_int) (fs_cons (f_tup (fs_cons (nf 3) (fs_cons (nf 4) (fs_cons (f_non) (fs_nil)))) (esCons_len (esCons_len (esCons_len (esNil_len))))) (fs_cons (f_tup (fs_cons (nf 3) (fs_cons (f_non) (fs_cons (nf 5) (fs_nil)))) (esCons_len (esCons_len (esCons_len (esNil_len))))) (fs_cons (f_tup (fs_cons (f_ty (ca_str) (by rfl) T.m_str bt_str (bs_cons (nb 3) (bs_nil))) (fs_cons (nf 4) (fs_cons (nf 5) (fs_nil)))) (esCons_len (esCons_len (esCons_len (esNil_len))))) (fs_nil))))))) (esCons_len (esCons_len (esCons_len (esCons_len (esCons_len (esCons_len (esNil_len)))))))))))) (s_cons (s_ret (cv T.D__law_any (ok__law_any T) hr (al 0 (a_val (nm 9) (a_nil))))) (s_nil))))))))))))))
theorem ok__law_least_end (T : Txt K mg) : FnG P w K mg base CX0 2 T.a__law_least_end T.d__law_least_end ["offers", "group"] (spFn ⟨K, mg⟩ 2 [] m__law_least_end) := by
  refine fn_ok (as := [0, 1, 2, 3, 4, 5]) T.D__law_least_end.F sc__law_least_end rfl rfl (by decide) fun cdv A outer s H E hr => ?_
  exact s_cons (s_setLc (by rfl) sc__law_least_end.nd (by rfl) (by rfl) (by decide) (by rfl) (i_list (b_of_f (cf T.D__law_groups (ok__law_groups T) hr (bs_cons (nb 1) (bs_nil)) (esCons_len (esNil_len))))) (blkOk_by (own := [(("one" : Str), 4)]) (by kernel_rfl)) (by rfl) (fun s_ H_ C_ cl_ fp_ => tgb 4 sc__law_least_end.nd) (fun s_ H_ C_ cl_ fp_ => ts_one (t_val (b_of_f (cf T.D__law_are_apart (ok__law_are_apart T) hr (bs_cons (nb 0) (bs_cons (nb 4) (bs_nil))) (esCons_len (esCons_len (esNil_len))))))) (fun s_ H_ C_ cl_ fp_ => nf 4)) (s_cons (st1 3 sc__law_least_end.nd (v_of_f (f_bi (ca_max (by rfl)) (by rfl) T.m_max bt_max (bs_cons (b_of_f (f_lc (by rfl) sc__law_least_end.nd (i_list (nb 2)) (blkOk_by (own := [(("one" : Str), 4)]) (by kernel_rfl)) (by rfl) (fun s_ H_ C_ cl_ fp_ => tgb 4 sc__law_least_end.nd) (fun s_ H_ C_ cl_ fp_ => ts_nil) (fun s_ H_ C_ cl_ fp_ => f_bi (ca_len) (by rfl) T.m_len bt_len (bs_cons (nb 4) (bs_nil))))) (bs_nil))))) (s_cons (s_ret (v_of_f (f_bi (ca_min (by rfl)) (by rfl) T.m_min bt_min (bs_cons (b_of_f (f_lc (by rfl) sc__law_least_end.nd (i_list (nb 2)) (blkOk_by (own := [(("one" : Str), 4)]) (by kernel_rfl)) (by rfl) (fun s_ H_ C_ cl_ fp_ => tgb 4 sc__law_least_end.nd) (fun s_ H_ C_ cl_ fp_ => ts_one (t_cmp (ok_eq hr.u64) (b_of_f (f_bi (ca_len) (by rfl) T.m_len bt_len (bs_cons (nb 4) (bs_nil)))) (nb 3) (by rfl))) (fun s_ H_ C_ cl_ fp_ => f_bi (ca_max (by rfl)) (by rfl) T.m_max bt_max (bs_cons (b_of_f (f_op ok_add (b_of_f (f_lst (fs_cons (f_int) (fs_nil)) (esCons_len (esNil_len)))) (b_of_f (f_lc (by rfl) sc__law_least_end.nd (i_list (nb 4)) (blkOk_by (own := [(("number" : Str), 5)]) (by kernel_rfl)) (by rfl) (fun s_ H_ C_ cl_ fp_ => tgb 5 sc__law_least_end.nd) (fun s_ H_ C_ cl_ fp_ => ts_nil) (fun s_ H_ C_ cl_ fp_ => f_ix (ok_ixF hr.u64) (b_ix hr.u64 (nb 0) (nb 5)) (b_of_f (f_int))))))) (bs_nil))))) (bs_nil))))) (s_nil)))
theorem ok__law_in_order (T : Txt K mg) : FnG P w K mg base CX0 2 T.a__law_in_order T.d__law_in_order ["offers"] (spFn ⟨K, mg⟩ 1 [] m__law_in_order) := by
  refine fn_ok (as := [0, 1, 2]) T.D__law_in_order.F sc__law_in_order rfl rfl (by decide) fun cdv A outer s H E hr => ?_
  exact s_cons (st1 1 sc__law_in_order.nd (v_of_f (f_tup (fs_nil) (esNil_len)))) (s_cons (s_for PassesOwn.never (by rfl) (iv_of_f (if_rng1 (by rfl) T.m_range (bs_cons (b_of_f (f_bi (ca_len) (by rfl) T.m_len bt_len (bs_cons (nb 0) (bs_nil)))) (bs_nil)))) (tgo 2 sc__law_in_order.nd) (s_cons (s_if (t_val (b_of_f (cf T.D__law_are_apart (ok__law_are_apart T) hr (bs_cons (nb 0) (bs_cons (b_of_f (f_op ok_add (nb 1) (b_of_f (f_tup (fs_cons (nf 2) (fs_nil)) (esCons_len (esNil_len)))))) (bs_nil))) (esCons_len (esCons_len (esNil_len)))))) (s_cons (st1 1 sc__law_in_order.nd (v_of_f (f_op ok_add (nb 1) (b_of_f (f_tup (fs_cons (nf 2) (fs_nil)) (esCons_len (esNil_len))))))) (s_nil)) (s_nil)) (s_nil))) (s_cons (s_ret (nm 1)) (s_nil)))
theorem ok__law_are_ends_right (T : Txt K mg) : FnG P w K mg base CX0 5 T.a__law_are_ends_right T.d__law_are_ends_right ["tape", "offers"] (spFn ⟨K, mg⟩ 2 [0] m__law_are_ends_right) := by
  refine fn_ok (as := [1, 2, 3, 4]) T.D__law_are_ends_right.F sc__law_are_ends_right rfl rfl (by decide) fun cdv A outer s H E hr => ?_
  exact s_cons (s_for PassesOwn.never (by rfl) (iv_of_f (if_rng1 (by rfl) T.m_range (bs_cons (b_of_f (f_int)) (bs_nil)))) (tgo 2 sc__law_are_ends_right.nd) (s_cons (st1 3 sc__law_are_ends_right.nd (cv T.D__law_any (ok__law_any T) hr (al 0 (a_val (v_of_f (cf T.D__law_groups (ok__law_groups T) hr (bs_cons (b_of_f (f_rgL (by rfl) (by rfl) T.m_list (by rfl) T.m_range (b_of_f (f_bi (ca_len) (by rfl) T.m_len bt_len (bs_cons (nb 1) (bs_nil)))))) (bs_nil)) (esCons_len (esNil_len)))) (a_nil))))) (s_cons (s_if (t_cmp (ok_ne hr.u64) (b_of_f (f_bi (ca_repr hr.gd hr.u64) (by rfl) T.m_repr bt_repr (bs_cons (b_of_f (cf T.D_least_end (ok_least_end T) hr (bs_cons (nb 1) (bs_cons (nb 3) (bs_nil))) (esCons_len (esCons_len (esNil_len))))) (bs_nil)))) (b_of_f (f_bi (ca_repr hr.gd hr.u64) (by rfl) T.m_repr bt_repr (bs_cons (b_of_f (cf T.D__law_least_end (ok__law_least_end T) hr (bs_cons (nb 1) (bs_cons (nb 3) (bs_nil))) (esCons_len (esCons_len (esNil_len))))) (bs_nil)))) (by rfl)) (s_cons (s_ret (v_of_f (f_bl))) (s_nil)) (s_nil)) (s_nil)))) (s_cons (st1 4 sc__law_are_ends_right.nd (cv T.D__law_any (ok__law_any T) hr (al 0 (a_val (v_of_f (f_lst (fs_cons (f_non) (fs_cons (f_lst (fs_cons (f_int) (fs_nil)) (esCons_len (esNil_len))) (fs_cons (f_tup (fs_cons (f_bi (ca_len) (by rfl) T.m_len bt_len (bs_cons (nb 1) (bs_nil))) (fs_nil)) (esCons_len (esNil_len))) (fs_cons (f_tup (fs_cons (f_un ok_neg (b_of_f (f_int))) (fs_nil)) (esCons_len (esNil_len))) (fs_cons (f_tup (fs_cons (f_int) (fs_cons (f_int) (fs_nil))) (esCons_len (esCons_len (esNil_len)))) (fs_cons (f_tup (fs_cons (f_int) (fs_cons (f_int) (fs_nil))) (esCons_len (esCons_len (esNil_len)))) (fs_cons (f_tup (fs_cons (f_bl) (fs_nil)) (esCons_len (esNil_len))) (fs_cons (f_str) (fs_cons (f_int) (fs_cons (f_emp) (fs_cons (f_tup (fs_cons (f_tup (fs_cons (f_int) (fs_nil)) (esCons_len (esNil_len))) (fs_nil)) (esCons_len (esNil_len))) (fs_cons (f_tup (fs_cons (f_str) (fs_nil)) (esCons_len (esNil_len))) (fs_nil))))))))))))) (esCons_len (esCons_len (esCons_len (esCons_len (esCons_len (esCons_len (esCons_len (esCons_len (esCons_len (esCons_len (esCons_len (esCons_len (esNil_len))))))))))))))) (a_nil))))) (s_cons (s_ret (v_of_f (f_cmp ok_isN (b_of_f (cf T.D_least_end (ok_least_end T) hr (bs_cons (nb 1) (bs_cons (nb 4) (bs_nil))) (esCons_len (esCons_len (esNil_len))))) (b_of_f (f_non)) (by rfl)))) (s_nil)))
theorem ok__law_are_right (T : Txt K mg) : FnG P w K mg base CX0 7 T.a__law_are_right T.d__law_are_right ["tape", "offers"] (spFn ⟨K, mg⟩ 2 [0] m__law_are_right) := by
  refine fn_ok (as := [1, 2, 3, 4, 5, 6, 7, 8, 9, 10, 11, 12, 13, 14, 15, 16, 17, 18]) T.D__law_are_right.F sc__law_are_right rfl rfl (by decide) fun cdv A outer s H E hr => ?_
  exact s_cons (s_par (by rfl) sc__law_are_right.nd (by rfl) (by rfl) (by decide) (by decide) (by decide) (by rfl) (by rfl) (vs_cons (v_of_f (cf T.D_most_apart (ok_most_apart T) hr (bs_cons (nb 1) (bs_nil)) (esCons_len (esNil_len)))) (vs_cons (v_of_f (cf T.D__law_groups (ok__law_groups T) hr (bs_cons (b_of_f (f_rgL (by rfl) (by rfl) T.m_list (by rfl) T.m_range (b_of_f (f_bi (ca_len) (by rfl) T.m_len bt_len (bs_cons (nb 1) (bs_nil)))))) (bs_nil)) (esCons_len (esNil_len)))) (vs_nil))) (by rfl)) (s_cons (st1 4 sc__law_are_right.nd (v_of_f (f_bi (ca_max (by rfl)) (by rfl) T.m_max bt_max (bs_cons (b_of_f (f_lc (by rfl) sc__law_are_right.nd (i_list (nb 3)) (blkOk_by (own := [(("group" : Str), 15)]) (by kernel_rfl)) (by rfl) (fun s_ H_ C_ cl_ fp_ => tgb 15 sc__law_are_right.nd) (fun s_ H_ C_ cl_ fp_ => ts_one (t_val (b_of_f (cf T.D__law_are_apart (ok__law_are_apart T) hr (bs_cons (nb 1) (bs_cons (nb 15) (bs_nil))) (esCons_len (esCons_len (esNil_len))))))) (fun s_ H_ C_ cl_ fp_ => f_bi (ca_len) (by rfl) T.m_len bt_len (bs_cons (nb 15) (bs_nil))))) (bs_nil))))) (s_cons (s_if (t_of_w (w_or (t_not (t_val (b_of_f (cf T.D__law_is_right (ok__law_is_right T) hr (bs_cons (nb 1) (bs_cons (nb 2) (bs_nil))) (esCons_len (esCons_len (esNil_len))))))) (w_or1 (t_cmp (ok_ne hr.u64) (b_ix hr.u64 (nb 2) (b_of_f (f_int))) (nb 4) (by rfl))))) (s_cons (s_ret (v_of_f (f_bl))) (s_nil)) (s_nil)) (s_cons (s_for PassesOwn.never (by rfl) (iv_of_f (if_rng1 (by rfl) T.m_range (bs_cons (b_of_f (f_int)) (bs_nil)))) (tgo 5 sc__law_are_right.nd) (s_cons (st1 6 sc__law_are_right.nd (v_if (tv_of_b (t_cmp (ok_eq hr.u64) (nb 5) (b_of_f (f_int)) (by rfl))) (v_of_f (nf 2)) (cv T.D__law_bent (ok__law_bent T) hr (al 0 (a_val (v_of_f (nf 1)) (a_val (v_of_f (nf 2)) (a_nil))))))) (s_cons (s_par (by rfl) sc__law_are_right.nd (by rfl) (by rfl) (by decide) (by decide) (by decide) (by rfl) (by rfl) (vs_cons (v_of_f (f_bi (ca_repr hr.gd hr.u64) (by rfl) T.m_repr bt_repr (bs_cons (nb 6) (bs_nil)))) (vs_cons (v_of_f (cf T.D__law_is_right (ok__law_is_right T) hr (bs_cons (nb 1) (bs_cons (nb 6) (bs_nil))) (esCons_len (esCons_len (esNil_len))))) (vs_nil))) (by rfl)) (s_cons (s_if (t_of_w (w_or (t_cmp (ok_ne hr.u64) (b_of_f (f_bi (ca_repr hr.gd hr.u64) (by rfl) T.m_repr bt_repr (bs_cons (b_of_f (cf T.D_is_most_apart (ok_is_most_apart T) hr (bs_cons (nb 1) (bs_cons (nb 6) (bs_nil))) (esCons_len (esCons_len (esNil_len))))) (bs_nil)))) (b_of_f (f_bi (ca_repr hr.gd hr.u64) (by rfl) T.m_repr bt_repr (bs_cons (nb 8) (bs_nil)))) (by rfl)) (w_or1 (t_cmp (ok_ne hr.u64) (b_of_f (f_bi (ca_repr hr.gd hr.u64) (by rfl) T.m_repr bt_repr (bs_cons (nb 6) (bs_nil)))) (nb 7) (by rfl))))) (s_cons (s_ret (v_of_f (f_bl))) (s_nil)) (s_nil)) (s_cons (s_if (t_of_w (w_and (t_val (nb 8)) (w_and1 (t_cmp (ok_ne hr.u64) (b_ix hr.u64 (nb 6) (b_of_f (f_int))) (nb 4) (by rfl))))) (s_cons (s_ret (v_of_f (f_bl))) (s_nil)) (s_nil)) (s_nil)))))) (s_cons (st1 9 sc__law_are_right.nd (v_of_f (cf T.D_taken_in_order (ok_taken_in_order T) hr (bs_cons (nb 1) (bs_nil)) (esCons_len (esNil_len))))) (s_cons (s_if (t_of_w (w_or (t_cmp (ok_ne hr.u64) (b_of_f (f_bi (ca_repr hr.gd hr.u64) (by rfl) T.m_repr bt_repr (bs_cons (nb 9) (bs_nil)))) (b_of_f (f_bi (ca_repr hr.gd hr.u64) (by rfl) T.m_repr bt_repr (bs_cons (b_of_f (cf T.D__law_in_order (ok__law_in_order T) hr (bs_cons (nb 1) (bs_nil)) (esCons_len (esNil_len)))) (bs_nil)))) (by rfl)) (w_or1 (t_cmp ok_gt (b_of_f (f_bi (ca_len) (by rfl) T.m_len bt_len (bs_cons (nb 9) (bs_nil)))) (nb 4) (by rfl))))) (s_cons (s_ret (v_of_f (f_bl))) (s_nil)) (s_nil)) (s_cons (st1 10 sc__law_are_right.nd (v_of_f (f_ty (ca_tup) (by rfl) T.m_tuple bt_tuple (bs_cons (b_of_f (f_lc (by rfl) sc__law_are_right.nd (i_list (nb 1)) (blkOk_by (own := [(("begin" : Str), 16), (("end" : Str), 17), (("worth" : Str), 18)]) (by kernel_rfl)) (by rfl) (fun s_ H_ C_ cl_ fp_ => g_tup (by rfl) (gs_cons (tgb 16 sc__law_are_right.nd) (gs_cons (tgb 17 sc__law_are_right.nd) (gs_cons (tgb 18 sc__law_are_right.nd) (gs_nil)))) (bdCons_len (bdCons_len (bdCons_len (bdNil_len))))) (fun s_ H_ C_ cl_ fp_ => ts_nil) (fun s_ H_ C_ cl_ fp_ => f_tup (fs_cons (nf 16) (fs_cons (nf 17) (fs_cons (f_int) (fs_nil)))) (esCons_len (esCons_len (esCons_len (esNil_len))))))) (bs_nil))))) (s_cons (s_if (t_of_w (w_or (t_cmp (ok_ne hr.u64) (b_of_f (f_ixN hr.u64 (cf T.D_dearest (ok_dearest T) hr (bs_cons (nb 10) (bs_cons (b_of_f (f_int)) (bs_nil))) (esCons_len (esCons_len (esNil_len)))) (b_of_f (f_int)))) (nb 4) (by rfl)) (w_or1 (t_cmp ok_notB (b_of_f (cf T.D_does_fit (ok_does_fit T) hr (bs_cons (nb 1) (bs_cons (b_of_f (f_int)) (bs_cons (b_ix hr.u64 (nb 2) (b_of_f (f_int))) (bs_nil)))) (esCons_len (esCons_len (esCons_len (esNil_len)))))) (b_of_f (f_bl)) (by rfl))))) (s_cons (s_ret (v_of_f (f_bl))) (s_nil)) (s_nil)) (s_cons (st1 11 sc__law_are_right.nd (v_of_f (f_ixN hr.u64 (cf T.D_fewest_benches (ok_fewest_benches T) hr (bs_cons (nb 1) (bs_nil)) (esCons_len (esNil_len))) (b_of_f (f_int))))) (s_cons (s_if (t_of_w (w_and (t_cmp ok_gt (nb 11) (b_of_f (f_int)) (by rfl)) (w_and1 (t_cmp ok_notB (b_of_f (cf T.D_does_fit (ok_does_fit T) hr (bs_cons (nb 1) (bs_cons (nb 11) (bs_cons (b_of_f (f_rgT (by rfl) (by rfl) T.m_tuple (by rfl) T.m_range (b_of_f (f_bi (ca_len) (by rfl) T.m_len bt_len (bs_cons (nb 1) (bs_nil)))))) (bs_nil)))) (esCons_len (esCons_len (esCons_len (esNil_len)))))) (b_of_f (f_bl)) (by rfl))))) (s_cons (s_ret (v_of_f (f_bl))) (s_nil)) (s_nil)) (s_cons (st1 12 sc__law_are_right.nd (cv T.D__law_pick (ok__law_pick T) hr (al 0 (a_val (v_of_f (f_int)) (a_nil))))) (s_cons (st1 13 sc__law_are_right.nd (v_of_f (f_ty (ca_tup) (by rfl) T.m_tuple bt_tuple (bs_cons (b_of_f (f_lc (by rfl) sc__law_are_right.nd (i_list (nb 1)) (blkOk_by (own := [(("begin" : Str), 16), (("end" : Str), 17), (("worth" : Str), 18)]) (by kernel_rfl)) (by rfl) (fun s_ H_ C_ cl_ fp_ => g_tup (by rfl) (gs_cons (tgb 16 sc__law_are_right.nd) (gs_cons (tgb 17 sc__law_are_right.nd) (gs_cons (tgb 18 sc__law_are_right.nd) (gs_nil)))) (bdCons_len (bdCons_len (bdCons_len (bdNil_len))))) (fun s_ H_ C_ cl_ fp_ => ts_nil) (fun s_ H_ C_ cl_ fp_ => f_tup (fs_cons (f_op ok_add (nb 16) (nb 12)) (fs_cons (f_op ok_add (nb 17) (nb 12)) (fs_cons (nf 18) (fs_nil)))) (esCons_len (esCons_len (esCons_len (esNil_len))))))) (bs_nil))))) (s_cons (st1 14 sc__law_are_right.nd (v_ty (ca_tup) (by rfl) T.m_tuple bt_tuple (vs_cons (cv T.D__law_mixed (ok__law_mixed T) hr (al 0 (a_val (v_of_f (f_ty (ca_list (by rfl)) (by rfl) T.m_list bt_list (bs_cons (nb 1) (bs_nil)))) (a_nil)))) (vs_nil)))) (s_cons (s_if (t_of_w (w_or (t_cmp (ok_ne hr.u64) (b_of_f (f_lst (fs_cons (f_ixN hr.u64 (cf T.D_most_apart (ok_most_apart T) hr (bs_cons (nb 13) (bs_nil)) (esCons_len (esNil_len))) (b_of_f (f_int))) (fs_cons (f_ixN hr.u64 (cf T.D_most_apart (ok_most_apart T) hr (bs_cons (nb 14) (bs_nil)) (esCons_len (esNil_len))) (b_of_f (f_int))) (fs_nil))) (esCons_len (esCons_len (esNil_len))))) (b_of_f (f_lst (fs_cons (nf 4) (fs_cons (nf 4) (fs_nil))) (esCons_len (esCons_len (esNil_len))))) (by rfl)) (w_or1 (t_cmp (ok_ne hr.u64) (b_of_f (cf T.D_taken_in_order (ok_taken_in_order T) hr (bs_cons (nb 13) (bs_nil)) (esCons_len (esNil_len)))) (nb 9) (by rfl))))) (s_cons (s_ret (v_of_f (f_bl))) (s_nil)) (s_nil)) (s_cons (s_ret (v_of_f (f_cmp ok_ge (b_of_f (f_op ok_mul (nb 4) (nb 11))) (b_of_f (f_bi (ca_len) (by rfl) T.m_len bt_len (bs_cons (nb 1) (bs_nil)))) (by rfl)))) (s_nil)))))))))))))))
theorem ok_law (T : Txt K mg) : FnG P w K mg base CX0 8 T.a_law T.d_law ["script"] (spFn ⟨K, mg⟩ 1 [] m_law) := by
  refine fn_ok (as := [0, 1, 2, 3, 4]) T.D_law.F sc_law rfl rfl (by decide) fun cdv A outer s H E hr => ?_
  exact s_cons (st1 1 sc_law.nd (cv T.D__law_tape (ok__law_tape T) hr (a_val (v_of_f (nf 0)) (a_nil)))) (s_cons (st1 2 sc_law.nd (v_of_f (f_tup (fs_cons (f_tup (fs_cons (f_int) (fs_cons (f_int) (fs_cons (f_int) (fs_nil)))) (esCons_len (esCons_len (esCons_len (esNil_len))))) (fs_cons (f_tup (fs_cons (f_int) (fs_cons (f_int) (fs_cons (f_int) (fs_nil)))) (esCons_len (esCons_len (esCons_len (esNil_len))))) (fs_cons (f_tup (fs_cons (f_int) (fs_cons (f_int) (fs_cons (f_int) (fs_nil)))) (esCons_len (esCons_len (esCons_len (esNil_len))))) (fs_cons (f_tup (fs_cons (f_int) (fs_cons (f_int) (fs_cons (f_int) (fs_nil)))) (esCons_len (esCons_len (esCons_len (esNil_len))))) (fs_cons (f_tup (fs_cons (f_int) (fs_cons (f_int) (fs_cons (f_int) (fs_nil)))) (esCons_len (esCons_len (esCons_len (esNil_len))))) (fs_nil)))))) (esCons_len (esCons_len (esCons_len (esCons_len (esCons_len (esNil_len))))))))) (s_cons (st1 3 sc_law.nd (v_of_f (f_lst (fs_cons (f_ixN hr.u64 (cf T.D_most_apart (ok_most_apart T) hr (bs_cons (nb 2) (bs_nil)) (esCons_len (esNil_len))) (b_of_f (f_int))) (fs_cons (cf T.D_taken_in_order (ok_taken_in_order T) hr (bs_cons (nb 2) (bs_nil)) (esCons_len (esNil_len))) (fs_cons (cf T.D_least_end (ok_least_end T) hr (bs_cons (nb 2) (bs_cons (b_of_f (f_tup (fs_cons (f_int) (fs_cons (f_int) (fs_cons (f_int) (fs_nil)))) (esCons_len (esCons_len (esCons_len (esNil_len)))))) (bs_nil))) (esCons_len (esCons_len (esNil_len)))) (fs_cons (cf T.D_least_end (ok_least_end T) hr (bs_cons (nb 2) (bs_cons (b_of_f (f_tup (fs_nil) (esNil_len))) (bs_nil))) (esCons_len (esCons_len (esNil_len)))) (fs_nil))))) (esCons_len (esCons_len (esCons_len (esCons_len (esNil_len)))))))) (s_cons (s_expr (v_bm (i := 3) PySem.F.plainAttrs_list PySem.F.slot_list_append PySem.F.type_list_append mu_append (by rfl) (by first | exact Or.inl rfl | exact Or.inr (Or.inl rfl) | exact Or.inr (Or.inr rfl)) (vs_cons (v_of_f (cf T.D_most_apart (ok_most_apart T) hr (bs_cons (b_of_f (f_tup (fs_nil) (esNil_len))) (bs_nil)) (esCons_len (esNil_len)))) (vs_nil)))) (s_cons (s_if (t_of_w (w_or (t_cmp (ok_ne hr.u64) (nb 3) (b_of_f (f_lst (fs_cons (f_int) (fs_cons (f_tup (fs_cons (f_int) (fs_nil)) (esCons_len (esNil_len))) (fs_cons (f_int) (fs_cons (f_int) (fs_cons (f_tup (fs_cons (f_int) (fs_cons (f_tup (fs_nil) (esNil_len)) (fs_cons (f_tup (fs_nil) (esNil_len)) (fs_nil)))) (esCons_len (esCons_len (esCons_len (esNil_len))))) (fs_nil)))))) (esCons_len (esCons_len (esCons_len (esCons_len (esCons_len (esNil_len)))))))) (by rfl)) (w_or1 (t_cmp ok_notB (b_of_f (cf T.D_is_most_apart (ok_is_most_apart T) hr (bs_cons (nb 2) (bs_cons (b_of_f (f_tup (fs_cons (f_int) (fs_cons (f_tup (fs_cons (f_int) (fs_cons (f_int) (fs_cons (f_int) (fs_nil)))) (esCons_len (esCons_len (esCons_len (esNil_len))))) (fs_cons (f_tup (fs_cons (f_int) (fs_cons (f_int) (fs_cons (f_int) (fs_nil)))) (esCons_len (esCons_len (esCons_len (esNil_len))))) (fs_nil)))) (esCons_len (esCons_len (esCons_len (esNil_len)))))) (bs_nil))) (esCons_len (esCons_len (esNil_len))))) (b_of_f (f_bl)) (by rfl))))) (s_cons (s_ret (v_of_f (f_bl))) (s_nil)) (s_nil)) (s_cons (s_for PassesOwn.never (by rfl) (iv_of_f (if_rng1 (by rfl) T.m_range (bs_cons (b_of_f (f_int)) (bs_nil)))) (tgo 4 sc_law.nd) (s_cons (st1 2 sc_law.nd (cv T.D__law_offers (ok__law_offers T) hr (al 1 (a_nil)))) (s_cons (s_ifV (tv_of_w (wv_or (tv_not (tv_val (cv T.D__law_are_right (ok__law_are_right T) hr (al 1 (a_val (v_of_f (nf 2)) (a_nil)))))) (wv_or1 (tv_not (tv_val (cv T.D__law_are_ends_right (ok__law_are_ends_right T) hr (al 1 (a_val (v_of_f (nf 2)) (a_nil))))))))) (s_cons (s_ret (v_of_f (f_bl))) (s_nil)) (s_nil)) (s_nil)))) (s_cons (s_ret (v_of_f (f_bl))) (s_nil)))))))
end
end K74

set_option maxRecDepth 100000
set_option linter.all false
namespace Z
open PySem
@[simp] theorem isFzs_ints (l : List Int) : isFzs (l.map .int) = true := isFzs_map _ (fun _ => by simp) l
@[simp] theorem noFzs_ints : ∀ l : List Int, noFzs (l.map .int) = true
  | [] => by simp [noFzs]
  | x :: l => by simp [noFzs, noFzs_ints l]
@[simp] theorem cut_from1 {α : Type} (l : List α) : cutD l (some 1) none = l.tail := by
  unfold cutD
  have h : HT.sIx l.length 0 (some 1) = min 1 l.length := HT.sIx_nat l.length 0 1
  rw [h, HT.sIx_none]
  cases l with
  | nil => rfl
  | cons x l =>
    have : min 1 (x :: l).length = 1 := by simp
    rw [this]
    simp
theorem cut_from {α : Type} (l : List α) (k : Nat) (h : k ≤ l.length) : cutD l (some (k : Int)) none = l.drop k := by
  unfold cutD
  rw [HT.sIx_nat l.length 0 k, HT.sIx_none, Nat.min_eq_left h]
  rw [List.take_of_length_le (by simp)]
theorem cut_to {α : Type} (l : List α) (k : Nat) : cutD l none (some (k : Int)) = l.take k := by
  unfold cutD
  rw [HT.sIx_nat l.length l.length k, HT.sIx_none]
  simp [List.take_eq_take_iff]
theorem cut_map {α β : Type} (f : α → β) (l : List α) (a b : Option Int) : cutD (l.map f) a b = (cutD l a b).map f := cutD_map f l a b
theorem zip_pairT {α β : Type} (f : α → D) (g : β → D) (a : List α) (b : List β) : ((a.map f).zip (b.map g)).map pairT = (a.zip b).map fun p => .tup [f p.1, g p.2] := by
  rw [List.zip_map, List.map_map]; rfl
theorem num_map {α : Type} (f : α → D) (l : List α) : (numbered (l.map f)).map pairT = l.zipIdx.map fun p => .tup [.int (p.2 : Nat), f p.1] := by
  unfold numbered
  rw [List.map_map, List.zipIdx_map, List.map_map]; rfl
theorem lcGo_mapT {α : Type} {bd : D → En → Option En} {ge : En → Option D} {e0 : En} (enc : α → D) (E : α → En) (r : α → D) : ∀ (xs : List α),
    (∀ x ∈ xs, bd (enc x) e0 = some (E x) ∧ ge (E x) = some (r x)) → lcGo bd gYes ge e0 (xs.map enc) = some (xs.map r) := fun xs h => by
  have := lcGo_map (β := Unit) (gt := gYes) enc E (fun _ => true) r xs fun x hx => ⟨(h x hx).1, rfl, fun _ => (h x hx).2⟩
  rwa [List.filter_eq_self.mpr (by simp)] at this
theorem lcGo_allT {bd : D → En → Option En} {ge : En → Option D} {e0 : En} (E : D → En) (r : D → D) (xs : List D)
    (h : ∀ x ∈ xs, bd x e0 = some (E x) ∧ ge (E x) = some (r x)) : lcGo bd gYes ge e0 xs = some (xs.map r) := by
  have := lcGo_mapT id E r xs h
  rwa [List.map_id] at this
theorem z_all_bl {α : Type} (p : α → Bool) (l : List α) : bAll [.lst true (l.map fun x => D.bl (p x))] = some (.bl (l.all p)) := by
  rw [z_all, blsOf_all, Option.bind_some, List.all_map]; rfl
theorem z_any_bl {α : Type} (p : α → Bool) (l : List α) : bAny [.lst true (l.map fun x => D.bl (p x))] = some (.bl (l.any p)) := by
  rw [z_any, blsOf_all, Option.bind_some, List.any_map]; rfl
theorem intsOf_eq : ∀ {l : List D} {ns : List Int}, intsOf l = some ns → l = ns.map D.int
  | [], ns, h => by cases h; rfl
  | d :: l, ns, h => by
    cases d <;> try (simp only [intsOf] at h; cases h; done)
    simp only [intsOf] at h
    obtain ⟨ms, q, e⟩ := bind_some2 h
    cases e
    rw [intsOf_eq q, List.map_cons]
theorem le_lim {n : Nat} (h : n ≤ 1000) : n ≤ lim := Nat.le_trans h (by decide)
end Z
namespace K74
open PySem Z
def isI : D → Bool
  | .int _ => true
  | _ => false
theorem sp_is_integer (d : D) (t : String) (h : tyOf d = some t) : m_is_integer [d] = some (.bl (isI d), []) := by
  cases d <;> simp only [tyOf] at h <;> cases h <;>
  simp [m_is_integer_eq, b_is_integer, eVar, bIsi, tyOf, isI, kit_int_int, kit_bool_int, kit_bool_bool, kit_int_bool, kit_str_int, kit_tuple_int, kit_list_int, kit_dict_int, kit_none_int]
theorem sp_is_within_int (i a b : Int) : m_is_within [.int i, .int a, .int b] = some (.bl (decide (a ≤ i) && decide (i ≤ b)), []) := by
  simp [m_is_within_eq, b_is_within, eVar, sp_is_integer (.int i) "int" rfl, isI, eCh]
  by_cases h : a ≤ i <;> simp [h]
theorem sp_is_within_no (d : D) (a b : Int) (t : String) (h : tyOf d = some t) (hz : isFz d = true) (hn : isI d = false) : m_is_within [d, .int a, .int b] = some (.bl false, []) := by
  simp [m_is_within_eq, b_is_within, eVar, fz_same d hz, sp_is_integer d t h, hn]
def asc (ns : List Int) : Bool := (ns.zip ns.tail).all fun p => decide (p.1 < p.2)
theorem sp_are_ascending (ns : List Int) (h : ns.length ≤ 1000) : m_are_ascending [.tup (ns.map .int)] = some (.bl (asc ns), []) := by
  have e := lcGo_mapT (bd := bdTup (bdCons (bdName 1) (bdCons (bdName 2) bdNil))) (ge := eOp dLt (eVar 1) (eVar 2)) (e0 := [.ow (.tup (ns.map .int)), .no, .no]) (fun p : Int × Int => .tup [.int p.1, .int p.2])
    (fun p => [.ow (.tup (ns.map .int)), .ow (.int p.1), .ow (.int p.2)]) (fun p => .bl (decide (p.1 < p.2))) (ns.zip ns.tail) (fun p _ => by simp [bindSl, eVar])
  have hl : ns.length ≤ lim + 1 := Nat.le_succ_of_le (le_lim h)
  simp [m_are_ascending_eq, b_are_ascending, eVar, dSl, isT, ← List.map_tail, zip_pairT, e, z_all_bl, asc, hl]
/-- data that is looked at -/
structure Gd (d : D) : Prop where
  fz : isFz d = true
  ty : ∃ t, tyOf d = some t
theorem Gd.int (i : Int) : Gd (.int i) := ⟨by simp, _, rfl⟩
def wi (a b : Int) : D → Bool
  | .int i => decide (a ≤ i) && decide (i ≤ b)
  | _ => false
theorem sp_is_within (d : D) (a b : Int) (h : Gd d) : m_is_within [d, .int a, .int b] = some (.bl (wi a b d), []) := by
  by_cases q : isI d = true
  · cases d <;> simp only [isI] at q <;> try (cases q; done)
    exact sp_is_within_int _ a b
  · obtain ⟨t, ht⟩ := h.ty
    have hn : isI d = false := by simpa using q
    rw [sp_is_within_no d a b t ht h.fz hn]
    cases d <;> first | rfl | (cases hn; done)
def isTu : D → Bool
  | .tup _ => true
  | _ => false
theorem isi_tup (d : D) (h : Gd d) : bIsi [d, .ty "tuple"] = some (.bl (isTu d)) := by
  obtain ⟨t, ht⟩ := h.ty
  cases d <;> simp only [tyOf] at ht <;> cases ht <;> simp [bIsi, tyOf, isTu, kit_tuple_tuple, kit_list_tuple, kit_dict_tuple, kit_none_tuple, kit_int_tuple, kit_bool_tuple, kit_str_tuple]
/-- a row of numbers within bounds, rising -/
def grpOf (n : Int) : D → Option (List Int)
  | .tup l => (intsOf l).bind fun ns => if (ns.all fun i => decide (0 ≤ i) && decide (i ≤ n - 1)) && asc ns then some ns else none
  | _ => none
theorem intsOf_wi {a b : Int} : ∀ {l : List D}, l.all (wi a b) = true → ∃ ns : List Int, l = ns.map D.int ∧ (ns.all fun i => decide (a ≤ i) && decide (i ≤ b)) = true
  | [], _ => ⟨([] : List Int), rfl, rfl⟩
  | d :: l, h => by
    rw [List.all_cons, Bool.and_eq_true] at h
    obtain ⟨ns, rfl, e⟩ := intsOf_wi h.2
    cases d <;> try (have := h.1; simp [wi] at this; done)
    rename_i i
    exact ⟨i :: ns, rfl, by rw [List.all_cons, e, Bool.and_true]; exact h.1⟩
theorem wi_ints (a b : Int) (ns : List Int) : (ns.map D.int).all (wi a b) = ns.all fun i => decide (a ≤ i) && decide (i ≤ b) := by
  rw [List.all_map]; rfl
/-- data whose parts are looked at, too -/
structure Gt (d : D) : Prop extends Gd d where
  it : ∀ l, d = .tup l → l.length ≤ 1000 ∧ ∀ x ∈ l, Gd x
theorem sp_is_group_of (n : Int) (g : D) (h : Gt g) : m_is_group_of [.int n, g] = some (.bl (grpOf n g).isSome, []) := by
  have hi := isi_tup g h.toGd
  by_cases q : isTu g = true
  · cases g <;> simp only [isTu] at q <;> try (cases q; done)
    rename_i l
    obtain ⟨hl, hx⟩ := h.it l rfl
    have e := lcGo_allT (bd := bdName 2) (ge := eCall m_is_within (esCons (eVar 2) (esCons (eC (.int 0)) (esCons (eOp dSub (eVar 0) (eC (.int 1))) esNil)))) (e0 := [.ow (.int n), .ow (.tup l), .no])
      (fun d => [.ow (.int n), .ow (.tup l), .ow d]) (fun d => .bl (wi 0 (n - 1) d)) l (fun d hd => by
        have g := hx d hd
        simp [bindSl, g.fz, eVar, fz_same d g.fz, sp_is_within d 0 (n - 1) g])
    have hf : isFzs l = true := by have := h.fz; simpa using this
    cases w : l.all (wi 0 (n - 1)) with
    | true =>
      obtain ⟨ns, rfl, e2⟩ := intsOf_wi w
      have hl2 : ns.length ≤ 1000 := by simpa using hl
      have w2 : ns.all (fun i => decide (0 ≤ i) && decide (i ≤ n - 1)) = true := e2
      have e4 : grpOf n (.tup (ns.map .int)) = if asc ns = true then some ns else none := by
        show (intsOf (ns.map D.int)).bind _ = _
        rw [intsOf_map, Option.bind_some, w2, Bool.true_and]
      rw [e4]
      have e5 : (if asc ns = true then some ns else none).isSome = asc ns := by cases asc ns <;> rfl
      simp [m_is_group_of_eq, b_is_group_of, eVar, hi, isTu, le_lim hl2, e, z_all_bl, w, fz, fzs_same _ (isFzs_ints ns), sp_are_ascending ns hl2, e5, - List.all_map, - List.map_map]
    | false =>
      have e4 : grpOf n (.tup l) = none := by
        show (intsOf l).bind _ = _
        cases q : intsOf l with
        | none => rfl
        | some ns =>
          have : l = ns.map D.int := intsOf_eq q
          rw [this, wi_ints] at w
          rw [Option.bind_some, w]; rfl
      simp [m_is_group_of_eq, b_is_group_of, eVar, hi, isTu, le_lim hl, e, z_all_bl, w, e4, - List.all_map, - List.map_map]
  · have q : isTu g = false := by simpa using q
    have e4 : grpOf n g = none := by cases g <;> first | rfl | (cases q; done)
    simp [m_is_group_of_eq, b_is_group_of, eVar, hi, q, e4]
end K74

set_option maxRecDepth 100000
set_option linter.all false
set_option Elab.async false
namespace Z
open PySem
theorem z_srt {o : Bool} {l : List D} : bSorted [.lst o l] = if (decide (l.length ≤ lim) && srtOk l) = true then some (.lst true (l.mergeSort dLeq)) else none := rfl
@[simp] theorem atI0 {α : Type} {x : α} {l : List α} : L2.atI (x :: l) 0 = some x := L2.atI_nat (j := 0) rfl
@[simp] theorem atI1 {α : Type} {x y : α} {l : List α} : L2.atI (x :: y :: l) 1 = some y := L2.atI_nat (j := 1) rfl
@[simp] theorem atI2 {α : Type} {x y z : α} {l : List α} : L2.atI (x :: y :: z :: l) 2 = some z := L2.atI_nat (j := 2) rfl
@[simp] theorem atI3 {α : Type} {x y z w : α} {l : List α} : L2.atI (x :: y :: z :: w :: l) 3 = some w := L2.atI_nat (j := 3) rfl
@[simp] theorem atI4 {α : Type} {x y z w v : α} {l : List α} : L2.atI (x :: y :: z :: w :: v :: l) 4 = some v := L2.atI_nat (j := 4) rfl
theorem mergeSort_map {α β : Type} (f : α → β) (le : β → β → Bool) (le' : α → α → Bool) (h : ∀ a b, le (f a) (f b) = le' a b) (l : List α) : (l.map f).mergeSort le = (l.mergeSort le').map f := by
  rw [List.map_mergeSort]
  intro a _ b _
  exact (h a b).symm
/-! sorted -/
theorem okPys_map {α : Type} (f : α → D) (h : ∀ x, okPy (f x) = true) : ∀ l : List α, okPys (l.map f) = true
  | [] => by simp [okPys]
  | x :: l => by simp [okPys, h x, okPys_map f h l]
theorem srtOk_map {α : Type} (f : α → D) (h1 : ∀ x, isFz (f x) = true) (h2 : ∀ x, okPy (f x) = true) (h3 : ∀ x y, PySem.W.alike (dPy (f x)) (dPy (f y)) = true) (h4 : (∀ x, tupOne (dPy (f x)) = true) ∨ ∀ x, notTup (dPy (f x)) = true)
    (h5 : ∀ x, (dPy (f x)).depth ≤ 30) (l : List α) : srtOk (l.map f) = true := by
  unfold srtOk
  simp only [Bool.and_eq_true, List.all_eq_true, List.mem_map, Bool.or_eq_true, decide_eq_true_eq]
  refine ⟨⟨⟨⟨isFzs_map f h1 l, okPys_map f h2 l⟩, ?_⟩, ?_⟩, ?_⟩
  · rintro _ ⟨x, _, rfl⟩ _ ⟨y, _, rfl⟩; exact h3 x y
  · rcases h4 with h | h
    · exact Or.inl (by rintro _ ⟨x, _, rfl⟩; exact h x)
    · exact Or.inr (by rintro _ ⟨x, _, rfl⟩; exact h x)
  · rintro _ ⟨x, _, rfl⟩; exact h5 x
def le2 (a b : Int × Int) : Bool := !decide (b.1 < a.1 ∨ (b.1 = a.1 ∧ b.2 < a.2))
def p2 (a : Int × Int) : D := .tup [.int a.1, .int a.2]
theorem srt_ints {o : Bool} (l : List Int) (h : l.length ≤ 1000) : bSorted [.lst o (l.map .int)] = some (.lst true ((l.mergeSort intLe).map .int)) := by
  have s : srtOk (l.map .int) = true := srtOk_map _ (fun _ => by simp) (fun _ => rfl) (fun _ _ => by simp [dPy, PySem.W.alike]) (Or.inr fun _ => rfl) (fun _ => by simp [dPy, PyData.depth]) l
  rw [z_srt, s, List.length_map, if_pos (by simp; exact le_lim h), mergeSort_map D.int dLeq intLe]
  intro a b
  show (!PySem.W.dataLt (.int b) (.int a)) = _
  rw [PySem.W.dataLt_int, intLe]
  by_cases h : b < a <;> simp [h] <;> omega
theorem srt_p2 {o : Bool} (l : List (Int × Int)) (h : l.length ≤ 1000) : bSorted [.lst o (l.map p2)] = some (.lst true ((l.mergeSort le2).map p2)) := by
  have s : srtOk (l.map p2) = true := srtOk_map _ (fun _ => by simp [p2]) (fun _ => rfl) (fun _ _ => by simp [p2, dPy, dPys, PySem.W.alike, PySem.W.alikeAll]) (Or.inl fun _ => rfl) (fun _ => by simp [p2, dPy, dPys, PyData.depth, PyData.depthAll]) l
  rw [z_srt, s, List.length_map, if_pos (by simp; exact le_lim h), mergeSort_map p2 dLeq le2]
  intro a b
  show (!PySem.W.dataLt (.tuple [.int b.1, .int b.2]) (.tuple [.int a.1, .int a.2])) = _
  rw [PySem.W.dataLt_ii]; rfl
end Z
namespace K74
open PySem Z
abbrev Of := Int × Int × Int
def oD (o : Of) : D := .tup [.int o.1, .int o.2.1, .int o.2.2]
def osD (os : List Of) : D := .tup (os.map oD)
def nD (k : Nat) : D := .int (k : Nat)
def ofOk (o : Of) : Prop := 0 ≤ o.1 ∧ o.1 < o.2.1 ∧ o.2.1 ≤ 1000000 ∧ 0 ≤ o.2.2 ∧ o.2.2 ≤ 1000000
structure Ok (os : List Of) : Prop where
  len : os.length ≤ 8
  ok : ∀ o ∈ os, ofOk o
@[simp] theorem isFz_oD (o : Of) : isFz (oD o) = true := by simp [oD]
@[simp] theorem isFzs_os (os : List Of) : isFzs (os.map oD) = true := isFzs_map _ (fun _ => by simp) os
@[simp] theorem isFz_os (os : List Of) : isFz (osD os) = true := by simp [osD]
@[simp] theorem fz_oD (o : Of) : fz (oD o) = oD o := fz_same _ (isFz_oD o)
@[simp] theorem fz_os (o : List Of) : fz (osD o) = osD o := fz_same _ (isFz_os o)
@[simp] theorem isFz_nD (o : Nat) : isFz (nD o) = true := by simp [nD]
@[simp] theorem fz_nD (o : Nat) : fz (nD o) = nD o := rfl
@[simp] theorem isFzs_ns (os : List Nat) : isFzs (os.map nD) = true := isFzs_map _ (fun _ => by simp) os
@[simp] theorem fzs_ns (os : List Nat) : fzs (os.map nD) = os.map nD := fzs_same _ (by simp)
@[simp] theorem noFzs_ns : ∀ l : List Nat, noFzs (l.map nD) = true
  | [] => by simp [noFzs]
  | x :: l => by simp [noFzs, noFzs_ns l, nD]
@[simp] theorem bindSl_oD (o : Of) : bindSl (oD o) = .ow (oD o) := z_bindSl (by simp)
@[simp] theorem bindSl_nD (o : Nat) : bindSl (nD o) = .ow (nD o) := z_bindSl (by simp)
@[simp] theorem bindSl_int (o : Int) : bindSl (.int o) = .ow (.int o) := z_bindSl (by simp)
@[simp] theorem dItems_os (os : List Of) : dItems (osD os) = some (os.map oD) := rfl
@[simp] theorem bLen_os (os : List Of) : bLen [osD os] = some (.int os.length) := by simp [osD]
def gt (os : List Of) (k : Nat) : Of := os.getD k (0, 0, 0)
theorem item_os {os : List Of} {k : Nat} (h : k < os.length) : dItem (osD os) (nD k) = some (oD (gt os k)) := by
  show L2.atI (os.map oD) (k : Int) = _
  apply L2.atI_nat
  rw [List.getElem?_map, List.getElem?_eq_getElem h, gt, List.getD_eq_getElem?_getD, List.getElem?_eq_getElem h]; rfl
@[simp] theorem item_o0 (o : Of) : dItem (oD o) (.int 0) = some (.int o.1) := by simp [oD]
@[simp] theorem item_o1 (o : Of) : dItem (oD o) (.int 1) = some (.int o.2.1) := by simp [oD]
@[simp] theorem item_o2 (o : Of) : dItem (oD o) (.int 2) = some (.int o.2.2) := by simp [oD]
theorem sp_is_offer (o : Of) (h : ofOk o) : m_is_offer [oD o] = some (.bl true, []) := by
  obtain ⟨b, e, w⟩ := o
  obtain ⟨h1, h2, h3, h4, h5⟩ := h
  have r1 : ∀ i : Int, m_is_integer [.int i] = some (.bl true, []) := fun i => sp_is_integer (.int i) "int" rfl
  have t : bIsi [.tup [.int b, .int e, .int w], .ty "tuple"] = some (.bl true) := isi_tup _ ⟨by simp, _, rfl⟩
  have ne3 : dNe (.int 3) (.int 3) = some (.bl false) := rfl
  simp at h1 h2 h3 h4 h5
  simp [m_is_offer_eq, b_is_offer, eVar, oD, t, lim, lcGo, r1, ne3, z_all, blsOf, eCh, h1, h2, h3, h4, h5]
theorem sp_check (os : List Of) (h : Ok os) (k : Int) (h1 : 1 ≤ k) (h2 : k ≤ 8) : m_check_offers [osD os, .int k] = some (.non, []) := by
  have t : bIsi [osD os, .ty "tuple"] = some (.bl true) := isi_tup _ ⟨by simp, _, rfl⟩
  have l1 := h.len
  have l2 : ¬ ((40 : Int) < os.length) := by omega
  have l3 : os.length ≤ lim := le_lim (by omega)
  have e := lcGo_mapT (bd := bdName 2) (ge := eCall m_is_offer (esCons (eVar 2) esNil)) (e0 := [.ow (osD os), .ow (.int k), .no]) oD (fun o => [.ow (osD os), .ow (.int k), .ow (oD o)]) (fun _ => .bl true) os (fun o ho => by
    simp [eVar, sp_is_offer o (h.ok o ho)])
  have a : bAll [.lst true (os.map fun _ => D.bl true)] = some (.bl true) := by rw [z_all_bl (fun _ => true) os]; simp
  have w := sp_is_within_int k 1 8
  simp [m_check_offers_eq, b_check_offers, eVar, t, l2, l3, e, a, w, h1, h2, - List.all_map, - List.map_map, - List.map_const, - List.map_const']
end K74

set_option maxRecDepth 100000
set_option linter.all false
set_option Elab.async false
namespace Z
open PySem
theorem srt_by {o : Bool} {α : Type} (f : α → Int × Int) (l : List α) (h : l.length ≤ 1000) : bSorted [.lst o (l.map fun x => p2 (f x))] = some (.lst true ((l.mergeSort fun a b => le2 (f a) (f b)).map fun x => p2 (f x))) := by
  have := srt_p2 (o := o) (l.map f) (by simpa using h)
  rw [List.map_map] at this
  rw [show (l.map fun x => p2 (f x)) = l.map (p2 ∘ f) from rfl, this, mergeSort_map f le2 (fun a b => le2 (f a) (f b)) (fun _ _ => rfl), List.map_map]; rfl
theorem forGo_nx {bd : D → En → Option En} {f : SF} {it : D} {r : List D} {e e1 e2 : En} (hz : isFz it = true) (hb : bd it e = some e1) (hf : f e1 = some (.nx, e2)) : sForGo bd f (it :: r) e = sForGo bd f r e2 := by
  simp [sForGo, hz, hb, hf]
theorem forGo_rt {bd : D → En → Option En} {f : SF} {it d : D} {r : List D} {e e1 e2 : En} (hz : isFz it = true) (hb : bd it e = some e1) (hf : f e1 = some (.rt d, e2)) : sForGo bd f (it :: r) e = some (.rt d, e2) := by
  simp [sForGo, hz, hb, hf]
end Z
namespace K74
open PySem Z
def Sq (c : D) (os : List Of) : Prop := c = .tup (os.map oD) ∨ c = .lst false (os.map oD)
section
variable {c : D} {os : List Of}
theorem Sq.tu : Sq (osD os) os := Or.inl rfl
theorem Sq.fz (h : Sq c os) : fz c = c := by
  rcases h with rfl | rfl
  · exact fz_os os
  · exact fz_same _ (by simp [isFz])
theorem Sq.items (h : Sq c os) : dItems c = some (os.map oD) := by rcases h with rfl | rfl <;> rfl
theorem Sq.item (h : Sq c os) {k : Nat} (hk : k < os.length) : dItem c (nD k) = some (oD (gt os k)) := by
  rcases h with rfl | rfl
  · exact item_os hk
  · exact item_os hk
end
theorem num_mapN {α : Type} (f : α → D) (l : List α) : (numbered (l.map f)).map pairT = l.zipIdx.map fun p => .tup [nD p.2, f p.1] := num_map f l
/-- by their end, and then by their place -/
def eOf (p : Of × Nat) : Int × Int := (p.1.2.1, (p.2 : Nat))
def byEnd (os : List Of) : List Nat := (os.zipIdx.mergeSort fun a b => le2 (eOf a) (eOf b)).map (·.2)
theorem sp_by_end {c : D} {os : List Of} (h : Sq c os) (hl : os.length ≤ 8) : m_by_end [c] = some (.lst true ((byEnd os).map nD), []) := by
  have e1 := lcGo_mapT (bd := bdTup (bdCons (bdName 2) (bdCons (bdName 3) bdNil))) (ge := eTup (esCons (eOp dIxF (eVar 3) (eC (.int 1))) (esCons (eFz (eVar 2)) esNil))) (e0 := [.ow c, .no, .no, .no])
    (fun p : Of × Nat => .tup [nD p.2, oD p.1]) (fun p => [.ow c, .no, .ow (nD p.2), .ow (oD p.1)]) (fun p => p2 (eOf p)) os.zipIdx (fun p _ => by simp [eVar, p2, eOf, nD])
  have e2 := lcGo_mapT (bd := bdTup (bdCons (bdName 1) (bdCons (bdName 2) bdNil))) (ge := eFz (eVar 2)) (e0 := [.ow c, .no, .no, .no])
    (fun p : Of × Nat => p2 (eOf p)) (fun p => [.ow c, .ow (.int p.1.2.1), .ow (nD p.2), .no]) (fun p => nD p.2) (os.zipIdx.mergeSort fun a b => le2 (eOf a) (eOf b)) (fun p _ => by simp [eVar, p2, eOf, nD])
  have l1 : os.length ≤ lim := le_lim (by omega)
  have l2 : os.zipIdx.length ≤ 1000 := by simp; omega
  have s := srt_by (o := true) eOf os.zipIdx l2
  have e3 : (byEnd os).map nD = (os.zipIdx.mergeSort fun a b => le2 (eOf a) (eOf b)).map fun p => nD p.2 := by simp [byEnd]
  have l3 : (os.zipIdx.mergeSort fun a b => le2 (eOf a) (eOf b)).length ≤ lim := le_lim (by simp; omega)
  simp [m_by_end_eq, b_by_end, eVar, h.items, num_mapN, l1, - List.map_map, e1, s, e2, e3, - List.length_mergeSort, l3]
def okAt (os : List Of) (k : Nat) : Option Int → Bool
  | some i => decide (i ≤ (gt os k).1)
  | none => true
def grd (os : List Of) : List Nat → List Nat → Option Int → List Nat
  | [], f, _ => f
  | k :: r, f, l => if okAt os k l = true then grd os r (f ++ [k]) (some (gt os k).2.1) else grd os r f l
/-- the greedy choice -/
def apart (os : List Of) : List Nat := grd os (byEnd os) [] none
theorem byEnd_mem {os : List Of} {k : Nat} : k ∈ byEnd os ↔ k < os.length := by
  unfold byEnd
  simp only [List.mem_map, List.mem_mergeSort]
  constructor
  · rintro ⟨p, hp, rfl⟩
    have := (List.mem_zipIdx hp).2.1; omega
  · intro h
    exact ⟨(os[k], k), by rw [List.mk_mem_zipIdx_iff_getElem?]; exact List.getElem?_eq_getElem h, rfl⟩
def opn (x : Sl) : Prop := x = .no ∨ ∃ d, x = .ow d
def oiD : Option Int → D
  | some i => .int i
  | none => .non
def bdy_apart : SF := sSeq (sIf (tOrB (tBl (eOp dIsNg (eVar 2) (eC .non))) (tBl (eOp dGe (eOp dItem (eOp dItem (eVar 0) (eVar 3)) (eC (.int 0))) (eVar 2)))) (sSeq (sDrop (vMeth "list" 1 mAppend (vsCons (vOf (eFz (eVar 3))) (vsNil)))) (sSeq (sSet 2 (vOf (eOp dIxF (eOp dItem (eVar 0) (eVar 3)) (eC (.int 1))))) (sNil))) (sNil)) (sNil)
def stA (c : D) (f : List Nat) (l : Option Int) (x : Sl) : En := [.ow c, .ow (.lst true (f.map nD)), .ow (oiD l), x]
theorem apart_body {c : D} {os : List Of} (h : Sq c os) (k : Nat) (f : List Nat) (l : Option Int) (k1 : k < os.length) (hl : f.length < 1000) :
    bdy_apart (stA c f l (.ow (nD k))) = some (.nx, if okAt os k l = true then stA c (f ++ [k]) (some (gt os k).2.1) (.ow (nD k)) else stA c f l (.ow (nD k))) := by
  have it := h.item k1
  have l1 : f.length < lim := Nat.lt_of_lt_of_le hl (by decide)
  cases l with
  | none => simp [bdy_apart, stA, okAt, oiD, dIsNg, noGl, dIsN, isNon, vMeth, isTy, updE, modP, mAppend, l1, eVar, it, open?]
  | some i => by_cases hi : i ≤ (gt os k).1 <;> simp [bdy_apart, stA, okAt, oiD, dIsNg, noGl, dIsN, isNon, vMeth, isTy, updE, modP, mAppend, l1, eVar, it, open?, hi]
theorem apart_loop {c : D} {os : List Of} (h : Sq c os) : ∀ (ks f : List Nat) (l : Option Int) (x : Sl), (∀ k ∈ ks, k < os.length) → f.length + ks.length ≤ 1000 → opn x →
    ∃ l' x', sForGo (boName 3) bdy_apart (ks.map nD) (stA c f l x) = some (.nx, stA c (grd os ks f l) l' x')
  | [], f, l, x, _, _, _ => ⟨l, x, rfl⟩
  | k :: ks, f, l, x, hk, hl, hx => by
    have k1 : k < os.length := hk k List.mem_cons_self
    have hb : boName 3 (nD k) (stA c f l x) = some (stA c f l (.ow (nD k))) := by rcases hx with rfl | ⟨d, rfl⟩ <;> rfl
    have hf := apart_body h k f l k1 (by simp at hl; omega)
    rw [List.map_cons, forGo_nx (isFz_nD k) hb hf]
    rw [grd]
    split
    · exact apart_loop h ks _ _ _ (fun q hq => hk q (List.mem_cons_of_mem _ hq)) (by simp at hl ⊢; omega) (Or.inr ⟨_, rfl⟩)
    · exact apart_loop h ks _ _ _ (fun q hq => hk q (List.mem_cons_of_mem _ hq)) (by simp at hl; omega) (Or.inr ⟨_, rfl⟩)
theorem grd_len (os : List Of) : ∀ (ks f : List Nat) (l : Option Int), (grd os ks f l).length ≤ f.length + ks.length
  | [], f, l => by simp [grd]
  | k :: r, f, l => by
    have h1 := grd_len os r (f ++ [k]) (some (gt os k).2.1)
    have h2 := grd_len os r f l
    unfold grd
    simp at h1 ⊢
    split <;> omega
theorem sp_apart_ones {c : D} {os : List Of} (h : Sq c os) (hl : os.length ≤ 8) : m_apart_ones [c] = some (.lst true ((apart os).map nD), []) := by
  have lb : (byEnd os).length = os.length := by simp [byEnd]
  obtain ⟨l', x', e⟩ := apart_loop h (byEnd os) [] none .no (fun k hk => byEnd_mem.mp hk) (by simp [lb]; omega) (Or.inl rfl)
  have hb := sp_by_end h hl
  have e' : sForGo (boName 3) bdy_apart (List.map nD (byEnd os)) [Sl.ow c, Sl.ow (D.lst true []), Sl.ow .non, Sl.no] = some (Fl.nx, [Sl.ow c, Sl.ow (D.lst true (List.map nD (apart os))), Sl.ow (oiD l'), x']) := e
  rw [m_apart_ones_eq]
  show fin [] (sSeq (sPar 1 2 _) (sSeq (sFor _ _ bdy_apart) _) _) = _
  simp [sPar, open?, eVar, h.fz, hb, e', vMove]
end K74

set_option maxRecDepth 100000
set_option linter.all false
set_option Elab.async false
namespace K74
open PySem Z
def natLe (a b : Nat) : Bool := decide (a ≤ b)
theorem srt_nats {o : Bool} (l : List Nat) (h : l.length ≤ 1000) : bSorted [.lst o (l.map nD)] = some (.lst true ((l.mergeSort natLe).map nD)) := by
  have := srt_ints (o := o) (l.map fun k : Nat => (k : Int)) (by simpa using h)
  rw [List.map_map] at this
  rw [show l.map nD = l.map (D.int ∘ fun k : Nat => (k : Int)) from rfl, this, mergeSort_map (fun k : Nat => (k : Int)) intLe natLe (fun _ _ => by simp [intLe, natLe]), List.map_map]; rfl
def Gq (d : D) (g : List Nat) : Prop := d = .tup (g.map nD) ∨ d = .lst false (g.map nD)
section
variable {d : D} {g : List Nat}
theorem Gq.fz (h : Gq d g) : fz d = d := by
  rcases h with rfl | rfl
  · exact fz_same _ (by simp)
  · exact fz_same _ (by simp [isFz])
theorem Gq.items (h : Gq d g) : dItems d = some (g.map nD) := by rcases h with rfl | rfl <;> rfl
end
def be (os : List Of) (k : Nat) : Int × Int := ((gt os k).1, (gt os k).2.1)
/-- no two at once, as the code looks -/
def apartOk (os : List Of) (g : List Nat) : Bool := let t := (g.map (be os)).mergeSort le2; (t.zip t.tail).all fun p => decide (p.1.2 ≤ p.2.1)
theorem sp_are_apart {os : List Of} {d : D} {g : List Nat} (hd : Gq d g) (hg : ∀ k ∈ g, k < os.length) (hl : g.length ≤ 1000) : m_are_apart [osD os, d] = some (.bl (apartOk os g), []) := by
  have e1 := lcGo_mapT (bd := bdName 3) (ge := eSl (eOp dItem (eVar 0) (eVar 3)) eNoP (eP (eC (.int 2)))) (e0 := [.ow (osD os), .ow d, .no, .no, .no]) nD (fun k => [.ow (osD os), .ow d, .no, .ow (nD k), .no]) (fun k => p2 (be os k)) g (fun k hk => by
    simp [eVar, item_os (hg k hk)]
    rfl)
  have s := srt_p2 (o := true) (g.map (be os)) (by simpa using hl)
  rw [List.map_map] at s
  have e2 := lcGo_mapT (bd := bdTup (bdCons (bdName 3) (bdCons (bdName 4) bdNil))) (ge := eOp dLe (eOp dItem (eVar 3) (eC (.int 1))) (eOp dItem (eVar 4) (eC (.int 0)))) (e0 := [.ow (osD os), .ow d, .ow (.lst true (((g.map (be os)).mergeSort le2).map p2)), .no, .no])
    (fun p : (Int × Int) × (Int × Int) => .tup [p2 p.1, p2 p.2]) (fun p => [.ow (osD os), .ow d, .ow (.lst true (((g.map (be os)).mergeSort le2).map p2)), .ow (p2 p.1), .ow (p2 p.2)]) (fun p => .bl (decide (p.1.2 ≤ p.2.1))) (((g.map (be os)).mergeSort le2).zip ((g.map (be os)).mergeSort le2).tail) (fun p _ => by simp [eVar, bindSl, p2])
  have l1 : g.length ≤ lim := le_lim hl
  have l2 : ((g.map (be os)).mergeSort le2).length ≤ lim + 1 := Nat.le_succ_of_le (le_lim (by simpa using hl))
  have b : isFzs (((g.map (be os)).mergeSort le2).map p2) = true := isFzs_map _ (fun _ => by simp [p2]) _
  have l3 : (List.zip (((g.map (be os)).mergeSort le2)) (((g.map (be os)).mergeSort le2)).tail).length ≤ lim := le_lim (by simp; omega)
  simp [m_are_apart_eq, b_are_apart, eVar, hd.items, l1, e1, - List.map_map, - List.length_mergeSort]
  rw [show List.map (fun k => p2 (be os k)) g = g.map (p2 ∘ be os) from rfl, s]
  simp [open?, eVar, dSl, b, isT, ← List.map_tail, zip_pairT, e2, z_all_bl, - List.map_map, - List.length_mergeSort, l2]
  rfl

def wOf (os : List Of) (ks : List Nat) : List Int := ks.map fun k => (gt os k).2.1 - 1
def told (os : List Of) : D := .tup [.int (apart os).length, .tup (((apart os).mergeSort natLe).map nD), .tup ((wOf os (apart os)).map .int)]
theorem grd_sub (os : List Of) : ∀ (ks f : List Nat) (l : Option Int), ∀ k ∈ grd os ks f l, k ∈ f ∨ k ∈ ks
  | [], f, l, k, h => Or.inl h
  | q :: r, f, l, k, h => by
    rw [grd] at h
    split at h
    · rcases grd_sub os r _ _ k h with h | h
      · rcases List.mem_append.mp h with h | h
        · exact Or.inl h
        · exact Or.inr (List.mem_cons.mpr (Or.inl (by simpa using h)))
      · exact Or.inr (List.mem_cons_of_mem _ h)
    · rcases grd_sub os r _ _ k h with h | h
      · exact Or.inl h
      · exact Or.inr (List.mem_cons_of_mem _ h)
theorem apart_lt {os : List Of} {k : Nat} (h : k ∈ apart os) : k < os.length := by
  rcases grd_sub os _ _ _ k h with h | h
  · cases h
  · exact byEnd_mem.mp h
theorem apart_len (os : List Of) : (apart os).length ≤ os.length := by
  have := grd_len os (byEnd os) [] none
  have h2 : (byEnd os).length = os.length := by simp [byEnd]
  rw [h2] at this
  simpa [apart] using this
@[simp] theorem noFzs_p {α : Type} (f : α → Int) : ∀ l : List α, noFzs (l.map fun x => D.int (f x)) = true
  | [] => by simp [noFzs]
  | x :: l => by simp [noFzs, noFzs_p f l]
theorem sp_most_apart {os : List Of} (h : Ok os) : m_most_apart [osD os] = some (told os, []) := by
  have hl := h.len
  have ha := apart_len os
  have c := sp_check os h 1 (by omega) (by omega)
  have a := sp_apart_ones (Sq.tu (os := os)) hl
  have l1 : (apart os).length ≤ lim := le_lim (by omega)
  have s := srt_nats (o := true) (apart os) (by omega)
  have e := lcGo_mapT (bd := bdName 2) (ge := eOp dSub (eOp dItem (eOp dItem (eVar 0) (eVar 2)) (eC (.int 1))) (eC (.int 1))) (e0 := [.ow (osD os), .ow (.lst true ((apart os).map nD)), .no]) nD (fun k => [.ow (osD os), .ow (.lst true ((apart os).map nD)), .ow (nD k)]) (fun k => .int ((gt os k).2.1 - 1)) (apart os) (fun k hk => by
    simp [eVar, item_os (apart_lt hk)])
  have z1 : isFzs (List.map D.int (wOf os (apart os))) = true := by simp
  have z2 : (apart os).map (fun k => D.int ((gt os k).2.1 - 1)) = (wOf os (apart os)).map .int := by simp [wOf]
  rw [z2] at e
  simp [m_most_apart_eq, b_most_apart, eVar, c, open?, a, s, l1, e, z1, told, - List.map_map]
theorem sp_do_meet (os : List Of) (hs : List Int) (hl : os.length ≤ 1000) (hh : hs.length ≤ 1000) : m_do_meet [osD os, .tup (hs.map .int)] = some (.bl (os.all fun o => hs.any fun h => decide (o.1 ≤ h) && decide (h < o.2.1)), []) := by
  have l1 : os.length ≤ lim := le_lim hl
  have l2 : hs.length ≤ lim := le_lim hh
  have e := lcGo_mapT (bd := bdTup (bdCons (bdName 2) (bdCons (bdName 3) (bdCons (bdName 4) bdNil)))) (ge := eBi bAny (esCons (eLc [5] (eItems (eVar 1)) (bdName 5) gYes (eChain (eVar 2) [(dLe, eVar 5), (dLt, eVar 3)])) esNil)) (e0 := [.ow (osD os), .ow (.tup (hs.map .int)), .no, .no, .no, .no])
    oD (fun o => [.ow (osD os), .ow (.tup (hs.map .int)), .ow (.int o.1), .ow (.int o.2.1), .ow (.int o.2.2), .no]) (fun o => .bl (hs.any fun h => decide (o.1 ≤ h) && decide (h < o.2.1))) os (fun o _ => by
    have e := lcGo_mapT (bd := bdName 5) (ge := eChain (eVar 2) [(dLe, eVar 5), (dLt, eVar 3)]) (e0 := [.ow (osD os), .ow (.tup (hs.map .int)), .ow (.int o.1), .ow (.int o.2.1), .ow (.int o.2.2), .no])
      D.int (fun h => [.ow (osD os), .ow (.tup (hs.map .int)), .ow (.int o.1), .ow (.int o.2.1), .ow (.int o.2.2), .ow (.int h)]) (fun h => .bl (decide (o.1 ≤ h) && decide (h < o.2.1))) hs (fun h _ => by
      by_cases q : o.1 ≤ h <;> simp [eVar, eCh, q])
    constructor
    · simp [oD]
    · simp [eVar, l2, e, z_any_bl, - List.any_map, - List.map_map])
  simp [m_do_meet_eq, b_do_meet, eVar, l1, e, z_all_bl, - List.all_map, - List.map_map]
end K74

set_option maxRecDepth 100000
set_option linter.all false
set_option Elab.async false
namespace K74
open PySem Z
@[simp] theorem noFzs0 : noFzs [] = true := by simp [noFzs]
@[simp] theorem noFzs1 {d : D} {l : List D} : noFzs (d :: l) = (noFz d && noFzs l) := by simp [noFzs]
@[simp] theorem noFzs2 : ∀ {a b : List D}, noFzs (a ++ b) = (noFzs a && noFzs b)
  | [], b => by simp
  | x :: a, b => by simp [noFzs2 (a := a) (b := b), Bool.and_assoc]
def rise (g : List Nat) : Prop := g.Pairwise (· < ·)
def gI (g : List Nat) : List Int := g.map fun k : Nat => (k : Int)
theorem gI_D (g : List Nat) : g.map nD = (gI g).map D.int := by simp [gI, nD]
theorem asc_gI : ∀ {g : List Nat}, rise g → asc (gI g) = true
  | [], _ => rfl
  | [x], _ => rfl
  | x :: y :: g, h => by
    have h2 : rise (y :: g) := (List.pairwise_cons.mp h).2
    have ih := asc_gI h2
    have h1 : x < y := (List.pairwise_cons.mp h).1 y List.mem_cons_self
    unfold asc at ih ⊢
    simp [gI] at ih ⊢
    exact ⟨by omega, ih⟩
theorem Gt_g (g : List Nat) (h : g.length ≤ 1000) : Gt (.tup (g.map nD)) := by
  refine { fz := by simp, ty := ⟨_, rfl⟩, it := ?_ }
  intro l e
  cases e
  refine ⟨by simpa using h, ?_⟩
  intro x hx
  obtain ⟨k, _, rfl⟩ := List.mem_map.mp hx
  exact Gd.int _
theorem grpOf_g {g : List Nat} {n : Nat} (h : rise g) (hk : ∀ k ∈ g, k < n) : grpOf n (.tup (g.map nD)) = some (gI g) := by
  rw [gI_D]
  show (intsOf ((gI g).map D.int)).bind _ = _
  rw [intsOf_map, Option.bind_some, asc_gI h]
  have : (gI g).all (fun i => decide (0 ≤ i) && decide (i ≤ (n : Int) - 1)) = true := by
    simp only [gI, List.all_map, List.all_eq_true]
    intro k q
    have := hk k q
    simp; omega
  rw [this]; rfl
def leastEnd (os : List Of) (g : List Nat) : Int := match (apart (g.map (gt os))).getLast? with
  | some k => (gt (g.map (gt os)) k).2.1
  | none => 0
theorem sp_least_no {os : List Of} (h : Ok os) (d : D) (hd : Gt d) (hn : grpOf os.length d = none) : m_least_end [osD os, d] = some (.non, []) := by
  have c := sp_check os h 1 (by omega) (by omega)
  have g := sp_is_group_of os.length d hd
  rw [hn] at g
  simp [m_least_end_eq, b_least_end, eVar, c, fz_same d hd.fz, g]
theorem sp_least_ok {os : List Of} (h : Ok os) (g : List Nat) (hr : rise g) (hk : ∀ k ∈ g, k < os.length) (hl : g.length ≤ 8) : m_least_end [osD os, .tup (g.map nD)] = some (.int (leastEnd os g), []) := by
  have c := sp_check os h 1 (by omega) (by omega)
  have hd := Gt_g g (by omega)
  have gr := sp_is_group_of os.length _ hd
  rw [grpOf_g hr hk] at gr
  have l1 : g.length ≤ lim := le_lim (by omega)
  have e := lcGo_mapT (bd := bdName 4) (ge := eOp dIxF (eVar 0) (eVar 4)) (e0 := [.ow (osD os), .ow (.tup (g.map nD)), .no, .no, .no]) nD (fun k => [.ow (osD os), .ow (.tup (g.map nD)), .no, .no, .ow (nD k)]) (fun k => oD (gt os k)) g (fun k q => by
    simp [eVar, item_os (hk k q)])
  have z : g.map (fun k => oD (gt os k)) = (g.map (gt os)).map oD := by simp
  rw [z] at e
  have a := sp_apart_ones (c := .lst false ((g.map (gt os)).map oD)) (os := g.map (gt os)) (Or.inr rfl) (by simpa using hl)
  have fl : fz (.lst true ((g.map (gt os)).map oD)) = .lst false ((g.map (gt os)).map oD) := by
    simp only [fz, fzs_same _ (isFzs_os (g.map (gt os)))]
    try rfl
  rcases List.eq_nil_or_concat (apart (g.map (gt os))) with q | ⟨l, k, q⟩
  · rw [q] at a
    simp [m_least_end_eq, b_least_end, eVar, c, fz_same _ hd.fz, gr, l1, e, open?, fl, a, leastEnd, q, - List.map_map]
  · have hk2 : k < (g.map (gt os)).length := apart_lt (by rw [q]; simp)
    have it : L2.atI (List.map oD (List.map (gt os) g)) (k : Int) = some (oD (gt (g.map (gt os)) k)) := item_os hk2
    have la : L2.atI ((l.map nD) ++ [.int (k : Int)]) (-1) = some (.int (k : Int)) := L2.atI_last _ _
    have nk : nD k = .int (k : Int) := rfl
    have ln : (0 : Int) < (l.length : Int) + 1 := by omega
    rw [q] at a
    rw [List.concat_eq_append] at a
    simp [m_least_end_eq, b_least_end, eVar, c, fz_same _ hd.fz, gr, l1, e, open?, fl, a, leastEnd, q, la, ln, nk, it, - List.map_map]
def tio (os : List Of) : List Nat → List Nat → List Nat
  | [], f => f
  | k :: r, f => if apartOk os (f ++ [k]) = true then tio os r (f ++ [k]) else tio os r f
def bdy_tio : SF := sSeq (sIf (tBl (eCall m_are_apart (esCons (eVar 0) (esCons (eOp dAdd (eVar 1) (eLst (esCons (eFz (eVar 2)) (esNil)))) (esNil))))) (sSeq (sDrop (vMeth "list" 1 mAppend (vsCons (vOf (eFz (eVar 2))) (vsNil)))) (sNil)) (sNil)) (sNil)
def stT (os : List Of) (f : List Nat) (x : Sl) : En := [.ow (osD os), .ow (.lst true (f.map nD)), x]
theorem tio_body {os : List Of} (k : Nat) (f : List Nat) (k1 : k < os.length) (hf : ∀ j ∈ f, j < os.length) (hl : f.length < 100) :
    bdy_tio (stT os f (.ow (nD k))) = some (.nx, if apartOk os (f ++ [k]) = true then stT os (f ++ [k]) (.ow (nD k)) else stT os f (.ow (nD k))) := by
  have l1 : f.length < lim := Nat.lt_of_lt_of_le hl (by decide)
  have l2 : f.length + 1 ≤ lim := l1
  have a := sp_are_apart (os := os) (d := .lst false ((f ++ [k]).map nD)) (g := f ++ [k]) (Or.inr rfl) (by
    intro j hj
    rcases List.mem_append.mp hj with hj | hj
    · exact hf j hj
    · rw [List.mem_singleton.mp hj]; exact k1) (by simp; omega)
  have fl : fz (.lst true (f.map nD ++ [nD k])) = .lst false ((f ++ [k]).map nD) := by
    rw [show f.map nD ++ [nD k] = (f ++ [k]).map nD by simp]
    simp only [fz, fzs_same _ (isFzs_ns (f ++ [k]))]
  cases q : apartOk os (f ++ [k]) <;> rw [q] at a <;> simp [bdy_tio, stT, eVar, l2, fl, a, vMeth, isTy, updE, modP, mAppend, l1, - List.map_append] <;> simp
theorem tio_loop {os : List Of} : ∀ (ks f : List Nat) (x : Sl), (∀ k ∈ ks, k < os.length) → (∀ k ∈ f, k < os.length) → f.length + ks.length ≤ 99 → opn x →
    ∃ x', sForGo (boName 2) bdy_tio (ks.map nD) (stT os f x) = some (.nx, stT os (tio os ks f) x')
  | [], f, x, _, _, _, _ => ⟨x, rfl⟩
  | k :: ks, f, x, hk, hf, hl, hx => by
    have k1 : k < os.length := hk k List.mem_cons_self
    have hb : boName 2 (nD k) (stT os f x) = some (stT os f (.ow (nD k))) := by rcases hx with rfl | ⟨d, rfl⟩ <;> rfl
    have hg := tio_body k f k1 hf (by simp at hl; omega)
    rw [List.map_cons, forGo_nx (isFz_nD k) hb hg, tio]
    split
    · exact tio_loop ks _ _ (fun q hq => hk q (List.mem_cons_of_mem _ hq)) (by
        intro j hj
        rcases List.mem_append.mp hj with hj | hj
        · exact hf j hj
        · rw [List.mem_singleton.mp hj]; exact k1) (by simp at hl ⊢; omega) (Or.inr ⟨_, rfl⟩)
    · exact tio_loop ks _ _ (fun q hq => hk q (List.mem_cons_of_mem _ hq)) hf (by simp at hl; omega) (Or.inr ⟨_, rfl⟩)
theorem rng_n (n : Nat) (h : n ≤ 1000) : rng1Of [.int (n : Int)] = some ((List.range n).map nD) := by
  have e : Z.upTo 0 n = (List.range n).map nD := by
    unfold Z.upTo
    apply List.map_congr_left
    intro k _
    show D.int (0 + (k : Int)) = D.int (k : Int)
    rw [Int.zero_add]
  show (if _ then _ else _) = _
  rw [if_pos (by omega), Int.toNat_natCast, e]
theorem tio_mem (os : List Of) : ∀ (ks f : List Nat), ∀ k ∈ tio os ks f, k ∈ f ∨ k ∈ ks
  | [], f, k, h => Or.inl h
  | q :: r, f, k, h => by
    rw [tio] at h
    split at h
    · rcases tio_mem os r _ k h with h | h
      · rcases List.mem_append.mp h with h | h
        · exact Or.inl h
        · exact Or.inr (List.mem_cons.mpr (Or.inl (by simpa using h)))
      · exact Or.inr (List.mem_cons_of_mem _ h)
    · rcases tio_mem os r _ k h with h | h
      · exact Or.inl h
      · exact Or.inr (List.mem_cons_of_mem _ h)
def taken (os : List Of) : List Nat := tio os (List.range os.length) []
theorem sp_taken {os : List Of} (h : Ok os) : m_taken_in_order [osD os] = some (.tup ((taken os).map nD), []) := by
  have c := sp_check os h 1 (by omega) (by omega)
  have hl := h.len
  obtain ⟨x', e⟩ := tio_loop (os := os) (List.range os.length) [] .no (fun k hk => List.mem_range.mp hk) (fun k hk => nomatch hk) (by simp; omega) (Or.inl rfl)
  have e' : sForGo (boName 2) bdy_tio ((List.range os.length).map nD) [.ow (osD os), .ow (.lst true []), .no] = some (.nx, [.ow (osD os), .ow (.lst true ((taken os).map nD)), x']) := e
  have r := rng_n os.length (by omega)
  rw [m_taken_in_order_eq]
  show fin [] (sSeq _ (sSeq _ (sSeq (sFor _ _ bdy_tio) _)) _) = _
  simp [eVar, c, open?, r, e', - List.map_map]
end K74

set_option maxRecDepth 100000
set_option linter.all false
set_option Elab.async false
namespace K74
open PySem Z
def lap (os : List Of) (i j : Nat) : Bool := decide ((gt os i).1 < (gt os j).2.1) && decide ((gt os j).1 < (gt os i).2.1)
def lawApart (os : List Of) : List Nat → Bool
  | [] => true
  | k :: r => !(r.any (lap os k)) && lawApart os r
def bdy_laI : SF := sSeq (sIf (tAndB (tBl (eOp dLt (eOp dItem (eOp dItem (eVar 0) (eVar 3)) (eC (.int 0))) (eOp dItem (eOp dItem (eVar 0) (eVar 4)) (eC (.int 1))))) (tBl (eOp dLt (eOp dItem (eOp dItem (eVar 0) (eVar 4)) (eC (.int 0))) (eOp dItem (eOp dItem (eVar 0) (eVar 3)) (eC (.int 1)))))) (sSeq (sRet (vOf (eC (.bl false)))) (sNil)) (sNil)) (sNil)
def bdy_laO : SF := sSeq (sFor (iOf (eItems (eSl (eVar 1) (eP (eOp dAdd (eVar 2) (eC (.int 1)))) (eNoP)))) (boName 4) bdy_laI) (sNil)
def stL (os : List Of) (g : List Nat) (a b x : Sl) : En := [.ow (osD os), .ow (.tup (g.map nD)), a, b, x]
theorem la_inner {os : List Of} {g : List Nat} {i k : Nat} (k1 : k < os.length) : ∀ (ks : List Nat) (x : Sl), (∀ j ∈ ks, j < os.length) → opn x →
    ∃ x', opn x' ∧ sForGo (boName 4) bdy_laI (ks.map nD) (stL os g (.ow (nD i)) (.ow (nD k)) x) = some (if ks.any (lap os k) = true then .rt (.bl false) else .nx, stL os g (.ow (nD i)) (.ow (nD k)) x')
  | [], x, _, hx => ⟨x, hx, rfl⟩
  | j :: ks, x, hk, hx => by
    have j1 : j < os.length := hk j List.mem_cons_self
    have hb : boName 4 (nD j) (stL os g (.ow (nD i)) (.ow (nD k)) x) = some (stL os g (.ow (nD i)) (.ow (nD k)) (.ow (nD j))) := by rcases hx with rfl | ⟨d, rfl⟩ <;> rfl
    have i1 := item_os k1
    have i2 := item_os j1
    rw [List.map_cons, List.any_cons]
    cases q : lap os k j with
    | true =>
      have q2 := q
      simp only [lap, Bool.and_eq_true, decide_eq_true_eq] at q2
      have hf : bdy_laI (stL os g (.ow (nD i)) (.ow (nD k)) (.ow (nD j))) = some (.rt (.bl false), stL os g (.ow (nD i)) (.ow (nD k)) (.ow (nD j))) := by
        simp [bdy_laI, stL, eVar, i1, i2, q2.1, q2.2]
      exact ⟨.ow (nD j), Or.inr ⟨_, rfl⟩, by rw [forGo_rt (isFz_nD j) hb hf]; simp⟩
    | false =>
      have hf : bdy_laI (stL os g (.ow (nD i)) (.ow (nD k)) (.ow (nD j))) = some (.nx, stL os g (.ow (nD i)) (.ow (nD k)) (.ow (nD j))) := by
        unfold lap at q
        by_cases q1 : (gt os k).1 < (gt os j).2.1 <;> by_cases q2 : (gt os j).1 < (gt os k).2.1 <;> simp [q1, q2] at q <;> simp [bdy_laI, stL, eVar, i1, i2, q1, q2]
      obtain ⟨x', h1, h2⟩ := la_inner (g := g) (i := i) k1 ks (.ow (nD j)) (fun q hq => hk q (List.mem_cons_of_mem _ hq)) (Or.inr ⟨_, rfl⟩)
      exact ⟨x', h1, by rw [forGo_nx (isFz_nD j) hb hf, h2]; simp⟩
theorem la_outer {os : List Of} {g : List Nat} (hl : g.length ≤ 1000) : ∀ (suf pre : List Nat) (a b x : Sl), g = pre ++ suf → (∀ j ∈ suf, j < os.length) → opn a → opn b → opn x →
    ∃ a' b' x', sForGo (bdTup (bdCons (boName 2) (bdCons (boName 3) bdNil))) bdy_laO ((suf.zipIdx pre.length).map fun p => .tup [nD p.2, nD p.1]) (stL os g a b x) = some (if lawApart os suf = true then .nx else .rt (.bl false), stL os g a' b' x')
  | [], pre, a, b, x, _, _, _, _, _ => ⟨a, b, x, rfl⟩
  | k :: r, pre, a, b, x, hg, hk, ha, hb, hx => by
    have k1 : k < os.length := hk k List.mem_cons_self
    have h1 : (bdTup (bdCons (boName 2) (bdCons (boName 3) bdNil))) (.tup [nD pre.length, nD k]) (stL os g a b x) = some (stL os g (.ow (nD pre.length)) (.ow (nD k)) x) := by
      rcases ha with rfl | ⟨d, rfl⟩ <;> rcases hb with rfl | ⟨d', rfl⟩ <;> rfl
    obtain ⟨x', hx', h2⟩ := la_inner (g := g) (i := pre.length) k1 r x (fun q hq => hk q (List.mem_cons_of_mem _ hq)) hx
    have cu : cutD (g.map nD) (some ((pre.length : Int) + 1)) none = r.map nD := by
      have := cut_from (g.map nD) (pre.length + 1) (by rw [hg]; simp)
      rw [show ((pre.length : Int) + 1) = ((pre.length + 1 : Nat) : Int) by simp, this, hg, ← List.map_drop]
      congr 1
      rw [show pre ++ k :: r = (pre ++ [k]) ++ r by simp]
      exact List.drop_left' (by simp)
    have nk : nD pre.length = .int (pre.length : Int) := rfl
    have h3 : bdy_laO (stL os g (.ow (nD pre.length)) (.ow (nD k)) x) = some (if r.any (lap os k) = true then .rt (.bl false) else .nx, stL os g (.ow (nD pre.length)) (.ow (nD k)) x') := by
      have h2' : sForGo (boName 4) bdy_laI (r.map nD) [.ow (osD os), .ow (.tup (g.map nD)), .ow (.int (pre.length : Int)), .ow (nD k), x] = some (if r.any (lap os k) = true then .rt (.bl false) else .nx, stL os g (.ow (nD pre.length)) (.ow (nD k)) x') := h2
      cases q : r.any (lap os k) <;> rw [q] at h2' <;> simp [bdy_laO, stL, eVar, nk, dSl, cu, h2', - List.map_map] 
    rw [List.zipIdx_cons, List.map_cons]
    cases q : r.any (lap os k) with
    | true =>
      rw [q] at h3
      refine ⟨.ow (nD pre.length), .ow (nD k), x', ?_⟩
      rw [forGo_rt (by simp) h1 h3]
      simp [lawApart, q]
    | false =>
      rw [q] at h3
      obtain ⟨a', b', x2, e⟩ := la_outer hl r (pre ++ [k]) (.ow (nD pre.length)) (.ow (nD k)) x' (by rw [hg]; simp) (fun q hq => hk q (List.mem_cons_of_mem _ hq)) (Or.inr ⟨_, rfl⟩) (Or.inr ⟨_, rfl⟩) hx'
      refine ⟨a', b', x2, ?_⟩
      rw [forGo_nx (by simp) h1 h3]
      have : (pre ++ [k]).length = pre.length + 1 := by simp
      rw [this] at e
      rw [e]
      simp [lawApart, q]
theorem sp_law_apart {os : List Of} {g : List Nat} (hg : ∀ k ∈ g, k < os.length) (hl : g.length ≤ 1000) : m__law_are_apart [osD os, .tup (g.map nD)] = some (.bl (lawApart os g), []) := by
  obtain ⟨a', b', x', e⟩ := la_outer (os := os) (g := g) hl g [] .no .no .no rfl hg (Or.inl rfl) (Or.inl rfl) (Or.inl rfl)
  have n : (numbered (g.map nD)).map pairT = (g.zipIdx 0).map fun p => .tup [nD p.2, nD p.1] := num_mapN nD g
  have e' : sForGo (bdTup (bdCons (boName 2) (bdCons (boName 3) bdNil))) bdy_laO ((g.zipIdx 0).map fun p => .tup [nD p.2, nD p.1]) [.ow (osD os), .ow (.tup (g.map nD)), .no, .no, .no] = some (if lawApart os g = true then .nx else .rt (.bl false), stL os g a' b' x') := e
  rw [m__law_are_apart_eq]
  show fin [] (sSeq (sFor _ _ bdy_laO) _ _) = _
  cases q : lawApart os g <;> rw [q] at e' <;> simp [eVar, n, e', - List.map_map]
end K74

set_option maxRecDepth 100000
set_option linter.all false
set_option Elab.async false
namespace K74
open PySem Z
def gD (g : List Nat) : D := .tup (g.map nD)
@[simp] theorem isFz_gD (g : List Nat) : isFz (gD g) = true := by simp [gD]
@[simp] theorem fz_gD (g : List Nat) : fz (gD g) = gD g := fz_same _ (by simp)
@[simp] theorem bindSl_gD (o : List Nat) : bindSl (gD o) = .ow (gD o) := z_bindSl (by simp)
@[simp] theorem isFzs_gs (os : List (List Nat)) : isFzs (os.map gD) = true := isFzs_map _ (fun _ => by simp) os
@[simp] theorem noFzs_gs : ∀ l : List (List Nat), noFzs (l.map gD) = true
  | [] => by simp
  | x :: l => by simp [noFzs_gs l, gD]
def grow (acc : List (List Nat)) (k : Nat) : List (List Nat) := acc ++ acc.map (· ++ [k])
def groups (g : List Nat) : List (List Nat) := g.foldl grow [[]]
theorem grow_len (acc : List (List Nat)) (k : Nat) : (grow acc k).length = 2 * acc.length := by simp [grow]; omega
theorem grows_len : ∀ (g : List Nat) (acc : List (List Nat)), (g.foldl grow acc).length = 2 ^ g.length * acc.length
  | [], acc => by simp
  | k :: g, acc => by rw [List.foldl_cons, grows_len g, grow_len, List.length_cons, Nat.pow_succ]; simp [Nat.mul_assoc]
/-- each of them no longer than what is behind it -/
theorem grows_le : ∀ (g : List Nat) (acc : List (List Nat)) (n : Nat), (∀ a ∈ acc, a.length ≤ n) → ∀ a ∈ g.foldl grow acc, a.length ≤ n + g.length
  | [], acc, n, h, a, ha => by simpa using h a ha
  | k :: g, acc, n, h, a, ha => by
    have := grows_le g (grow acc k) (n + 1) (by
      intro b hb
      rcases List.mem_append.mp hb with hb | hb
      · have := h b hb; omega
      · obtain ⟨c, hc, rfl⟩ := List.mem_map.mp hb
        have := h c hc; simp; omega) a ha
    simp; omega
def bdy_gr : SF := sSeq (sSet 1 (vOf (eOp dAdd (eVar 1) (eLc [3] (eItems (eVar 1)) (bdName 3) (gYes) (eOp dAdd (eVar 3) (eTup (esCons (eFz (eVar 2)) (esNil)))))))) (sNil)
theorem gr_loop (c : D) : ∀ (ks : List Nat) (acc : List (List Nat)) (x : Sl) (n : Nat), n + ks.length ≤ 12 → acc.length ≤ 2 ^ n → (∀ a ∈ acc, a.length ≤ n) → opn x →
    ∃ x', sForGo (boName 2) bdy_gr (ks.map nD) [.ow c, .ow (.lst true (acc.map gD)), x, .no] = some (.nx, [.ow c, .ow (.lst true ((ks.foldl grow acc).map gD)), x', .no])
  | [], acc, x, _, _, _, _, _ => ⟨x, rfl⟩
  | k :: ks, acc, x, n, hn, hl, ha, hx => by
    have hb : boName 2 (nD k) [.ow c, .ow (.lst true (acc.map gD)), x, .no] = some [.ow c, .ow (.lst true (acc.map gD)), .ow (nD k), .no] := by rcases hx with rfl | ⟨d, rfl⟩ <;> rfl
    have hn2 : n ≤ 11 := by simp at hn; omega
    have p2 : 2 ^ n ≤ 2 ^ 11 := Nat.pow_le_pow_right (by decide) hn2
    have l1 : acc.length ≤ lim := Nat.le_trans hl (Nat.le_trans p2 (by decide))
    have l2 : acc.length + acc.length ≤ lim := by
      have : (2 : Nat) ^ 11 = 2048 := by decide
      have : lim = 1000000 := rfl
      omega
    have e := lcGo_mapT (bd := bdName 3) (ge := eOp dAdd (eVar 3) (eTup (esCons (eFz (eVar 2)) esNil))) (e0 := [.ow c, .ow (.lst true (acc.map gD)), .ow (nD k), .no]) gD (fun a => [.ow c, .ow (.lst true (acc.map gD)), .ow (nD k), .ow (gD a)]) (fun a => gD (a ++ [k])) acc (fun a q => by
      have l3 : a.length + 1 ≤ lim := by have := ha a q; have : lim = 1000000 := rfl; omega
      simp [eVar, gD, l3, bindSl])
    have z : acc.map (fun a => gD (a ++ [k])) = (acc.map (· ++ [k])).map gD := by simp
    rw [z] at e
    have hf : bdy_gr [.ow c, .ow (.lst true (acc.map gD)), .ow (nD k), .no] = some (.nx, [.ow c, .ow (.lst true ((grow acc k).map gD)), .ow (nD k), .no]) := by
      have fz2 : isFzs ((acc.map (· ++ [k])).map gD) = true := isFzs_gs _
      simp [bdy_gr, eVar, l1, e, l2, open?, fz2, grow, - List.map_map]
    rw [List.map_cons, forGo_nx (isFz_nD k) hb hf, List.foldl_cons]
    exact gr_loop c ks (grow acc k) _ (n + 1) (by simp at hn; omega) (by rw [grow_len, Nat.pow_succ]; omega) (by
      intro b hb
      rcases List.mem_append.mp hb with hb | hb
      · have := ha b hb; omega
      · obtain ⟨c, hc, rfl⟩ := List.mem_map.mp hb
        have := ha c hc; simp; omega) (Or.inr ⟨_, rfl⟩)
theorem sp_groups {d : D} {g : List Nat} (h : Gq d g) (hl : g.length ≤ 8) : m__law_groups [d] = some (.lst true ((groups g).map gD), []) := by
  obtain ⟨x', e⟩ := gr_loop d g [[]] .no 0 (by omega) (by simp) (by simp) (Or.inl rfl)
  have e' : sForGo (boName 2) bdy_gr (g.map nD) [.ow d, .ow (.lst true [.tup []]), .no, .no] = some (.nx, [.ow d, .ow (.lst true ((groups g).map gD)), x', .no]) := e
  have fd : isFz d = true := by rcases h with rfl | rfl <;> simp [isFz]
  rw [m__law_groups_eq]
  show fin [] (sSeq _ (sSeq (sFor _ _ bdy_gr) _) _) = _
  simp [eVar, open?, fd, h.items, e', vMove, - List.map_map]
def lio (os : List Of) : List Nat → List Nat → List Nat
  | [], f => f
  | k :: r, f => if lawApart os (f ++ [k]) = true then lio os r (f ++ [k]) else lio os r f
def bdy_lio : SF := sSeq (sIf (tBl (eCall m__law_are_apart (esCons (eVar 0) (esCons (eOp dAdd (eVar 1) (eTup (esCons (eFz (eVar 2)) (esNil)))) (esNil))))) (sSeq (sSet 1 (vOf (eOp dAdd (eVar 1) (eTup (esCons (eFz (eVar 2)) (esNil)))))) (sNil)) (sNil)) (sNil)
def stO (os : List Of) (f : List Nat) (x : Sl) : En := [.ow (osD os), .ow (gD f), x]
theorem lio_body {os : List Of} (k : Nat) (f : List Nat) (k1 : k < os.length) (hf : ∀ j ∈ f, j < os.length) (hl : f.length < 100) :
    bdy_lio (stO os f (.ow (nD k))) = some (.nx, if lawApart os (f ++ [k]) = true then stO os (f ++ [k]) (.ow (nD k)) else stO os f (.ow (nD k))) := by
  have l2 : f.length + 1 ≤ lim := Nat.lt_of_lt_of_le hl (by decide)
  have a := sp_law_apart (os := os) (g := f ++ [k]) (by
    intro j hj
    rcases List.mem_append.mp hj with hj | hj
    · exact hf j hj
    · rw [List.mem_singleton.mp hj]; exact k1) (by simp; omega)
  have ad : dAdd (gD f) (.tup [nD k]) = some (gD (f ++ [k])) := by simp [gD, l2]
  have fl : fz (gD (f ++ [k])) = .tup ((f ++ [k]).map nD) := fz_gD _
  cases q : lawApart os (f ++ [k]) <;> rw [q] at a <;> simp [bdy_lio, stO, eVar, ad, a, fl, open?, - List.map_append]
theorem lio_loop {os : List Of} : ∀ (ks f : List Nat) (x : Sl), (∀ k ∈ ks, k < os.length) → (∀ k ∈ f, k < os.length) → f.length + ks.length ≤ 99 → opn x →
    ∃ x', sForGo (boName 2) bdy_lio (ks.map nD) (stO os f x) = some (.nx, stO os (lio os ks f) x')
  | [], f, x, _, _, _, _ => ⟨x, rfl⟩
  | k :: ks, f, x, hk, hf, hl, hx => by
    have k1 : k < os.length := hk k List.mem_cons_self
    have hb : boName 2 (nD k) (stO os f x) = some (stO os f (.ow (nD k))) := by rcases hx with rfl | ⟨d, rfl⟩ <;> rfl
    have hg := lio_body k f k1 hf (by simp at hl; omega)
    rw [List.map_cons, forGo_nx (isFz_nD k) hb hg, lio]
    split
    · exact lio_loop ks _ _ (fun q hq => hk q (List.mem_cons_of_mem _ hq)) (by
        intro j hj
        rcases List.mem_append.mp hj with hj | hj
        · exact hf j hj
        · rw [List.mem_singleton.mp hj]; exact k1) (by simp at hl ⊢; omega) (Or.inr ⟨_, rfl⟩)
    · exact lio_loop ks _ _ (fun q hq => hk q (List.mem_cons_of_mem _ hq)) hf (by simp at hl; omega) (Or.inr ⟨_, rfl⟩)
def inOrder (os : List Of) : List Nat := lio os (List.range os.length) []
theorem sp_in_order {os : List Of} (h : Ok os) : m__law_in_order [osD os] = some (gD (inOrder os), []) := by
  have hl := h.len
  obtain ⟨x', e⟩ := lio_loop (os := os) (List.range os.length) [] .no (fun k hk => List.mem_range.mp hk) (fun k hk => nomatch hk) (by simp; omega) (Or.inl rfl)
  have e' : sForGo (boName 2) bdy_lio ((List.range os.length).map nD) [.ow (osD os), .ow (.tup []), .no] = some (.nx, [.ow (osD os), .ow (gD (inOrder os)), x']) := e
  have r := rng_n os.length (by omega)
  rw [m__law_in_order_eq]
  show fin [] (sSeq _ (sSeq (sFor _ _ bdy_lio) _) _) = _
  simp [eVar, open?, r, e', vMove, - List.map_map]
theorem mem_grows : ∀ (g : List Nat) (acc : List (List Nat)) (a : List Nat), a ∈ g.foldl grow acc ↔ ∃ b ∈ acc, ∃ s, s.Sublist g ∧ a = b ++ s
  | [], acc, a => by
    constructor
    · intro h; exact ⟨a, h, [], List.Sublist.refl _, by simp⟩
    · rintro ⟨b, hb, s, hs, rfl⟩
      rw [List.sublist_nil.mp hs, List.append_nil]; exact hb
  | k :: g, acc, a => by
    rw [List.foldl_cons, mem_grows g]
    constructor
    · rintro ⟨b, hb, s, hs, rfl⟩
      rcases List.mem_append.mp hb with hb | hb
      · exact ⟨b, hb, s, hs.cons k, rfl⟩
      · obtain ⟨c, hc, rfl⟩ := List.mem_map.mp hb
        exact ⟨c, hc, k :: s, hs.cons_cons k, by simp⟩
    · rintro ⟨b, hb, s, hs, rfl⟩
      cases hs with
      | cons _ h => exact ⟨b, List.mem_append_left _ hb, s, h, rfl⟩
      | cons_cons _ h => exact ⟨b ++ [k], List.mem_append_right _ (List.mem_map_of_mem hb), _, h, by simp⟩
theorem mem_groups {g a : List Nat} : a ∈ groups g ↔ a.Sublist g := by
  unfold groups
  rw [mem_grows]
  constructor
  · rintro ⟨b, hb, s, hs, rfl⟩
    rw [List.mem_singleton.mp hb]; exact hs
  · intro h; exact ⟨[], by simp, a, h, by simp⟩
end K74

set_option maxRecDepth 100000
set_option linter.all false
set_option Elab.async false
namespace Z
open PySem
@[simp] theorem dEq_int (a b : Int) : dEq (.int a) (.int b) = some (.bl (a == b)) := by simp [dEq, eqOk, dPy, PyData.eqv, okPy, SeqAt.shaped, PyData.canLay0, PyData.depth]
@[simp] theorem dNe_int (a b : Int) : dNe (.int a) (.int b) = some (.bl (a != b)) := by simp [dNe, eqOk, dPy, PyData.eqv, bne, okPy, SeqAt.shaped, PyData.canLay0, PyData.depth]
theorem z_max {o : Bool} {α : Type} (p : α → Int) (l : List α) : bMax [.lst o (l.map fun x => D.int (p x))] = (l.map p).max?.bind fun m => some (.int m) := by
  show (intsOf _).bind _ = _
  rw [intsOf_all]; rfl
theorem z_min {o : Bool} {α : Type} (p : α → Int) (l : List α) : bMin [.lst o (l.map fun x => D.int (p x))] = (l.map p).min?.bind fun m => some (.int m) := by
  show (intsOf _).bind _ = _
  rw [intsOf_all]; rfl
end Z
namespace K74
open PySem Z
def lens (S : List (List Nat)) : List Int := S.map fun a => (a.length : Int)
def mostOf (S : List (List Nat)) : Int := (lens S).max?.getD 0
def endMax (os : List Of) (a : List Nat) : Int := ((0 : Int) :: a.map fun k => (gt os k).2.1).max?.getD 0
def okGroups (os : List Of) (g : List Nat) : List (List Nat) := (groups g).filter (lawApart os)
def lawLeast (os : List Of) (g : List Nat) : Int :=
  (((okGroups os g).filter fun a => (a.length : Int) == mostOf (okGroups os g)).map (endMax os)).min?.getD 0
theorem nil_ok (os : List Of) (g : List Nat) : [] ∈ okGroups os g := by
  simp [okGroups, mem_groups, lawApart]
theorem max_some {l : List Int} (h : l ≠ []) : l.max? = some (l.max?.getD 0) := by
  cases q : l.max? with
  | none => exact absurd (List.max?_eq_none_iff.mp q) h
  | some m => rfl
theorem min_some {l : List Int} (h : l ≠ []) : l.min? = some (l.min?.getD 0) := by
  cases q : l.min? with
  | none => exact absurd (List.min?_eq_none_iff.mp q) h
  | some m => rfl
theorem lens_max (os : List Of) (g : List Nat) : (lens (okGroups os g)).max? = some (mostOf (okGroups os g)) :=
  max_some (by
    intro h
    have := List.mem_map_of_mem (f := fun a : List Nat => (a.length : Int)) (nil_ok os g)
    rw [show List.map (fun a : List Nat => (a.length : Int)) (okGroups os g) = [] from h] at this
    cases this)
theorem most_in (os : List Of) (g : List Nat) : ∃ a ∈ okGroups os g, (a.length : Int) = mostOf (okGroups os g) := by
  have := List.max?_mem (lens_max os g)
  exact List.mem_map.mp this
theorem groups_len {g : List Nat} (h : g.length ≤ 8) : (groups g).length ≤ 1000 := by
  have := grows_len g [[]]
  have p : 2 ^ g.length ≤ 2 ^ 8 := Nat.pow_le_pow_right (by decide) h
  unfold groups
  simp at this p ⊢; omega
theorem sp_law_least {os : List Of} {g : List Nat} (hg : ∀ k ∈ g, k < os.length) (hl : g.length ≤ 8) : m__law_least_end [osD os, gD g] = some (.int (lawLeast os g), []) := by
  have gr := sp_groups (d := gD g) (g := g) (Or.inl rfl) hl
  have n1 := groups_len hl
  have l1 : (groups g).length ≤ lim := le_lim n1
  have n2 : (okGroups os g).length ≤ 1000 := Nat.le_trans (List.length_filter_le _ _) n1
  have l2 : (okGroups os g).length ≤ lim := le_lim n2
  have e1 := lcGo_map (β := Unit) (bd := bdName 4) (gt := tBl (eCall m__law_are_apart (esCons (eVar 0) (esCons (eVar 4) esNil)))) (ge := eFz (eVar 4)) (e0 := [.ow (osD os), .ow (gD g), .no, .no, .no, .no])
    gD (fun a => [.ow (osD os), .ow (gD g), .no, .no, .ow (gD a), .no]) (lawApart os) gD (groups g) (fun a ha => by
    have sub := mem_groups.mp ha
    have sp := sp_law_apart (os := os) (g := a) (fun k hk => hg k (sub.subset hk)) (by have := sub.length_le; omega)
    have sp' : m__law_are_apart [osD os, gD a] = some (.bl (lawApart os a), []) := sp
    refine ⟨by simp, ?_, fun _ => by simp [eVar]⟩
    simp [eVar, sp'])
  have e2 := lcGo_mapT (bd := bdName 4) (ge := eBi bLen (esCons (eVar 4) esNil)) (e0 := [.ow (osD os), .ow (gD g), .ow (.lst true ((okGroups os g).map gD)), .no, .no, .no]) gD
    (fun a => [.ow (osD os), .ow (gD g), .ow (.lst true ((okGroups os g).map gD)), .no, .ow (gD a), .no]) (fun a => .int (a.length : Int)) (okGroups os g) (fun a _ => by simp [eVar]; simp [gD])
  have e3 := lcGo_map (β := Unit) (bd := bdName 4) (gt := tBl (eOp dEq (eBi bLen (esCons (eVar 4) (esNil))) (eVar 3))) (ge := eBi bMax (esCons (eOp dAdd (eLst (esCons (eC (.int 0)) (esNil))) (eLc [5] (eItems (eVar 4)) (bdName 5) (gYes) (eOp dIxF (eOp dItem (eVar 0) (eVar 5)) (eC (.int 1))))) (esNil)))
    (e0 := [.ow (osD os), .ow (gD g), .ow (.lst true ((okGroups os g).map gD)), .ow (.int (mostOf (okGroups os g))), .no, .no]) gD (fun a => [.ow (osD os), .ow (gD g), .ow (.lst true ((okGroups os g).map gD)), .ow (.int (mostOf (okGroups os g))), .ow (gD a), .no])
    (fun a => (a.length : Int) == mostOf (okGroups os g)) (fun a => .int (endMax os a)) (okGroups os g) (fun a ha => by
    have sub := mem_groups.mp (List.mem_filter.mp ha).1
    have le := sub.length_le
    have l3 : a.length ≤ lim := le_lim (by omega)
    have l4 : 1 + a.length ≤ lim := le_lim (by omega)
    refine ⟨by simp, by simp [eVar]; simp [gD], fun _ => ?_⟩
    have e := lcGo_mapT (bd := bdName 5) (ge := eOp dIxF (eOp dItem (eVar 0) (eVar 5)) (eC (.int 1))) (e0 := [.ow (osD os), .ow (gD g), .ow (.lst true ((okGroups os g).map gD)), .ow (.int (mostOf (okGroups os g))), .ow (gD a), .no]) nD
      (fun k => [.ow (osD os), .ow (gD g), .ow (.lst true ((okGroups os g).map gD)), .ow (.int (mostOf (okGroups os g))), .ow (gD a), .ow (nD k)]) (fun k => .int ((gt os k).2.1)) a (fun k hk => by
        simp [eVar, item_os (hg k (sub.subset hk))])
    have it : dItems (gD a) = some (a.map nD) := rfl
    have fz2 : isFzs (a.map fun k => D.int (gt os k).2.1) = true := isFzs_map _ (fun _ => by simp) a
    have mx := z_max (o := true) id ((0 : Int) :: a.map fun k => (gt os k).2.1)
    have z : ((0 : Int) :: a.map fun k => (gt os k).2.1).map (fun x => D.int (id x)) = .int 0 :: a.map fun k => D.int (gt os k).2.1 := by simp
    rw [z, List.map_id, max_some (by simp)] at mx
    simp [eVar, it, l3, e, l4, fz2, mx, endMax, - List.max?_cons])
  have e1' : lcGo (bdName 4) (tBl (eCall m__law_are_apart (esCons (eVar 0) (esCons (eVar 4) esNil)))) (eFz (eVar 4)) [.ow (osD os), .ow (gD g), .no, .no, .no, .no] ((groups g).map gD) = some ((okGroups os g).map gD) := e1
  have mx := z_max (o := true) (fun a : List Nat => (a.length : Int)) (okGroups os g)
  rw [show List.map (fun a : List Nat => (a.length : Int)) (okGroups os g) = lens (okGroups os g) from rfl, lens_max] at mx
  have mn := z_min (o := true) (endMax os) ((okGroups os g).filter fun a => (a.length : Int) == mostOf (okGroups os g))
  have ne : (((okGroups os g).filter fun a => (a.length : Int) == mostOf (okGroups os g)).map (endMax os)) ≠ [] := by
    obtain ⟨a, h1, h2⟩ := most_in os g
    intro h
    have := List.mem_map_of_mem (f := endMax os) (List.mem_filter (p := fun a : List Nat => (a.length : Int) == mostOf (okGroups os g)).mpr ⟨h1, by simpa using h2⟩)
    rw [h] at this
    cases this
  rw [min_some ne] at mn
  have mn' : bMin [.lst true (((okGroups os g).filter fun a => (a.length : Int) == mostOf (okGroups os g)).map fun x => D.int (endMax os x))] = some (.int (lawLeast os g)) := mn
  have fg : fz (gD g) = gD g := fz_gD g
  simp [m__law_least_end_eq, b__law_least_end, eVar, gr, l1, e1', open?, l2, e2, mx, e3, mn', - List.map_map]
end K74

set_option maxRecDepth 100000
set_option linter.all false
set_option Elab.async false
namespace K74
open PySem Z
def hrsOf : D → Option (List Int)
  | .tup l => intsOf l
  | _ => none
def meets (os : List Of) (hs : List Int) : Bool := os.all fun o => hs.any fun h => decide (o.1 ≤ h) && decide (h < o.2.1)
def grpN (n : Nat) (b : D) : Option (List Nat) := (grpOf n b).map (·.map Int.toNat)
theorem asc_rise : ∀ {g : List Nat}, asc (gI g) = true → rise g
  | [], _ => List.Pairwise.nil
  | [x], _ => List.pairwise_singleton _ _
  | x :: y :: g, h => by
    have h1 : x < y ∧ asc (gI (y :: g)) = true := by
      unfold asc at h ⊢
      simp [gI] at h ⊢
      exact ⟨by omega, h.2⟩
    have ih := asc_rise h1.2
    refine List.pairwise_cons.mpr ⟨?_, ih⟩
    intro z hz
    rcases List.mem_cons.mp hz with rfl | hz
    · exact h1.1
    · exact Nat.lt_trans h1.1 ((List.pairwise_cons.mp ih).1 z hz)
theorem grpN_some {n : Nat} {b : D} {g : List Nat} (h : grpN n b = some g) : b = gD g ∧ rise g ∧ (∀ k ∈ g, k < n) ∧ grpOf n b = some (gI g) := by
  unfold grpN at h
  cases q : grpOf n b with
  | none => rw [q] at h; cases h
  | some ns =>
    rw [q] at h
    cases h
    cases b with
    | tup l =>
      have q' := q
      simp only [grpOf] at q
      cases qi : intsOf l with
      | none => rw [qi] at q; cases q
      | some ms =>
        rw [qi, Option.bind_some] at q
        split at q
        case isFalse => cases q
        case isTrue hh =>
          cases q
          rw [Bool.and_eq_true] at hh
          have hz : ∀ i ∈ ns, 0 ≤ i ∧ i ≤ (n : Int) - 1 := by
            intro i hi
            have := List.all_eq_true.mp hh.1 i hi
            simpa using this
          have e : gI (ns.map Int.toNat) = ns := by
            unfold gI
            rw [List.map_map]
            conv => rhs; rw [← List.map_id ns]
            apply List.map_congr_left
            intro i hi
            have := (hz i hi).1
            simp; omega
          refine ⟨?_, asc_rise (by rw [e]; exact hh.2), ?_, ?_⟩
          · show D.tup l = .tup _
            rw [gI_D, e, intsOf_eq qi]
          · intro k hk
            obtain ⟨i, hi, rfl⟩ := List.mem_map.mp hk
            have := hz i hi
            omega
          · rw [e]
    | _ => simp [grpOf] at q
theorem grpN_none {n : Nat} {b : D} (h : grpN n b = none) : grpOf n b = none := by
  unfold grpN at h
  cases q : grpOf n b with
  | none => rfl
  | some ns => rw [q] at h; cases h
theorem grpN_gD {n : Nat} {g : List Nat} (h : rise g) (hk : ∀ k ∈ g, k < n) : grpN n (gD g) = some g := by
  unfold grpN gD
  rw [grpOf_g h hk]
  have : (Int.toNat ∘ fun k : Nat => (k : Int)) = id := by funext k; simp
  simp [gI, this]
theorem intsOf_isI : ∀ (l : List D), l.all isI = (intsOf l).isSome
  | [] => rfl
  | d :: l => by
    rw [List.all_cons, intsOf_isI l]
    cases d <;> simp [isI, intsOf]
    cases intsOf l <;> rfl
structure Gs (d : D) : Prop extends Gd d where
  it : ∀ a b c, d = .tup [a, b, c] → Gd a ∧ Gt b ∧ Gt c
def mostR (os : List Of) : D → Bool
  | .tup [.int n, b, c] => match grpN os.length b, hrsOf c with
    | some g, some hs => decide ((g.length : Int) = n) && apartOk os g && asc hs && meets os hs && decide ((hs.length : Int) ≤ n)
    | _, _ => false
  | _ => false
theorem fz_of {d : D} (h : Gd d) : fz d = d := fz_same d h.fz
theorem sp_is_most_apart {os : List Of} (h : Ok os) (d : D) (hd : Gs d) : m_is_most_apart [osD os, d] = some (.bl (mostR os d), []) := by
  have c0 := sp_check os h 1 (by omega) (by omega)
  have hl := h.len
  have t := isi_tup d hd.toGd
  by_cases q : isTu d = true
  case neg =>
    have q : isTu d = false := by simpa using q
    have r : mostR os d = false := by cases d <;> first | rfl | (cases q; done)
    simp [m_is_most_apart_eq, b_is_most_apart, eVar, c0, t, q, r]
  cases d <;> simp only [isTu] at q <;> try (cases q; done)
  rename_i l
  replace t : bIsi [.tup l, .ty "tuple"] = some (.bl true) := t
  by_cases q3 : l.length = 3
  case neg =>
    have r : mostR os (.tup l) = false := by
      rcases l with _ | ⟨a, _ | ⟨b, _ | ⟨c, _ | ⟨e, l⟩⟩⟩⟩ <;> first | rfl | (simp at q3; done) | skip
      all_goals (cases a <;> rfl)
    have ne : ((l.length : Int) != 3) = true := by simp; omega
    simp [m_is_most_apart_eq, b_is_most_apart, eVar, c0, t, isTu, ne, r]
  rcases l with _ | ⟨a, _ | ⟨b, _ | ⟨c, _ | ⟨e, l⟩⟩⟩⟩ <;> simp at q3
  obtain ⟨ha, hb, hc⟩ := hd.it a b c rfl
  obtain ⟨ta, hta⟩ := ha.ty
  have ia := sp_is_integer a ta hta
  by_cases qa : isI a = true
  case neg =>
    have qa : isI a = false := by simpa using qa
    have r : mostR os (.tup [a, b, c]) = false := by cases a <;> first | rfl | (cases qa; done)
    simp [m_is_most_apart_eq, b_is_most_apart, eVar, c0, t, isTu, fz_of ha, ia, qa, r]
  cases a <;> simp only [isI] at qa <;> try (cases qa; done)
  rename_i n
  replace ia : m_is_integer [.int n] = some (.bl true, []) := ia
  have gr := sp_is_group_of os.length b hb
  have fb := fz_of hb.toGd
  have fc := fz_of hc.toGd
  cases qg : grpN os.length b with
  | none =>
    rw [grpN_none qg] at gr
    have r : mostR os (.tup [.int n, b, c]) = false := by simp [mostR, qg]
    simp [m_is_most_apart_eq, b_is_most_apart, eVar, c0, t, ia, fb, gr, r]
  | some g =>
    obtain ⟨rfl, rg, hk, gq⟩ := grpN_some qg
    rw [gq] at gr
    have lb : bLen [gD g] = some (.int g.length) := by simp [gD]
    by_cases qn : (g.length : Int) = n
    case neg =>
      have r : mostR os (.tup [.int n, gD g, c]) = false := by
        cases qq : hrsOf c <;> simp [mostR, qq, qg, qn]
      have ne : ((g.length : Int) != n) = true := by simpa using qn
      simp [m_is_most_apart_eq, b_is_most_apart, eVar, c0, t, ia, fb, gr, lb, ne, r]
    have ne : ((g.length : Int) != n) = false := by simpa using qn
    have gl : g.length ≤ 1000 := by have := (hb.it _ rfl).1; simpa using this
    have ap := sp_are_apart (os := os) (d := gD g) (g := g) (Or.inl rfl) hk gl
    cases qp : apartOk os g with
    | false =>
      have r : mostR os (.tup [.int n, gD g, c]) = false := by
        cases qq : hrsOf c <;> simp [mostR, qq, qg, qp]
      rw [qp] at ap
      simp [m_is_most_apart_eq, b_is_most_apart, eVar, c0, t, ia, fb, gr, lb, ne, ap, r]
    | true =>
      rw [qp] at ap
      have tc := isi_tup c hc.toGd
      by_cases qc : isTu c = true
      case neg =>
        have qc : isTu c = false := by simpa using qc
        have r : mostR os (.tup [.int n, gD g, c]) = false := by
          cases c <;> first | (simp [mostR, qg, hrsOf]; done) | (cases qc; done)
        rw [qc] at tc
        simp [m_is_most_apart_eq, b_is_most_apart, eVar, c0, t, ia, isI, fb, gr, lb, ne, ap, tc, r]
      cases c <;> simp only [isTu] at qc <;> try (cases qc; done)
      rename_i l
      replace tc : bIsi [.tup l, .ty "tuple"] = some (.bl true) := tc
      obtain ⟨ll, lx⟩ := hc.it l rfl
      have l1 : l.length ≤ lim := le_lim ll
      have e := lcGo_allT (bd := bdName 2) (ge := eCall m_is_integer (esCons (eVar 2) esNil)) (e0 := [.ow (osD os), .ow (.tup [.int n, gD g, .tup l]), .no]) (fun x => [.ow (osD os), .ow (.tup [.int n, gD g, .tup l]), .ow x]) (fun x => .bl (isI x)) l (fun x hx => by
        have g := lx x hx
        obtain ⟨t, ht⟩ := g.ty
        simp [z_bindSl g.fz, eVar, fz_of g, sp_is_integer x t ht])
      cases qh : intsOf l with
      | none =>
        have al : l.all isI = false := by rw [intsOf_isI, qh]; rfl
        have r : mostR os (.tup [.int n, gD g, .tup l]) = false := by simp [mostR, qg, hrsOf, qh]
        have ba := z_all_bl isI l
        rw [al] at ba
        simp [m_is_most_apart_eq, b_is_most_apart, eVar, c0, t, ia, fb, gr, lb, ne, ap, tc, l1, e, ba, r, - List.all_map, - List.map_map]
      | some hs =>
        have al : l.all isI = true := by rw [intsOf_isI, qh]; rfl
        have el := intsOf_eq qh
        have ba := z_all_bl isI l
        rw [al] at ba
        have hl2 : hs.length ≤ 1000 := by rw [el] at ll; simpa using ll
        have as := sp_are_ascending hs hl2
        have dm := sp_do_meet os hs (by omega) hl2
        rw [← el] at as dm
        have lc : (l.length : Int) = hs.length := by rw [el]; simp
        have r : mostR os (.tup [.int n, gD g, .tup l]) = (asc hs && (meets os hs && decide ((hs.length : Int) ≤ n))) := by simp [mostR, qg, hrsOf, qh, qn, qp, Bool.and_assoc]
        cases q1 : asc hs <;> rw [q1] at as r <;> cases q2 : meets os hs <;> rw [show (os.all fun o => hs.any fun h => decide (o.1 ≤ h) && decide (h < o.2.1)) = _ from q2] at dm <;> rw [q2] at r <;>
        simp [m_is_most_apart_eq, b_is_most_apart, eVar, c0, t, ia, fb, gr, lb, ne, ap, tc, l1, e, ba, r, fc, as, dm, lc, - List.all_map, - List.map_map]
end K74

set_option maxRecDepth 100000
set_option linter.all false
set_option Elab.async false
namespace K74
open PySem Z
theorem isi_int (d : D) (h : Gd d) (q : isI d = true) : bIsi [d, .ty "int"] = some (.bl true) ∧ bIsi [d, .ty "bool"] = some (.bl false) := by
  cases d <;> simp only [isI] at q <;> try (cases q; done)
  constructor <;> simp [bIsi, tyOf, kit_int_int, kit_int_bool]
theorem isi_no (d : D) (h : Gd d) (q : isI d = false) : bIsi [d, .ty "int"] = some (.bl false) ∨ (bIsi [d, .ty "int"] = some (.bl true) ∧ bIsi [d, .ty "bool"] = some (.bl true)) := by
  obtain ⟨t, ht⟩ := h.ty
  cases d <;> simp only [isI] at q <;> try (cases q; done)
  all_goals (simp only [tyOf] at ht; try (cases ht; done))
  all_goals simp [bIsi, tyOf, kit_int_int, kit_bool_int, kit_bool_bool, kit_int_bool, kit_str_int, kit_tuple_int, kit_list_int, kit_dict_int, kit_none_int]
theorem sp_law_num (d : D) (a b : Int) (h : Gd d) : m__law_is_number [d, .int a, .int b] = some (.bl (wi a b d), []) := by
  by_cases q : isI d = true
  · obtain ⟨h1, h2⟩ := isi_int d h q
    cases d <;> simp only [isI] at q <;> try (cases q; done)
    rename_i i
    by_cases hi : a ≤ i <;> simp [m__law_is_number_eq, b__law_is_number, eVar, h1, h2, eCh, wi, hi]
  · have q : isI d = false := by simpa using q
    have r : wi a b d = false := by cases d <;> first | rfl | (cases q; done)
    rcases isi_no d h q with h1 | ⟨h1, h2⟩
    · simp [m__law_is_number_eq, b__law_is_number, eVar, h1, r]
    · simp [m__law_is_number_eq, b__law_is_number, eVar, h1, h2, r]
theorem sp_law_group (n : Int) (g : D) (h : Gt g) : m__law_is_group [g, .int n] = some (.bl (grpOf n g).isSome, []) := by
  have hi := isi_tup g h.toGd
  by_cases q : isTu g = true
  · cases g <;> simp only [isTu] at q <;> try (cases q; done)
    rename_i l
    obtain ⟨hl, hx⟩ := h.it l rfl
    have e := lcGo_allT (bd := bdName 2) (ge := eCall m__law_is_number (esCons (eVar 2) (esCons (eC (.int 0)) (esCons (eOp dSub (eVar 1) (eC (.int 1))) esNil)))) (e0 := [.ow (.tup l), .ow (.int n), .no, .no])
      (fun d => [.ow (.tup l), .ow (.int n), .ow d, .no]) (fun d => .bl (wi 0 (n - 1) d)) l (fun d hd => by
        have g := hx d hd
        simp [bindSl, g.fz, eVar, fz_same d g.fz, sp_law_num d 0 (n - 1) g])
    have hf : isFzs l = true := by have := h.fz; simpa using this
    have ba := z_all_bl (wi 0 (n - 1)) l
    cases w : l.all (wi 0 (n - 1)) with
    | true =>
      rw [w] at ba
      obtain ⟨ns, rfl, e2⟩ := intsOf_wi w
      have hl2 : ns.length ≤ 1000 := by simpa using hl
      have w2 : ns.all (fun i => decide (0 ≤ i) && decide (i ≤ n - 1)) = true := e2
      have e4 : grpOf n (.tup (ns.map .int)) = if asc ns = true then some ns else none := by
        show (intsOf (ns.map D.int)).bind _ = _
        rw [intsOf_map, Option.bind_some, w2, Bool.true_and]
      have e5 : (if asc ns = true then some ns else none).isSome = asc ns := by cases asc ns <;> rfl
      have z := lcGo_mapT (bd := bdTup (bdCons (bdName 2) (bdCons (bdName 3) bdNil))) (ge := eOp dLt (eVar 2) (eVar 3)) (e0 := [.ow (.tup (ns.map .int)), .ow (.int n), .no, .no]) (fun p : Int × Int => .tup [.int p.1, .int p.2])
        (fun p => [.ow (.tup (ns.map .int)), .ow (.int n), .ow (.int p.1), .ow (.int p.2)]) (fun p => .bl (decide (p.1 < p.2))) (ns.zip ns.tail) (fun p _ => by simp [eVar])
      have hl3 : ns.length ≤ lim + 1 := Nat.le_succ_of_le (le_lim hl2)
      rw [e4, e5]
      simp [m__law_is_group_eq, b__law_is_group, eVar, hi, isTu, le_lim hl2, e, ba, dSl, isT, ← List.map_tail, zip_pairT, z, z_all_bl, asc, hl3, - List.all_map, - List.map_map]
    | false =>
      rw [w] at ba
      have e4 : grpOf n (.tup l) = none := by
        show (intsOf l).bind _ = _
        cases q : intsOf l with
        | none => rfl
        | some ns =>
          have : l = ns.map D.int := intsOf_eq q
          rw [this, wi_ints] at w
          rw [Option.bind_some, w]; rfl
      simp [m__law_is_group_eq, b__law_is_group, eVar, hi, isTu, le_lim hl, e, ba, e4, - List.all_map, - List.map_map]
  · have q : isTu g = false := by simpa using q
    have e4 : grpOf n g = none := by cases g <;> first | rfl | (cases q; done)
    simp [m__law_is_group_eq, b__law_is_group, eVar, hi, q, e4]
theorem sp_law_meet (os : List Of) (hs : List Int) (hl : os.length ≤ 1000) (hh : hs.length ≤ 1000) : m__law_do_meet [osD os, .tup (hs.map .int)] = some (.bl (meets os hs), []) := sp_do_meet os hs hl hh
def rightR (os : List Of) : D → Bool
  | .tup [.int n, b, c] => match grpN os.length b, hrsOf c with
    | some g, some hs => decide ((g.length : Int) = n) && lawApart os g && asc hs && decide ((hs.length : Int) = n) && meets os hs
    | _, _ => false
  | _ => false
theorem p39 : dPow (.int 10) (.int 39) = some (.int (10 ^ 39)) := rfl
theorem p41 : dPow (.int 10) (.int 41) = some (.int (10 ^ 41)) := rfl
structure Gz (d : D) : Prop extends Gs d where
  sm : ∀ a b l i, d = .tup [a, b, .tup l] → D.int i ∈ l → -(10 : Int) ^ 41 ≤ i ∧ i ≤ (10 : Int) ^ 41

theorem sp_is_right {os : List Of} (h : Ok os) (d : D) (hd : Gz d) : m__law_is_right [osD os, d] = some (.bl (rightR os d), []) := by
  have hl := h.len
  have t := isi_tup d hd.toGd
  by_cases q : isTu d = true
  case neg =>
    have q : isTu d = false := by simpa using q
    have r : rightR os d = false := by cases d <;> first | rfl | (cases q; done)
    simp [m__law_is_right_eq, b__law_is_right, eVar, t, q, r]
  cases d <;> simp only [isTu] at q <;> try (cases q; done)
  rename_i l
  replace t : bIsi [.tup l, .ty "tuple"] = some (.bl true) := t
  by_cases q3 : l.length = 3
  case neg =>
    have r : rightR os (.tup l) = false := by
      rcases l with _ | ⟨a, _ | ⟨b, _ | ⟨c, _ | ⟨e, l⟩⟩⟩⟩ <;> first | rfl | (simp at q3; done) | skip
      all_goals (cases a <;> rfl)
    have ne : ((l.length : Int) != 3) = true := by simp; omega
    simp [m__law_is_right_eq, b__law_is_right, eVar, t, ne, r]
  rcases l with _ | ⟨a, _ | ⟨b, _ | ⟨c, _ | ⟨e, l⟩⟩⟩⟩ <;> simp at q3
  obtain ⟨ha, hb, hc⟩ := hd.it a b c rfl
  have fa := fz_of ha
  have fb := fz_of hb.toGd
  have fc := fz_of hc.toGd
  have na := sp_law_num a 0 (10 ^ 39) ha
  by_cases qa : wi 0 (10 ^ 39) a = true
  case neg =>
    have qa : wi 0 (10 ^ 39) a = false := by simpa using qa
    rw [qa] at na
    have r : rightR os (.tup [a, b, c]) = false := by
      cases a <;> try rfl
      rename_i n _
      show (match grpN os.length b, hrsOf c with
    | some g, some hs => decide ((g.length : Int) = n) && lawApart os g && asc hs && decide ((hs.length : Int) = n) && meets os hs
    | _, _ => false) = false
      split
      · rename_i g hs qg _
        obtain ⟨rfl, _, _, _⟩ := grpN_some qg
        have gl : g.length ≤ 1000 := by have := (hb.it _ rfl).1; simpa using this
        have : ¬ ((g.length : Int) = n) := by
          intro e
          simp only [wi, Bool.and_eq_false_iff, decide_eq_false_iff_not] at qa
          have : (1000 : Int) ≤ 10 ^ 39 := by decide
          omega
        simp [this]
      · rfl
    simp only [p39, m__law_is_right_eq, b__law_is_right]
    simp [eVar, t, p39, fa, - Int.reducePow, na, r]
  rw [qa] at na
  cases a <;> simp only [wi] at qa <;> try (cases qa; done)
  rename_i n
  have ff : isFzs [D.int n, b, c] = true := by simp [hb.fz, hc.fz]
  have gr := sp_law_group os.length b hb
  cases qg : grpN os.length b with
  | none =>
    rw [grpN_none qg] at gr
    have r : rightR os (.tup [.int n, b, c]) = false := by simp [rightR, qg]
    simp [m__law_is_right_eq, b__law_is_right, eVar, t, p39, - Int.reducePow, na, hb.fz, hc.fz, open?, fb, gr, r]
  | some g =>
    obtain ⟨rfl, rg, hk, gq⟩ := grpN_some qg
    rw [gq] at gr
    have lb : bLen [gD g] = some (.int g.length) := by simp [gD]
    by_cases qn : (g.length : Int) = n
    case neg =>
      have r : rightR os (.tup [.int n, gD g, c]) = false := by
        cases qq : hrsOf c <;> simp [rightR, qq, qg, qn]
      have ne : ((g.length : Int) != n) = true := by simpa using qn
      simp [m__law_is_right_eq, b__law_is_right, eVar, t, p39, - Int.reducePow, na, hc.fz, open?, fb, gr, lb, ne, r]
    have ne : ((g.length : Int) != n) = false := by simpa using qn
    have gl : g.length ≤ 1000 := by have := (hb.it _ rfl).1; simpa using this
    have ap : m__law_are_apart [osD os, gD g] = some (.bl (lawApart os g), []) := sp_law_apart hk gl
    cases qp : lawApart os g with
    | false =>
      have r : rightR os (.tup [.int n, gD g, c]) = false := by
        cases qq : hrsOf c <;> simp [rightR, qq, qg, qp]
      rw [qp] at ap
      simp [m__law_is_right_eq, b__law_is_right, eVar, t, p39, - Int.reducePow, na, hc.fz, open?, fb, gr, lb, ne, ap, r]
    | true =>
      rw [qp] at ap
      have tc := isi_tup c hc.toGd
      by_cases qc : isTu c = true
      case neg =>
        have qc : isTu c = false := by simpa using qc
        have r : rightR os (.tup [.int n, gD g, c]) = false := by
          cases c <;> first | (simp [rightR, qg, hrsOf]; done) | (cases qc; done)
        rw [qc] at tc
        simp [m__law_is_right_eq, b__law_is_right, eVar, t, p39, - Int.reducePow, na, hc.fz, open?, fb, gr, lb, ne, ap, tc, r]
      cases c <;> simp only [isTu] at qc <;> try (cases qc; done)
      rename_i l
      replace tc : bIsi [.tup l, .ty "tuple"] = some (.bl true) := tc
      obtain ⟨ll, lx⟩ := hc.it l rfl
      have l1 : l.length ≤ lim := le_lim ll
      have hf : isFzs l = true := by have := hc.fz; simpa using this
      have e := lcGo_allT (bd := bdName 5) (ge := eCall m__law_is_number (esCons (eVar 5) (esCons (eUn dNeg (eOp dPow (eC (.int 10)) (eC (.int 41)))) (esCons (eOp dPow (eC (.int 10)) (eC (.int 41))) esNil)))) (e0 := [.ow (osD os), .ow (.tup [.int n, gD g, .tup l]), .ow (.int n), .ow (gD g), .ow (.tup l), .no, .no, .no])
        (fun x => [.ow (osD os), .ow (.tup [.int n, gD g, .tup l]), .ow (.int n), .ow (gD g), .ow (.tup l), .ow x, .no, .no]) (fun x => .bl (wi (-(10 ^ 41)) (10 ^ 41) x)) l (fun x hx => by
        have g := lx x hx
        simp [z_bindSl g.fz, eVar, fz_of g, p41, - Int.reducePow, - Int.reduceNeg, sp_law_num x (-(10 ^ 41)) (10 ^ 41) g])
      have ba := z_all_bl (wi (-(10 ^ 41)) (10 ^ 41)) l
      cases qh : intsOf l with
      | none =>
        have al : l.all (wi (-(10 ^ 41)) (10 ^ 41)) = false := by
          cases w : l.all (wi (-(10 ^ 41)) (10 ^ 41)) with
          | false => rfl
          | true =>
            obtain ⟨ns, rfl, _⟩ := intsOf_wi w
            rw [intsOf_map] at qh; cases qh
        rw [al] at ba
        have r : rightR os (.tup [.int n, gD g, .tup l]) = false := by simp [rightR, qg, hrsOf, qh]
        simp [m__law_is_right_eq, b__law_is_right, eVar, t, p39, - Int.reducePow, - Int.reduceNeg, na, hf, open?, fb, gr, lb, ne, ap, tc, l1, e, ba, r, - List.all_map, - List.map_map]
      | some hs =>
        have el := intsOf_eq qh
        have hl2 : hs.length ≤ 1000 := by rw [el] at ll; simpa using ll
        have hl3 : hs.length ≤ lim + 1 := Nat.le_succ_of_le (le_lim hl2)
        have al : l.all (wi (-(10 ^ 41)) (10 ^ 41)) = true := by
          rw [el, wi_ints, List.all_eq_true]
          intro i hi
          have := hd.sm _ _ l i rfl (by rw [el]; exact List.mem_map_of_mem hi)
          rw [Bool.and_eq_true, decide_eq_true_eq, decide_eq_true_eq]
          exact this
        rw [al] at ba
        have dm := sp_law_meet os hs (by omega) hl2
        have z := lcGo_mapT (bd := bdTup (bdCons (bdName 6) (bdCons (bdName 7) bdNil))) (ge := eOp dLt (eVar 6) (eVar 7)) (e0 := [.ow (osD os), .ow (.tup [.int n, gD g, .tup l]), .ow (.int n), .ow (gD g), .ow (.tup l), .no, .no, .no]) (fun p : Int × Int => .tup [.int p.1, .int p.2])
          (fun p => [.ow (osD os), .ow (.tup [.int n, gD g, .tup l]), .ow (.int n), .ow (gD g), .ow (.tup l), .no, .ow (.int p.1), .ow (.int p.2)]) (fun p => .bl (decide (p.1 < p.2))) (hs.zip hs.tail) (fun p _ => by simp [eVar])
        have zb := z_all_bl (fun p : Int × Int => decide (p.1 < p.2)) (hs.zip hs.tail)
        have lc : (l.length : Int) = hs.length := by rw [el]; simp
        have zp : (List.map pairT (l.zip l.tail)) = (hs.zip hs.tail).map fun p => .tup [.int p.1, .int p.2] := by
          rw [el, ← List.map_tail, zip_pairT]
        have zl : (l.length ≤ lim ∨ l.length - 1 ≤ lim) := Or.inl l1
        have ml : (hs.zip hs.tail).length ≤ lim := le_lim (by simp; omega)
        rw [← el] at dm
        have r : rightR os (.tup [.int n, gD g, .tup l]) = (asc hs && (decide ((hs.length : Int) = n) && meets os hs)) := by simp [rightR, qg, hrsOf, qh, qn, qp, Bool.and_assoc]
        replace zb : bAll [.lst true ((hs.zip hs.tail).map fun p => D.bl (decide (p.1 < p.2)))] = some (.bl (asc hs)) := zb
        cases q1 : asc hs <;> rw [q1] at zb r <;> cases q2 : meets os hs <;> rw [q2] at dm r <;> by_cases q4 : (hs.length : Int) = n <;>
        simp [m__law_is_right_eq, b__law_is_right, eVar, t, p39, - Int.reducePow, - Int.reduceNeg, na, hf, open?, fb, gr, lb, ne, ap, tc, l1, e, ba, r, fc, zb, z, zp, dSl, isT, dm, lc, q4, - List.length_zip, ml, - List.all_map, - List.map_map]
end K74

set_option maxRecDepth 100000
set_option linter.all false
set_option Elab.async false
namespace K74
open PySem Z
/-! the plain laws: apart -/
def valid (os : List Of) : Prop := ∀ k, k < os.length → (gt os k).1 < (gt os k).2.1
theorem Ok.valid {os : List Of} (h : Ok os) : valid os := by
  intro k hk
  have : gt os k = os[k] := by rw [gt, List.getD_eq_getElem?_getD, List.getElem?_eq_getElem hk]; rfl
  rw [this]
  exact (h.ok _ (List.getElem_mem hk)).2.1
theorem lawApart_iff {os : List Of} {g : List Nat} : lawApart os g = true ↔ g.Pairwise fun i j => lap os i j = false := by
  induction g with
  | nil => simp [lawApart]
  | cons k r ih =>
    simp only [lawApart, Bool.and_eq_true, Bool.not_eq_true', List.any_eq_false, Bool.not_eq_true, ih, List.pairwise_cons]
theorem lap_comm (os : List Of) (i j : Nat) : lap os i j = lap os j i := by
  unfold lap; rw [Bool.and_comm]
/-- two spans apart -/
def sep (a b : Int × Int) : Prop := a.2 ≤ b.1 ∨ b.2 ≤ a.1
theorem lap_sep (os : List Of) (i j : Nat) : lap os i j = false ↔ sep (be os i) (be os j) := by
  unfold lap sep be
  simp only [Bool.and_eq_false_iff, decide_eq_false_iff_not]
  omega
theorem chain_pair : ∀ (t : List (Int × Int)), (∀ p ∈ t, p.1 < p.2) → ((t.zip t.tail).all fun p => decide (p.1.2 ≤ p.2.1)) = true → t.Pairwise fun a b => a.2 ≤ b.1
  | [], _, _ => List.Pairwise.nil
  | [x], _, _ => List.pairwise_singleton _ _
  | x :: y :: t, hv, h => by
    simp only [List.tail_cons, List.zip_cons_cons, List.all_cons, Bool.and_eq_true, decide_eq_true_eq] at h
    have ih := chain_pair (y :: t) (fun p hp => hv p (List.mem_cons_of_mem _ hp)) h.2
    refine List.pairwise_cons.mpr ⟨?_, ih⟩
    intro z hz
    rcases List.mem_cons.mp hz with rfl | hz
    · exact h.1
    · have := (List.pairwise_cons.mp ih).1 z hz
      have := hv y (by simp)
      omega
theorem pair_chain : ∀ (t : List (Int × Int)), (t.Pairwise fun a b => a.2 ≤ b.1) → ((t.zip t.tail).all fun p => decide (p.1.2 ≤ p.2.1)) = true
  | [], _ => rfl
  | [x], _ => rfl
  | x :: y :: t, h => by
    have h2 := List.pairwise_cons.mp h
    simp only [List.tail_cons, List.zip_cons_cons, List.all_cons, Bool.and_eq_true, decide_eq_true_eq]
    exact ⟨h2.1 y (by simp), pair_chain (y :: t) h2.2⟩
theorem le2_trans (a b c : Int × Int) (h1 : le2 a b = true) (h2 : le2 b c = true) : le2 a c = true := by
  simp only [le2, Bool.not_eq_true', decide_eq_false_iff_not] at *
  omega
theorem le2_total (a b : Int × Int) : (le2 a b || le2 b a) = true := by
  simp only [le2, Bool.or_eq_true, Bool.not_eq_true', decide_eq_false_iff_not]
  omega
theorem apartOk_eq {os : List Of} {g : List Nat} (hv : valid os) (hg : ∀ k ∈ g, k < os.length) : apartOk os g = lawApart os g := by
  have hm : ∀ p ∈ (g.map (be os)).mergeSort le2, p.1 < p.2 := by
    intro p hp
    rw [List.mem_mergeSort] at hp
    obtain ⟨k, hk, rfl⟩ := List.mem_map.mp hp
    exact hv k (hg k hk)
  have sorted := List.pairwise_mergeSort le2_trans le2_total (g.map (be os))
  have perm := List.mergeSort_perm (g.map (be os)) le2
  rw [Bool.eq_iff_iff, lawApart_iff]
  have key : (g.Pairwise fun i j => lap os i j = false) ↔ ((g.map (be os)).mergeSort le2).Pairwise sep := by
    rw [perm.pairwise_iff (fun {a b} h => by unfold sep at *; omega), List.pairwise_map]
    simp only [lap_sep]
  rw [key]
  constructor
  · intro h
    exact (chain_pair _ hm h).imp fun h => Or.inl h
  · intro h
    refine pair_chain _ ?_
    have := h.and sorted
    refine (this.imp_of_mem ?_)
    intro a b ha hb ⟨h1, h2⟩
    have va := hm a ha
    have vb := hm b hb
    simp only [le2, Bool.not_eq_true', decide_eq_false_iff_not] at h2
    unfold sep at h1
    omega
theorem taken_eq {os : List Of} (hv : valid os) : ∀ (ks f : List Nat), (∀ k ∈ ks, k < os.length) → (∀ k ∈ f, k < os.length) → tio os ks f = lio os ks f
  | [], f, _, _ => rfl
  | k :: r, f, hk, hf => by
    have hf2 : ∀ j ∈ f ++ [k], j < os.length := by
      intro j hj
      rcases List.mem_append.mp hj with hj | hj
      · exact hf j hj
      · rw [List.mem_singleton.mp hj]; exact hk k List.mem_cons_self
    rw [tio, lio, apartOk_eq hv hf2, taken_eq hv r _ (fun q hq => hk q (List.mem_cons_of_mem _ hq)) hf2, taken_eq hv r _ (fun q hq => hk q (List.mem_cons_of_mem _ hq)) hf]
theorem taken_in (os : List Of) (hv : valid os) : taken os = inOrder os := taken_eq hv _ _ (fun k hk => List.mem_range.mp hk) (fun k hk => nomatch hk)
theorem lio_apart (os : List Of) : ∀ (ks f : List Nat), lawApart os f = true → lawApart os (lio os ks f) = true
  | [], f, h => h
  | k :: r, f, h => by
    rw [lio]
    split
    · rename_i q; exact lio_apart os r _ q
    · exact lio_apart os r f h
end K74

set_option maxRecDepth 100000
set_option linter.all false
set_option Elab.async false
namespace K74
open PySem Z
def bg (os : List Of) (k : Nat) : Int := (gt os k).1
def nd (os : List Of) (k : Nat) : Int := (gt os k).2.1
theorem grd_pre (os : List Of) : ∀ (ks f : List Nat) (l : Option Int), ∃ s, grd os ks f l = f ++ s ∧ s.Sublist ks
  | [], f, l => ⟨[], by simp [grd], List.Sublist.refl _⟩
  | k :: r, f, l => by
    rw [grd]
    split
    · obtain ⟨s, h1, h2⟩ := grd_pre os r (f ++ [k]) (some (gt os k).2.1)
      exact ⟨k :: s, by rw [h1]; simp, h2.cons_cons k⟩
    · obtain ⟨s, h1, h2⟩ := grd_pre os r f l
      exact ⟨s, h1, h2.cons k⟩
theorem grd_inv {os : List Of} : ∀ (ks f : List Nat) (l : Option Int), (∀ k ∈ ks, bg os k < nd os k) → (ks.Pairwise fun i j => nd os i ≤ nd os j) → (f.Pairwise fun i j => nd os i ≤ bg os j) →
    (∀ e, l = some e → (∀ j ∈ f, nd os j ≤ e) ∧ (∃ j ∈ f, nd os j = e) ∧ ∀ k ∈ ks, e ≤ nd os k) → (l = none → f = []) →
    (grd os ks f l).Pairwise (fun i j => nd os i ≤ bg os j) ∧ ∀ k ∈ ks, ∃ j ∈ grd os ks f l, bg os k < nd os j ∧ nd os j ≤ nd os k
  | [], f, l, _, _, hf, _, _ => ⟨hf, fun k hk => nomatch hk⟩
  | k :: r, f, l, hv, hs, hf, hl, hn => by
    have hs2 := List.pairwise_cons.mp hs
    have vk := hv k List.mem_cons_self
    have hv2 : ∀ j ∈ r, bg os j < nd os j := fun j hj => hv j (List.mem_cons_of_mem _ hj)
    rw [grd]
    split
    · rename_i q
      have fk : ∀ j ∈ f, nd os j ≤ bg os k := by
        intro j hj
        cases l with
        | none => rw [hn rfl] at hj; cases hj
        | some e =>
          have := (hl e rfl).1 j hj
          simp only [okAt, decide_eq_true_eq] at q
          exact Int.le_trans this q
      have ih := grd_inv r (f ++ [k]) (some (gt os k).2.1) hv2 hs2.2 (by
        rw [List.pairwise_append]
        exact ⟨hf, List.pairwise_singleton _ _, fun a ha b hb => by rw [List.mem_singleton.mp hb]; exact fk a ha⟩) (by
        intro e he
        cases he
        refine ⟨?_, ⟨k, by simp, rfl⟩, fun j hj => hs2.1 j hj⟩
        intro j hj
        rcases List.mem_append.mp hj with hj | hj
        · have := fk j hj; exact Int.le_trans this (Int.le_of_lt vk)
        · rw [List.mem_singleton.mp hj]; exact Int.le_refl _) (by intro h; cases h)
      refine ⟨ih.1, ?_⟩
      intro j hj
      rcases List.mem_cons.mp hj with rfl | hj
      · obtain ⟨s, h1, _⟩ := grd_pre os r (f ++ [j]) (some (gt os j).2.1)
        exact ⟨j, by rw [h1]; simp, vk, Int.le_refl _⟩
      · exact ih.2 j hj
    · rename_i q
      cases l with
      | none => exact absurd rfl q
      | some e =>
        have ih := grd_inv r f (some e) hv2 hs2.2 hf (by
          intro e' he
          cases he
          obtain ⟨h1, h2, h3⟩ := hl e rfl
          exact ⟨h1, h2, fun j hj => h3 j (List.mem_cons_of_mem _ hj)⟩) (by intro h; cases h)
        refine ⟨ih.1, ?_⟩
        intro j hj
        rcases List.mem_cons.mp hj with rfl | hj
        · obtain ⟨h1, ⟨i, hi, he⟩, h3⟩ := hl e rfl
          obtain ⟨s, g1, _⟩ := grd_pre os r f (some e)
          simp only [okAt, decide_eq_true_eq] at q
          refine ⟨i, by rw [g1]; exact List.mem_append_left _ hi, ?_, ?_⟩
          · rw [he]; unfold bg; omega
          · rw [he]; exact h3 j List.mem_cons_self
        · exact ih.2 j hj
theorem byEnd_sorted (os : List Of) : (byEnd os).Pairwise fun i j => nd os i ≤ nd os j := by
  unfold byEnd
  rw [List.pairwise_map]
  have h := List.pairwise_mergeSort (le := fun a b : Of × Nat => le2 (eOf a) (eOf b)) (fun a b c h1 h2 => le2_trans _ _ _ h1 h2) (fun a b => le2_total _ _) os.zipIdx
  refine h.imp_of_mem ?_
  intro a b ha hb h
  have n : ∀ p ∈ os.zipIdx.mergeSort fun a b => le2 (eOf a) (eOf b), nd os p.2 = p.1.2.1 := by
    intro p hp
    rw [List.mem_mergeSort] at hp
    have := List.mk_mem_zipIdx_iff_getElem?.mp (show (p.1, p.2) ∈ os.zipIdx from hp)
    simp [nd, gt, List.getD_eq_getElem?_getD, this]
  rw [n a ha, n b hb]
  simp only [le2, eOf, Bool.not_eq_true'] at h
  have h' := of_decide_eq_false h
  exact Int.not_lt.mp fun q => h' (Or.inl q)
theorem byEnd_nodup (os : List Of) : (byEnd os).Nodup := by
  unfold byEnd
  have p : ((os.zipIdx.mergeSort fun a b => le2 (eOf a) (eOf b)).map (·.2)).Perm (os.zipIdx.map (·.2)) := (List.mergeSort_perm _ _).map _
  rw [p.nodup_iff, List.zipIdx_map_snd]
  simpa using List.nodup_range'
theorem apart_law {os : List Of} (hv : valid os) : (apart os).Pairwise (fun i j => nd os i ≤ bg os j) ∧ ∀ k, k < os.length → ∃ j ∈ apart os, bg os k < nd os j ∧ nd os j ≤ nd os k := by
  have h := grd_inv (os := os) (byEnd os) [] none (fun k hk => hv k (byEnd_mem.mp hk)) (byEnd_sorted os) List.Pairwise.nil (fun e he => nomatch he) (fun _ => rfl)
  exact ⟨h.1, fun k hk => h.2 k (byEnd_mem.mpr hk)⟩
theorem apart_nodup (os : List Of) : (apart os).Nodup := by
  obtain ⟨s, h1, h2⟩ := grd_pre os (byEnd os) [] none
  unfold apart
  rw [h1, List.nil_append]
  exact (byEnd_nodup os).sublist h2
/-- as many hours as offers apart -/
theorem pigeon {os : List Of} : ∀ (g : List Nat) (hs : List Int), lawApart os g = true → (∀ k ∈ g, ∃ h ∈ hs, bg os k ≤ h ∧ h < nd os k) → g.length ≤ hs.length
  | [], hs, _, _ => Nat.zero_le _
  | k :: r, hs, ha, hm => by
    rw [lawApart_iff, List.pairwise_cons] at ha
    obtain ⟨h, hh, h1, h2⟩ := hm k List.mem_cons_self
    have ih := pigeon r (hs.erase h) (lawApart_iff.mpr ha.2) (by
      intro j hj
      obtain ⟨h', hh', g1, g2⟩ := hm j (List.mem_cons_of_mem _ hj)
      refine ⟨h', ?_, g1, g2⟩
      rw [List.mem_erase_of_ne]
      · exact hh'
      · intro e
        have := ha.1 j hj
        simp only [lap, Bool.and_eq_false_iff, decide_eq_false_iff_not] at this
        unfold bg nd at *
        omega)
    have := List.length_erase_of_mem hh
    have : 0 < hs.length := List.length_pos_of_mem hh
    rw [List.length_cons]; omega
end K74

set_option maxRecDepth 100000
set_option linter.all false
set_option Elab.async false
namespace K74
open PySem Z
theorem meets_iff {os : List Of} {hs : List Int} : meets os hs = true ↔ ∀ k, k < os.length → ∃ h ∈ hs, bg os k ≤ h ∧ h < nd os k := by
  unfold meets
  simp only [List.all_eq_true, List.any_eq_true, Bool.and_eq_true, decide_eq_true_eq]
  have e : ∀ k (hk : k < os.length), gt os k = os[k] := fun k hk => by rw [gt, List.getD_eq_getElem?_getD, List.getElem?_eq_getElem hk]; rfl
  constructor
  · intro h k hk
    unfold bg nd
    rw [e k hk]
    exact h _ (List.getElem_mem hk)
  · intro h o ho
    obtain ⟨k, hk, rfl⟩ := List.getElem_of_mem ho
    have := h k hk
    unfold bg nd at this
    rw [e k hk] at this
    exact this
theorem mostR_eq {os : List Of} (hv : valid os) (d : D) : mostR os d = rightR os d := by
  cases d <;> try rfl
  rename_i l
  rcases l with _ | ⟨a, _ | ⟨b, _ | ⟨c, _ | ⟨e, l⟩⟩⟩⟩ <;> try rfl
  · cases a <;> rfl
  · cases a <;> rfl
  · cases a <;> try rfl
    rename_i n
    show (match grpN os.length b, hrsOf c with
    | some g, some hs => decide ((g.length : Int) = n) && apartOk os g && asc hs && meets os hs && decide ((hs.length : Int) ≤ n)
    | _, _ => false) = (match grpN os.length b, hrsOf c with
    | some g, some hs => decide ((g.length : Int) = n) && lawApart os g && asc hs && decide ((hs.length : Int) = n) && meets os hs
    | _, _ => false)
    split
    · rename_i g hs qg _
      obtain ⟨_, _, hk, _⟩ := grpN_some qg
      rw [apartOk_eq hv hk]
      by_cases q1 : (g.length : Int) = n <;> cases q2 : lawApart os g <;> cases q3 : asc hs <;> cases q4 : meets os hs <;> simp [q1]
      have := pigeon g hs q2 (fun k hk' => meets_iff.mp q4 k (hk k hk'))
      omega
    · rfl
  · cases a <;> rfl
def most (os : List Of) : Nat := (apart os).length
theorem wOf_meets {os : List Of} (hv : valid os) : meets os (wOf os (apart os)) = true := by
  rw [meets_iff]
  intro k hk
  obtain ⟨j, hj, h1, h2⟩ := (apart_law hv).2 k hk
  refine ⟨nd os j - 1, List.mem_map_of_mem (f := fun k => (gt os k).2.1 - 1) hj, by omega, by omega⟩
theorem le_most {os : List Of} (hv : valid os) {g : List Nat} (hg : ∀ k ∈ g, k < os.length) (h : lawApart os g = true) : g.length ≤ most os := by
  have := pigeon g (wOf os (apart os)) h (fun k hk => meets_iff.mp (wOf_meets hv) k (hg k hk))
  simpa [wOf, most] using this
theorem sub_range' : ∀ (n a : Nat) (g : List Nat), rise g → (∀ k ∈ g, a ≤ k ∧ k < a + n) → g.Sublist (List.range' a n)
  | 0, a, [], _, _ => List.Sublist.refl _
  | 0, a, x :: t, _, h => by have := h x List.mem_cons_self; omega
  | n + 1, a, [], _, _ => List.nil_sublist _
  | n + 1, a, x :: t, hr, h => by
    have h2 := List.pairwise_cons.mp hr
    rw [List.range'_succ]
    by_cases q : x = a
    · subst q
      exact (sub_range' n (x + 1) t h2.2 (fun k hk => ⟨h2.1 k hk, by have := h k (List.mem_cons_of_mem _ hk); omega⟩)).cons_cons x
    · refine (sub_range' n (a + 1) (x :: t) hr ?_).cons a
      intro k hk
      have hx := h x List.mem_cons_self
      have hk' := h k hk
      rcases List.mem_cons.mp hk with rfl | hk2
      · omega
      · have := h2.1 k hk2; omega
theorem sub_range {n : Nat} {g : List Nat} (hr : rise g) (h : ∀ k ∈ g, k < n) : g.Sublist (List.range n) := by
  rw [List.range_eq_range']
  exact sub_range' n 0 g hr fun k hk => ⟨Nat.zero_le _, by have := h k hk; omega⟩
/-- the greedy choice, in order -/
def pick (os : List Of) : List Nat := (apart os).mergeSort natLe
theorem pick_perm (os : List Of) : (pick os).Perm (apart os) := List.mergeSort_perm _ _
theorem pick_rise (os : List Of) : rise (pick os) := by
  have h1 := List.pairwise_mergeSort (le := natLe) (fun a b c h1 h2 => by simp [natLe] at *; omega) (fun a b => by simp [natLe]; omega) (apart os)
  have h2 : (pick os).Nodup := (pick_perm os).nodup_iff.mpr (apart_nodup os)
  refine (h1.and h2).imp ?_
  intro a b ⟨h, hne⟩
  simp [natLe] at h
  omega
theorem pick_lt {os : List Of} {k : Nat} (h : k ∈ pick os) : k < os.length := apart_lt ((pick_perm os).mem_iff.mp h)
theorem pick_apart {os : List Of} (hv : valid os) : lawApart os (pick os) = true := by
  rw [lawApart_iff, (pick_perm os).pairwise_iff (fun {a b} h => by rw [lap_comm]; exact h)]
  refine (apart_law hv).1.imp ?_
  intro i j h
  rw [lap_sep]
  exact Or.inl h
theorem most_eq {os : List Of} (hv : valid os) : mostOf (okGroups os (List.range os.length)) = most os := by
  obtain ⟨a, h1, h2⟩ := most_in os (List.range os.length)
  have h3 := List.mem_filter.mp h1
  have sub := mem_groups.mp h3.1
  have u : a.length ≤ most os := le_most hv (fun k hk => List.mem_range.mp (sub.subset hk)) h3.2
  have m : pick os ∈ okGroups os (List.range os.length) := List.mem_filter.mpr ⟨mem_groups.mpr (sub_range (pick_rise os) fun k hk => pick_lt hk), pick_apart hv⟩
  have pl : (pick os).length = most os := (pick_perm os).length_eq
  have ge : ((pick os).length : Int) ≤ mostOf (okGroups os (List.range os.length)) := (List.max?_eq_some_iff.mp (lens_max os (List.range os.length))).2 _ (List.mem_map_of_mem (f := fun a : List Nat => (a.length : Int)) m)
  omega
theorem wOf_asc {os : List Of} (hv : valid os) : asc (wOf os (apart os)) = true := by
  have h := (apart_law hv).1
  have key : ∀ (l : List Nat), (∀ k ∈ l, k < os.length) → l.Pairwise (fun i j => nd os i ≤ bg os j) → asc (wOf os l) = true := by
    intro l
    induction l with
    | nil => intros; rfl
    | cons x t ih =>
      intro hk hp
      cases t with
      | nil => simp [asc, wOf]
      | cons y t =>
        have h2 := List.pairwise_cons.mp hp
        have ih := ih (fun k q => hk k (List.mem_cons_of_mem _ q)) h2.2
        have h3 := h2.1 y (by simp)
        have h4 := hv y (hk y (by simp))
        unfold asc at ih ⊢
        simp [wOf] at ih ⊢
        refine ⟨?_, ih⟩
        unfold nd bg at h3
        omega
  exact key _ (fun k hk => apart_lt hk) h
theorem told_right {os : List Of} (hv : valid os) : rightR os (told os) = true := by
  have e1 : grpN os.length (.tup (((apart os).mergeSort natLe).map nD)) = some (pick os) := grpN_gD (pick_rise os) fun k hk => pick_lt hk
  have e2 : hrsOf (.tup ((wOf os (apart os)).map .int)) = some (wOf os (apart os)) := intsOf_map _
  have l1 : (pick os).length = (apart os).length := (pick_perm os).length_eq
  have l2 : (wOf os (apart os)).length = (apart os).length := by simp [wOf]
  simp only [rightR, told, e1, e2, pick_apart hv, wOf_asc hv, wOf_meets hv, l1, l2]
  simp
/-- what is right has the most -/
theorem right_most {os : List Of} (hv : valid os) {n : Int} {b c : D} (h : rightR os (.tup [.int n, b, c]) = true) : n = most os := by
  simp only [rightR] at h
  split at h
  · rename_i g hs qg _
    obtain ⟨_, _, hk, _⟩ := grpN_some qg
    simp only [Bool.and_eq_true, decide_eq_true_eq] at h
    obtain ⟨⟨⟨⟨h1, h2⟩, _⟩, h3⟩, h4⟩ := h
    have u := le_most hv hk h2
    have w := pigeon (pick os) hs (pick_apart hv) (fun k hk => meets_iff.mp h4 k (pick_lt hk))
    have pl : (pick os).length = most os := (pick_perm os).length_eq
    omega
  · cases h
end K74

set_option maxRecDepth 100000
set_option linter.all false
set_option Elab.async false
namespace K74
open PySem Z
theorem endMax_eq (os : List Of) (a : List Nat) (m : Int) (h0 : 0 ≤ m) (h1 : m = 0 ∨ ∃ k ∈ a, nd os k = m) (h2 : ∀ k ∈ a, nd os k ≤ m) : endMax os a = m := by
  unfold endMax
  have : ((0 : Int) :: a.map fun k => (gt os k).2.1).max? = some m := by
    rw [List.max?_eq_some_iff]
    constructor
    · rcases h1 with rfl | ⟨k, hk, rfl⟩
      · exact List.mem_cons_self
      · exact List.mem_cons_of_mem _ (List.mem_map_of_mem (f := fun k => (gt os k).2.1) hk)
    · intro b hb
      rcases List.mem_cons.mp hb with rfl | hb
      · exact h0
      · obtain ⟨k, hk, rfl⟩ := List.mem_map.mp hb
        exact h2 k hk
  rw [this]; rfl
theorem endMax_ge (os : List Of) (a : List Nat) (k : Nat) (h : k ∈ a) : nd os k ≤ endMax os a := by
  unfold endMax
  have := (List.max?_eq_some_iff.mp (max_some (l := (0 : Int) :: a.map fun k => (gt os k).2.1) (by simp))).2 (nd os k) (List.mem_cons_of_mem _ (List.mem_map_of_mem (f := fun k => (gt os k).2.1) h))
  exact this
theorem endMax_nn (os : List Of) (a : List Nat) : 0 ≤ endMax os a := by
  unfold endMax
  exact (List.max?_eq_some_iff.mp (max_some (l := (0 : Int) :: a.map fun k => (gt os k).2.1) (by simp))).2 0 List.mem_cons_self
section
variable {os : List Of} {g : List Nat}
def phi (g : List Nat) (i : Nat) : Nat := g.getD i 0
theorem phi_range (g : List Nat) : (List.range g.length).map (phi g) = g := by
  apply List.ext_getElem
  · simp
  · intro i h1 h2
    simp [phi, List.getD_eq_getElem?_getD, h2]
theorem gt_s {i : Nat} (h : i < g.length) : gt (g.map (gt os)) i = gt os (phi g i) := by
  simp [gt, phi, List.getD_eq_getElem?_getD, h]
theorem phi_mem {k : Nat} (h : k ∈ g) : ∃ i, i < g.length ∧ phi g i = k := by
  obtain ⟨i, hi, rfl⟩ := List.getElem_of_mem h
  exact ⟨i, hi, by simp [phi, List.getD_eq_getElem?_getD, hi]⟩
theorem phi_in {i : Nat} (h : i < g.length) : phi g i ∈ g := by
  have : phi g i = g[i] := by simp [phi, List.getD_eq_getElem?_getD, h]
  rw [this]; exact List.getElem_mem h
theorem least_eq (h : Ok os) (hg : ∀ k ∈ g, k < os.length) : leastEnd os g = lawLeast os g := by
  have hv := h.valid
  have sl : (g.map (gt os)).length = g.length := by simp
  have vs : valid (g.map (gt os)) := by
    intro i hi
    rw [sl] at hi
    rw [gt_s hi]
    exact hv _ (hg _ (phi_in hi))
  have nn : ∀ k, k < os.length → 0 ≤ bg os k := by
    intro k hk
    have : gt os k = os[k] := by rw [gt, List.getD_eq_getElem?_getD, List.getElem?_eq_getElem hk]; rfl
    unfold bg
    rw [this]
    exact (h.ok _ (List.getElem_mem hk)).1
  -- the greedy choice is among the groups
  have P : (pick (g.map (gt os))).map (phi g) ∈ okGroups os g := by
    refine List.mem_filter.mpr ⟨mem_groups.mpr ?_, ?_⟩
    · have := (sub_range (pick_rise (g.map (gt os))) fun k hk => pick_lt hk).map (phi g)
      rw [sl, phi_range] at this
      exact this
    · rw [lawApart_iff, List.pairwise_map]
      refine (lawApart_iff.mp (pick_apart vs)).imp_of_mem ?_
      intro i j hi hj e
      have hi := pick_lt hi
      have hj := pick_lt hj
      rw [sl] at hi hj
      unfold lap at e ⊢
      rw [gt_s hi, gt_s hj] at e
      exact e
  have met : ∀ k ∈ g, ∃ j ∈ apart (g.map (gt os)), bg os k ≤ nd (g.map (gt os)) j - 1 ∧ nd (g.map (gt os)) j - 1 < nd os k := by
    intro k hk
    obtain ⟨i, hi, rfl⟩ := phi_mem hk
    obtain ⟨j, hj, h1, h2⟩ := (apart_law vs).2 i (by rw [sl]; exact hi)
    unfold bg nd at *
    rw [gt_s hi] at h1 h2
    exact ⟨j, hj, by omega, by omega⟩
  have up : ∀ a ∈ okGroups os g, a.length ≤ most (g.map (gt os)) := by
    intro a ha
    have ha := List.mem_filter.mp ha
    have sub := mem_groups.mp ha.1
    have := pigeon a (wOf (g.map (gt os)) (apart (g.map (gt os)))) ha.2 (fun k hk => by
      obtain ⟨j, hj, h1, h2⟩ := met k (sub.subset hk)
      exact ⟨_, List.mem_map_of_mem (f := fun k => (gt (g.map (gt os)) k).2.1 - 1) hj, h1, h2⟩)
    simpa [wOf, most] using this
  have pl : ((pick (g.map (gt os))).map (phi g)).length = most (g.map (gt os)) := by
    rw [List.length_map]; exact (pick_perm _).length_eq
  have M : mostOf (okGroups os g) = most (g.map (gt os)) := by
    obtain ⟨a, h1, h2⟩ := most_in os g
    have u := up a h1
    have ge := (List.max?_eq_some_iff.mp (lens_max os g)).2 _ (List.mem_map_of_mem (f := fun a : List Nat => (a.length : Int)) P)
    have ge : (((pick (g.map (gt os))).map (phi g)).length : Int) ≤ mostOf (okGroups os g) := ge
    omega
  have Pm : (pick (g.map (gt os))).map (phi g) ∈ (okGroups os g).filter fun a => (a.length : Int) == mostOf (okGroups os g) := List.mem_filter.mpr ⟨P, by rw [M, pl]; simp⟩
  -- its last end
  have L : endMax os ((pick (g.map (gt os))).map (phi g)) = leastEnd os g ∧ ∀ a ∈ okGroups os g, a.length = most (g.map (gt os)) → leastEnd os g ≤ endMax os a := by
    rcases List.eq_nil_or_concat (apart (g.map (gt os))) with q | ⟨l, x, q⟩
    · have e : pick (g.map (gt os)) = [] := by unfold pick; rw [q]; simp
      have e2 : leastEnd os g = 0 := by unfold leastEnd; rw [q]; rfl
      rw [e, e2]
      exact ⟨rfl, fun a _ _ => endMax_nn os a⟩
    · rw [List.concat_eq_append] at q
      have e2 : leastEnd os g = nd (g.map (gt os)) x := by unfold leastEnd; rw [q]; simp [nd]
      have hx : x < g.length := by have := apart_lt (os := g.map (gt os)) (k := x) (by rw [q]; simp); rwa [sl] at this
      have al := (apart_law vs).1
      rw [q, List.pairwise_append] at al
      have le : ∀ j ∈ apart (g.map (gt os)), nd (g.map (gt os)) j ≤ nd (g.map (gt os)) x := by
        intro j hj
        rw [q] at hj
        rcases List.mem_append.mp hj with hj | hj
        · have h1 := al.2.2 j hj x (by simp)
          have h2 := vs x (by rw [sl]; exact hx)
          unfold bg nd at *
          omega
        · rw [List.mem_singleton.mp hj]; exact Int.le_refl _
      have nx : nd (g.map (gt os)) x = nd os (phi g x) := by unfold nd; rw [gt_s hx]
      rw [e2]
      constructor
      · refine endMax_eq os _ _ ?_ (Or.inr ⟨phi g x, List.mem_map_of_mem ((pick_perm _).mem_iff.mpr (by rw [q]; simp)), nx.symm⟩) ?_
        · rw [nx]
          have := nn _ (hg _ (phi_in hx))
          have := hv _ (hg _ (phi_in hx))
          unfold bg nd at *
          omega
        · intro k hk
          obtain ⟨i, hi, rfl⟩ := List.mem_map.mp hk
          have h1 := le i ((pick_perm _).mem_iff.mp hi)
          have h2 : i < g.length := by have := pick_lt hi; rwa [sl] at this
          unfold nd at *
          rw [gt_s h2] at h1
          exact h1
      · intro a ha hl
        by_cases c : ∃ k ∈ a, nd (g.map (gt os)) x ≤ nd os k
        · obtain ⟨k, hk, h1⟩ := c
          exact Int.le_trans h1 (endMax_ge os a k hk)
        · have ha := List.mem_filter.mp ha
          have sub := mem_groups.mp ha.1
          have := pigeon a (wOf (g.map (gt os)) l) ha.2 (fun k hk => by
            obtain ⟨j, hj, h1, h2⟩ := met k (sub.subset hk)
            rw [q] at hj
            rcases List.mem_append.mp hj with hj | hj
            · exact ⟨_, List.mem_map_of_mem (f := fun k => (gt (g.map (gt os)) k).2.1 - 1) hj, h1, h2⟩
            · rw [List.mem_singleton.mp hj] at h1 h2
              exact absurd ⟨k, hk, by omega⟩ c)
          have ml : most (g.map (gt os)) = l.length + 1 := by unfold most; rw [q]; simp
          simp [wOf] at this
          omega
  unfold lawLeast
  have : (((okGroups os g).filter fun a => (a.length : Int) == mostOf (okGroups os g)).map (endMax os)).min? = some (leastEnd os g) := by
    rw [List.min?_eq_some_iff]
    refine ⟨List.mem_map.mpr ⟨_, Pm, L.1⟩, ?_⟩
    intro b hb
    obtain ⟨a, ha, rfl⟩ := List.mem_map.mp hb
    have ha := List.mem_filter.mp ha
    refine L.2 a ha.1 ?_
    have := ha.2
    rw [M] at this
    have := eq_of_beq this
    omega
  rw [this]; rfl
end
end K74

set_option maxRecDepth 100000
set_option linter.all false
set_option Elab.async false
namespace K74
open PySem Z
def tpD (c : List Int) (p q r k : Int) : D := .lst true [.lst false (c.map .int), .int p, .int q, .int r, .int k]
structure Tp (t : D) : Prop where
  eq : ∃ c p q r k, t = tpD c p q r k ∧ (∀ i ∈ c, 0 ≤ i) ∧ 0 ≤ p ∧ p ≤ c.length ∧ 0 ≤ q
section
variable {c : List Int} {p q r k v : Int} {E : En}
theorem set1 : bSub (plName 0) (eC (.int 1)) mSetL (.int v) (.ow (tpD c p q r k) :: E) = some (.ow (tpD c v q r k) :: E) := rfl
theorem set2 : bSub (plName 0) (eC (.int 2)) mSetL (.int v) (.ow (tpD c p q r k) :: E) = some (.ow (tpD c p v r k) :: E) := rfl
theorem set3 : bSub (plName 0) (eC (.int 3)) mSetL (.int v) (.ow (tpD c p q r k) :: E) = some (.ow (tpD c p q v k) :: E) := rfl
theorem set4 : bSub (plName 0) (eC (.int 4)) mSetL (.int v) (.ow (tpD c p q r k) :: E) = some (.ow (tpD c p q r v) :: E) := rfl
theorem get0 : dItem (tpD c p q r k) (.int 0) = some (.lst false (c.map .int)) := rfl
theorem get1 : dItem (tpD c p q r k) (.int 1) = some (.int p) := rfl
theorem get2 : dItem (tpD c p q r k) (.int 2) = some (.int q) := rfl
theorem get3 : dItem (tpD c p q r k) (.int 3) = some (.int r) := rfl
theorem get4 : dItem (tpD c p q r k) (.int 4) = some (.int k) := rfl
end
theorem lit_big {j : Int} (h1 : 0 ≤ j) (h2 : j < 1000000000) : -big < j ∧ j < big := by
  have : (1000000000 : Int) < big := by unfold big; decide
  omega
def pk1 : SF := sIf (tAndB (tBl (eOp dEq (eOp dItem (eVar 0) (eC (.int 2))) (eC (.int 0)))) (tBl (eOp dLt (eOp dItem (eVar 0) (eC (.int 1))) (eBi bLen (esCons (eOp dItem (eVar 0) (eC (.int 0))) (esNil)))))) (sSeq (sSet 2 (vOf (eOp dIxF (eOp dItem (eVar 0) (eC (.int 0))) (eOp dItem (eVar 0) (eC (.int 1)))))) (sSeq (sAsg (vOf (eOp dAdd (eOp dItem (eVar 0) (eC (.int 1))) (eC (.int 1)))) (bSub (plName 0) (eC (.int 1)) mSetL)) (sSeq (sAsg (vOf (eOp dMod (eBi bInt (esCons (eOp dAdd (eOp dAdd (eOp dMul (eOp dItem (eVar 0) (eC (.int 3))) (eC (.int 69621))) (eVar 2)) (eC (.int 11))) (esNil))) (eC (.int 2147483629)))) (bSub (plName 0) (eC (.int 3)) mSetL)) (sSeq (sIf (tBl (eOp dGe (eVar 2) (eOp dPow (eC (.int 10)) (eC (.int 18))))) (sSeq (sAsg (vOf (eFz (eVar 2))) (bSub (plName 0) (eC (.int 2)) mSetL)) (sNil)) (sNil)) (sNil))))) (sNil)
theorem p18 : dPow (.int 10) (.int 18) = some (.int (10 ^ 18)) := rfl
@[simp] theorem bInt_i (i : Int) : bInt [.int i] = some (.int i) := rfl
theorem pk1_ok (t : D) (h : Tp t) (m : D) : ∃ t' x, Tp t' ∧ opn x ∧ pk1 [.ow t, .ow m, .no, .no, .no] = some (.nx, [.ow t', .ow m, x, .no, .no]) := by
  obtain ⟨c, p, q, r, k, rfl, hc, hp, hp2, hq⟩ := h
  have lc : bLen [.lst false (c.map .int)] = some (.int c.length) := by simp
  by_cases b : q = 0 ∧ p < c.length
  · obtain ⟨rfl, b⟩ := b
    have pn : ((p.toNat : Nat) : Int) = p := by omega
    have pl : p.toNat < c.length := by omega
    have it : dItem (.lst false (c.map .int)) (.int p) = some (.int c[p.toNat]) := by
      have a := L2.atI_nat (xs := c.map D.int) (j := p.toNat) (v := D.int c[p.toNat]) (by simp [pl])
      rw [pn] at a
      exact a
    have v0 := hc _ (List.getElem_mem pl)
    have b1 : ((-big < r ∧ r < big) ∨ (-big < 69621 ∧ (69621 : Int) < big)) := Or.inr (lit_big (by decide) (by decide))
    by_cases g : (10 : Int) ^ 18 ≤ c[p.toNat]
    · refine ⟨tpD c (p + 1) c[p.toNat] ((r * 69621 + c[p.toNat] + 11) % 2147483629) k, .ow (.int c[p.toNat]), ⟨_, _, _, _, _, rfl, hc, by omega, by omega, v0⟩, Or.inr ⟨_, rfl⟩, ?_⟩
      simp [pk1, eVar, get0, get1, get2, get3, lc, b, it, open?, set1, set2, set3, b1, p18, - Int.reducePow, g]
    · refine ⟨tpD c (p + 1) 0 ((r * 69621 + c[p.toNat] + 11) % 2147483629) k, .ow (.int c[p.toNat]), ⟨_, _, _, _, _, rfl, hc, by omega, by omega, hq⟩, Or.inr ⟨_, rfl⟩, ?_⟩
      simp [pk1, eVar, get0, get1, get2, get3, lc, b, it, open?, set1, set2, set3, b1, p18, - Int.reducePow, g]
  · refine ⟨tpD c p q r k, .no, ⟨_, _, _, _, _, rfl, hc, hp, hp2, hq⟩, Or.inl rfl, ?_⟩
    by_cases q0 : q = 0
    · have b2 : ¬ (p < (c.length : Int)) := fun q => b ⟨q0, q⟩
      simp [pk1, eVar, get0, get1, get2, get3, lc, q0, b2]
    · simp [pk1, eVar, get0, get1, get2, get3, lc, q0]

def pk2 : SF := sSeq (sIf (tBl (eOp dGt (eOp dItem (eVar 0) (eC (.int 2))) (eC (.int 0)))) (sSeq (sSet 3 (vOf (eOp dMod (eBi bInt (esCons (eOp dItem (eVar 0) (eC (.int 2))) (esNil))) (eVar 1)))) (sSeq (sAsg (vOf (eOp dFdiv (eOp dItem (eVar 0) (eC (.int 2))) (eVar 1))) (bSub (plName 0) (eC (.int 2)) mSetL)) (sSeq (sRet (vMove 3)) (sNil)))) (sNil)) (sSeq (sAsg (vOf (eOp dAdd (eOp dItem (eVar 0) (eC (.int 4))) (eC (.int 1)))) (bSub (plName 0) (eC (.int 4)) mSetL)) (sSeq (sSet 4 (vOf (eOp dMod (eBi bInt (esCons (eOp dMul (eBi bInt (esCons (eOp dAdd (eOp dItem (eVar 0) (eC (.int 3))) (eOp dMul (eC (.int 7919)) (eOp dItem (eVar 0) (eC (.int 4))))) (esNil))) (eC (.int 48271))) (esNil))) (eC (.int 2147483647))))) (sSeq (sSet 4 (vOf (eOp dMod (eBi bInt (esCons (eOp dMul (eVar 4) (eOp dAdd (eOp dFdiv (eVar 4) (eC (.int 1009))) (eC (.int 69621)))) (esNil))) (eC (.int 2147483647))))) (sSeq (sSet 4 (vOf (eOp dMod (eBi bInt (esCons (eOp dMul (eVar 4) (eOp dAdd (eOp dFdiv (eVar 4) (eC (.int 2003))) (eC (.int 40692)))) (esNil))) (eC (.int 2147483399))))) (sSeq (sRet (vOf (eOp dMod (eBi bInt (esCons (eOp dFdiv (eVar 4) (eC (.int 16))) (esNil))) (eVar 1)))) (sNil))))))
theorem mod_big (i : Int) {j : Int} (h : 0 < j) (h2 : j ≤ 2147483647) : -big < i % j ∧ i % j < big := by
  have a := Int.emod_nonneg i (by omega : j ≠ 0)
  have b := Int.emod_lt_of_pos i h
  have : (2147483647 : Int) < big := by unfold big; decide
  omega
theorem pk2_ok (t : D) (h : Tp t) (m : Nat) (h0 : 0 < m) (h1 : m ≤ 1000) (x : Sl) : ∃ (i : Nat) (t' : D) (E : En), i < m ∧ Tp t' ∧ pk2 [.ow t, .ow (.int (m : Int)), x, .no, .no] = some (.rt (.int (i : Int)), .ow t' :: E) := by
  obtain ⟨c, p, q, r, k, rfl, hc, hp, hp2, hq⟩ := h
  have f1 : (0 : Int) < m := by omega
  have f2 : (m : Int) < 1073741824 := by omega
  have md : ∀ i : Int, ∃ n : Nat, n < m ∧ i % (m : Int) = (n : Int) := by
    intro i
    have a := Int.emod_nonneg i (by omega : (m : Int) ≠ 0)
    have b := Int.emod_lt_of_pos i f1
    exact ⟨(i % m).toNat, by omega, by omega⟩
  by_cases b : 0 < q
  · obtain ⟨n, hn, e⟩ := md q
    have d0 : 0 ≤ q / (m : Int) := Int.ediv_nonneg hq (by omega)
    refine ⟨n, tpD c p (q / m) r k, [.ow (.int m), x, .no, .no], hn, ⟨_, _, _, _, _, rfl, hc, hp, hp2, d0⟩, ?_⟩
    simp [pk2, eVar, get2, b, h0, f2, open?, e, set2, vMove]
  · have b1 : ∀ r : Int, ((-big < 7919 ∧ (7919 : Int) < big) ∨ (-big < r ∧ r < big)) := fun r => Or.inl (lit_big (by decide) (by decide))
    have b2 : ∀ r : Int, ((-big < r ∧ r < big) ∨ (-big < 48271 ∧ (48271 : Int) < big)) := fun r => Or.inr (lit_big (by decide) (by decide))
    have b3 : ∀ i s : Int, ((-big < i % 2147483647 ∧ i % 2147483647 < big) ∨ (-big < s ∧ s < big)) := fun i s => Or.inl (mod_big i (by decide) (by decide))
    generalize hz : ((r + 7919 * (k + 1)) * 48271 % 2147483647) = z1
    generalize hy : (z1 * (z1 / 1009 + 69621) % 2147483647) = z2
    generalize hw : (z2 * (z2 / 2003 + 40692) % 2147483399) = z3
    obtain ⟨n, hn, e⟩ := md (z3 / 16)
    have b4 : ((-big < z1 ∧ z1 < big) ∨ (-big < z1 / 1009 + 69621 ∧ z1 / 1009 + 69621 < big)) := by rw [← hz]; exact b3 _ _
    have b5 : ((-big < z2 ∧ z2 < big) ∨ (-big < z2 / 2003 + 40692 ∧ z2 / 2003 + 40692 < big)) := by rw [← hy]; exact b3 _ _
    refine ⟨n, tpD c p q r (k + 1), [.ow (.int m), x, .no, .ow (.int z3)], hn, ⟨_, _, _, _, _, rfl, hc, hp, hp2, hq⟩, ?_⟩
    simp [pk2, eVar, get2, get3, get4, b, h0, f2, open?, set4, b1, b2, hz, hy, hw, b4, b5, e]
theorem sp_pick (t : D) (h : Tp t) (m : Nat) (h0 : 0 < m) (h1 : m ≤ 1000) : ∃ (i : Nat) (t' : D), i < m ∧ Tp t' ∧ m__law_pick [t, .int (m : Int)] = some (.int (i : Int), [t']) := by
  obtain ⟨t1, x, T1, _, e1⟩ := pk1_ok t h (.int (m : Int))
  obtain ⟨i, t', E, hi, T2, e2⟩ := pk2_ok t1 T1 m h0 h1 x
  refine ⟨i, t', hi, T2, ?_⟩
  rw [m__law_pick_eq]
  show fin [0] (sSeq pk1 pk2 _) = _
  rw [z_sSeq, e1]
  show fin [0] (pk2 _) = _
  rw [e2]
  simp [outs]
end K74

set_option maxRecDepth 100000
set_option linter.all false
set_option Elab.async false
namespace K74
open PySem Z
theorem sp_tape (ns : List Int) (h : ns.length ≤ 63) : ∃ t, Tp t ∧ m__law_tape [.scr ns] = some (t, []) := by
  have l1 : ns.length ≤ lim := le_lim (by omega)
  have cu : cutD ns none (some 63) = ns := by
    have := cut_to ns 63
    rw [show ((63 : Nat) : Int) = 63 from rfl] at this
    rw [this, List.take_of_length_le h]
  have e := lcGo_mapT (bd := bdName 2) (ge := eBi bAbs (esCons (eBi bInt (esCons (eVar 2) esNil)) esNil)) (e0 := [.ow (.scr ns), .no, .no]) D.int (fun i => [.ow (.scr ns), .no, .ow (.int i)]) (fun i => .int (if i < 0 then -i else i)) ns (fun i _ => by simp [eVar, bAbs])
  have z : ns.map (fun i => D.int (if i < 0 then -i else i)) = (ns.map fun i => if i < 0 then -i else i).map .int := by simp
  have fl : fz (.lst true ((ns.map fun i => if i < 0 then -i else i).map .int)) = .lst false ((ns.map fun i => if i < 0 then -i else i).map .int) := by
    simp only [fz, fzs_same _ (isFzs_ints _)]
  rw [z] at e
  refine ⟨tpD (ns.map fun i => if i < 0 then -i else i) 0 0 (31 + ns.length) 0, ⟨_, _, _, _, _, rfl, ?_, by omega, by simp, by omega⟩, ?_⟩
  · intro i hi
    obtain ⟨j, _, rfl⟩ := List.mem_map.mp hi
    show 0 ≤ (if j < 0 then -j else j)
    split <;> omega
  · simp [m__law_tape_eq, b__law_tape, eVar, dSl, cu, l1, e, open?, vFreeze, fl, tpD, - List.map_map]
theorem vCall_lend {F : Fn} {v : En → Option (D × En)} {t t1 t2 d r : D} {E E1 : En} (hv : v (.ow t :: E) = some (d, .ow t1 :: E1)) (hF : F [t1, fz d] = some (r, [t2])) : vCall F [.lend 0, .val v] (.ow t :: E) = some (r, .ow t2 :: E1) := by
  simp [vCall, arGo, arTake, arBack, hv, hF, open?]
/-- any of some things -/
theorem sp_any_l (t : D) (h : Tp t) (l : List D) (h0 : 0 < l.length) (h1 : l.length ≤ 1000) (hz : isFzs l = true) : ∃ d t', d ∈ l ∧ Tp t' ∧ m__law_any [t, .lst false l] = some (d, [t']) := by
  obtain ⟨i, t', hi, T, e⟩ := sp_pick t h l.length h0 h1
  refine ⟨l[i], t', List.getElem_mem hi, T, ?_⟩
  have it : L2.atI l (i : Int) = some l[i] := L2.atI_nat (by simp [hi])
  have fi : isFz l[i] = true := isFzs_mem hz _ (List.getElem_mem hi)
  have fl : isFz (.lst false l) = true := by simp [isFz, hz]
  have vc : vCall m__law_pick [.lend 0, .val (vOf (eBi bLen (esCons (eVar 1) esNil)))] [.ow t, .ow (.lst false l)] = some (.int (i : Int), [.ow t', .ow (.lst false l)]) := vCall_lend (d := .int (l.length : Int)) (by simp [eVar]) e
  simp [m__law_any_eq, b__law_any, eVar, fl, vc, it, fi, outs, - z_vCall]
end K74

set_option maxRecDepth 100000
set_option linter.all false
set_option Elab.async false
namespace Z
open PySem
theorem while_nx {c : En → Option (Bool × En)} {b : SF} {n : Nat} {e e1 e2 : En} (hc : c e = some (true, e1)) (hb : b e1 = some (.nx, e2)) : sWhile c b (n + 1) e = sWhile c b n e2 := by
  simp [sWhile, hc, hb]
theorem while_end {c : En → Option (Bool × En)} {b : SF} {n : Nat} {e e1 : En} (hc : c e = some (false, e1)) : sWhile c b (n + 1) e = some (.nx, e1) := by
  simp [sWhile, hc]
end Z
namespace K74
open PySem Z
theorem eraseIdx_mapD (f : Of → D) : ∀ (l : List Of) (i : Nat), (l.map f).eraseIdx i = (l.eraseIdx i).map f
  | [], _ => by simp
  | x :: l, 0 => by simp
  | x :: l, i + 1 => by simp [eraseIdx_mapD f l i]
theorem pull_perm : ∀ (l : List Of) (i : Nat) (hi : i < l.length), (l[i] :: l.eraseIdx i).Perm l
  | x :: l, 0, _ => by simp
  | x :: l, i + 1, hi => by
    have ih := pull_perm l i (by simpa using hi)
    simp only [List.getElem_cons_succ, List.eraseIdx_cons_succ]
    exact (List.Perm.swap x _ _).trans (ih.cons x)
def bdy_mix : SF := sSeq (sDrop (vMeth "list" 3 mAppend (vsCons (vMeth "list" 2 mPopAt (vsCons (vCall m__law_pick [.lend 0, .val (vOf (eBi bLen (esCons (eVar 2) (esNil))))]) (vsNil))) (vsNil)))) (sNil)
def cnd_mix : En → Option (Bool × En) := tOf (tBl (eOp dGt (eBi bLen (esCons (eVar 2) (esNil))) (eC (.int 0))))
def stX (t c : D) (l f : List Of) : En := [.ow t, .ow c, .ow (.lst true (l.map oD)), .ow (.lst true (f.map oD))]
theorem mix_body (t c : D) (h : Tp t) (l f : List Of) (h0 : 0 < l.length) (h1 : l.length ≤ 1000) (h2 : f.length ≤ 1000) : ∃ (i : Nat) (t' : D) (hi : i < l.length), Tp t' ∧ bdy_mix (stX t c l f) = some (.nx, stX t' c (l.eraseIdx i) (f ++ [l[i]])) := by
  obtain ⟨i, t', hi, T, e⟩ := sp_pick t h l.length h0 h1
  refine ⟨i, t', hi, T, ?_⟩
  have vc : vCall m__law_pick [.lend 0, .val (vOf (eBi bLen (esCons (eVar 2) esNil)))] (stX t c l f) = some (.int (i : Int), stX t' c l f) := vCall_lend (d := .int (l.length : Int)) (by simp [eVar]) e
  have ix : L2.ixN l.length (i : Int) = some i := by unfold L2.ixN; rw [if_pos (by omega), if_pos (by omega)]; simp
  have lf : f.length < lim := Nat.lt_of_le_of_lt h2 (by decide)
  have pp : vMeth "list" 2 mPopAt (vsCons (vCall m__law_pick [.lend 0, .val (vOf (eBi bLen (esCons (eVar 2) (esNil))))]) (vsNil)) (stX t c l f) = some (oD l[i], stX t' c (l.eraseIdx i) f) := by
    have s : (stX t c l f)[2]? = some (.ow (.lst true (l.map oD))) := rfl
    simp only [vMeth, s, isTy, z_vsCons, vc, Option.bind_some, z_vsNil]
    simp [stX, updE, modP, mPopAt, ix, hi, eraseIdx_mapD]
    rw [if_pos (by omega)]; rfl
  have s : (stX t c l f)[3]? = some (.ow (.lst true (f.map oD))) := rfl
  simp only [bdy_mix, z_sSeq, z_sDrop]
  have ap : vMeth "list" 3 mAppend (vsCons (vMeth "list" 2 mPopAt (vsCons (vCall m__law_pick [.lend 0, .val (vOf (eBi bLen (esCons (eVar 2) (esNil))))]) (vsNil))) (vsNil)) (stX t c l f) = some (.non, stX t' c (l.eraseIdx i) (f ++ [l[i]])) := by
    rw [vMeth, s]
    simp only [isTy, z_vsCons, pp, Option.bind_some, z_vsNil]
    simp [stX, updE, modP, mAppend, lf]
  rw [ap]; rfl
theorem mix_loop (c : D) : ∀ (n N : Nat) (t : D) (l f : List Of), l.length = n → n < N → n + f.length ≤ 1000 → Tp t → ∃ t' r, Tp t' ∧ r.Perm (f ++ l) ∧ sWhile cnd_mix bdy_mix N (stX t c l f) = some (.nx, stX t' c [] r)
  | 0, 0, _, _, _, _, h, _, _ => by omega
  | n + 1, 0, _, _, _, _, h, _, _ => by omega
  | 0, N + 1, t, [], f, _, _, _, h => by
    refine ⟨t, f, h, by simp, while_end ?_⟩
    simp [cnd_mix, stX, eVar]
  | 0, N + 1, t, x :: l, f, hl, _, _, h => by simp at hl
  | n + 1, N + 1, t, l, f, hl, hN, hf, h => by
    obtain ⟨i, t1, hi, T1, e⟩ := mix_body t c h l f (by omega) (by omega) (by omega)
    obtain ⟨t', r, T', p, e2⟩ := mix_loop c n N t1 (l.eraseIdx i) (f ++ [l[i]]) (by rw [List.length_eraseIdx_of_lt hi]; omega) (by omega) (by simp; omega) T1
    refine ⟨t', r, T', p.trans ?_, ?_⟩
    · rw [List.append_assoc]
      exact List.Perm.append_left f (pull_perm l i hi)
    · rw [while_nx (e1 := stX t c l f) ?_ e, e2]
      have : (0 : Int) < l.length := by omega
      simp [cnd_mix, stX, eVar]
      omega
theorem sp_mixed (t : D) (h : Tp t) (os : List Of) (hl : os.length ≤ 8) : ∃ (t' : D) (r : List Of), Tp t' ∧ r.Perm os ∧ m__law_mixed [t, .lst false (os.map oD)] = some (.lst true (r.map oD), [t']) := by
  obtain ⟨t', r, T, p, e⟩ := mix_loop (.lst false (os.map oD)) os.length 1000000 t os [] rfl (by omega) (by simp; omega) h
  refine ⟨t', r, T, by simpa using p, ?_⟩
  have e' : sWhile cnd_mix bdy_mix 1000000 [.ow t, .ow (.lst false (os.map oD)), .ow (.lst true (os.map oD)), .ow (.lst true [])] = some (.nx, [.ow t', .ow (.lst false (os.map oD)), .ow (.lst true []), .ow (.lst true (r.map oD))]) := e
  rw [m__law_mixed_eq]
  show fin [0] (sSeq (sPar 2 3 _) (sSeq (sWhile cnd_mix bdy_mix 1000000) _) _) = _
  simp [sPar, eVar, open?, e', vMove, outs]
end K74

set_option maxRecDepth 100000
set_option linter.all false
set_option Elab.async false
namespace K74
open PySem Z
def small (o : Of) : Prop := 0 ≤ o.1 ∧ o.1 < 12 ∧ o.1 < o.2.1 ∧ o.2.1 ≤ 24 ∧ 0 ≤ o.2.2 ∧ o.2.2 < 5
theorem vPick {v : En → Option (D × En)} {t t1 : D} {E E1 : En} (m : Nat) (h0 : 0 < m) (h1 : m ≤ 1000) (hv : v (.ow t :: E) = some (.int (m : Int), .ow t1 :: E1)) (h : Tp t1) : ∃ (i : Nat) (t2 : D), i < m ∧ Tp t2 ∧ vCall m__law_pick [.lend 0, .val v] (.ow t :: E) = some (.int (i : Int), .ow t2 :: E1) := by
  obtain ⟨i, t2, hi, T, e⟩ := sp_pick t1 h m h0 h1
  exact ⟨i, t2, hi, T, vCall_lend hv e⟩
theorem vAny {v : En → Option (D × En)} {t t1 : D} {E E1 : En} (l : List D) (h0 : 0 < l.length) (h1 : l.length ≤ 1000) (hz : isFzs l = true) (hv : v (.ow t :: E) = some (.lst true l, .ow t1 :: E1)) (h : Tp t1) : ∃ (d t2 : D), d ∈ l ∧ Tp t2 ∧ vCall m__law_any [.lend 0, .val v] (.ow t :: E) = some (d, .ow t2 :: E1) := by
  obtain ⟨d, t2, hd, T, e⟩ := sp_any_l t1 h l h0 h1 hz
  refine ⟨d, t2, hd, T, vCall_lend (d := .lst true l) hv ?_⟩
  have : fz (.lst true l) = .lst false l := by simp only [fz, fzs_same l hz]
  rw [this]; exact e
def ofT : En → Option (D × En) := vTup (vsCons (vOf (eFz (eVar 4))) (vsCons (vOp dAdd (vOf (eOp dAdd (eVar 4) (eC (.int 1)))) (vCall m__law_pick [.lend 0, .val (vCall m__law_any [.lend 0, .val (vOf (eLst (esCons (eC (.int 1)) (esCons (eC (.int 3)) (esCons (eFz (eVar 1)) (esNil))))))])])) (vsCons (vCall m__law_pick [.lend 0, .val (vOf (eC (.int 5)))]) (vsNil))))
def stF (t : D) (w : Nat) (f : List Of) (x y : Sl) : En := [.ow t, .ow (.int (w : Int)), .ow (.lst true (f.map oD)), x, y]
theorem ofT_ok (t : D) (h : Tp t) (w b : Nat) (hw : 0 < w) (hw2 : w ≤ 12) (hb : b < w) (f : List Of) (x : Sl) : ∃ (o : Of) (t' : D), small o ∧ Tp t' ∧ ofT (stF t w f x (.ow (.int (b : Int)))) = some (oD o, stF t' w f x (.ow (.int (b : Int)))) := by
  obtain ⟨d, t1, hd, T1, e1⟩ := vAny (v := vOf (eLst (esCons (eC (.int 1)) (esCons (eC (.int 3)) (esCons (eFz (eVar 1)) (esNil)))))) (t := t) (t1 := t) (E := [.ow (.int (w : Int)), .ow (.lst true (f.map oD)), x, .ow (.int (b : Int))]) (E1 := [.ow (.int (w : Int)), .ow (.lst true (f.map oD)), x, .ow (.int (b : Int))]) [.int 1, .int 3, .int (w : Int)] (by simp) (by simp) (by simp) (by simp [eVar]) h
  have dm : ∃ m : Nat, d = .int (m : Int) ∧ 0 < m ∧ m ≤ 12 := by
    simp only [List.mem_cons, List.not_mem_nil, or_false] at hd
    rcases hd with rfl | rfl | rfl
    · exact ⟨1, rfl, by omega, by omega⟩
    · exact ⟨3, rfl, by omega, by omega⟩
    · exact ⟨w, rfl, hw, hw2⟩
  obtain ⟨m, rfl, m0, m1⟩ := dm
  obtain ⟨i, t2, hi, T2, e2⟩ := vPick m m0 (by omega) e1 T1
  obtain ⟨j, t3, hj, T3, e3⟩ := vPick (v := vOf (eC (.int 5))) (t := t2) (t1 := t2) (E := [.ow (.int (w : Int)), .ow (.lst true (f.map oD)), x, .ow (.int (b : Int))]) (E1 := [.ow (.int (w : Int)), .ow (.lst true (f.map oD)), x, .ow (.int (b : Int))]) 5 (by omega) (by omega) (by simp) T2
  refine ⟨((b : Int), (b : Int) + 1 + i, (j : Int)), t3, ?_, T3, ?_⟩
  · unfold small; simp only; omega
  · simp [ofT, stF, eVar, e2, e3, oD, - z_vCall]
def bdy_of : SF := sSeq (sSet 4 (vCall m__law_pick [.lend 0, .val (vOf (eFz (eVar 1)))])) (sSeq (sDrop (vMeth "list" 2 mAppend (vsCons ofT (vsNil)))) (sSeq (sIfV (tAndVv (tBlV (vOp dEq (vCall m__law_pick [.lend 0, .val (vOf (eC (.int 6)))]) (vOf (eC (.int 0))))) (tOf (tBl (eOp dLt (eBi bLen (esCons (eVar 2) (esNil))) (eC (.int 8)))))) (sSeq (sDrop (vMeth "list" 2 mAppend (vsCons (vOf (eOp dIxF (eVar 2) (eUn dNeg (eC (.int 1))))) (vsNil)))) (sNil)) (sNil)) (sNil)))
theorem of_body (t : D) (h : Tp t) (w : Nat) (hw : 0 < w) (hw2 : w ≤ 12) (f : List Of) (hf : f.length ≤ 1000) (hs : ∀ o ∈ f, small o) (x y : Sl) (hy : opn y) : ∃ (t' : D) (f' : List Of) (y' : Sl), Tp t' ∧ opn y' ∧ f'.length ≤ f.length + 2 ∧ (∀ o ∈ f', small o) ∧ bdy_of (stF t w f x y) = some (.nx, stF t' w f' x y') := by
  obtain ⟨b, t1, hb, T1, e1⟩ := vPick (v := vOf (eFz (eVar 1))) (t := t) (t1 := t) (E := [.ow (.int (w : Int)), .ow (.lst true (f.map oD)), x, y]) (E1 := [.ow (.int (w : Int)), .ow (.lst true (f.map oD)), x, y]) w hw (by omega) (by simp [eVar]) h
  obtain ⟨o, t2, so, T2, e2⟩ := ofT_ok t1 T1 w b hw hw2 hb f x
  obtain ⟨i, t3, hi, T3, e3⟩ := vPick (v := vOf (eC (.int 6))) (t := t2) (t1 := t2) (E := [.ow (.int (w : Int)), .ow (.lst true ((f ++ [o]).map oD)), x, .ow (.int (b : Int))]) (E1 := [.ow (.int (w : Int)), .ow (.lst true ((f ++ [o]).map oD)), x, .ow (.int (b : Int))]) 6 (by omega) (by omega) (by simp) T2
  have lf : f.length < lim := Nat.lt_of_le_of_lt hf (by decide)
  have op : open? (stF t1 w f x y) 4 = true := by rcases hy with rfl | ⟨d, rfl⟩ <;> rfl
  have s1 : sSet 4 (vCall m__law_pick [.lend 0, .val (vOf (eFz (eVar 1)))]) (stF t w f x y) = some (.nx, stF t1 w f x (.ow (.int (b : Int)))) := by
    have e1' : vCall m__law_pick [.lend 0, .val (vOf (eFz (eVar 1)))] (stF t w f x y) = some (.int (b : Int), stF t1 w f x y) := e1
    rw [z_sSet, e1', Option.bind_some, if_pos op]; rfl
  have s2 : vMeth "list" 2 mAppend (vsCons ofT vsNil) (stF t1 w f x (.ow (.int (b : Int)))) = some (.non, stF t2 w (f ++ [o]) x (.ow (.int (b : Int)))) := by
    have q : (stF t1 w f x (.ow (.int (b : Int))))[2]? = some (.ow (.lst true (f.map oD))) := rfl
    rw [vMeth, q]
    simp only [isTy, z_vsCons, e2, Option.bind_some, z_vsNil]
    simp [stF, updE, modP, mAppend, lf]
  have e3' : vCall m__law_pick [.lend 0, .val (vOf (eC (.int 6)))] (stF t2 w (f ++ [o]) x (.ow (.int (b : Int)))) = some (.int (i : Int), stF t3 w (f ++ [o]) x (.ow (.int (b : Int)))) := e3
  have so2 : ∀ p ∈ f ++ [o], small p := by
    intro p hp
    rcases List.mem_append.mp hp with hp | hp
    · exact hs p hp
    · rw [List.mem_singleton.mp hp]; exact so
  by_cases c : i = 0 ∧ (f ++ [o]).length < 8
  · obtain ⟨rfl, c⟩ := c
    refine ⟨t3, f ++ [o] ++ [o], .ow (.int (b : Int)), T3, Or.inr ⟨_, rfl⟩, by simp, ?_, ?_⟩
    · intro p hp
      rcases List.mem_append.mp hp with hp | hp
      · exact so2 p hp
      · rw [List.mem_singleton.mp hp]; exact so
    · have la : L2.atI (f.map oD ++ [oD o]) (-1) = some (oD o) := L2.atI_last _ _
      have l2 : f.length + 1 < lim := by simp at c; have : lim = 1000000 := rfl; omega
      have c2 : (f.length : Int) + 1 < 8 := by simp at c; omega
      simp only [bdy_of, z_sSeq, s1, Option.bind_some, z_sDrop, s2, z_sIfV, z_tAndVv, z_tBlV, z_vOp, e3']
      simp [stF, eVar, c2, vMeth, isTy, updE, modP, mAppend, la, l2]
  · refine ⟨t3, f ++ [o], .ow (.int (b : Int)), T3, Or.inr ⟨_, rfl⟩, by simp, so2, ?_⟩
    simp only [bdy_of, z_sSeq, s1, Option.bind_some, z_sDrop, s2, z_sIfV, z_tAndVv, z_tBlV, z_vOp, e3']
    by_cases i0 : i = 0
    · have c2 : ¬ ((f.length : Int) + 1 < 8) := by intro q; exact c ⟨i0, by simp; omega⟩
      simp [stF, eVar, i0, c2]
    · simp [stF, eVar, i0]
theorem of_loop (w : Nat) (hw : 0 < w) (hw2 : w ≤ 12) : ∀ (ks : List Nat) (t : D) (f : List Of) (x y : Sl), Tp t → f.length + 2 * ks.length ≤ 1000 → (∀ o ∈ f, small o) → opn x → opn y →
    ∃ (t' : D) (f' : List Of) (x' y' : Sl), Tp t' ∧ (∀ o ∈ f', small o) ∧ sForGo (boName 3) bdy_of (ks.map nD) (stF t w f x y) = some (.nx, stF t' w f' x' y')
  | [], t, f, x, y, h, _, hs, _, _ => ⟨t, f, x, y, h, hs, rfl⟩
  | k :: ks, t, f, x, y, h, hl, hs, hx, hy => by
    obtain ⟨t1, f1, y1, T1, oy, l1, s1, e1⟩ := of_body t h w hw hw2 f (by simp at hl; omega) hs (.ow (nD k)) y hy
    have hb : boName 3 (nD k) (stF t w f x y) = some (stF t w f (.ow (nD k)) y) := by rcases hx with rfl | ⟨d, rfl⟩ <;> rfl
    obtain ⟨t', f', x', y', T', s', e⟩ := of_loop w hw hw2 ks t1 f1 (.ow (nD k)) y1 T1 (by simp at hl; omega) s1 (Or.inr ⟨_, rfl⟩) oy
    exact ⟨t', f', x', y', T', s', by rw [List.map_cons, forGo_nx (isFz_nD k) hb e1, e]⟩
theorem Ok.of_small {os : List Of} (h : ∀ o ∈ os, small o) (hl : os.length ≤ 8) : Ok os := ⟨hl, fun o ho => by
  have := h o ho
  unfold small at this
  unfold ofOk
  omega⟩
theorem sp_offers (t : D) (h : Tp t) : ∃ (t' : D) (os : List Of), Tp t' ∧ os.length ≤ 8 ∧ (∀ o ∈ os, small o) ∧ m__law_offers [t] = some (osD os, [t']) := by
  obtain ⟨d, t1, hd, T1, e1⟩ := vAny (v := vOf (eLst (esCons (eC (.int 3)) (esCons (eC (.int 6)) (esCons (eC (.int 12)) (esNil)))))) (t := t) (t1 := t) (E := [.no, .no, .no, .no]) (E1 := [.no, .no, .no, .no]) [.int 3, .int 6, .int 12] (by simp) (by simp) (by simp) (by simp) h
  have dm : ∃ w : Nat, d = .int (w : Int) ∧ 0 < w ∧ w ≤ 12 := by
    simp only [List.mem_cons, List.not_mem_nil, or_false] at hd
    rcases hd with rfl | rfl | rfl
    · exact ⟨3, rfl, by omega, by omega⟩
    · exact ⟨6, rfl, by omega, by omega⟩
    · exact ⟨12, rfl, by omega, by omega⟩
  obtain ⟨w, rfl, w0, w1⟩ := dm
  obtain ⟨n, t2, hn, T2, e2⟩ := vPick (v := vOf (eC (.int 9))) (t := t1) (t1 := t1) (E := [.ow (.int (w : Int)), .ow (.lst true []), .no, .no]) (E1 := [.ow (.int (w : Int)), .ow (.lst true []), .no, .no]) 9 (by omega) (by omega) (by simp) T1
  obtain ⟨t3, f, x', y', T3, sf, e3⟩ := of_loop w w0 w1 (List.range n) t2 [] .no .no T2 (by simp; omega) (fun o ho => nomatch ho) (Or.inl rfl) (Or.inl rfl)
  have e3' : sForGo (boName 3) bdy_of ((List.range n).map nD) [.ow t2, .ow (.int (w : Int)), .ow (.lst true []), .no, .no] = some (.nx, [.ow t3, .ow (.int (w : Int)), .ow (.lst true (f.map oD)), x', y']) := e3
  have r := rng_n n (by omega)
  have cu : cutD (f.map oD) none (some 8) = (f.take 8).map oD := by
    rw [cut_map]; exact congrArg _ (cut_to f 8)
  refine ⟨t3, f.take 8, T3, by simp; omega, fun o ho => sf o (List.mem_of_mem_take ho), ?_⟩
  rw [m__law_offers_eq]
  show fin [0] (sSeq _ (sSeq (sFor _ _ bdy_of) _) _) = _
  simp [sPar, e1, open?, e2, r, e3', eVar, dSl, cu, outs, osD, - z_vCall, - List.map_map, - List.map_take]
end K74

set_option maxRecDepth 100000
set_option linter.all false
set_option Elab.async false
namespace K74
open PySem Z
def addK (ks : List Int) (i : Int) : List Int := if i ∈ ks then ks else ks ++ [i]
def kI (ks : List Int) : List L2.Key := ks.map Sum.inl
def tr (ks : List Int) : List D := ks.map fun _ => .bl true
theorem repD_tr (k : L2.Key) : ∀ ks : List Int, repD k (.bl true) (kI ks) (tr ks) = tr ks
  | [] => rfl
  | x :: ks => by
    have ih := repD_tr k ks
    simp only [kI, tr, List.map_cons] at ih ⊢
    rw [repD, ih]
    split <;> rfl
theorem put_tr (ks : List Int) (i : Int) : putD (Sum.inl i : L2.Key) (.bl true) (kI ks) (tr ks) = some (kI (addK ks i), tr (addK ks i)) := by
  unfold putD addK
  have m : (Sum.inl i : L2.Key) ∈ kI ks ↔ i ∈ ks := by
    unfold kI
    simp
  by_cases q : i ∈ ks
  · rw [if_pos (m.mpr q), if_pos q, repD_tr]; simp
  · rw [if_neg (fun h => q (m.mp h)), if_neg q]
    simp [kI, tr]
theorem addK_mem {ks : List Int} {i j : Int} : j ∈ addK ks i ↔ j ∈ ks ∨ j = i := by
  unfold addK
  split
  · rename_i h
    constructor
    · exact Or.inl
    · rintro (h' | rfl)
      · exact h'
      · exact h
  · simp
theorem addK_nodup {ks : List Int} {i : Int} (h : ks.Nodup) : (addK ks i).Nodup := by
  unfold addK
  split
  · exact h
  · rename_i q
    rw [List.nodup_append]
    exact ⟨h, by simp, fun a ha b hb => by rw [List.mem_singleton.mp hb]; rintro rfl; exact q ha⟩
theorem addK_len {ks : List Int} {i : Int} : (addK ks i).length ≤ ks.length + 1 := by
  unfold addK; split <;> simp
def bdy_hr : SF := sSeq (sDrop (vMeth "dict" 1 mUpdD (vsCons (vOf (eDc [3] (eItems (eSl (eVar 2) (eNoP) (eP (eC (.int 2))))) (bdName 3) (gYes) (eVar 3) (eC (.bl true)))) (vsNil)))) (sNil)
def stH (os : List Of) (ks : List Int) (x : Sl) : En := [.ow (osD os), .ow (.dk true (kI ks) (tr ks)), x, .no]
theorem hr_body (os : List Of) (o : Of) (ho : o.1 < o.2.1) (ks : List Int) (hk : ks.length ≤ 900) : bdy_hr (stH os ks (.ow (oD o))) = some (.nx, stH os (addK (addK ks o.1) o.2.1) (.ow (oD o))) := by
  have sl : dSl (oD o) none (some 2) = some (.tup [.int o.1, .int o.2.1]) := by
    simp only [dSl, oD]
    rw [if_pos (by simp)]; rfl
  have k1 := put_tr [] o.1
  have k2 := put_tr [o.1] o.2.1
  have a1 : addK [] o.1 = [o.1] := rfl
  have a2 : addK [o.1] o.2.1 = [o.1, o.2.1] := by
    unfold addK
    rw [if_neg (by simp; omega)]; rfl
  rw [a1] at k1
  rw [a2] at k2
  have dc : eDc [3] (eItems (eSl (eVar 2) (eNoP) (eP (eC (.int 2))))) (bdName 3) (gYes) (eVar 3) (eC (.bl true)) (stH os ks (.ow (oD o))) = some (.dk true (kI [o.1, o.2.1]) (tr [o.1, o.2.1])) := by
    have k1' : putD (Sum.inl o.1 : L2.Key) (.bl true) [] [] = some (kI [o.1], tr [o.1]) := k1
    have l2 : 2 ≤ lim := by decide
    simp [eDc, stH, eVar, sl, dcGo, keyD, k1', k2, l2]
  have lk : (kI ks).length + (kI [o.1, o.2.1]).length ≤ lim := le_lim (by simp [kI]; omega)
  have mg : mergeD (kI [o.1, o.2.1]) (tr [o.1, o.2.1]) (kI ks) (tr ks) = some (kI (addK (addK ks o.1) o.2.1), tr (addK (addK ks o.1) o.2.1)) := by
    have p1 := put_tr ks o.1
    have p2 := put_tr (addK ks o.1) o.2.1
    show mergeD [Sum.inl o.1, Sum.inl o.2.1] [.bl true, .bl true] _ _ = _
    simp [mergeD, p1, p2]
  have md : vMeth "dict" 1 mUpdD (vsCons (vOf (eDc [3] (eItems (eSl (eVar 2) (eNoP) (eP (eC (.int 2))))) (bdName 3) (gYes) (eVar 3) (eC (.bl true)))) (vsNil)) (stH os ks (.ow (oD o))) = some (.non, stH os (addK (addK ks o.1) o.2.1) (.ow (oD o))) := by
    have q : (stH os ks (.ow (oD o)))[1]? = some (.ow (.dk true (kI ks) (tr ks))) := rfl
    rw [vMeth, q]
    simp only [isTy, z_vsCons, z_vOf, dc, Option.bind_some, z_vsNil]
    simp [stH, updE, modP, mUpdD, lk, mg]
  simp [bdy_hr, md]
theorem hr_loop (os : List Of) : ∀ (l : List Of) (ks : List Int) (x : Sl), (∀ o ∈ l, o.1 < o.2.1) → ks.length + 2 * l.length ≤ 900 → ks.Nodup → opn x →
    ∃ (ks' : List Int) (x' : Sl), ks'.Nodup ∧ ks'.length ≤ ks.length + 2 * l.length ∧ (∀ i, i ∈ ks' ↔ i ∈ ks ∨ ∃ o ∈ l, i = o.1 ∨ i = o.2.1) ∧ sForGo (boName 2) bdy_hr (l.map oD) (stH os ks x) = some (.nx, stH os ks' x')
  | [], ks, x, _, _, hn, _ => ⟨ks, x, hn, by simp, by simp, rfl⟩
  | o :: l, ks, x, hv, hl, hn, hx => by
    have hb : boName 2 (oD o) (stH os ks x) = some (stH os ks (.ow (oD o))) := by rcases hx with rfl | ⟨d, rfl⟩ <;> rfl
    have e1 := hr_body os o (hv o List.mem_cons_self) ks (by simp at hl; omega)
    have a1 := addK_len (ks := ks) (i := o.1)
    have a2 := addK_len (ks := addK ks o.1) (i := o.2.1)
    obtain ⟨ks', x', n', l', m', e⟩ := hr_loop os l (addK (addK ks o.1) o.2.1) (.ow (oD o)) (fun q hq => hv q (List.mem_cons_of_mem _ hq)) (by simp at hl; omega) (addK_nodup (addK_nodup hn)) (Or.inr ⟨_, rfl⟩)
    refine ⟨ks', x', n', by simp; omega, ?_, by rw [List.map_cons, forGo_nx (isFz_oD o) hb e1, e]⟩
    intro i
    rw [m', addK_mem, addK_mem]
    simp only [List.mem_cons, exists_eq_or_imp]
    constructor
    · rintro (((h | h) | h) | h)
      · exact Or.inl h
      · exact Or.inr (Or.inl (Or.inl h))
      · exact Or.inr (Or.inl (Or.inr h))
      · exact Or.inr (Or.inr h)
    · rintro (h | (h | h) | h)
      · exact Or.inl (Or.inl (Or.inl h))
      · exact Or.inl (Or.inl (Or.inr h))
      · exact Or.inl (Or.inr h)
      · exact Or.inr h
theorem keyInts_kI : ∀ ks : List Int, keyInts (kI ks) = some ks
  | [] => rfl
  | i :: ks => by
    have ih := keyInts_kI ks
    simp only [kI, List.map_cons, keyInts] at ih ⊢
    rw [ih]; rfl
structure Hrs (os : List Of) (hs : List Int) : Prop where
  up : hs.Pairwise (· < ·)
  mem : ∀ i, i ∈ hs ↔ ∃ o ∈ os, i = o.1 ∨ i = o.2.1
  len : hs.length ≤ 16
theorem sp_hours {c : D} {os : List Of} (hc : c = osD os) (h : Ok os) : ∃ hs, Hrs os hs ∧ m_hours_of [c] = some (.lst true (hs.map .int), []) := by
  subst hc
  have hl := h.len
  obtain ⟨ks, x', n, l, m, e⟩ := hr_loop os os [] .no (fun o ho => (h.ok o ho).2.1) (by simp; omega) List.nodup_nil (Or.inl rfl)
  have e' : sForGo (boName 2) bdy_hr (os.map oD) [.ow (osD os), .ow (.dk true [] []), .no, .no] = some (.nx, [.ow (osD os), .ow (.dk true (kI ks) (tr ks)), x', .no]) := e
  have pm := List.mergeSort_perm ks intLe
  refine ⟨ks.mergeSort intLe, ⟨?_, ?_, ?_⟩, ?_⟩
  · have h1 := List.pairwise_mergeSort (le := intLe) (fun a b c h1 h2 => by simp [intLe] at *; omega) (fun a b => by simp [intLe]; omega) ks
    have h2 : (ks.mergeSort intLe).Nodup := pm.nodup_iff.mpr n
    refine (h1.and h2).imp ?_
    intro a b ⟨h, hne⟩
    simp [intLe] at h
    omega
  · intro i
    rw [pm.mem_iff, m]; simp
  · rw [pm.length_eq]; simp at l; omega
  · have so : bSorted [.dk true (kI ks) (tr ks)] = some (.lst true ((ks.mergeSort intLe).map .int)) := by
      show (keyInts (kI ks)).bind _ = _
      rw [keyInts_kI, Option.bind_some, if_pos (by simp at l; omega)]
    rw [m_hours_of_eq]
    show fin [] (sSeq _ (sSeq (sFor _ _ bdy_hr) _) _) = _
    simp [eVar, open?, e', so, - List.map_map]
end K74

set_option maxRecDepth 100000
set_option linter.all false
set_option Elab.async false
namespace K74
open PySem Z
def inn (os : List Of) (h : Int) (k : Nat) : Bool := decide (bg os k ≤ h) && decide (h < nd os k)
def cnt (os : List Of) (g : List Nat) (h : Int) : Nat := (g.filter (inn os h)).length
theorem sp_many (os : List Of) (g : List Nat) (h : Int) (hg : ∀ k ∈ g, k < os.length) (hl : g.length ≤ 1000) : m_many_at [osD os, gD g, .int h] = some (.int (cnt os g h : Nat), []) := by
  have l1 : g.length ≤ lim := le_lim hl
  have e := lcGo_map (β := Unit) (bd := bdName 3) (gt := tBl (eChain (eOp dItem (eOp dItem (eVar 0) (eVar 3)) (eC (.int 0))) [(dLe, eVar 2), (dLt, eOp dItem (eOp dItem (eVar 0) (eVar 3)) (eC (.int 1)))])) (ge := eFz (eVar 3)) (e0 := [.ow (osD os), .ow (gD g), .ow (.int h), .no])
    nD (fun k => [.ow (osD os), .ow (gD g), .ow (.int h), .ow (nD k)]) (inn os h) nD g (fun k hk => by
      have it := item_os (hg k hk)
      refine ⟨by simp, ?_, fun _ => by simp [eVar]⟩
      unfold inn bg nd
      by_cases q : (gt os k).1 ≤ h <;> simp [eVar, it, eCh, q])
  have it : dItems (gD g) = some (g.map nD) := rfl
  simp [m_many_at_eq, b_many_at, eVar, it, l1, e, cnt]
def bdy_bs : SF := sSeq (sDrop (vMeth "list" 2 mAppend (vsCons (vOf (eBi bLen (esCons (eLc [4] (eItems (eVar 1)) (bdName 4) (tBl (eChain (eOp dItem (eOp dItem (eVar 0) (eVar 4)) (eC (.int 0))) [(dLe, eVar 3), (dLt, eOp dItem (eOp dItem (eVar 0) (eVar 4)) (eC (.int 1)))])) (eFz (eVar 4))) (esNil)))) (vsNil)))) (sNil)
def stB (os : List Of) (g : List Nat) (m : List Int) (x : Sl) : En := [.ow (osD os), .ow (gD g), .ow (.lst true (m.map .int)), x, .no]
theorem bs_body (os : List Of) (g : List Nat) (h : Int) (m : List Int) (hg : ∀ k ∈ g, k < os.length) (hl : g.length ≤ 1000) (hm : m.length ≤ 1000) : bdy_bs (stB os g m (.ow (.int h))) = some (.nx, stB os g (m ++ [(cnt os g h : Int)]) (.ow (.int h))) := by
  have l1 : g.length ≤ lim := le_lim hl
  have l2 : m.length < lim := Nat.lt_of_le_of_lt hm (by decide)
  have e := lcGo_map (β := Unit) (bd := bdName 4) (gt := tBl (eChain (eOp dItem (eOp dItem (eVar 0) (eVar 4)) (eC (.int 0))) [(dLe, eVar 3), (dLt, eOp dItem (eOp dItem (eVar 0) (eVar 4)) (eC (.int 1)))])) (ge := eFz (eVar 4)) (e0 := stB os g m (.ow (.int h)))
    nD (fun k => [.ow (osD os), .ow (gD g), .ow (.lst true (m.map .int)), .ow (.int h), .ow (nD k)]) (inn os h) nD g (fun k hk => by
      have it := item_os (hg k hk)
      refine ⟨by simp [stB], ?_, fun _ => by simp [eVar]⟩
      unfold inn bg nd
      by_cases q : (gt os k).1 ≤ h <;> simp [eVar, it, eCh, q])
  have it : dItems (gD g) = some (g.map nD) := rfl
  simp only [stB] at e
  simp [bdy_bs, stB, vMeth, isTy, eVar, it, l1, e, updE, modP, mAppend, l2, cnt]
theorem bs_loop (os : List Of) (g : List Nat) (hg : ∀ k ∈ g, k < os.length) (hl : g.length ≤ 1000) : ∀ (hs m : List Int) (x : Sl), m.length + hs.length ≤ 1000 → opn x →
    ∃ x', sForGo (boName 3) bdy_bs (hs.map .int) (stB os g m x) = some (.nx, stB os g (m ++ hs.map fun h => (cnt os g h : Int)) x')
  | [], m, x, _, _ => ⟨x, by simp [sForGo]⟩
  | h :: hs, m, x, hm, hx => by
    have hb : boName 3 (.int h) (stB os g m x) = some (stB os g m (.ow (.int h))) := by rcases hx with rfl | ⟨d, rfl⟩ <;> rfl
    have e1 := bs_body os g h m hg hl (by simp at hm; omega)
    obtain ⟨x', e⟩ := bs_loop os g hg hl hs (m ++ [(cnt os g h : Int)]) (.ow (.int h)) (by simp at hm ⊢; omega) (Or.inr ⟨_, rfl⟩)
    exact ⟨x', by rw [List.map_cons, forGo_nx (by simp) hb e1, e]; simp⟩
def busy (os : List Of) (g : List Nat) (hs : List Int) : Int := ((0 : Int) :: hs.map fun h => (cnt os g h : Int)).max?.getD 0
theorem sp_busiest {os : List Of} (h : Ok os) (g : List Nat) (hg : ∀ k ∈ g, k < os.length) (hl : g.length ≤ 1000) : ∃ hs, Hrs os hs ∧ m_busiest [osD os, gD g] = some (.int (busy os g hs), []) := by
  obtain ⟨hs, H, e1⟩ := sp_hours (c := osD os) rfl h
  obtain ⟨x', e⟩ := bs_loop os g hg hl hs [0] .no (by have := H.len; simp; omega) (Or.inl rfl)
  refine ⟨hs, H, ?_⟩
  have e' : sForGo (boName 3) bdy_bs (hs.map .int) [.ow (osD os), .ow (gD g), .ow (.lst true [.int 0]), .no, .no] = some (.nx, stB os g ([0] ++ hs.map fun h => (cnt os g h : Int)) x') := e
  have mx := z_max (o := true) id ((0 : Int) :: hs.map fun h => (cnt os g h : Int))
  rw [List.map_id, max_some (by simp)] at mx
  have mx' : bMax [.lst true (([0] ++ hs.map fun h => (cnt os g h : Int)).map .int)] = some (.int (busy os g hs)) := mx
  rw [m_busiest_eq]
  show fin [] (sSeq _ (sSeq (sFor _ _ bdy_bs) _) _) = _
  simp only [z_sSeq, z_sFor]
  simp [eVar, open?, e1, e', - List.map_map]
  simp [stB, eVar] at mx' ⊢
  simp [mx']
end K74

set_option maxRecDepth 100000
set_option linter.all false
set_option Elab.async false
namespace K74
open PySem Z
theorem sp_does_fit {os : List Of} (h : Ok os) (b : Int) (b1 : 1 ≤ b) (b2 : b ≤ 8) (g : List Nat) (hr : rise g) (hg : ∀ k ∈ g, k < os.length) (hl : g.length ≤ 1000) : ∃ hs, Hrs os hs ∧ m_does_fit [osD os, .int b, gD g] = some (.bl (decide (busy os g hs ≤ b)), []) := by
  obtain ⟨hs, H, e⟩ := sp_busiest h g hg hl
  refine ⟨hs, H, ?_⟩
  have c := sp_check os h b b1 b2
  have gr := sp_is_group_of os.length _ (Gt_g g hl)
  rw [grpOf_g hr hg] at gr
  have gr' : m_is_group_of [.int os.length, gD g] = some (.bl true, []) := gr
  simp [m_does_fit_eq, b_does_fit, eVar, c, gr', e]
end K74

set_option maxRecDepth 100000
set_option linter.all false
set_option Elab.async false
namespace K74
open PySem Z
/-! the lines: their object, their steps -/
structure Stp where
  a : Nat
  b : Nat
  p : Int
  kind : Str
  num : Nat
def stpD (s : Stp) : D := .tup [nD s.a, nD s.b, .int s.p, .str s.kind, nD s.num]
@[simp] theorem isFz_stpD (s : Stp) : isFz (stpD s) = true := by simp [stpD]
@[simp] theorem fz_stpD (s : Stp) : fz (stpD s) = stpD s := fz_same _ (isFz_stpD s)
@[simp] theorem noFz_stpD (s : Stp) : noFz (stpD s) = true := by simp [stpD, noFz, nD]
@[simp] theorem noFzs_stps : ∀ l : List Stp, noFzs (l.map stpD) = true
  | [] => by simp
  | x :: l => by simp [noFzs_stps l]
@[simp] theorem isFzs_stps (l : List Stp) : isFzs (l.map stpD) = true := isFzs_map _ (fun _ => by simp) l
def places (hs : List Int) : List D := (List.range hs.length).map nD
def lnF : List Str := ["offers", "hours", "places", "idle", "taken"]
def lnD (o : Bool) (os : List Of) (hs idle : List Int) (tk : List Int) : D := .ob o "Lines" lnF [osD os, .lst o (hs.map .int), .dk o (kI hs) (places hs), .lst o (idle.map .int), .dk o (kI tk) (tr tk)]
def idleSt (k : Nat) (m : Int) : List Stp := ⟨k, k + 1, 0, "idle", k⟩ :: if 0 < m then [⟨k + 1, k, 0, "less", k⟩] else []
def offSt (hs tk : List Int) (k : Nat) (o : Of) : Stp := if (k : Int) ∈ tk then ⟨hs.idxOf o.2.1, hs.idxOf o.1, o.2.2, "drop", k⟩ else ⟨hs.idxOf o.1, hs.idxOf o.2.1, -o.2.2, "take", k⟩
def stepsL (os : List Of) (hs idle tk : List Int) : List Stp := (idle.zipIdx.flatMap fun p => idleSt p.2 p.1) ++ os.zipIdx.map fun p => offSt hs tk p.2 p.1
theorem getK_pl (h : Int) : ∀ (hs : List Int) (a : Nat), h ∈ hs → getK (kI hs) ((List.range' a hs.length).map nD) (Sum.inl h) = some (nD (a + hs.idxOf h))
  | [], a, hh => nomatch hh
  | x :: hs, a, hh => by
    rw [List.length_cons, List.range'_succ]
    simp only [kI, List.map_cons, getK]
    by_cases q : x = h
    · subst q
      simp [List.idxOf_cons]
    · have ih := getK_pl h hs (a + 1) (by
        rcases List.mem_cons.mp hh with rfl | hh
        · exact absurd rfl q
        · exact hh)
      rw [if_neg (by simpa using q)]
      simp only [kI] at ih
      rw [ih, List.idxOf_cons]
      have : (x == h) = false := by simpa using q
      rw [this]
      simp only [cond_false]
      congr 2; omega
theorem item_pl {o : Bool} {hs : List Int} {h : Int} (hh : h ∈ hs) : dItem (.dk o (kI hs) (places hs)) (.int h) = some (nD (hs.idxOf h)) := by
  show (keyD (.int h)).bind _ = _
  have := getK_pl h hs 0 hh
  rw [← List.range_eq_range', Nat.zero_add] at this
  exact this
@[simp] theorem fld_of {o : Bool} {os : List Of} {hs idle tk : List Int} : dFld "Lines" "offers" (lnD o os hs idle tk) = some (osD os) := rfl
@[simp] theorem fld_hs {o : Bool} {os : List Of} {hs idle tk : List Int} : dFld "Lines" "hours" (lnD o os hs idle tk) = some (.lst o (hs.map .int)) := rfl
@[simp] theorem fld_pl {o : Bool} {os : List Of} {hs idle tk : List Int} : dFld "Lines" "places" (lnD o os hs idle tk) = some (.dk o (kI hs) (places hs)) := rfl
@[simp] theorem fld_id {o : Bool} {os : List Of} {hs idle tk : List Int} : dFld "Lines" "idle" (lnD o os hs idle tk) = some (.lst o (idle.map .int)) := rfl
@[simp] theorem fld_tk {o : Bool} {os : List Of} {hs idle tk : List Int} : dFld "Lines" "taken" (lnD o os hs idle tk) = some (.dk o (kI tk) (tr tk)) := rfl
def stS (sf : D) (f : List Stp) (a b c d x y : Sl) : En := [.ow sf, .ow (.lst true (f.map stpD)), a, b, c, d, x, y]
def bdy_s1 : SF := sSeq (sDrop (vMeth "list" 1 mAppend (vsCons (vOf (eTup (esCons (eFz (eVar 2)) (esCons (eOp dAdd (eVar 2) (eC (.int 1))) (esCons (eC (.int 0)) (esCons (eC (.str "idle")) (esCons (eFz (eVar 2)) (esNil)))))))) (vsNil)))) (sSeq (sIf (tBl (eOp dGt (eVar 3) (eC (.int 0)))) (sSeq (sDrop (vMeth "list" 1 mAppend (vsCons (vOf (eTup (esCons (eOp dAdd (eVar 2) (eC (.int 1))) (esCons (eFz (eVar 2)) (esCons (eC (.int 0)) (esCons (eC (.str "less")) (esCons (eFz (eVar 2)) (esNil)))))))) (vsNil)))) (sNil)) (sNil)) (sNil))
def bdy_s2 : SF := sSeq (sPar 6 7 (vsCons (vOf (eOp dIxF (eUn (dFld "Lines" "places") (eVar 0)) (eOp dItem (eVar 5) (eC (.int 0))))) (vsCons (vOf (eOp dIxF (eUn (dFld "Lines" "places") (eVar 0)) (eOp dItem (eVar 5) (eC (.int 1))))) (vsNil)))) (sSeq (sIf (tBl (eOp dIn (eVar 4) (eUn (dFld "Lines" "taken") (eVar 0)))) (sSeq (sDrop (vMeth "list" 1 mAppend (vsCons (vOf (eTup (esCons (eFz (eVar 7)) (esCons (eFz (eVar 6)) (esCons (eOp dIxF (eVar 5) (eC (.int 2))) (esCons (eC (.str "drop")) (esCons (eFz (eVar 4)) (esNil)))))))) (vsNil)))) (sNil)) (sSeq (sDrop (vMeth "list" 1 mAppend (vsCons (vOf (eTup (esCons (eFz (eVar 6)) (esCons (eFz (eVar 7)) (esCons (eUn dNeg (eOp dItem (eVar 5) (eC (.int 2)))) (esCons (eC (.str "take")) (esCons (eFz (eVar 4)) (esNil)))))))) (vsNil)))) (sNil))) (sNil))
theorem s1_body (sf : D) (k : Nat) (m : Int) (f : List Stp) (c d x y : Sl) (hl : f.length ≤ 1000) : bdy_s1 (stS sf f (.ow (nD k)) (.ow (.int m)) c d x y) = some (.nx, stS sf (f ++ idleSt k m) (.ow (nD k)) (.ow (.int m)) c d x y) := by
  have l1 : f.length < lim := Nat.lt_of_le_of_lt hl (by decide)
  have l2 : f.length + 1 < lim := Nat.lt_of_le_of_lt (Nat.succ_le_succ hl) (by decide)
  by_cases q : 0 < m <;> simp [bdy_s1, stS, vMeth, isTy, eVar, updE, modP, mAppend, l1, l2, q, idleSt, stpD, nD]
theorem s1_loop (sf : D) (c d x y : Sl) : ∀ (l : List Int) (n : Nat) (f : List Stp) (a b : Sl), f.length + 2 * l.length ≤ 1000 → opn a → opn b →
    ∃ a' b', sForGo (bdTup (bdCons (boName 2) (bdCons (boName 3) bdNil))) bdy_s1 ((l.zipIdx n).map fun p => .tup [nD p.2, .int p.1]) (stS sf f a b c d x y) = some (.nx, stS sf (f ++ (l.zipIdx n).flatMap fun p => idleSt p.2 p.1) a' b' c d x y)
  | [], n, f, a, b, _, _, _ => ⟨a, b, by simp [sForGo]⟩
  | m :: l, n, f, a, b, hl, ha, hb => by
    have e1 := s1_body sf n m f c d x y (by simp at hl; omega)
    have hbd : bdTup (bdCons (boName 2) (bdCons (boName 3) bdNil)) (.tup [nD n, .int m]) (stS sf f a b c d x y) = some (stS sf f (.ow (nD n)) (.ow (.int m)) c d x y) := by
      rcases ha with rfl | ⟨_, rfl⟩ <;> rcases hb with rfl | ⟨_, rfl⟩ <;> rfl
    have li : (idleSt n m).length ≤ 2 := by unfold idleSt; split <;> simp
    obtain ⟨a', b', e⟩ := s1_loop sf c d x y l (n + 1) (f ++ idleSt n m) (.ow (nD n)) (.ow (.int m)) (by simp at hl ⊢; omega) (Or.inr ⟨_, rfl⟩) (Or.inr ⟨_, rfl⟩)
    refine ⟨a', b', ?_⟩
    rw [List.zipIdx_cons, List.map_cons, forGo_nx (by simp) hbd e1, e]
    simp
theorem in_tk {o : Bool} {k : Nat} {tk : List Int} : dIn (nD k) (.dk o (kI tk) (tr tk)) = some (.bl (decide ((k : Int) ∈ tk))) := by
  simp [dIn, nD, keyD, memK, kI]
theorem s2_body (o : Bool) (os : List Of) (hs idle tk : List Int) (k : Nat) (of : Of) (f : List Stp) (a b x y : Sl) (hl : f.length ≤ 1000) (h1 : of.1 ∈ hs) (h2 : of.2.1 ∈ hs) (hx : opn x) (hy : opn y) :
    ∃ x' y', opn x' ∧ opn y' ∧ bdy_s2 (stS (lnD o os hs idle tk) f a b (.ow (nD k)) (.ow (oD of)) x y) = some (.nx, stS (lnD o os hs idle tk) (f ++ [offSt hs tk k of]) a b (.ow (nD k)) (.ow (oD of)) x' y') := by
  have l1 : f.length < lim := Nat.lt_of_le_of_lt hl (by decide)
  refine ⟨.ow (nD (hs.idxOf of.1)), .ow (nD (hs.idxOf of.2.1)), Or.inr ⟨_, rfl⟩, Or.inr ⟨_, rfl⟩, ?_⟩
  have p1 := item_pl (o := o) h1
  have p2 := item_pl (o := o) h2
  have op : ∀ z w, open? (stS (lnD o os hs idle tk) f a b z w x y) 6 = true ∧ ∀ v, open? (stS (lnD o os hs idle tk) f a b z w v y) 7 = true := by
    intro z w
    constructor
    · rcases hx with rfl | ⟨_, rfl⟩ <;> rfl
    · intro v
      rcases hy with rfl | ⟨_, rfl⟩ <;> rfl
  have op1 := (op (.ow (nD k)) (.ow (oD of))).1
  have op2 := (op (.ow (nD k)) (.ow (oD of))).2
  have s1 : sPar 6 7 (vsCons (vOf (eOp dIxF (eUn (dFld "Lines" "places") (eVar 0)) (eOp dItem (eVar 5) (eC (.int 0))))) (vsCons (vOf (eOp dIxF (eUn (dFld "Lines" "places") (eVar 0)) (eOp dItem (eVar 5) (eC (.int 1))))) (vsNil))) (stS (lnD o os hs idle tk) f a b (.ow (nD k)) (.ow (oD of)) x y) = some (.nx, stS (lnD o os hs idle tk) f a b (.ow (nD k)) (.ow (oD of)) (.ow (nD (hs.idxOf of.1))) (.ow (nD (hs.idxOf of.2.1)))) := by
    have ev0 : eVar 0 (stS (lnD o os hs idle tk) f a b (.ow (nD k)) (.ow (oD of)) x y) = some (lnD o os hs idle tk) := rfl
    have ev5 : eVar 5 (stS (lnD o os hs idle tk) f a b (.ow (nD k)) (.ow (oD of)) x y) = some (oD of) := rfl
    simp only [sPar, z_vsCons, z_vOf, z_eOp, z_eUn, ev0, ev5, Option.bind_some, fld_pl, z_eC, item_o0, item_o1, z_ixF, p1, p2, isFz_nD, if_true, z_vsNil]
    rw [if_pos ⟨op1, op2 _⟩]; rfl
  unfold bdy_s2
  rw [z_sSeq, s1]
  by_cases q : (k : Int) ∈ tk <;> simp [stS, vMeth, isTy, eVar, updE, modP, mAppend, l1, q, offSt, stpD, in_tk]
theorem s2_loop (o : Bool) (os : List Of) (hs idle tk : List Int) (a b : Sl) : ∀ (l : List Of) (n : Nat) (f : List Stp) (c d x y : Sl), f.length + l.length ≤ 1000 → (∀ of ∈ l, of.1 ∈ hs ∧ of.2.1 ∈ hs) → opn c → opn d → opn x → opn y →
    ∃ c' d' x' y', sForGo (bdTup (bdCons (boName 4) (bdCons (boName 5) bdNil))) bdy_s2 ((l.zipIdx n).map fun p => .tup [nD p.2, oD p.1]) (stS (lnD o os hs idle tk) f a b c d x y) = some (.nx, stS (lnD o os hs idle tk) (f ++ (l.zipIdx n).map fun p => offSt hs tk p.2 p.1) a b c' d' x' y')
  | [], n, f, c, d, x, y, _, _, _, _, _, _ => ⟨c, d, x, y, by simp [sForGo]⟩
  | m :: l, n, f, c, d, x, y, hl, hm, hc, hd, hx, hy => by
    obtain ⟨x1, y1, ox, oy, e1⟩ := s2_body o os hs idle tk n m f a b x y (by simp at hl; omega) (hm m List.mem_cons_self).1 (hm m List.mem_cons_self).2 hx hy
    have hbd : bdTup (bdCons (boName 4) (bdCons (boName 5) bdNil)) (.tup [nD n, oD m]) (stS (lnD o os hs idle tk) f a b c d x y) = some (stS (lnD o os hs idle tk) f a b (.ow (nD n)) (.ow (oD m)) x y) := by
      rcases hc with rfl | ⟨_, rfl⟩ <;> rcases hd with rfl | ⟨_, rfl⟩ <;> rfl
    obtain ⟨c', d', x', y', e⟩ := s2_loop o os hs idle tk a b l (n + 1) (f ++ [offSt hs tk n m]) (.ow (nD n)) (.ow (oD m)) x1 y1 (by simp at hl ⊢; omega) (fun of h => hm of (List.mem_cons_of_mem _ h)) (Or.inr ⟨_, rfl⟩) (Or.inr ⟨_, rfl⟩) ox oy
    refine ⟨c', d', x', y', ?_⟩
    rw [List.zipIdx_cons, List.map_cons, forGo_nx (by simp) hbd e1, e]
    simp
theorem sp_steps {os : List Of} {hs idle tk : List Int} (ho : os.length ≤ 100) (hi : idle.length ≤ 100) (hm : ∀ of ∈ os, of.1 ∈ hs ∧ of.2.1 ∈ hs) :
    m_Lines_steps [lnD false os hs idle tk] = some (.lst true ((stepsL os hs idle tk).map stpD), []) := by
  obtain ⟨a', b', e1⟩ := s1_loop (lnD false os hs idle tk) .no .no .no .no idle 0 [] .no .no (by simp; omega) (Or.inl rfl) (Or.inl rfl)
  have lf : (idle.zipIdx.flatMap fun p => idleSt p.2 p.1).length ≤ 2 * idle.length := by
    have : ∀ (l : List Int) (n : Nat), ((l.zipIdx n).flatMap fun p => idleSt p.2 p.1).length ≤ 2 * l.length := by
      intro l
      induction l with
      | nil => intro n; simp
      | cons x l ih =>
        intro n
        have := ih (n + 1)
        have li : (idleSt n x).length ≤ 2 := by unfold idleSt; split <;> simp
        rw [List.zipIdx_cons, List.flatMap_cons, List.length_append, List.length_cons]
        simp only at *
        omega
    exact this idle 0
  obtain ⟨c', d', x', y', e2⟩ := s2_loop false os hs idle tk a' b' os 0 (idle.zipIdx.flatMap fun p => idleSt p.2 p.1) .no .no .no .no (by omega) hm (Or.inl rfl) (Or.inl rfl) (Or.inl rfl) (Or.inl rfl)
  have n1 : ((numbered (idle.map D.int)).map pairT) = idle.zipIdx.map fun p => .tup [nD p.2, .int p.1] := num_mapN D.int idle
  have n2 : ((numbered (os.map oD)).map pairT) = os.zipIdx.map fun p => .tup [nD p.2, oD p.1] := num_mapN oD os
  have ff : isFz (.lst false (idle.map D.int)) = true := by simp [isFz]
  rw [List.nil_append] at e1
  have e1' : sForGo (bdTup (bdCons (boName 2) (bdCons (boName 3) bdNil))) bdy_s1 (idle.zipIdx.map fun p => .tup [nD p.2, .int p.1]) [.ow (lnD false os hs idle tk), .ow (.lst true []), .no, .no, .no, .no, .no, .no] = some (.nx, stS (lnD false os hs idle tk) (idle.zipIdx.flatMap fun p => idleSt p.2 p.1) a' b' .no .no .no .no) := e1
  have ev0 : ∀ f x y z w u v, eVar 0 (stS (lnD false os hs idle tk) f x y z w u v) = some (lnD false os hs idle tk) := fun _ _ _ _ _ _ _ => rfl
  rw [m_Lines_steps_eq]
  show fin [] (sSeq _ (sSeq (sFor _ _ bdy_s1) (sSeq (sFor _ _ bdy_s2) _)) _) = _
  simp [eVar, open?, ff, n1, n2, e1', - List.map_map]
  simp [stS, eVar, n2, - List.map_map]
  simp only [stS] at e2
  rw [e2]
  simp [vMove, stepsL]
end K74

set_option maxRecDepth 100000
set_option linter.all false
set_option Elab.async false
namespace K74
open PySem Z
/-! the least prices from the first hour -/
abbrev Fo := Nat → Option Int
abbrev Wy := Nat → Option Stp
def owD : Option Stp → D
  | some s => stpD s
  | none => .non
def foD (n : Nat) (f : Fo) : List D := (List.range n).map fun v => oiD (f v)
def wyD (n : Nat) (w : Wy) : List D := (List.range n).map fun v => owD (w v)
def up {α : Type} (f : Nat → Option α) (j : Nat) (x : α) : Nat → Option α := fun v => if v = j then some x else f v
@[simp] theorem foD_len (n : Nat) (f : Fo) : (foD n f).length = n := by simp [foD]
@[simp] theorem wyD_len (n : Nat) (f : Wy) : (wyD n f).length = n := by simp [wyD]
theorem foD_at {n v : Nat} {f : Fo} (h : v < n) : L2.atI (foD n f) (v : Int) = some (oiD (f v)) := L2.atI_nat (by simp [foD, h])
theorem wyD_at {n v : Nat} {f : Wy} (h : v < n) : L2.atI (wyD n f) (v : Int) = some (owD (f v)) := L2.atI_nat (by simp [wyD, h])
theorem foD_set {n j : Nat} {f : Fo} {x : Int} : (foD n f).set j (.int x) = foD n (up f j x) := by
  apply List.ext_getElem
  · simp
  · intro i h1 h2
    rw [List.getElem_set]
    simp only [foD, List.getElem_map, List.getElem_range, up]
    by_cases q : j = i
    · subst q; simp [oiD]
    · rw [if_neg q, if_neg (Ne.symm q)]
theorem wyD_set {n j : Nat} {f : Wy} {x : Stp} : (wyD n f).set j (stpD x) = wyD n (up f j x) := by
  apply List.ext_getElem
  · simp
  · intro i h1 h2
    rw [List.getElem_set]
    simp only [wyD, List.getElem_map, List.getElem_range, up]
    by_cases q : j = i
    · subst q; simp [owD]
    · rw [if_neg q, if_neg (Ne.symm q)]
@[simp] theorem isFz_oi (o : Option Int) : isFz (oiD o) = true := by cases o <;> simp [oiD]
@[simp] theorem isFz_owD (o : Option Stp) : isFz (owD o) = true := by cases o <;> simp [owD]
@[simp] theorem isFzs_fo (n : Nat) (f : Fo) : isFzs (foD n f) = true := isFzs_map _ (fun _ => by simp) _
@[simp] theorem isFzs_wy (n : Nat) (f : Wy) : isFzs (wyD n f) = true := isFzs_map _ (fun _ => by simp) _
@[simp] theorem isFzs_tr (l : List Int) : isFzs (tr l) = true := isFzs_map _ (fun _ => by simp) _
@[simp] theorem isFzs_pl (l : List Int) : isFzs (places l) = true := isFzs_map _ (fun _ => by simp) _
theorem isFz_ln (os : List Of) (hs idle tk : List Int) : isFz (lnD false os hs idle tk) = true := by
  simp [lnD, isFz]
theorem ixN_nat {n j : Nat} (h : j < n) : L2.ixN n (j : Int) = some j := by unfold L2.ixN; rw [if_pos (by omega), if_pos (by omega)]; simp
def better (s : Stp) (f : Fo) : Bool := match f s.a with
  | none => false
  | some v => match f s.b with
    | none => true
    | some u => decide (v + s.p < u)
def newv (s : Stp) (f : Fo) : Int := (f s.a).getD 0 + s.p
def dS (sf : D) (n : Nat) (f : Fo) (w : Wy) (i : Bool) (a b c d : Sl) : En := [.ow sf, .ow (.lst true (foD n f)), .ow (.lst true (wyD n w)), .ow (.bl i), a, b, c, d]
def bdy_d : SF := (sSeq (sAsg (vOf (eSl (eVar 4) (eNoP) (eP (eC (.int 3))))) (bdTup (bdCons (boName 5) (bdCons (boName 6) (bdCons (boName 7) (bdNil)))))) (sSeq (sIf (tAndB (tBl (eOp dNotNg (eOp dItem (eVar 1) (eVar 5)) (eC .non))) (tOrB (tBl (eOp dIsNg (eOp dItem (eVar 1) (eVar 6)) (eC .non))) (tBl (eOp dLt (eOp dAdd (eOp dItem (eVar 1) (eVar 5)) (eVar 7)) (eOp dItem (eVar 1) (eVar 6)))))) (sSeq (sAsg (vOf (eTup (esCons (eOp dAdd (eOp dItem (eVar 1) (eVar 5)) (eVar 7)) (esCons (eFz (eVar 4)) (esNil))))) (bdTup (bdCons (bSub (plName 1) (eVar 6) mSetL) (bdCons (bSub (plName 2) (eVar 6) mSetL) (bdNil))))) (sSeq (sSet 3 (vOf (eC (.bl true)))) (sNil))) (sNil)) (sNil)))
theorem d_set (sf : D) (n : Nat) (f : Fo) (w : Wy) (i : Bool) (s : Stp) (hb : s.b < n) (x : Int) :
    bdTup (bdCons (bSub (plName 1) (eVar 6) mSetL) (bdCons (bSub (plName 2) (eVar 6) mSetL) (bdNil))) (.tup [.int x, stpD s]) (dS sf n f w i (.ow (stpD s)) (.ow (nD s.a)) (.ow (nD s.b)) (.ow (.int s.p))) =
      some (dS sf n (up f s.b x) (up w s.b s) i (.ow (stpD s)) (.ow (nD s.a)) (.ow (nD s.b)) (.ow (.int s.p))) := by
  have ix := ixN_nat hb
  simp [dS, bSub, plName, eVar, getE, getP, updE, modP, mSetL, nD, ix, foD_set, wyD_set]
theorem d_body (sf : D) (n : Nat) (f : Fo) (w : Wy) (i : Bool) (s : Stp) (b c d : Sl) (ha : s.a < n) (hb : s.b < n) (ob : opn b) (oc : opn c) (od : opn d) :
    bdy_d (dS sf n f w i (.ow (stpD s)) b c d) = some (.nx, if better s f = true then dS sf n (up f s.b (newv s f)) (up w s.b s) true (.ow (stpD s)) (.ow (nD s.a)) (.ow (nD s.b)) (.ow (.int s.p)) else dS sf n f w i (.ow (stpD s)) (.ow (nD s.a)) (.ow (nD s.b)) (.ow (.int s.p))) := by
  have sl : dSl (stpD s) none (some 3) = some (.tup [nD s.a, nD s.b, .int s.p]) := by
    simp only [dSl, stpD]
    rw [if_pos (by simp)]; rfl
  have s1 : sAsg (vOf (eSl (eVar 4) (eNoP) (eP (eC (.int 3))))) (bdTup (bdCons (boName 5) (bdCons (boName 6) (bdCons (boName 7) (bdNil))))) (dS sf n f w i (.ow (stpD s)) b c d) = some (.nx, dS sf n f w i (.ow (stpD s)) (.ow (nD s.a)) (.ow (nD s.b)) (.ow (.int s.p))) := by
    have ev : eVar 4 (dS sf n f w i (.ow (stpD s)) b c d) = some (stpD s) := rfl
    simp only [z_sAsg, z_vOf, z_eSl, ev, Option.bind_some, z_eNoP, z_eP, z_eC, sl, z_bdTup, z_bdCons, z_boName]
    rcases ob with rfl | ⟨_, rfl⟩ <;> rcases oc with rfl | ⟨_, rfl⟩ <;> rcases od with rfl | ⟨_, rfl⟩ <;> rfl
  have ia : dItem (.lst true (foD n f)) (nD s.a) = some (oiD (f s.a)) := foD_at ha
  have ib : dItem (.lst true (foD n f)) (nD s.b) = some (oiD (f s.b)) := foD_at hb
  have st := d_set sf n f w i s hb (newv s f)
  unfold bdy_d
  rw [z_sSeq, s1, Option.bind_some]
  have e1 : eVar 1 (dS sf n f w i (.ow (stpD s)) (.ow (nD s.a)) (.ow (nD s.b)) (.ow (.int s.p))) = some (.lst true (foD n f)) := rfl
  have e4 : eVar 4 (dS sf n f w i (.ow (stpD s)) (.ow (nD s.a)) (.ow (nD s.b)) (.ow (.int s.p))) = some (stpD s) := rfl
  have e5 : eVar 5 (dS sf n f w i (.ow (stpD s)) (.ow (nD s.a)) (.ow (nD s.b)) (.ow (.int s.p))) = some (nD s.a) := rfl
  have e6 : eVar 6 (dS sf n f w i (.ow (stpD s)) (.ow (nD s.a)) (.ow (nD s.b)) (.ow (.int s.p))) = some (nD s.b) := rfl
  have e7 : eVar 7 (dS sf n f w i (.ow (stpD s)) (.ow (nD s.a)) (.ow (nD s.b)) (.ow (.int s.p))) = some (.int s.p) := rfl
  have fin3 : ∀ g v, sSet 3 (vOf (eC (.bl true))) (dS sf n g v i (.ow (stpD s)) (.ow (nD s.a)) (.ow (nD s.b)) (.ow (.int s.p))) = some (.nx, dS sf n g v true (.ow (stpD s)) (.ow (nD s.a)) (.ow (nD s.b)) (.ow (.int s.p))) := fun _ _ => rfl
  cases qa : f s.a with
  | none =>
    rw [qa] at ia
    simp [e1, e5, ia, oiD, dNotNg, noGl, dNotN, isNon, better, qa]
  | some v =>
    rw [qa] at ia
    have nv : newv s f = v + s.p := by simp [newv, qa]
    rw [nv] at st
    cases qb : f s.b with
    | none =>
      rw [qb] at ib
      simp [e1, e4, e5, e6, e7, ia, ib, oiD, dNotNg, noGl, dNotN, dIsNg, dIsN, isNon, better, qa, qb, nv, - z_bdTup, - z_sSet, st, fin3]
    | some u =>
      rw [qb] at ib
      by_cases lt : v + s.p < u <;>
      simp [e1, e4, e5, e6, e7, ia, ib, oiD, dNotNg, noGl, dNotN, dIsNg, dIsN, isNon, better, qa, qb, nv, lt, - z_bdTup, - z_sSet, st, fin3]
abbrev Rx := Fo × Wy × Bool
def relax (r : Rx) (s : Stp) : Rx := if better s r.1 = true then (up r.1 s.b (newv s r.1), up r.2.1 s.b s, true) else r
theorem d_loop (sf : D) (n : Nat) : ∀ (S : List Stp) (r : Rx) (a b c d : Sl), (∀ s ∈ S, s.a < n ∧ s.b < n) → opn a → opn b → opn c → opn d →
    ∃ a' b' c' d', opn a' ∧ opn b' ∧ opn c' ∧ opn d' ∧ sForGo (boName 4) bdy_d (S.map stpD) (dS sf n r.1 r.2.1 r.2.2 a b c d) = some (.nx, dS sf n (S.foldl relax r).1 (S.foldl relax r).2.1 (S.foldl relax r).2.2 a' b' c' d')
  | [], r, a, b, c, d, _, oa, ob, oc, od => ⟨a, b, c, d, oa, ob, oc, od, by simp [sForGo]⟩
  | s :: S, r, a, b, c, d, h, oa, ob, oc, od => by
    have hs := h s List.mem_cons_self
    have e1 := d_body sf n r.1 r.2.1 r.2.2 s b c d hs.1 hs.2 ob oc od
    have hbd : boName 4 (stpD s) (dS sf n r.1 r.2.1 r.2.2 a b c d) = some (dS sf n r.1 r.2.1 r.2.2 (.ow (stpD s)) b c d) := by
      rcases oa with rfl | ⟨_, rfl⟩ <;> rfl
    have e1' : bdy_d (dS sf n r.1 r.2.1 r.2.2 (.ow (stpD s)) b c d) = some (.nx, dS sf n (relax r s).1 (relax r s).2.1 (relax r s).2.2 (.ow (stpD s)) (.ow (nD s.a)) (.ow (nD s.b)) (.ow (.int s.p))) := by
      rw [e1, relax]; split <;> rfl
    obtain ⟨a', b', c', d', oa', ob', oc', od', e⟩ := d_loop sf n S (relax r s) (.ow (stpD s)) (.ow (nD s.a)) (.ow (nD s.b)) (.ow (.int s.p)) (fun q hq => h q (List.mem_cons_of_mem _ hq)) (Or.inr ⟨_, rfl⟩) (Or.inr ⟨_, rfl⟩) (Or.inr ⟨_, rfl⟩) (Or.inr ⟨_, rfl⟩)
    exact ⟨a', b', c', d', oa', ob', oc', od', by rw [List.map_cons, forGo_nx (by simp) hbd e1', e]; rfl⟩
def bdy_w : SF := sSeq (sSet 3 (vOf (eC (.bl false)))) (sSeq (sFor (iOf (eItems (eMeth "Lines" "steps" m_Lines_steps (eVar 0) esNil))) (boName 4) bdy_d) (sNil))
def cnd_w : En → Option (Bool × En) := tOf (tBl (eVar 3))
theorem w_body {os : List Of} {hs idle tk : List Int} (ho : os.length ≤ 100) (hi : idle.length ≤ 100) (hm : ∀ of ∈ os, of.1 ∈ hs ∧ of.2.1 ∈ hs) (n : Nat) (f : Fo) (w : Wy) (i : Bool) (a b c d : Sl)
    (hS : ∀ s ∈ stepsL os hs idle tk, s.a < n ∧ s.b < n) (oa : opn a) (ob : opn b) (oc : opn c) (od : opn d) :
    ∃ a' b' c' d', opn a' ∧ opn b' ∧ opn c' ∧ opn d' ∧ bdy_w (dS (lnD false os hs idle tk) n f w i a b c d) =
      some (.nx, dS (lnD false os hs idle tk) n ((stepsL os hs idle tk).foldl relax (f, w, false)).1 ((stepsL os hs idle tk).foldl relax (f, w, false)).2.1 ((stepsL os hs idle tk).foldl relax (f, w, false)).2.2 a' b' c' d') := by
  obtain ⟨a', b', c', d', oa', ob', oc', od', e⟩ := d_loop (lnD false os hs idle tk) n (stepsL os hs idle tk) (f, w, false) a b c d hS oa ob oc od
  refine ⟨a', b', c', d', oa', ob', oc', od', ?_⟩
  have s1 : sSet 3 (vOf (eC (.bl false))) (dS (lnD false os hs idle tk) n f w i a b c d) = some (.nx, dS (lnD false os hs idle tk) n f w false a b c d) := rfl
  have me : eMeth "Lines" "steps" m_Lines_steps (eVar 0) esNil (dS (lnD false os hs idle tk) n f w false a b c d) = some (.lst true ((stepsL os hs idle tk).map stpD)) := by
    have ev : eVar 0 (dS (lnD false os hs idle tk) n f w false a b c d) = some (lnD false os hs idle tk) := rfl
    have st := sp_steps (tk := tk) ho hi hm
    rw [eMeth, ev, Option.bind_some]
    show (if _ then _ else _) = _
    rw [if_pos ⟨rfl, by decide⟩]
    show (some []).bind _ = _
    rw [Option.bind_some]
    show (m_Lines_steps (fzs [lnD false os hs idle tk])).bind _ = _
    simp only [fzs, fz_same _ (isFz_ln os hs idle tk), st, Option.bind_some]
    simp
  unfold bdy_w
  rw [z_sSeq, s1, Option.bind_some]
  simp [me, e]
end K74

set_option maxRecDepth 100000
set_option linter.all false
set_option Elab.async false
namespace K74
open PySem Z
/-! going until nothing is less any more comes to an end -/
def sumG {α : Type} (n : Nat) (g : Nat → Option α → Nat) (f : Nat → Option α) : Nat := ((List.range n).map fun v => g v (f v)).sum
theorem sumG_succ {α : Type} (n : Nat) (g : Nat → Option α → Nat) (f : Nat → Option α) : sumG (n + 1) g f = sumG n g f + g n (f n) := by
  simp [sumG, List.range_succ]
theorem sumG_out {α : Type} (g : Nat → Option α → Nat) (f : Nat → Option α) (j : Nat) (x : α) : ∀ n, n ≤ j → sumG n g (up f j x) = sumG n g f
  | 0, _ => rfl
  | n + 1, h => by
    rw [sumG_succ, sumG_succ, sumG_out g f j x n (by omega)]
    have : up f j x n = f n := by unfold up; rw [if_neg (by omega)]
    rw [this]
theorem sumG_up {α : Type} (g : Nat → Option α → Nat) (f : Nat → Option α) (j : Nat) (x : α) : ∀ n, j < n → sumG n g (up f j x) + g j (f j) = sumG n g f + g j (some x)
  | 0, h => by omega
  | n + 1, h => by
    rw [sumG_succ, sumG_succ]
    by_cases q : j = n
    · subst q
      rw [sumG_out g f j x j (Nat.le_refl _)]
      have : up f j x j = some x := by simp [up]
      rw [this]; omega
    · have ih := sumG_up g f j x n (by omega)
      have : up f j x n = f n := by unfold up; rw [if_neg (by omega)]
      rw [this]; omega
theorem sumG_le {α : Type} (g : Nat → Option α → Nat) (f : Nat → Option α) (c : Nat) (h : ∀ v, g v (f v) ≤ c) : ∀ n, sumG n g f ≤ c * n
  | 0 => by simp [sumG]
  | n + 1 => by
    rw [sumG_succ, Nat.mul_succ]
    have := sumG_le g f c h n
    have := h n
    omega
def one1 (_ : Nat) (o : Option Int) : Nat := if o.isSome = true then 1 else 0
def cntS (n : Nat) (f : Fo) : Nat := sumG n one1 f
def cost (psi : Nat → Int) (v : Nat) (o : Option Int) : Nat := match o with
  | none => 64
  | some x => (x - psi v).toNat
def mu (n : Nat) (psi : Nat → Int) (f : Fo) : Nat := sumG n (cost psi) f
structure Inv (n : Nat) (psi : Nat → Int) (S : List Stp) (f : Fo) (w : Wy) : Prop where
  lo : ∀ v x, v < n → f v = some x → psi v ≤ x
  hi : ∀ v x, v < n → f v = some x → x ≤ cntS n f
  z : f 0 = some 0
  way : ∀ v x, v < n → v ≠ 0 → f v = some x → ∃ s ∈ S, w v = some s ∧ s.b = v ∧ ∃ y, f s.a = some y ∧ y + s.p ≤ x
structure Fine (n : Nat) (psi : Nat → Int) (S : List Stp) : Prop where
  nn : n ≤ 16
  n0 : 0 < n
  lo : ∀ v, -16 ≤ psi v
  z : psi 0 = 0
  st : ∀ s ∈ S, s.a < n ∧ s.b < n ∧ s.p ≤ 1 ∧ psi s.b ≤ psi s.a + s.p
theorem cntS_le (n : Nat) (f : Fo) : cntS n f ≤ n := by
  have := sumG_le one1 f 1 (fun v => by unfold one1; split <;> omega) n
  unfold cntS; omega
theorem relax_inv {n : Nat} {psi : Nat → Int} {S : List Stp} (F : Fine n psi S) {r : Rx} {s : Stp} (hs : s ∈ S) (I : Inv n psi S r.1 r.2.1) :
    Inv n psi S (relax r s).1 (relax r s).2.1 ∧ (better s r.1 = true → mu n psi (relax r s).1 < mu n psi r.1) := by
  obtain ⟨f, w, b⟩ := r
  replace I : Inv n psi S f w := I
  obtain ⟨ha, hb, hp, hq⟩ := F.st s hs
  unfold relax
  by_cases q : better s f = true
  case neg =>
    rw [if_neg q]
    exact ⟨I, fun h => absurd h q⟩
  rw [if_pos q]
  show Inv n psi S (up f s.b (newv s f)) (up w s.b s) ∧ (_ → mu n psi (up f s.b (newv s f)) < mu n psi f)
  unfold better at q
  cases qa : f s.a with
  | none => rw [qa] at q; cases q
  | some y =>
    rw [qa] at q
    have nv : newv s f = y + s.p := by simp [newv, qa]
    rw [nv]
    simp only at q
    have lo := I.lo s.a y ha qa
    have hi := I.hi s.a y ha qa
    have cn := cntS_le n f
    have ne : s.a ≠ s.b := by
      intro e
      rw [← e, qa] at q
      simp at q
      have := e ▸ hq
      rw [e] at hq
      omega
    have upa : up f s.b (y + s.p) s.a = some y := by unfold up; rw [if_neg ne]; exact qa
    have upb : up f s.b (y + s.p) s.b = some (y + s.p) := by simp [up]
    have b0 : s.b ≠ 0 := by
      intro e
      rw [e, I.z] at q
      have := F.z
      rw [e] at hq
      simp at q
      omega
    -- the counts
    have c1 := sumG_up one1 f s.b (y + s.p) n hb
    have c2 := sumG_up (cost psi) f s.b (y + s.p) n hb
    have o1 : one1 s.b (some (y + s.p)) = 1 := rfl
    have k1 : cost psi s.b (some (y + s.p)) = (y + s.p - psi s.b).toNat := rfl
    have cge : cntS n f ≤ cntS n (up f s.b (y + s.p)) ∧ (f s.b = none → cntS n (up f s.b (y + s.p)) = cntS n f + 1) := by
      unfold cntS
      constructor
      · have : one1 s.b (f s.b) ≤ 1 := by unfold one1; split <;> omega
        omega
      · intro e
        rw [e] at c1
        have : one1 s.b none = 0 := rfl
        omega
    have plo := F.lo s.b
    have nn := F.nn
    refine ⟨⟨?_, ?_, ?_, ?_⟩, fun _ => ?_⟩
    · intro v x hv hx
      by_cases e : v = s.b
      · subst e; rw [upb] at hx; cases hx; omega
      · have : up f s.b (y + s.p) v = f v := by unfold up; rw [if_neg e]
        rw [this] at hx
        exact I.lo v x hv hx
    · intro v x hv hx
      by_cases e : v = s.b
      · subst e; rw [upb] at hx; cases hx
        cases qb : f s.b with
        | none => have := cge.2 qb; omega
        | some u =>
          rw [qb] at q
          simp at q
          have := I.hi s.b u hb qb
          have := cge.1
          omega
      · have : up f s.b (y + s.p) v = f v := by unfold up; rw [if_neg e]
        rw [this] at hx
        have := I.hi v x hv hx
        have := cge.1
        omega
    · have : up f s.b (y + s.p) 0 = f 0 := by unfold up; rw [if_neg (Ne.symm b0)]
      rw [this]; exact I.z
    · intro v x hv h0 hx
      by_cases e : v = s.b
      · subst e; rw [upb] at hx; cases hx
        exact ⟨s, hs, by simp [up], rfl, y, upa, Int.le_refl _⟩
      · have : up f s.b (y + s.p) v = f v := by unfold up; rw [if_neg e]
        rw [this] at hx
        obtain ⟨s', m, ws, sb, z, fz, le⟩ := I.way v x hv h0 hx
        refine ⟨s', m, by unfold up; rw [if_neg e]; exact ws, sb, ?_⟩
        by_cases e2 : s'.a = s.b
        · rw [e2] at fz ⊢
          rw [fz] at q
          simp at q
          exact ⟨y + s.p, upb, by omega⟩
        · exact ⟨z, by unfold up; rw [if_neg e2]; exact fz, le⟩
    · unfold mu
      cases qb : f s.b with
      | none =>
        rw [qb] at c2
        have : cost psi s.b none = 64 := rfl
        omega
      | some u =>
        rw [qb] at c2 q
        simp at q
        have : cost psi s.b (some u) = (u - psi s.b).toNat := rfl
        have := I.lo s.b u hb qb
        omega
theorem relax_flag (S : List Stp) : ∀ r : Rx, r.2.2 = true → (S.foldl relax r).2.2 = true := by
  induction S with
  | nil => intro r h; exact h
  | cons s S ih =>
    intro r h
    rw [List.foldl_cons]
    apply ih
    unfold relax
    split
    · rfl
    · exact h
theorem pass_inv {n : Nat} {psi : Nat → Int} {S : List Stp} (F : Fine n psi S) : ∀ (T : List Stp) (r : Rx), (∀ s ∈ T, s ∈ S) → Inv n psi S r.1 r.2.1 →
    Inv n psi S (T.foldl relax r).1 (T.foldl relax r).2.1 ∧ mu n psi (T.foldl relax r).1 ≤ mu n psi r.1 ∧
    (r.2.2 = false → (T.foldl relax r).2.2 = true → mu n psi (T.foldl relax r).1 < mu n psi r.1) ∧
    ((T.foldl relax r).2.2 = false → (T.foldl relax r) = r ∧ ∀ s ∈ T, better s r.1 = false)
  | [], r, _, I => ⟨I, Nat.le_refl _, fun h h2 => (by rw [List.foldl_nil, h] at h2; cases h2), fun _ => ⟨rfl, fun s hs => nomatch hs⟩⟩
  | s :: T, r, hT, I => by
    obtain ⟨I1, m1⟩ := relax_inv F (hT s List.mem_cons_self) I
    obtain ⟨I2, m2, m3, m4⟩ := pass_inv F T (relax r s) (fun q hq => hT q (List.mem_cons_of_mem _ hq)) I1
    rw [List.foldl_cons]
    by_cases q : better s r.1 = true
    · have m1 := m1 q
      have fl : (relax r s).2.2 = true := by unfold relax; rw [if_pos q]
      refine ⟨I2, by omega, fun _ _ => by omega, ?_⟩
      intro h
      rw [relax_flag T _ fl] at h; cases h
    · have e : relax r s = r := by unfold relax; rw [if_neg q]
      rw [e] at I2 m2 m3 m4 ⊢
      refine ⟨I2, m2, m3, ?_⟩
      intro h
      obtain ⟨h1, h2⟩ := m4 h
      refine ⟨h1, ?_⟩
      intro t ht
      rcases List.mem_cons.mp ht with rfl | ht
      · simpa using q
      · exact h2 t ht
theorem w_loop {os : List Of} {hs idle tk : List Int} (ho : os.length ≤ 100) (hi : idle.length ≤ 100) (hm : ∀ of ∈ os, of.1 ∈ hs ∧ of.2.1 ∈ hs) {n : Nat} {psi : Nat → Int} (F : Fine n psi (stepsL os hs idle tk)) :
    ∀ (m N : Nat) (f : Fo) (w : Wy) (a b c d : Sl), mu n psi f < m → m < N → Inv n psi (stepsL os hs idle tk) f w → opn a → opn b → opn c → opn d →
    ∃ f' w' a' b' c' d', Inv n psi (stepsL os hs idle tk) f' w' ∧ (∀ s ∈ stepsL os hs idle tk, better s f' = false) ∧
      sWhile cnd_w bdy_w N (dS (lnD false os hs idle tk) n f w true a b c d) = some (.nx, dS (lnD false os hs idle tk) n f' w' false a' b' c' d')
  | 0, N, f, w, a, b, c, d, h, _, _, _, _, _, _ => by omega
  | m + 1, 0, f, w, a, b, c, d, _, h, _, _, _, _, _ => by omega
  | m + 1, N + 1, f, w, a, b, c, d, h1, h2, I, oa, ob, oc, od => by
    obtain ⟨a1, b1, c1, d1, oa1, ob1, oc1, od1, e⟩ := w_body (tk := tk) ho hi hm n f w true a b c d (fun s hs => ⟨(F.st s hs).1, (F.st s hs).2.1⟩) oa ob oc od
    obtain ⟨I1, p1, p2, p3⟩ := pass_inv F (stepsL os hs idle tk) (f, w, false) (fun _ h => h) I
    have hc : cnd_w (dS (lnD false os hs idle tk) n f w true a b c d) = some (true, dS (lnD false os hs idle tk) n f w true a b c d) := rfl
    cases q : ((stepsL os hs idle tk).foldl relax (f, w, false)).2.2 with
    | true =>
      have p2 := p2 rfl q
      rw [q] at e
      obtain ⟨f', w', a', b', c', d', I', sat, e'⟩ := w_loop ho hi hm F m N _ _ a1 b1 c1 d1 (by simp only at p2; omega) (by omega) I1 oa1 ob1 oc1 od1
      exact ⟨f', w', a', b', c', d', I', sat, by rw [while_nx hc e, e']⟩
    | false =>
      obtain ⟨h3, h4⟩ := p3 q
      rw [h3] at e
      refine ⟨f, w, a1, b1, c1, d1, I, h4, ?_⟩
      rw [while_nx hc e]
      obtain ⟨N, rfl⟩ : ∃ M, N = M + 1 := ⟨N - 1, by omega⟩
      exact while_end rfl
theorem sp_dist {os : List Of} {hs idle tk : List Int} (ho : os.length ≤ 100) (hi : idle.length ≤ 100) (hm : ∀ of ∈ os, of.1 ∈ hs ∧ of.2.1 ∈ hs) {psi : Nat → Int} (F : Fine hs.length psi (stepsL os hs idle tk)) :
    ∃ f w, Inv hs.length psi (stepsL os hs idle tk) f w ∧ (∀ s ∈ stepsL os hs idle tk, better s f = false) ∧
      m_Lines_distances [lnD false os hs idle tk] = some (.tup [.lst true (foD hs.length f), .lst true (wyD hs.length w)], []) := by
  have n0 := F.n0
  have nn := F.nn
  have I0 : Inv hs.length psi (stepsL os hs idle tk) (up (fun _ => none) 0 0) (fun _ => none) := by
    have g : ∀ v x, (up (fun _ => none) 0 0 : Fo) v = some x → v = 0 ∧ x = 0 := by
      intro v x h
      unfold up at h
      split at h
      · cases h; exact ⟨by assumption, rfl⟩
      · cases h
    refine ⟨?_, ?_, rfl, ?_⟩
    · intro v x _ h
      obtain ⟨rfl, rfl⟩ := g v x h
      rw [F.z]; omega
    · intro v x _ h
      obtain ⟨rfl, rfl⟩ := g v x h
      omega
    · intro v x _ h0 h
      exact absurd (g v x h).1 h0
  have m0 : mu hs.length psi (up (fun _ => none) 0 0) < 2000 := by
    have := sumG_le (cost psi) (up (fun _ => none) 0 0) 64 (fun v => by
      unfold up
      split
      · rename_i h; subst h
        show (0 - psi 0).toNat ≤ 64
        rw [F.z]; decide
      · exact Nat.le_refl _) hs.length
    unfold mu
    omega
  obtain ⟨f, w, a', b', c', d', I, sat, e⟩ := w_loop ho hi hm F 2000 1000000 _ _ .no .no .no .no m0 (by omega) I0 (Or.inl rfl) (Or.inl rfl) (Or.inl rfl) (Or.inl rfl)
  refine ⟨f, w, I, sat, ?_⟩
  have l1 : hs.length ≤ lim := le_lim (by omega)
  have rp : (List.replicate hs.length [D.non]).flatten = foD hs.length fun _ => none := by
    simp [foD, oiD, List.map_const']
  have dm : dMul (.lst true [.non]) (.int (hs.length : Int)) = some (.lst true (foD hs.length fun _ => none)) := by
    show (if _ then _ else _) = _
    rw [if_pos ⟨by omega, by omega, by simpa using l1, by simp⟩, Int.toNat_natCast, rp]
  have ew : foD hs.length (fun _ => none) = wyD hs.length fun _ => none := rfl
  have ev0 : ∀ x y z a b c d, eVar 0 [.ow (lnD false os hs idle tk), x, y, z, a, b, c, d] = some (lnD false os hs idle tk) := fun _ _ _ _ _ _ _ => rfl
  have s1 : ∀ E, sPar 1 2 (vsCons (vOf (eOp dMul (eLst (esCons (eC .non) (esNil))) (eBi bLen (esCons (eUn (dFld "Lines" "hours") (eVar 0)) (esNil))))) (vsCons (vOf (eOp dMul (eLst (esCons (eC .non) (esNil))) (eBi bLen (esCons (eUn (dFld "Lines" "hours") (eVar 0)) (esNil))))) (vsNil))) [.ow (lnD false os hs idle tk), .no, .no, E, .no, .no, .no, .no] = some (.nx, [.ow (lnD false os hs idle tk), .ow (.lst true (foD hs.length fun _ => none)), .ow (.lst true (wyD hs.length fun _ => none)), E, .no, .no, .no, .no]) := by
    intro E
    simp [sPar, ev0, dm, open?, ← ew]
  have s2 : ∀ E, sAsg (vOf (eC (.int 0))) (bSub (plName 1) (eC (.int 0)) mSetL) [.ow (lnD false os hs idle tk), .ow (.lst true (foD hs.length fun _ => none)), .ow (.lst true (wyD hs.length fun _ => none)), E, .no, .no, .no, .no] = some (.nx, [.ow (lnD false os hs idle tk), .ow (.lst true (foD hs.length (up (fun _ => none) 0 0))), .ow (.lst true (wyD hs.length fun _ => none)), E, .no, .no, .no, .no]) := by
    intro E
    have ix := ixN_nat n0
    have fs := foD_set (n := hs.length) (j := 0) (f := fun _ => none) (x := 0)
    simp at ix
    simp [bSub, plName, getE, getP, updE, modP, mSetL, ix, fs]
  rw [m_Lines_distances_eq]
  show fin [] (sSeq (sPar 1 2 _) (sSeq (sAsg _ _) (sSeq (sSet 3 _) (sSeq (sWhile cnd_w bdy_w 1000000) _))) _) = _
  have e' : sWhile cnd_w bdy_w 1000000 [.ow (lnD false os hs idle tk), .ow (.lst true (foD hs.length (up (fun _ => none) 0 0))), .ow (.lst true (wyD hs.length fun _ => none)), .ow (.bl true), .no, .no, .no, .no] = some (.nx, dS (lnD false os hs idle tk) hs.length f w false a' b' c' d') := e
  rw [z_sSeq, s1, Option.bind_some]
  simp only []
  rw [z_sSeq, s2, Option.bind_some]
  simp [open?, e']
  simp [dS, vMove]
end K74

set_option maxRecDepth 100000
set_option linter.all false
set_option Elab.async false
namespace K74
open PySem Z
/-! one line more, led along what is least -/
def lS (os : List Of) (hs idle tk : List Int) (n : Nat) (w : Wy) (v : Nat) (a b c d e : Sl) : En := [.ow (lnD true os hs idle tk), .ow (nD v), .ow (.lst true (wyD n w)), a, b, c, d, e]
def bdy_l : SF := (sSeq (sAsg (vOf (eOp dIxF (eVar 2) (eVar 1))) (bdTup (bdCons (boName 3) (bdCons (boName 4) (bdCons (boName 5) (bdCons (boName 6) (bdCons (boName 7) (bdNil)))))))) (sSeq (sIf (tBl (eOp dEq (eVar 6) (eC (.str "idle")))) (sSeq (sAugS (plFld "Lines" "idle" (plName 0)) (eVar 7) (fun i j => i + j) (eC (.int 1)) mSetL) (sNil)) (sSeq (sIf (tBl (eOp dEq (eVar 6) (eC (.str "less")))) (sSeq (sAugS (plFld "Lines" "idle" (plName 0)) (eVar 7) (fun i j => i - j) (eC (.int 1)) mSetL) (sNil)) (sSeq (sIf (tBl (eOp dEq (eVar 6) (eC (.str "take")))) (sSeq (sAsg (vOf (eC (.bl true))) (bSub (plFld "Lines" "taken" (plName 0)) (eVar 7) mSetD)) (sNil)) (sSeq (sDrop (vMethP "dict" (plFld "Lines" "taken" (plName 0)) mPopD (esCons (eFz (eVar 7)) (esNil)))) (sNil))) (sNil))) (sNil))) (sSeq (sSet 1 (vOf (eFz (eVar 3)))) (sNil))))
def cnd_l : En → Option (Bool × En) := tOf (tBl (eOp dNe (eVar 1) (eC (.int 0))))
theorem dEq_str (a b : Str) (ha : PyData.strOk a = true) (hb : PyData.strOk b = true) : dEq (.str a) (.str b) = some (.bl (a == b)) := by simp [dEq, eqOk, dPy, PyData.eqv, okPy, SeqAt.shaped, PyData.canLay0, PyData.depth, ha, hb]
theorem eq_ii : dEq (.str "idle") (.str "idle") = some (.bl true) := (dEq_str _ _ (by decide +kernel) (by decide +kernel)).trans (congrArg (fun b => some (D.bl b)) (by decide))
theorem eq_ti : dEq (.str "take") (.str "idle") = some (.bl false) := (dEq_str _ _ (by decide +kernel) (by decide +kernel)).trans (congrArg (fun b => some (D.bl b)) (by decide))
theorem eq_tl : dEq (.str "take") (.str "less") = some (.bl false) := (dEq_str _ _ (by decide +kernel) (by decide +kernel)).trans (congrArg (fun b => some (D.bl b)) (by decide))
theorem eq_tt : dEq (.str "take") (.str "take") = some (.bl true) := (dEq_str _ _ (by decide +kernel) (by decide +kernel)).trans (congrArg (fun b => some (D.bl b)) (by decide))
theorem ne_offers_idle : (("offers" : Str) = "idle") = False := by simp only [eq_iff_iff, iff_false]; decide
theorem ne_offers_taken : (("offers" : Str) = "taken") = False := by simp only [eq_iff_iff, iff_false]; decide
theorem ne_hours_idle : (("hours" : Str) = "idle") = False := by simp only [eq_iff_iff, iff_false]; decide
theorem ne_hours_taken : (("hours" : Str) = "taken") = False := by simp only [eq_iff_iff, iff_false]; decide
theorem ne_places_idle : (("places" : Str) = "idle") = False := by simp only [eq_iff_iff, iff_false]; decide
theorem ne_places_taken : (("places" : Str) = "taken") = False := by simp only [eq_iff_iff, iff_false]; decide
theorem ne_idle_taken : (("idle" : Str) = "taken") = False := by simp only [eq_iff_iff, iff_false]; decide
theorem ne_taken_idle : (("taken" : Str) = "idle") = False := by simp only [eq_iff_iff, iff_false]; decide
theorem l_open {os : List Of} {hs idle tk : List Int} {n : Nat} {w : Wy} {v : Nat} {a b c d e : Sl} (hv : v < n) {s : Stp} (hw : w v = some s) (oa : opn a) (ob : opn b) (oc : opn c) (od : opn d) (oe : opn e) :
    sAsg (vOf (eOp dIxF (eVar 2) (eVar 1))) (bdTup (bdCons (boName 3) (bdCons (boName 4) (bdCons (boName 5) (bdCons (boName 6) (bdCons (boName 7) (bdNil))))))) (lS os hs idle tk n w v a b c d e) =
      some (.nx, lS os hs idle tk n w v (.ow (nD s.a)) (.ow (nD s.b)) (.ow (.int s.p)) (.ow (.str s.kind)) (.ow (nD s.num))) := by
  have it : dItem (.lst true (wyD n w)) (nD v) = some (stpD s) := by
    have := wyD_at (f := w) hv
    rw [hw] at this
    exact this
  have e2 : eVar 2 (lS os hs idle tk n w v a b c d e) = some (.lst true (wyD n w)) := rfl
  have e1 : eVar 1 (lS os hs idle tk n w v a b c d e) = some (nD v) := rfl
  simp only [z_sAsg, z_vOf, z_eOp, e1, e2, Option.bind_some, z_ixF, it, isFz_stpD, if_true]
  rcases oa with rfl | ⟨_, rfl⟩ <;> rcases ob with rfl | ⟨_, rfl⟩ <;> rcases oc with rfl | ⟨_, rfl⟩ <;> rcases od with rfl | ⟨_, rfl⟩ <;> rcases oe with rfl | ⟨_, rfl⟩ <;> rfl
theorem l_idle {os : List Of} {hs idle tk : List Int} {n : Nat} {w : Wy} {v k : Nat} {a b c d e : Sl} (hv : v < n) {q : Nat} (hw : w v = some ⟨k, q, 0, "idle", k⟩) (hk : k < idle.length) (oa : opn a) (ob : opn b) (oc : opn c) (od : opn d) (oe : opn e) :
    bdy_l (lS os hs idle tk n w v a b c d e) = some (.nx, lS os hs (idle.set k (idle[k] + 1)) tk n w k (.ow (nD k)) (.ow (nD q)) (.ow (.int 0)) (.ow (.str "idle")) (.ow (nD k))) := by
  have ix := ixN_nat hk
  have at1 : L2.atI (idle.map D.int) (k : Int) = some (.int idle[k]) := L2.atI_nat (by simp [hk])
  have st : (idle.map D.int).set k (.int (idle[k] + 1)) = (idle.set k (idle[k] + 1)).map D.int := by rw [List.map_set]
  have ix' : L2.ixN (idle.map D.int).length (k : Int) = some k := by rw [List.length_map]; exact ix
  unfold bdy_l
  rw [z_sSeq, l_open hv hw oa ob oc od oe, Option.bind_some]
  simp [lS, eVar, eq_ii, sAugS, plFld, plName, getE, getP, getF, lnD, lnF, nD, at1, updE, modP, modF, mSetL, ix, st, isGet, open?, - List.map_set, ne_offers_idle, ne_offers_taken, ne_hours_idle, ne_hours_taken, ne_places_idle, ne_places_taken, ne_idle_taken, ne_taken_idle]
theorem tk_put {k : Nat} {tk : List Int} (h : (k : Int) ∉ tk) : putD (Sum.inl (k : Int) : L2.Key) (.bl true) (kI tk) (tr tk) = some (kI (tk ++ [(k : Int)]), tr (tk ++ [(k : Int)])) := by
  have := put_tr tk (k : Int)
  unfold addK at this
  rw [if_neg h] at this
  exact this
theorem l_take {os : List Of} {hs idle tk : List Int} {n : Nat} {w : Wy} {v k : Nat} {a b c d e : Sl} (hv : v < n) {p q : Nat} {pr : Int} (hw : w v = some ⟨p, q, pr, "take", k⟩) (hk : (k : Int) ∉ tk) (ht : tk.length ≤ 100) (oa : opn a) (ob : opn b) (oc : opn c) (od : opn d) (oe : opn e) :
    bdy_l (lS os hs idle tk n w v a b c d e) = some (.nx, lS os hs idle (tk ++ [(k : Int)]) n w p (.ow (nD p)) (.ow (nD q)) (.ow (.int pr)) (.ow (.str "take")) (.ow (nD k))) := by
  have pt := tk_put hk
  have l1 : (kI tk).length < lim := by simp [kI]; exact Nat.lt_of_le_of_lt ht (by decide)
  unfold bdy_l
  rw [z_sSeq, l_open hv hw oa ob oc od oe, Option.bind_some]
  simp [lS, eVar, eq_ti, eq_tl, eq_tt, bSub, plFld, plName, getE, getP, getF, lnD, lnF, nD, updE, modP, modF, mSetD, keyD, pt, l1, open?, ne_offers_idle, ne_offers_taken, ne_hours_idle, ne_hours_taken, ne_places_idle, ne_places_taken, ne_idle_taken, ne_taken_idle]
end K74

set_option maxRecDepth 100000
set_option linter.all false
set_option Elab.async false
namespace K74
open PySem Z
/-! hours in a row, places in it -/
def hv (hs : List Int) (v : Nat) : Int := hs.getD v 0
section
variable {hs : List Int} (up : hs.Pairwise (· < ·))
theorem hv_eq {v : Nat} (h : v < hs.length) : hv hs v = hs[v] := by rw [hv, List.getD_eq_getElem?_getD, List.getElem?_eq_getElem h]; rfl
theorem pl_lt {a : Int} (h : a ∈ hs) : hs.idxOf a < hs.length := List.idxOf_lt_length_of_mem h
theorem hv_pl {a : Int} (h : a ∈ hs) : hv hs (hs.idxOf a) = a := by
  rw [hv_eq (pl_lt h)]; exact List.getElem_idxOf (pl_lt h)
include up in
theorem hv_mono {u v : Nat} (h : u < v) (hv' : v < hs.length) : hv hs u < hv hs v := by
  rw [hv_eq (Nat.lt_trans h hv'), hv_eq hv']
  exact List.pairwise_iff_getElem.mp up u v _ _ h
include up in
theorem hv_le {u v : Nat} (h : u ≤ v) (hv' : v < hs.length) : hv hs u ≤ hv hs v := by
  rcases Nat.lt_or_eq_of_le h with h | rfl
  · exact Int.le_of_lt (hv_mono up h hv')
  · exact Int.le_refl _
include up in
theorem pl_mono {a b : Int} (ha : a ∈ hs) (hb : b ∈ hs) (h : a < b) : hs.idxOf a < hs.idxOf b := by
  apply Nat.lt_of_not_le
  intro q
  have := hv_le up q (pl_lt ha)
  rw [hv_pl ha, hv_pl hb] at this
  omega
include up in
theorem pl_le {a b : Int} (ha : a ∈ hs) (hb : b ∈ hs) (h : a ≤ b) : hs.idxOf a ≤ hs.idxOf b := by
  rcases Int.lt_or_eq_of_le h with h | rfl
  · exact Nat.le_of_lt (pl_mono up ha hb h)
  · exact Nat.le_refl _
end
/-! how many hours ahead -/
def ahead (a : Int) (l : List Int) : Nat := l.countP fun h => decide (h < a)
theorem ahead_mono {a b : Int} (h : a ≤ b) (l : List Int) : ahead a l ≤ ahead b l := by
  apply List.countP_mono_left
  intro x _ q
  simp at q ⊢
  omega
theorem ahead_le (a : Int) (l : List Int) : ahead a l ≤ l.length := List.countP_le_length
theorem ahead_strict {a b : Int} : ∀ (l : List Int), (∃ h ∈ l, a ≤ h ∧ h < b) → ahead a l + 1 ≤ ahead b l
  | [], ⟨h, hh, _⟩ => nomatch hh
  | x :: l, ⟨h, hh, h1, h2⟩ => by
    have m := ahead_mono (a := a) (b := b) (by omega) l
    unfold ahead at m ⊢
    rw [List.countP_cons, List.countP_cons]
    rcases List.mem_cons.mp hh with rfl | hh
    · have e1 : decide (h < a) = false := by simp; omega
      have e2 : decide (h < b) = true := by simp; omega
      rw [e1, e2]; simp; omega
    · have ih := ahead_strict l ⟨h, hh, h1, h2⟩
      unfold ahead at ih
      by_cases q : x < a
      · have e1 : decide (x < a) = true := by simp; omega
        have e2 : decide (x < b) = true := by simp; omega
        rw [e1, e2]; simp; omega
      · have e1 : decide (x < a) = false := by simp; omega
        rw [e1]; simp; omega
/-! which steps there are -/
theorem mem_steps {os : List Of} {hs idle tk : List Int} {s : Stp} : s ∈ stepsL os hs idle tk ↔
    (∃ k, ∃ h : k < idle.length, s = ⟨k, k + 1, 0, "idle", k⟩ ∨ (0 < idle[k] ∧ s = ⟨k + 1, k, 0, "less", k⟩)) ∨ ∃ k, k < os.length ∧ s = offSt hs tk k (gt os k) := by
  unfold stepsL
  rw [List.mem_append, List.mem_flatMap, List.mem_map]
  apply or_congr
  · constructor
    · rintro ⟨p, hp, h⟩
      obtain ⟨x, k⟩ := p
      have := List.mk_mem_zipIdx_iff_getElem?.mp hp
      obtain ⟨hk, e⟩ := List.getElem?_eq_some_iff.mp this
      refine ⟨k, hk, ?_⟩
      rw [e]
      unfold idleSt at h
      rcases List.mem_cons.mp h with h | h
      · exact Or.inl h
      · right
        split at h
        · rename_i q
          exact ⟨q, List.mem_singleton.mp h⟩
        · cases h
    · rintro ⟨k, hk, h⟩
      refine ⟨(idle[k], k), List.mk_mem_zipIdx_iff_getElem?.mpr (List.getElem?_eq_getElem hk), ?_⟩
      unfold idleSt
      rcases h with rfl | ⟨q, rfl⟩
      · exact List.mem_cons_self
      · simp only [if_pos q]
        exact List.mem_cons_of_mem _ (List.mem_singleton.mpr rfl)
  · constructor
    · rintro ⟨⟨o, k⟩, hp, rfl⟩
      have := List.mk_mem_zipIdx_iff_getElem?.mp hp
      obtain ⟨hk, e⟩ := List.getElem?_eq_some_iff.mp this
      refine ⟨k, hk, ?_⟩
      have : gt os k = o := by rw [gt, List.getD_eq_getElem?_getD, this]; rfl
      rw [this]
    · rintro ⟨k, hk, rfl⟩
      refine ⟨(gt os k, k), List.mk_mem_zipIdx_iff_getElem?.mpr ?_, rfl⟩
      rw [List.getElem?_eq_getElem hk, gt, List.getD_eq_getElem?_getD, List.getElem?_eq_getElem hk]; rfl
/-! what holds when nothing is less any more -/
def dd (f : Fo) (v : Nat) : Int := (f v).getD 0
theorem all_set {n : Nat} {psi : Nat → Int} {S : List Stp} {f : Fo} {w : Wy} (I : Inv n psi S f w) (sat : ∀ s ∈ S, better s f = false) (hi : ∀ k, k + 1 < n → ∃ s ∈ S, s.a = k ∧ s.b = k + 1) : ∀ v, v < n → f v = some (dd f v)
  | 0, _ => by rw [dd, I.z]; rfl
  | v + 1, h => by
    obtain ⟨s, hs, rfl, sb⟩ := hi v h
    have ih := all_set I sat hi s.a (by omega)
    have := sat s hs
    unfold better at this
    rw [ih, sb] at this
    cases q : f (s.a + 1) with
    | none => rw [q] at this; cases this
    | some u => rw [dd, q]; rfl
theorem sat_le {n : Nat} {S : List Stp} {f : Fo} (sat : ∀ s ∈ S, better s f = false) (all : ∀ v, v < n → f v = some (dd f v)) {s : Stp} (hs : s ∈ S) (ha : s.a < n) (hb : s.b < n) : dd f s.b ≤ dd f s.a + s.p := by
  have := sat s hs
  unfold better at this
  rw [all _ ha, all _ hb] at this
  simpa using this
theorem way_eq {n : Nat} {psi : Nat → Int} {S : List Stp} {f : Fo} {w : Wy} (I : Inv n psi S f w) (sat : ∀ s ∈ S, better s f = false) (all : ∀ v, v < n → f v = some (dd f v)) (hS : ∀ s ∈ S, s.a < n ∧ s.b < n) {v : Nat} (hv : v < n) (h0 : v ≠ 0) :
    ∃ s ∈ S, w v = some s ∧ s.b = v ∧ dd f s.a + s.p = dd f v := by
  obtain ⟨s, hs, ws, sb, y, fy, le⟩ := I.way v _ hv h0 (all v hv)
  refine ⟨s, hs, ws, sb, ?_⟩
  have h2 := sat_le sat all hs (hS s hs).1 (hS s hs).2
  rw [sb] at h2
  have : dd f s.a = y := by rw [dd, fy]; rfl
  omega
end K74

set_option maxRecDepth 100000
set_option linter.all false
set_option Elab.async false
namespace K74
open PySem Z
/-! the first line: what it is led along -/
def idle0 (hs : List Int) : List Int := List.replicate (hs.length - 1) 0
structure Al (os : List Of) (hs : List Int) : Prop where
  ok : Ok os
  one : ∀ k, k < os.length → (gt os k).2.2 = 1
  hrs : Hrs os hs
  ne : 0 < hs.length
section
variable {os : List Of} {hs : List Int} (A : Al os hs)
include A
theorem Al.bgm {k : Nat} (h : k < os.length) : bg os k ∈ hs := by
  refine (A.hrs.mem _).mpr ⟨gt os k, ?_, Or.inl rfl⟩
  rw [gt, List.getD_eq_getElem?_getD, List.getElem?_eq_getElem h]; exact List.getElem_mem h
theorem Al.ndm {k : Nat} (h : k < os.length) : nd os k ∈ hs := by
  refine (A.hrs.mem _).mpr ⟨gt os k, ?_, Or.inr rfl⟩
  rw [gt, List.getD_eq_getElem?_getD, List.getElem?_eq_getElem h]; exact List.getElem_mem h
theorem Al.off {tk : List Int} {k : Nat} (h : k < os.length) : offSt hs tk k (gt os k) = if (k : Int) ∈ tk then ⟨hs.idxOf (nd os k), hs.idxOf (bg os k), 1, "drop", k⟩ else ⟨hs.idxOf (bg os k), hs.idxOf (nd os k), -1, "take", k⟩ := by
  unfold offSt
  rw [A.one k h]; rfl
theorem Al.hm : ∀ of ∈ os, of.1 ∈ hs ∧ of.2.1 ∈ hs := fun of h => ⟨(A.hrs.mem _).mpr ⟨of, h, Or.inl rfl⟩, (A.hrs.mem _).mpr ⟨of, h, Or.inr rfl⟩⟩
def psi1 (os : List Of) (hs : List Int) (v : Nat) : Int := (ahead (hv hs 0) (wOf os (apart os)) : Int) - ahead (hv hs v) (wOf os (apart os))
theorem Al.wl : (wOf os (apart os)).length = most os ∧ most os ≤ 8 := by
  have := apart_len os
  have := A.ok.len
  constructor
  · simp [wOf, most]
  · unfold most; omega
theorem Al.steps0 {s : Stp} (h : s ∈ stepsL os hs (idle0 hs) []) : (∃ k, k + 1 < hs.length ∧ s = ⟨k, k + 1, 0, "idle", k⟩) ∨ ∃ k, k < os.length ∧ s = ⟨hs.idxOf (bg os k), hs.idxOf (nd os k), -1, "take", k⟩ := by
  rcases mem_steps.mp h with ⟨k, hk, h | ⟨h, _⟩⟩ | ⟨k, hk, h⟩
  · refine Or.inl ⟨k, ?_, h⟩
    simp [idle0] at hk; omega
  · simp [idle0] at h
  · refine Or.inr ⟨k, hk, ?_⟩
    rw [A.off hk, if_neg (by simp)] at h
    exact h
theorem Al.fine : Fine hs.length (psi1 os hs) (stepsL os hs (idle0 hs) []) := by
  have hl := A.wl
  refine ⟨A.hrs.len, A.ne, ?_, ?_, ?_⟩
  · intro v
    have := ahead_le (hv hs v) (wOf os (apart os))
    unfold psi1; omega
  · unfold psi1; omega
  · intro s hs'
    rcases A.steps0 hs' with ⟨k, hk, rfl⟩ | ⟨k, hk, rfl⟩
    · have := ahead_mono (hv_le A.hrs.up (show k ≤ k + 1 by omega) hk) (wOf os (apart os))
      refine ⟨by simp; omega, hk, by simp, ?_⟩
      unfold psi1; simp only; omega
    · have h1 := A.bgm hk
      have h2 := A.ndm hk
      refine ⟨pl_lt h1, pl_lt h2, by simp, ?_⟩
      obtain ⟨h, hh, q1, q2⟩ := meets_iff.mp (wOf_meets A.ok.valid) k hk
      have := ahead_strict (a := bg os k) (b := nd os k) (wOf os (apart os)) ⟨h, hh, q1, q2⟩
      unfold psi1; simp only
      rw [hv_pl h1, hv_pl h2]; omega
/-- the least price at the last hour -/
theorem Al.last {f : Fo} {w : Wy} (I : Inv hs.length (psi1 os hs) (stepsL os hs (idle0 hs) []) f w) (sat : ∀ s ∈ stepsL os hs (idle0 hs) [], better s f = false) (all : ∀ v, v < hs.length → f v = some (dd f v)) : dd f (hs.length - 1) = -(most os : Int) := by
  have n0 := A.ne
  have lo := I.lo (hs.length - 1) _ (by omega) (all _ (by omega))
  have wl := A.wl
  have al := ahead_le (hv hs (hs.length - 1)) (wOf os (apart os))
  have up : dd f (hs.length - 1) ≤ -(most os : Int) := by
    have step : ∀ v, v + 1 < hs.length → dd f (v + 1) ≤ dd f v := by
      intro v hv
      have m : (⟨v, v + 1, 0, "idle", v⟩ : Stp) ∈ stepsL os hs (idle0 hs) [] := mem_steps.mpr (Or.inl ⟨v, by simp [idle0]; omega, Or.inl rfl⟩)
      have := sat_le sat all m (by simp; omega) hv
      simpa using this
    have mono : ∀ u v, u ≤ v → v < hs.length → dd f v ≤ dd f u := by
      intro u v h
      induction h with
      | refl => intro _; exact Int.le_refl _
      | step h ih => intro q; exact Int.le_trans (step _ q) (ih (by omega))
    have chain : ∀ (l : List Nat) (u : Nat) (c : Int), (∀ k ∈ l, k < os.length) → l.Pairwise (fun i j => nd os i ≤ bg os j) → u < hs.length → (∀ k ∈ l, u ≤ hs.idxOf (bg os k)) → dd f u ≤ c → dd f (hs.length - 1) ≤ c - l.length := by
      intro l
      induction l with
      | nil =>
        intro u c _ _ hu _ hc
        have := mono u (hs.length - 1) (by omega) (by omega)
        simp; omega
      | cons k l ih =>
        intro u c hk hp hu hb hc
        have k1 := hk k List.mem_cons_self
        have h1 := A.bgm k1
        have h2 := A.ndm k1
        have hp2 := List.pairwise_cons.mp hp
        have m : (⟨hs.idxOf (bg os k), hs.idxOf (nd os k), -1, "take", k⟩ : Stp) ∈ stepsL os hs (idle0 hs) [] := mem_steps.mpr (Or.inr ⟨k, k1, by rw [A.off k1, if_neg (by simp)]⟩)
        have s1 := sat_le sat all m (pl_lt h1) (pl_lt h2)
        have s2 := mono u (hs.idxOf (bg os k)) (hb k List.mem_cons_self) (pl_lt h1)
        simp only at s1
        have := ih (hs.idxOf (nd os k)) (c - 1) (fun j hj => hk j (List.mem_cons_of_mem _ hj)) hp2.2 (pl_lt h2) (fun j hj => pl_le A.hrs.up h2 (A.bgm (hk j (List.mem_cons_of_mem _ hj))) (hp2.1 j hj)) (by omega)
        rw [List.length_cons]; omega
    have := chain (apart os) 0 0 (fun k hk => apart_lt hk) (apart_law A.ok.valid).1 n0 (fun k _ => Nat.zero_le _) (by rw [dd, I.z]; simp)
    unfold most; omega
  unfold psi1 at lo
  omega
/-- what the line is led along is tight -/
def tI (f : Fo) (idle : List Int) : Prop := ∀ k (h : k < idle.length), 0 < idle[k] → dd f (k + 1) = dd f k
def tT (os : List Of) (hs : List Int) (f : Fo) (tk : List Int) : Prop := ∀ i ∈ tk, ∃ k, k < os.length ∧ i = (k : Int) ∧ dd f (hs.idxOf (nd os k)) = dd f (hs.idxOf (bg os k)) - 1
theorem Al.path {f : Fo} {w : Wy} (I : Inv hs.length (psi1 os hs) (stepsL os hs (idle0 hs) []) f w) (sat : ∀ s ∈ stepsL os hs (idle0 hs) [], better s f = false) (all : ∀ v, v < hs.length → f v = some (dd f v)) :
    ∀ (m v N : Nat) (idle tk : List Int) (a b c d e : Sl), v < m → v < hs.length → v < N → idle.length = hs.length - 1 → tI f idle → tT os hs f tk → tk.Nodup → (∀ k : Nat, (k : Int) ∈ tk → v ≤ hs.idxOf (bg os k)) → tk.length + v ≤ 16 → opn a → opn b → opn c → opn d → opn e →
    ∃ idle' tk' a' b' c' d' e', idle'.length = hs.length - 1 ∧ tI f idle' ∧ tT os hs f tk' ∧ tk'.Nodup ∧ tk'.length ≤ 16 ∧ (tk'.length : Int) = tk.length - dd f v ∧
      sWhile cnd_l bdy_l N (lS os hs idle tk hs.length w v a b c d e) = some (.nx, lS os hs idle' tk' hs.length w 0 a' b' c' d' e')
  | 0, v, N, idle, tk, a, b, c, d, e, h, _, _, _, _, _, _, _, _, _, _, _, _, _ => by omega
  | m + 1, v, 0, idle, tk, a, b, c, d, e, _, _, h, _, _, _, _, _, _, _, _, _, _, _ => by omega
  | m + 1, v, N + 1, idle, tk, a, b, c, d, e, h1, h2, h3, hi, ti, tt, nt, bt, lt, oa, ob, oc, od, oe => by
    by_cases v0 : v = 0
    · subst v0
      have dz : dd f 0 = 0 := by rw [dd, I.z]; rfl
      refine ⟨idle, tk, a, b, c, d, e, hi, ti, tt, nt, by omega, by omega, while_end ?_⟩
      simp [cnd_l, lS, eVar, nD]
    have hc : cnd_l (lS os hs idle tk hs.length w v a b c d e) = some (true, lS os hs idle tk hs.length w v a b c d e) := by
      simp [cnd_l, lS, eVar, nD]
      omega
    obtain ⟨s, hs', ws, sb, ds⟩ := way_eq I sat all (fun s q => ⟨(A.fine.st s q).1, (A.fine.st s q).2.1⟩) h2 v0
    rcases A.steps0 hs' with ⟨k, hk, rfl⟩ | ⟨k, hk, rfl⟩
    · simp only at sb ds
      subst sb
      have kl : k < idle.length := by omega
      have e1 := l_idle (os := os) (hs := hs) (tk := tk) h2 ws kl oa ob oc od oe
      have ti2 : tI f (idle.set k (idle[k] + 1)) := by
        intro j hj hp
        by_cases q : k = j
        · subst q; omega
        · rw [List.getElem_set_ne q] at hp
          exact ti j (by simpa using hj) hp
      obtain ⟨idle', tk', a', b', c', d', e', r1, r2, r3, r4, r5, r6, r7⟩ := Al.path I sat all m k N (idle.set k (idle[k] + 1)) tk (.ow (nD k)) (.ow (nD (k + 1))) (.ow (.int 0)) (.ow (.str "idle")) (.ow (nD k)) (by omega) (by omega) (by omega) (by simp; omega) ti2 tt nt (fun j hj => by have := bt j hj; omega) (by omega) (Or.inr ⟨_, rfl⟩) (Or.inr ⟨_, rfl⟩) (Or.inr ⟨_, rfl⟩) (Or.inr ⟨_, rfl⟩) (Or.inr ⟨_, rfl⟩)
      exact ⟨idle', tk', a', b', c', d', e', r1, r2, r3, r4, r5, by omega, by rw [while_nx hc e1, r7]⟩
    · simp only at sb ds
      have b1 := A.bgm hk
      have b2 := A.ndm hk
      have lt2 := pl_mono A.hrs.up b1 b2 (A.ok.valid k hk)
      have kn : (k : Int) ∉ tk := by
        intro q
        have := bt k q
        omega
      have e1 := l_take (os := os) (hs := hs) (idle := idle) h2 ws kn (by omega) oa ob oc od oe
      obtain ⟨idle', tk', a', b', c', d', e', r1, r2, r3, r4, r5, r6, r7⟩ := Al.path I sat all m (hs.idxOf (bg os k)) N idle (tk ++ [(k : Int)]) (.ow (nD (hs.idxOf (bg os k)))) (.ow (nD (hs.idxOf (nd os k)))) (.ow (.int (-1))) (.ow (.str "take")) (.ow (nD k)) (by omega) (by omega) (by omega) hi ti
        (by
          intro i hi
          rcases List.mem_append.mp hi with hi | hi
          · exact tt i hi
          · exact ⟨k, hk, List.mem_singleton.mp hi, by rw [sb]; omega⟩)
        (by
          rw [List.nodup_append]
          exact ⟨nt, by simp, fun x hx y hy => by rw [List.mem_singleton.mp hy]; rintro rfl; exact kn hx⟩)
        (by
          intro j hj
          rcases List.mem_append.mp hj with hj | hj
          · have := bt j hj; omega
          · have : j = k := by have := List.mem_singleton.mp hj; omega
            rw [this]; exact Nat.le_refl _)
        (by simp; omega) (Or.inr ⟨_, rfl⟩) (Or.inr ⟨_, rfl⟩) (Or.inr ⟨_, rfl⟩) (Or.inr ⟨_, rfl⟩) (Or.inr ⟨_, rfl⟩)
      refine ⟨idle', tk', a', b', c', d', e', r1, r2, r3, r4, r5, ?_, by rw [while_nx hc e1, r7]⟩
      rw [r6]; simp; omega
end
end K74

set_option maxRecDepth 100000
set_option linter.all false
set_option Elab.async false
namespace K74
open PySem Z
@[simp] theorem noFzs_fo (n : Nat) (f : Fo) : noFzs (foD n f) = true := by
  have : ∀ l : List Nat, noFzs (l.map fun v => oiD (f v)) = true := by
    intro l
    induction l with
    | nil => simp
    | cons v l ih => rw [List.map_cons, noFzs1, ih, Bool.and_true]; cases f v <;> simp [oiD]
  exact this _
@[simp] theorem noFzs_wy (n : Nat) (f : Wy) : noFzs (wyD n f) = true := by
  have : ∀ l : List Nat, noFzs (l.map fun v => owD (f v)) = true := by
    intro l
    induction l with
    | nil => simp
    | cons v l ih => rw [List.map_cons, noFzs1, ih, Bool.and_true]; cases f v <;> simp [owD]
  exact this _
theorem fz_ln (o : Bool) (os : List Of) (hs idle tk : List Int) : fz (lnD o os hs idle tk) = lnD false os hs idle tk := by
  simp only [lnD, fz, fzs, fz_os, fzs_same _ (isFzs_ints _), fzs_same _ (isFzs_pl _), fzs_same _ (isFzs_tr _)]
theorem call_dist {os : List Of} {hs idle tk : List Int} {r : D} {o : Bool} {E : En} (h : eVar 0 E = some (lnD o os hs idle tk)) (hr : m_Lines_distances [lnD false os hs idle tk] = some (r, [])) (hn : noFz r = true) :
    eMeth "Lines" "distances" m_Lines_distances (eVar 0) esNil E = some r := by
  rw [eMeth, h, Option.bind_some]
  show (if _ then _ else _) = _
  rw [if_pos ⟨rfl, by decide⟩]
  show (some []).bind _ = _
  rw [Option.bind_some]
  show (m_Lines_distances (fzs [lnD o os hs idle tk])).bind _ = _
  simp only [fzs, fz_ln, hr, Option.bind_some]
  rw [if_pos hn]
section
variable {os : List Of} {hs : List Int} (A : Al os hs)
include A
theorem Al.lead : ∃ f idle tk, (∀ v, v < hs.length → f v = some (dd f v)) ∧ (∀ s ∈ stepsL os hs (idle0 hs) [], better s f = false) ∧ (∀ v, v < hs.length → -16 ≤ dd f v) ∧ dd f 0 = 0 ∧ idle.length = hs.length - 1 ∧ tI f idle ∧ tT os hs f tk ∧ tk.Nodup ∧ tk.length = most os ∧
    m_Lines_lead [lnD true os hs (idle0 hs) []] = some (.non, [lnD true os hs idle tk]) := by
  have ol := A.ok.len
  have hl := A.hrs.len
  have n0 := A.ne
  obtain ⟨f, w, I, sat, ed⟩ := sp_dist (os := os) (hs := hs) (idle := idle0 hs) (tk := []) (by omega) (by simp [idle0]; omega) A.hm A.fine
  have all := all_set I sat (fun k hk => ⟨⟨k, k + 1, 0, "idle", k⟩, mem_steps.mpr (Or.inl ⟨k, by simp [idle0]; omega, Or.inl rfl⟩), rfl, rfl⟩)
  have la := A.last I sat all
  obtain ⟨idle, tk, a', b', c', d', e', r1, r2, r3, r4, r5, r6, r7⟩ := A.path I sat all hs.length (hs.length - 1) 1000000 (idle0 hs) [] .no .no .no .no .no (by omega) (by omega) (by omega) (by simp [idle0]) (by intro k h q; simp [idle0] at q) (by intro i hi; cases hi) List.nodup_nil (by intro k hk; cases hk) (by simp; omega) (Or.inl rfl) (Or.inl rfl) (Or.inl rfl) (Or.inl rfl) (Or.inl rfl)
  refine ⟨f, idle, tk, all, sat, ?_, by rw [dd, I.z]; rfl, r1, r2, r3, r4, ?_, ?_⟩
  · intro v hv
    have := I.lo v _ hv (all v hv)
    have := A.fine.lo v
    omega
  · rw [la] at r6
    simp only [List.length_nil] at r6
    omega
  · have ev : ∀ x y z a b c d, eVar 0 [.ow (lnD true os hs (idle0 hs) []), x, y, z, a, b, c, d] = some (lnD true os hs (idle0 hs) []) := fun _ _ _ _ _ _ _ => rfl
    have md := fun x y z a b c d => call_dist (E := [.ow (lnD true os hs (idle0 hs) []), x, y, z, a, b, c, d]) (ev x y z a b c d) ed (by simp)
    have e7 : sWhile cnd_l bdy_l 1000000 [.ow (lnD true os hs (idle0 hs) []), .ow (nD (hs.length - 1)), .ow (.lst true (wyD hs.length w)), .no, .no, .no, .no, .no] = some (.nx, lS os hs idle tk hs.length w 0 a' b' c' d' e') := r7
    have nn : (D.int ((hs.length : Int) - 1)) = nD (hs.length - 1) := by
      unfold nD; congr 1; omega
    rw [m_Lines_lead_eq]
    show fin [0] (sSeq _ (sSeq _ (sSeq (sWhile cnd_l bdy_l 1000000) _)) _) = _
    have zl : ((hs.length : Int) == 0) = false := by rw [beq_eq_false_iff_ne]; omega
    simp [ev, zl, sPar, md, open?, nn, e7]
    simp [lS, outs]
end
end K74

set_option maxRecDepth 100000
set_option linter.all false
set_option Elab.async false
namespace K74
open PySem Z
theorem nf_offers_hours : (("offers" : Str) = "hours") = False := by simp only [eq_iff_iff, iff_false]; decide
theorem nf_offers_places : (("offers" : Str) = "places") = False := by simp only [eq_iff_iff, iff_false]; decide
theorem nf_offers_idle : (("offers" : Str) = "idle") = False := by simp only [eq_iff_iff, iff_false]; decide
theorem nf_offers_taken : (("offers" : Str) = "taken") = False := by simp only [eq_iff_iff, iff_false]; decide
theorem nf_hours_places : (("hours" : Str) = "places") = False := by simp only [eq_iff_iff, iff_false]; decide
theorem nf_hours_idle : (("hours" : Str) = "idle") = False := by simp only [eq_iff_iff, iff_false]; decide
theorem nf_hours_taken : (("hours" : Str) = "taken") = False := by simp only [eq_iff_iff, iff_false]; decide
theorem nf_places_idle : (("places" : Str) = "idle") = False := by simp only [eq_iff_iff, iff_false]; decide
theorem nf_places_taken : (("places" : Str) = "taken") = False := by simp only [eq_iff_iff, iff_false]; decide
theorem nf_idle_taken : (("idle" : Str) = "taken") = False := by simp only [eq_iff_iff, iff_false]; decide

theorem places_snoc (pre : List Int) (h : Int) : places (pre ++ [h]) = places pre ++ [nD pre.length] := by
  simp [places, List.range_succ]
theorem pl_put {pre : List Int} {h : Int} (hn : h ∉ pre) : putD (Sum.inl h : L2.Key) (nD pre.length) (kI pre) (places pre) = some (kI (pre ++ [h]), places (pre ++ [h])) := by
  unfold putD
  have m : (Sum.inl h : L2.Key) ∈ kI pre ↔ h ∈ pre := by
    unfold kI
    simp
  rw [if_neg (fun q => hn (m.mp q)), places_snoc]
  simp [kI]
theorem dc_pl (x0 x1 x2 x3 : Sl) : ∀ (suf pre : List Int), (pre ++ suf).Nodup → dcGo (bdTup (bdCons (bdName 4) (bdCons (bdName 5) bdNil))) gYes (eVar 5) (eVar 4) [x0, x1, x2, x3, .no, .no] ((suf.zipIdx pre.length).map fun p => .tup [nD p.2, .int p.1]) (kI pre) (places pre) = some (kI (pre ++ suf), places (pre ++ suf))
  | [], pre, _ => by simp [dcGo]
  | h :: suf, pre, hn => by
    have h1 : h ∉ pre := by
      rw [List.nodup_append] at hn
      intro q
      exact hn.2.2 h q h List.mem_cons_self rfl
    have ih := dc_pl x0 x1 x2 x3 suf (pre ++ [h]) (by simpa using hn)
    have pp := pl_put h1
    rw [List.length_append, List.length_singleton] at ih
    rw [List.zipIdx_cons, List.map_cons]
    simp only [List.append_assoc, List.singleton_append] at ih
    simp [dcGo, eVar, keyD, pp, ih]
theorem call_lead {os : List Of} {hs i t i' t' : List Int} {a b c d e : Sl} (h : m_Lines_lead [lnD true os hs i t] = some (.non, [lnD true os hs i' t'])) : vMethC "Lines" "lead" m_Lines_lead 0 [] [.ow (lnD true os hs i t), a, b, c, d, e] = some (.non, [.ow (lnD true os hs i' t'), a, b, c, d, e]) := by
  have q : vCall m_Lines_lead [.lend 0] [.ow (lnD true os hs i t), a, b, c, d, e] = some (.non, [.ow (lnD true os hs i' t'), a, b, c, d, e]) := by
    simp [vCall, arGo, arTake, arBack, h, open?]
  unfold vMethC
  show (if _ then _ else _) = _
  rw [if_pos ⟨rfl, by decide⟩, q]
theorem sp_init {os : List Of} {hs idle tk : List Int} (h : Ok os) (hn : hs.Nodup) (hl : hs.length ≤ 16) (eh : m_hours_of [osD os] = some (.lst true (hs.map .int), [])) (hle : m_Lines_lead [lnD true os hs (idle0 hs) []] = some (.non, [lnD true os hs idle tk])) :
    m_Lines___init__ [.ob true "Lines" [] [], osD os, .int 1] = some (.non, [lnD true os hs idle tk]) := by
  have l1 : hs.length ≤ lim := le_lim (by omega)
  have nh := num_mapN D.int hs
  have dc := fun x0 x1 x2 x3 => dc_pl x0 x1 x2 x3 hs [] (by simpa using hn)
  have dc' : ∀ x0 x1 x2 x3, dcGo (bdTup (bdCons (bdName 4) (bdCons (bdName 5) bdNil))) gYes (eVar 5) (eVar 4) [x0, x1, x2, x3, .no, .no] (hs.zipIdx.map fun p => .tup [nD p.2, .int p.1]) [] [] = some (kI hs, places hs) := dc
  have f1 : sFldSet "Lines" "offers" (vOf (eFz (eVar 1))) (plName 0) [.ow (.ob true "Lines" [] []), .ow (osD os), .ow (.int 1), .no, .no, .no] = some (.nx, [.ow (.ob true "Lines" ["offers"] [osD os]), .ow (osD os), .ow (.int 1), .no, .no, .no]) := by
    simp [sFldSet, plName, getE, getP, updE, modP, mSetF, putFD, eVar]
  have f2 : sFldSet "Lines" "hours" (vOf (eCall m_hours_of (esCons (eVar 1) (esNil)))) (plName 0) [.ow (.ob true "Lines" ["offers"] [osD os]), .ow (osD os), .ow (.int 1), .no, .no, .no] = some (.nx, [.ow (.ob true "Lines" ["offers", "hours"] [osD os, .lst true (hs.map .int)]), .ow (osD os), .ow (.int 1), .no, .no, .no]) := by
    have nz : noFzs (hs.map D.int) = true := noFzs_ints hs
    simp [sFldSet, plName, getE, getP, updE, modP, mSetF, putFD, eVar, eh, nz, nf_offers_hours, nf_offers_places, nf_offers_idle, nf_offers_taken, nf_hours_places, nf_hours_idle, nf_hours_taken, nf_places_idle, nf_places_taken, nf_idle_taken]
  have gf : ∀ o, dFld "Lines" "hours" (.ob o "Lines" ["offers", "hours"] [osD os, .lst true (hs.map .int)]) = some (.lst true (hs.map .int)) := fun _ => rfl
  have f3 : sFldSet "Lines" "places" (vOf (eDc [4, 5] (eEnum (esCons (eUn (dFld "Lines" "hours") (eVar 0)) (esNil))) (bdTup (bdCons (bdName 4) (bdCons (bdName 5) (bdNil)))) (gYes) (eVar 5) (eVar 4))) (plName 0) [.ow (.ob true "Lines" ["offers", "hours"] [osD os, .lst true (hs.map .int)]), .ow (osD os), .ow (.int 1), .no, .no, .no] = some (.nx, [.ow (.ob true "Lines" ["offers", "hours", "places"] [osD os, .lst true (hs.map .int), .dk true (kI hs) (places hs)]), .ow (osD os), .ow (.int 1), .no, .no, .no]) := by
    simp [sFldSet, plName, getE, getP, updE, modP, mSetF, putFD, eVar, gf, eDc, nh, dc', l1, nf_offers_hours, nf_offers_places, nf_offers_idle, nf_offers_taken, nf_hours_places, nf_hours_idle, nf_hours_taken, nf_places_idle, nf_places_taken, nf_idle_taken, - List.map_map]
  have gf2 : ∀ o, dFld "Lines" "hours" (.ob o "Lines" ["offers", "hours", "places"] [osD os, .lst true (hs.map .int), .dk true (kI hs) (places hs)]) = some (.lst true (hs.map .int)) := fun _ => rfl
  have mx : bMax [.int 0, .int ((hs.length : Int) - 1)] = some (.int ((hs.length - 1 : Nat) : Int)) := by
    show some (D.int (max 0 ((hs.length : Int) - 1))) = _
    congr 2; omega
  have mm : dMul (.lst true [.int 0]) (.int ((hs.length - 1 : Nat) : Int)) = some (.lst true ((idle0 hs).map .int)) := by
    show (if _ then _ else _) = _
    rw [if_pos ⟨by omega, by omega, by simp only [List.length_singleton]; exact le_lim (by omega), by simp⟩, Int.toNat_natCast]
    simp [idle0]
  have f4 : sFldSet "Lines" "idle" (vOf (eOp dMul (eLst (esCons (eC (.int 0)) (esNil))) (eBi bMax (esCons (eC (.int 0)) (esCons (eOp dSub (eBi bLen (esCons (eUn (dFld "Lines" "hours") (eVar 0)) (esNil))) (eC (.int 1))) (esNil)))))) (plName 0) [.ow (.ob true "Lines" ["offers", "hours", "places"] [osD os, .lst true (hs.map .int), .dk true (kI hs) (places hs)]), .ow (osD os), .ow (.int 1), .no, .no, .no] = some (.nx, [.ow (.ob true "Lines" ["offers", "hours", "places", "idle"] [osD os, .lst true (hs.map .int), .dk true (kI hs) (places hs), .lst true ((idle0 hs).map .int)]), .ow (osD os), .ow (.int 1), .no, .no, .no]) := by
    simp [sFldSet, plName, getE, getP, updE, modP, mSetF, putFD, eVar, gf2, mx, mm, nf_offers_hours, nf_offers_places, nf_offers_idle, nf_offers_taken, nf_hours_places, nf_hours_idle, nf_hours_taken, nf_places_idle, nf_places_taken, nf_idle_taken, - List.map_map]
  have f5 : sFldSet "Lines" "taken" (vOf (eC (.dk true [] []))) (plName 0) [.ow (.ob true "Lines" ["offers", "hours", "places", "idle"] [osD os, .lst true (hs.map .int), .dk true (kI hs) (places hs), .lst true ((idle0 hs).map .int)]), .ow (osD os), .ow (.int 1), .no, .no, .no] = some (.nx, [.ow (lnD true os hs (idle0 hs) []), .ow (osD os), .ow (.int 1), .no, .no, .no]) := by
    simp [sFldSet, plName, getE, getP, updE, modP, mSetF, putFD, eVar, lnD, lnF, kI, tr, nf_offers_hours, nf_offers_places, nf_offers_idle, nf_offers_taken, nf_hours_places, nf_hours_idle, nf_hours_taken, nf_places_idle, nf_places_taken, nf_idle_taken, - List.map_map]
  have r1 : rng1Of [.int 1] = some [.int 0] := rfl
  have cl := call_lead (a := .ow (osD os)) (b := .ow (.int 1)) (c := .ow (.int 0)) (d := .no) (e := .no) hle
  rw [m_Lines___init___eq]
  unfold b_Lines___init__
  simp only [z_sSeq, f1, f2, f3, f4, f5, Option.bind_some]
  simp [eVar, r1, sForGo, open?, cl, outs]
end K74

set_option maxRecDepth 100000
set_option linter.all false
set_option Elab.async false
namespace K74
open PySem Z
theorem noFzs_all : ∀ {l : List D}, (∀ d ∈ l, noFz d = true) → noFzs l = true
  | [], _ => by simp
  | x :: l, h => by simp [h x List.mem_cons_self, noFzs_all fun d hd => h d (List.mem_cons_of_mem _ hd)]
section
variable {os : List Of} {hs : List Int} (A : Al os hs)
include A
theorem Al.fine2 {f : Fo} {idle tk : List Int} (all : ∀ v, v < hs.length → f v = some (dd f v)) (sat : ∀ s ∈ stepsL os hs (idle0 hs) [], better s f = false) (lo : ∀ v, v < hs.length → -16 ≤ dd f v) (z : dd f 0 = 0) (il : idle.length = hs.length - 1) (ti : tI f idle) (tt : tT os hs f tk) :
    Fine hs.length (fun v => if v < hs.length then dd f v else 0) (stepsL os hs idle tk) := by
  have n0 := A.ne
  refine ⟨A.hrs.len, n0, ?_, ?_, ?_⟩
  · intro v
    split
    · exact lo v (by assumption)
    · omega
  · rw [if_pos n0]; exact z
  · intro s hs'
    rcases mem_steps.mp hs' with ⟨k, hk, rfl | ⟨hp, rfl⟩⟩ | ⟨k, hk, rfl⟩
    · have k1 : k + 1 < hs.length := by omega
      have m : (⟨k, k + 1, 0, "idle", k⟩ : Stp) ∈ stepsL os hs (idle0 hs) [] := mem_steps.mpr (Or.inl ⟨k, by simp [idle0]; omega, Or.inl rfl⟩)
      have := sat_le sat all m (by simp; omega) k1
      refine ⟨by simp; omega, k1, by simp, ?_⟩
      simp only at this ⊢
      rw [if_pos k1, if_pos (by omega)]; exact this
    · have k1 : k + 1 < hs.length := by omega
      have := ti k hk hp
      refine ⟨k1, by simp; omega, by simp, ?_⟩
      simp only
      rw [if_pos k1, if_pos (by omega)]; omega
    · have b1 := A.bgm hk
      have b2 := A.ndm hk
      have p1 := pl_lt b1
      have p2 := pl_lt b2
      rw [A.off hk]
      by_cases q : (k : Int) ∈ tk
      · rw [if_pos q]
        obtain ⟨k', _, e, t⟩ := tt _ q
        have : k' = k := by omega
        subst this
        refine ⟨p2, p1, by simp, ?_⟩
        simp only
        rw [if_pos p1, if_pos p2]; omega
      · rw [if_neg q]
        have m : (⟨hs.idxOf (bg os k), hs.idxOf (nd os k), -1, "take", k⟩ : Stp) ∈ stepsL os hs (idle0 hs) [] := mem_steps.mpr (Or.inr ⟨k, hk, by rw [A.off hk, if_neg (by simp)]⟩)
        have := sat_le sat all m p1 p2
        refine ⟨p1, p2, by simp, ?_⟩
        simp only at this ⊢
        rw [if_pos p1, if_pos p2]; exact this
theorem Al.prices {f : Fo} {idle tk : List Int} (il : idle.length = hs.length - 1) (F : Fine hs.length (fun v => if v < hs.length then dd f v else 0) (stepsL os hs idle tk)) : ∃ l : List Int, m_prices_of [lnD false os hs idle tk] = some (.tup (l.map .int), []) := by
  have n0 := A.ne
  have hl := A.hrs.len
  have ol := A.ok.len
  obtain ⟨g, w, I, sat, ed⟩ := sp_dist (os := os) (hs := hs) (idle := idle) (tk := tk) (by omega) (by omega) A.hm F
  have all := all_set I sat (fun k hk => ⟨⟨k, k + 1, 0, "idle", k⟩, mem_steps.mpr (Or.inl ⟨k, by omega, Or.inl rfl⟩), rfl, rfl⟩)
  have fi : foD hs.length g = ((List.range hs.length).map (dd g)).map .int := by
    unfold foD
    rw [List.map_map]
    apply List.map_congr_left
    intro v hv
    rw [all v (List.mem_range.mp hv)]; rfl
  have ev : ∀ x y z, eVar 0 [.ow (lnD false os hs idle tk), x, y, z] = some (lnD false os hs idle tk) := fun _ _ _ => rfl
  have md := fun x y z => call_dist (E := [.ow (lnD false os hs idle tk), x, y, z]) (ev x y z) ed (by simp)
  have zl : ((hs.length : Int) == 0) = false := by rw [beq_eq_false_iff_ne]; omega
  have nsl : ((List.range hs.length).map (dd g)).length = hs.length := by simp
  have e := lcGo_mapT (bd := bdTup (bdCons (bdName 2) (bdCons (bdName 3) bdNil))) (ge := eOp dSub (eVar 2) (eVar 3)) (e0 := [.ow (lnD false os hs idle tk), .ow (.lst true (((List.range hs.length).map (dd g)).map .int)), .no, .no]) (fun p : Int × Int => .tup [.int p.1, .int p.2])
    (fun p => [.ow (lnD false os hs idle tk), .ow (.lst true (((List.range hs.length).map (dd g)).map .int)), .ow (.int p.1), .ow (.int p.2)]) (fun p => .int (p.1 - p.2)) (((List.range hs.length).map (dd g)).zip ((List.range hs.length).map (dd g)).tail) (fun p _ => by simp [bindSl, eVar])
  generalize hns : (List.range hs.length).map (dd g) = ns at *
  have hl2 : ns.length ≤ lim + 1 := Nat.le_succ_of_le (le_lim (by omega))
  refine ⟨(ns.zip ns.tail).map fun p => p.1 - p.2, ?_⟩
  have zz : isFzs ((ns.zip ns.tail).map fun p => D.int (p.1 - p.2)) = true := isFzs_map _ (fun _ => by simp) _
  simp [m_prices_of_eq, b_prices_of, ev, zl, md, fi, open?, eVar, dSl, isT, ← List.map_tail, zip_pairT, e, hl2, zz]
end
theorem fin_dearest {os : List Of} {hs idle tk pr : List Int} (h : Ok os) (one : ∀ k, k < os.length → (gt os k).2.2 = 1) (m8 : most os ≤ 8) (ei : m_Lines___init__ [.ob true "Lines" [] [], osD os, .int 1] = some (.non, [lnD true os hs idle tk]))
    (ep : m_prices_of [lnD false os hs idle tk] = some (.tup (pr.map .int), [])) (tt : ∀ i ∈ tk, ∃ k, k < os.length ∧ i = (k : Int)) (tl : tk.length = most os) :
    ∃ g p : D, m_dearest [osD os, .int 1] = some (.tup [.int (most os), g, p], []) ∧ noFz g = true ∧ noFz p = true := by
  have c0 := sp_check os h 1 (by omega) (by omega)
  have pm := List.mergeSort_perm tk intLe
  have so : bSorted [.dk true (kI tk) (tr tk)] = some (.lst true ((tk.mergeSort intLe).map .int)) := by
    show (keyInts (kI tk)).bind _ = _
    rw [keyInts_kI, Option.bind_some, if_pos (by omega)]
  generalize hg : tk.mergeSort intLe = g at *
  have gl : g.length = most os := by rw [pm.length_eq, tl]
  have gm : ∀ i ∈ g, ∃ k, k < os.length ∧ i = (k : Int) := by
    intro i hi
    exact tt i (pm.mem_iff.mp hi)
  have l1 : g.length ≤ lim := le_lim (by omega)
  have mk : vMake "Lines" m_Lines___init__ (vsCons (vOf (eFz (eVar 0))) (vsCons (vOf (eFz (eVar 1))) (vsNil))) [.ow (osD os), .ow (.int 1), .no, .no, .no] = some (lnD true os hs idle tk, [.ow (osD os), .ow (.int 1), .no, .no, .no]) := by
    simp [vMake, eVar, ei]
  have e := lcGo_mapT (bd := bdName 4) (ge := eOp dIxF (eOp dItem (eVar 0) (eVar 4)) (eC (.int 2))) (e0 := [.ow (osD os), .ow (.int 1), .ow (lnD true os hs idle tk), .ow (.tup (g.map .int)), .no]) D.int (fun i => [.ow (osD os), .ow (.int 1), .ow (lnD true os hs idle tk), .ow (.tup (g.map .int)), .ow (.int i)]) (fun _ => .int 1) g (fun i hi => by
    obtain ⟨k, hk, rfl⟩ := gm i hi
    have it := item_os hk
    have w1 := one k hk
    refine ⟨by simp, ?_⟩
    show (eOp dIxF _ _ _) = _
    have ev0 : ∀ x y z w, eVar 0 [.ow (osD os), x, y, z, w] = some (osD os) := fun _ _ _ _ => rfl
    have ev4 : ∀ x y z w, eVar 4 [x, y, z, w, .ow (.int (k : Int))] = some (nD k) := fun _ _ _ _ => rfl
    simp [ev0, ev4, it, w1])
  have sm : bSum [.lst true (g.map fun _ => D.int 1)] = some (.int (most os)) := by
    rw [z_sum, intsOf_all (fun _ => 1), Option.bind_some, ← gl]
    have : ∀ l : List Int, (l.map fun _ => (1 : Int)).sum = l.length := by
      intro l
      induction l with
      | nil => rfl
      | cons x l ih => simp only [List.map_cons, List.sum_cons, ih, List.length_cons]; omega
    rw [this]
  have ev2 : ∀ x y z w, eVar 2 [x, y, .ow (lnD true os hs idle tk), z, w] = some (lnD true os hs idle tk) := fun _ _ _ _ => rfl
  have np : noFzs (pr.map D.int) = true := noFzs_ints pr
  refine ⟨.tup (g.map .int), .tup (pr.map .int), ?_, by simp, by simp⟩
  rw [m_dearest_eq]
  unfold b_dearest
  have s1 : sDrop (vOf (eCall m_check_offers (esCons (eVar 0) (esCons (eVar 1) (esNil))))) [.ow (osD os), .ow (.int 1), .no, .no, .no] = some (.nx, [.ow (osD os), .ow (.int 1), .no, .no, .no]) := by simp [eVar, c0]
  have s2 : sSet 2 (vMake "Lines" m_Lines___init__ (vsCons (vOf (eFz (eVar 0))) (vsCons (vOf (eFz (eVar 1))) (vsNil)))) [.ow (osD os), .ow (.int 1), .no, .no, .no] = some (.nx, [.ow (osD os), .ow (.int 1), .ow (lnD true os hs idle tk), .no, .no]) := by
    rw [z_sSet, mk]; simp [open?]
  have s3 : sSet 3 (vOf (eBi bTup (esCons (eBi bSorted (esCons (eUn (dFld "Lines" "taken") (eVar 2)) (esNil))) (esNil)))) [.ow (osD os), .ow (.int 1), .ow (lnD true os hs idle tk), .no, .no] = some (.nx, [.ow (osD os), .ow (.int 1), .ow (lnD true os hs idle tk), .ow (.tup (g.map .int)), .no]) := by
    simp [ev2, so, open?]
  have cp : eCall m_prices_of (esCons (eVar 2) (esNil)) [.ow (osD os), .ow (.int 1), .ow (lnD true os hs idle tk), .ow (.tup (g.map .int)), .no] = some (.tup (pr.map .int)) := by
    simp [ev2, fz_ln, ep]
  have e2 : eLc [4] (eItems (eVar 3)) (bdName 4) (gYes) (eOp dIxF (eOp dItem (eVar 0) (eVar 4)) (eC (.int 2))) [.ow (osD os), .ow (.int 1), .ow (lnD true os hs idle tk), .ow (.tup (g.map .int)), .no] = some (.lst true (g.map fun _ => D.int 1)) := by
    have ev3 : ∀ x y z w, eVar 3 [x, y, z, .ow (.tup (g.map .int)), w] = some (.tup (g.map .int)) := fun _ _ _ _ => rfl
    simp only [z_eLc, z_eItems, ev3, Option.bind_some, z_dItems1, List.length_map, if_pos l1]
    have : wipeE [.ow (osD os), .ow (.int 1), .ow (lnD true os hs idle tk), .ow (.tup (g.map .int)), .no] [4] = [.ow (osD os), .ow (.int 1), .ow (lnD true os hs idle tk), .ow (.tup (g.map .int)), .no] := rfl
    rw [this, e]; rfl
  have vf : vFreeze 3 [.ow (osD os), .ow (.int 1), .ow (lnD true os hs idle tk), .ow (.tup (g.map .int)), .no] = some (.tup (g.map .int), [.ow (osD os), .ow (.int 1), .ow (lnD true os hs idle tk), .ow (.tup (g.map .int)), .no]) := by
    have : fz (.tup (g.map .int)) = .tup (g.map .int) := fz_same _ (by simp)
    simp [vFreeze, open?, this]
  simp only [z_sSeq, s1, s2, s3, Option.bind_some, z_sRet, z_vTup, z_vsCons, z_vOf, z_eBi, z_esCons, e2, z_esNil, sm, vf, cp, z_vsNil, z_fin, z_outs0]

theorem sp_dearest {os : List Of} (h : Ok os) (one : ∀ k, k < os.length → (gt os k).2.2 = 1) :
    ∃ g p : D, m_dearest [osD os, .int 1] = some (.tup [.int (most os), g, p], []) ∧ noFz g = true ∧ noFz p = true := by
  obtain ⟨hs, H, hh⟩ := sp_hours rfl h
  have m8 : most os ≤ 8 := by
    have := apart_len os
    have := h.len
    unfold most; omega
  by_cases ne : 0 < hs.length
  · have A : Al os hs := ⟨h, one, H, ne⟩
    obtain ⟨f, idle, tk, all, sat, lo, z, il, ti, tt, nt, tl, el⟩ := A.lead
    have F2 := A.fine2 all sat lo z il ti tt
    obtain ⟨pr, ep⟩ := A.prices il F2
    have ei := sp_init h (H.up.imp (fun h => Int.ne_of_lt h)) H.len hh el
    exact fin_dearest h one m8 ei ep (fun i hi => by obtain ⟨k, hk, e, _⟩ := tt i hi; exact ⟨k, hk, e⟩) tl
  · have e0 : hs = [] := List.length_eq_zero_iff.mp (by omega)
    subst e0
    have o0 : os = [] := by
      cases os with
      | nil => rfl
      | cons o os => exact absurd ((H.mem o.1).mpr ⟨o, List.mem_cons_self, Or.inl rfl⟩) (by simp)
    subst o0
    have el : m_Lines_lead [lnD true [] [] (idle0 []) []] = some (.non, [lnD true [] [] [] []]) := by
      have ev : ∀ x y z a b c d, eVar 0 [.ow (lnD true [] [] (idle0 []) []), x, y, z, a, b, c, d] = some (lnD true [] [] (idle0 []) []) := fun _ _ _ _ _ _ _ => rfl
      rw [m_Lines_lead_eq]
      simp [b_Lines_lead, ev, outs]
      rfl
    have ep : m_prices_of [lnD false [] [] [] []] = some (.tup (([] : List Int).map .int), []) := by
      have ev : ∀ x y z, eVar 0 [.ow (lnD false [] [] [] []), x, y, z] = some (lnD false [] [] [] []) := fun _ _ _ => rfl
      simp [m_prices_of_eq, b_prices_of, ev]
    have ei := sp_init h List.nodup_nil (by simp) hh el
    exact fin_dearest h one m8 ei ep (fun i hi => nomatch hi) (by simp [most, apart, byEnd, grd])
end K74

set_option maxRecDepth 100000
set_option linter.all false
set_option Elab.async false
namespace K74
open PySem Z
/-! fewest benches: each offer, by begin, to the first bench that is free -/
def t3 (os : List Of) (k : Nat) : D := .tup [.int (bg os k), .int (nd os k), nD k]
@[simp] theorem isFz_t3 (os : List Of) (k : Nat) : isFz (t3 os k) = true := by simp [t3]
def le3 (os : List Of) (a b : Nat) : Bool := dLeq (t3 os a) (t3 os b)
theorem srt_t3 {o : Bool} (os : List Of) (l : List Nat) (h : l.length ≤ 1000) : bSorted [.lst o (l.map (t3 os))] = some (.lst true ((l.mergeSort (le3 os)).map (t3 os))) := by
  have s : srtOk (l.map (t3 os)) = true := srtOk_map _ (fun _ => by simp) (fun _ => rfl) (fun _ _ => by simp [t3, nD, dPy, dPys, PySem.W.alike, PySem.W.alikeAll]) (Or.inl fun _ => rfl) (fun _ => by simp [t3, nD, dPy, dPys, PyData.depth, PyData.depthAll]) l
  rw [z_srt, s, List.length_map, if_pos (by simp; exact le_lim h), mergeSort_map (t3 os) dLeq (le3 os) (fun _ _ => rfl)]
def byBeg (os : List Of) : List Nat := (List.range os.length).mergeSort (le3 os)
theorem byBeg_perm (os : List Of) : (byBeg os).Perm (List.range os.length) := List.mergeSort_perm _ _
abbrev Asg := List (Nat × Nat)
def asK (as : Asg) : List Int := as.map fun p => (p.1 : Int)
def asV (as : Asg) : List D := as.map fun p => nD p.2
def freeL (e : List Int) (b : Int) : List Nat := (e.zipIdx.filter fun p => decide (p.1 ≤ b)).map (·.2)
def putB (os : List Of) (st : List Int × Asg) (k : Nat) : List Int × Asg := match freeL st.1 (bg os k) with
  | j :: _ => (st.1.set j (nd os k), st.2 ++ [(k, j)])
  | [] => (st.1 ++ [nd os k], st.2 ++ [(k, st.1.length)])
def fbS (os : List Of) (st : List Int × Asg) (a b c d : Sl) : En := [.ow (osD os), .ow (.lst true (st.1.map .int)), .ow (.dk true (kI (asK st.2)) (asV st.2)), a, b, c, d, .no, .no, .no, .no, .no, .no]
def bdy_fb : SF := (sSeq (sSet 6 (vOf (eLc [10, 11] (eEnum (esCons (eVar 1) (esNil))) (bdTup (bdCons (bdName 10) (bdCons (bdName 11) (bdNil)))) (tBl (eOp dLe (eVar 11) (eVar 3))) (eFz (eVar 10))))) (sSeq (sIf (tBl (eOp dGt (eBi bLen (esCons (eVar 6) (esNil))) (eC (.int 0)))) (sSeq (sAsg (vOf (eOp dIxF (eVar 6) (eC (.int 0)))) (bSub (plName 2) (eVar 5) mSetD)) (sSeq (sAsg (vOf (eFz (eVar 4))) (bSub (plName 1) (eOp dItem (eVar 6) (eC (.int 0))) mSetL)) (sNil))) (sSeq (sAsg (vOf (eBi bLen (esCons (eVar 1) (esNil)))) (bSub (plName 2) (eVar 5) mSetD)) (sSeq (sDrop (vMeth "list" 1 mAppend (vsCons (vOf (eFz (eVar 4))) (vsNil)))) (sNil)))) (sNil)))
theorem asg_put {as : Asg} {k j : Nat} (h : (k : Int) ∉ asK as) : putD (Sum.inl (k : Int) : L2.Key) (nD j) (kI (asK as)) (asV as) = some (kI (asK (as ++ [(k, j)])), asV (as ++ [(k, j)])) := by
  unfold putD
  have m : (Sum.inl (k : Int) : L2.Key) ∈ kI (asK as) ↔ (k : Int) ∈ asK as := by
    unfold kI
    simp
  rw [if_neg (fun q => h (m.mp q))]
  simp [kI, asK, asV]
theorem fb_body (os : List Of) (st : List Int × Asg) (k : Nat) (d : Sl) (od : opn d) (h1 : (k : Int) ∉ asK st.2) (h2 : st.1.length ≤ 900) (h3 : st.2.length ≤ 900) :
    ∃ d', opn d' ∧ bdy_fb (fbS os st (.ow (.int (bg os k))) (.ow (.int (nd os k))) (.ow (nD k)) d) = some (.nx, fbS os (putB os st k) (.ow (.int (bg os k))) (.ow (.int (nd os k))) (.ow (nD k)) d') := by
  obtain ⟨e, as⟩ := st
  simp only at h1 h2 h3
  refine ⟨.ow (.lst true ((freeL e (bg os k)).map nD)), Or.inr ⟨_, rfl⟩, ?_⟩
  have l1 : e.length ≤ lim := le_lim (by omega)
  have l2 : e.length < lim := Nat.lt_of_le_of_lt h2 (by decide)
  have l3 : (kI (asK as)).length < lim := by simp [kI, asK]; exact Nat.lt_of_le_of_lt h3 (by decide)
  have ne := num_mapN D.int e
  have ec := lcGo_map (β := Unit) (bd := bdTup (bdCons (bdName 10) (bdCons (bdName 11) (bdNil)))) (gt := tBl (eOp dLe (eVar 11) (eVar 3))) (ge := eFz (eVar 10)) (e0 := fbS os (e, as) (.ow (.int (bg os k))) (.ow (.int (nd os k))) (.ow (nD k)) d)
    (fun p : Int × Nat => .tup [nD p.2, .int p.1]) (fun p => [.ow (osD os), .ow (.lst true (e.map .int)), .ow (.dk true (kI (asK as)) (asV as)), .ow (.int (bg os k)), .ow (.int (nd os k)), .ow (nD k), d, .no, .no, .no, .ow (nD p.2), .ow (.int p.1), .no]) (fun p => decide (p.1 ≤ bg os k)) (fun p => nD p.2) e.zipIdx (fun p _ => by
      refine ⟨by simp [fbS], ?_, fun _ => by simp [eVar]⟩
      simp [eVar])
  have fe : (e.zipIdx.filter fun p => decide (p.1 ≤ bg os k)).map (fun p => nD p.2) = (freeL e (bg os k)).map nD := by simp [freeL]
  rw [fe] at ec
  have s1 : sSet 6 (vOf (eLc [10, 11] (eEnum (esCons (eVar 1) (esNil))) (bdTup (bdCons (bdName 10) (bdCons (bdName 11) (bdNil)))) (tBl (eOp dLe (eVar 11) (eVar 3))) (eFz (eVar 10)))) (fbS os (e, as) (.ow (.int (bg os k))) (.ow (.int (nd os k))) (.ow (nD k)) d) = some (.nx, fbS os (e, as) (.ow (.int (bg os k))) (.ow (.int (nd os k))) (.ow (nD k)) (.ow (.lst true ((freeL e (bg os k)).map nD)))) := by
    have ev1 : eVar 1 (fbS os (e, as) (.ow (.int (bg os k))) (.ow (.int (nd os k))) (.ow (nD k)) d) = some (.lst true (e.map .int)) := rfl
    have wi : wipeE (fbS os (e, as) (.ow (.int (bg os k))) (.ow (.int (nd os k))) (.ow (nD k)) d) [10, 11] = fbS os (e, as) (.ow (.int (bg os k))) (.ow (.int (nd os k))) (.ow (nD k)) d := rfl
    have op : open? (fbS os (e, as) (.ow (.int (bg os k))) (.ow (.int (nd os k))) (.ow (nD k)) d) 6 = true := by rcases od with rfl | ⟨_, rfl⟩ <;> rfl
    have nl : (List.map pairT (numbered (List.map D.int e))).length ≤ lim := by rw [ne]; simpa using l1
    simp only [z_sSet, z_vOf, z_eLc, z_eEnum, z_esCons, ev1, z_esNil, Option.bind_some, z_dItems2, if_pos nl, wi]
    rw [ne, ec, Option.bind_some, Option.bind_some, Option.bind_some, if_pos op]; rfl
  unfold bdy_fb
  rw [z_sSeq, s1, Option.bind_some]
  cases q : freeL e (bg os k) with
  | nil =>
    have pb : putB os (e, as) k = (e ++ [nd os k], as ++ [(k, e.length)]) := by simp only [putB, q]
    have ap := asg_put (j := e.length) h1
    rw [pb]
    simp [fbS, eVar, bSub, plName, getE, getP, updE, modP, mSetD, keyD, nD, vMeth, isTy, mAppend, l2, l3]
    simp only [nD] at ap
    simp [ap, l2]
  | cons j r =>
    have jl : j < e.length := by
      have : j ∈ freeL e (bg os k) := by rw [q]; exact List.mem_cons_self
      unfold freeL at this
      obtain ⟨p, hp, rfl⟩ := List.mem_map.mp this
      have := (List.mem_zipIdx (List.mem_filter.mp hp).1).2.1
      omega
    have pb : putB os (e, as) k = (e.set j (nd os k), as ++ [(k, j)]) := by simp only [putB, q]
    have ap := asg_put (j := j) h1
    have ix := ixN_nat jl
    have st : (e.map D.int).set j (.int (nd os k)) = (e.set j (nd os k)).map D.int := by rw [List.map_set]
    rw [pb]
    simp [fbS, eVar, bSub, plName, getE, getP, updE, modP, mSetD, mSetL, keyD, nD, l3, - List.map_set]
    simp only [nD] at ap
    simp [ap, ix, st, getP, modP, mSetL, - List.map_set]
theorem fb_loop (os : List Of) : ∀ (ks : List Nat) (st : List Int × Asg) (a b c d : Sl), opn a → opn b → opn c → opn d → (asK st.2 ++ ks.map fun k : Nat => (k : Int)).Nodup → st.1.length + ks.length ≤ 900 → st.2.length + ks.length ≤ 900 →
    ∃ a' b' c' d', sForGo (bdTup (bdCons (boName 3) (bdCons (boName 4) (bdCons (boName 5) (bdNil))))) bdy_fb (ks.map (t3 os)) (fbS os st a b c d) = some (.nx, fbS os (ks.foldl (putB os) st) a' b' c' d')
  | [], st, a, b, c, d, _, _, _, _, _, _, _ => ⟨a, b, c, d, by simp [sForGo]⟩
  | k :: ks, st, a, b, c, d, oa, ob, oc, od, hn, h1, h2 => by
    have kn : (k : Int) ∉ asK st.2 := by
      rw [List.nodup_append] at hn
      intro q
      exact hn.2.2 _ q _ List.mem_cons_self rfl
    obtain ⟨d1, od1, e1⟩ := fb_body os st k d od kn (by simp at h1; omega) (by simp at h2; omega)
    have hbd : bdTup (bdCons (boName 3) (bdCons (boName 4) (bdCons (boName 5) (bdNil)))) (t3 os k) (fbS os st a b c d) = some (fbS os st (.ow (.int (bg os k))) (.ow (.int (nd os k))) (.ow (nD k)) d) := by
      rcases oa with rfl | ⟨_, rfl⟩ <;> rcases ob with rfl | ⟨_, rfl⟩ <;> rcases oc with rfl | ⟨_, rfl⟩ <;> rfl
    have pk : asK (putB os st k).2 = asK st.2 ++ [(k : Int)] ∧ (putB os st k).1.length ≤ st.1.length + 1 ∧ (putB os st k).2.length = st.2.length + 1 := by
      unfold putB
      split <;> simp [asK]
    obtain ⟨a', b', c', d', e⟩ := fb_loop os ks (putB os st k) (.ow (.int (bg os k))) (.ow (.int (nd os k))) (.ow (nD k)) d1 (Or.inr ⟨_, rfl⟩) (Or.inr ⟨_, rfl⟩) (Or.inr ⟨_, rfl⟩) od1 (by rw [pk.1]; simpa using hn) (by simp at h1; omega) (by simp at h2; omega)
    exact ⟨a', b', c', d', by rw [List.map_cons, forGo_nx (by simp) hbd e1, e]; rfl⟩
end K74

set_option maxRecDepth 100000
set_option linter.all false
set_option Elab.async false
namespace K74
open PySem Z
structure FB (os : List Of) (st : List Int × Asg) : Prop where
  in_ : ∀ p ∈ st.2, ∃ h : p.2 < st.1.length, nd os p.1 ≤ st.1[p.2]
  sep : st.2.Pairwise fun p q => p.2 = q.2 → nd os p.1 ≤ bg os q.1
  le : st.1.length ≤ st.2.length
theorem putB_inv {os : List Of} {st : List Int × Asg} {k : Nat} (hv : bg os k < nd os k) (F : FB os st) : FB os (putB os st k) := by
  obtain ⟨e, as⟩ := st
  obtain ⟨f1, f2, f3⟩ := F
  simp only at f1 f2 f3
  unfold putB
  cases q : freeL e (bg os k) with
  | nil =>
    refine ⟨?_, ?_, by simp; omega⟩
    · intro p hp
      rcases List.mem_append.mp hp with hp | hp
      · obtain ⟨h, h2⟩ := f1 p hp
        refine ⟨by simp; omega, ?_⟩
        simp only
        rw [List.getElem_append_left h]; exact h2
      · rw [List.mem_singleton.mp hp]
        refine ⟨by simp, ?_⟩
        simp
    · rw [List.pairwise_append]
      refine ⟨f2, List.pairwise_singleton _ _, ?_⟩
      intro p hp r hr e'
      rw [List.mem_singleton.mp hr] at e'
      obtain ⟨h, _⟩ := f1 p hp
      simp only at e'
      omega
  | cons j r =>
    have jl : ∃ h : j < e.length, e[j] ≤ bg os k := by
      have : j ∈ freeL e (bg os k) := by rw [q]; exact List.mem_cons_self
      unfold freeL at this
      obtain ⟨⟨x, i⟩, hp, rfl⟩ := List.mem_map.mp this
      have hm := List.mem_filter.mp hp
      obtain ⟨hi, e'⟩ := List.getElem?_eq_some_iff.mp (List.mk_mem_zipIdx_iff_getElem?.mp hm.1)
      exact ⟨hi, by rw [e']; simpa using hm.2⟩
    obtain ⟨jl, je⟩ := jl
    refine ⟨?_, ?_, by simp; omega⟩
    · intro p hp
      simp only at hp ⊢
      rcases List.mem_append.mp hp with hp | hp
      · obtain ⟨h, h2⟩ := f1 p hp
        refine ⟨by simpa using h, ?_⟩
        by_cases e' : j = p.2
        · subst e'
          rw [List.getElem_set_self]
          omega
        · rw [List.getElem_set_ne e']; exact h2
      · rw [List.mem_singleton.mp hp]
        refine ⟨by simpa using jl, ?_⟩
        rw [List.getElem_set_self]; exact Int.le_refl _
    · rw [List.pairwise_append]
      refine ⟨f2, List.pairwise_singleton _ _, ?_⟩
      intro p hp r hr e'
      rw [List.mem_singleton.mp hr] at e' ⊢
      obtain ⟨h, h2⟩ := f1 p hp
      simp only at e' ⊢
      subst e'
      omega
theorem fold_inv {os : List Of} : ∀ (ks : List Nat) (st : List Int × Asg), (∀ k ∈ ks, bg os k < nd os k) → FB os st → FB os (ks.foldl (putB os) st)
  | [], st, _, F => F
  | k :: ks, st, h, F => fold_inv ks _ (fun j hj => h j (List.mem_cons_of_mem _ hj)) (putB_inv (h k List.mem_cons_self) F)
theorem fold_keys {os : List Of} : ∀ (ks : List Nat) (st : List Int × Asg), (ks.foldl (putB os) st).2.map (·.1) = st.2.map (·.1) ++ ks
  | [], st => by simp
  | k :: ks, st => by
    rw [List.foldl_cons, fold_keys ks]
    have : (putB os st k).2.map (·.1) = st.2.map (·.1) ++ [k] := by
      unfold putB
      split <;> simp
    rw [this]; simp
def bn : Asg → Nat → Nat
  | [], _ => 0
  | p :: as, k => if p.1 = k then p.2 else bn as k
theorem get_bn : ∀ (as : Asg) (k : Nat), k ∈ as.map (·.1) → getK (kI (asK as)) (asV as) (Sum.inl (k : Int)) = some (nD (bn as k))
  | [], k, h => nomatch h
  | p :: as, k, h => by
    simp only [kI, asK, asV, List.map_cons, getK, bn]
    by_cases q : p.1 = k
    · subst q; simp
    · have : ¬ ((Sum.inl ((p.1 : Nat) : Int) : L2.Key) = Sum.inl (k : Int)) := by simp; omega
      rw [if_neg this, if_neg q]
      refine get_bn as k ?_
      simp at h ⊢
      rcases h with h | h
      · exact absurd h.symm q
      · exact h
theorem sp_fewest {os : List Of} (h : Ok os) : ∃ (st : List Int × Asg) (x y : D), FB os st ∧ (st.2.map (·.1)).Perm (List.range os.length) ∧ m_fewest_benches [osD os] = some (.tup [.int st.1.length, x, y], []) ∧ noFz x = true ∧ noFz y = true := by
  have hl := h.len
  have c0 := sp_check os h 1 (by omega) (by omega)
  obtain ⟨hs, H, eh⟩ := sp_hours (c := osD os) rfl h
  have hl2 := H.len
  have bl : (byBeg os).length = os.length := by rw [(byBeg_perm os).length_eq]; simp
  have bnd : (byBeg os).Nodup := (byBeg_perm os).nodup_iff.mpr List.nodup_range
  obtain ⟨a', b', c', d', el⟩ := fb_loop os (byBeg os) ([], []) .no .no .no .no (Or.inl rfl) (Or.inl rfl) (Or.inl rfl) (Or.inl rfl) (by
    show (([] : List Int) ++ _).Nodup
    rw [List.nil_append]
    exact List.Pairwise.map _ (fun a b hab => by omega) bnd) (by simp; omega) (by simp; omega)
  have F : FB os ((byBeg os).foldl (putB os) ([], [])) := fold_inv _ _ (fun k hk => h.valid k (by simpa using (byBeg_perm os).mem_iff.mp hk)) ⟨(fun p hp => by cases hp), List.Pairwise.nil, by simp⟩
  have K := fold_keys (os := os) (byBeg os) ([], [])
  generalize hst : (byBeg os).foldl (putB os) ([], []) = st at *
  obtain ⟨e, as⟩ := st
  simp only [List.map_nil, List.nil_append] at K
  have kp : (as.map (·.1)).Perm (List.range os.length) := by rw [K]; exact byBeg_perm os
  have el' : sForGo (bdTup (bdCons (boName 3) (bdCons (boName 4) (bdCons (boName 5) (bdNil))))) bdy_fb ((byBeg os).map (t3 os)) [.ow (osD os), .ow (.lst true []), .ow (.dk true [] []), .no, .no, .no, .no, .no, .no, .no, .no, .no, .no] = some (.nx, fbS os (e, as) a' b' c' d') := el
  have l1 : os.length ≤ lim := le_lim (by omega)
  have no := num_mapN oD os
  have tz : os.zipIdx.map (fun p => D.tup [.int p.1.1, .int p.1.2.1, nD p.2]) = (List.range os.length).map (t3 os) := by
    apply List.ext_getElem
    · simp
    · intro i h1 h2
      have hi : i < os.length := by simpa using h1
      simp [t3, bg, nd, gt, List.getD_eq_getElem?_getD, hi]
  have e1 := lcGo_mapT (bd := bdTup (bdCons (bdName 5) (bdCons (bdName 9) (bdNil)))) (ge := eTup (esCons (eOp dIxF (eVar 9) (eC (.int 0))) (esCons (eOp dIxF (eVar 9) (eC (.int 1))) (esCons (eFz (eVar 5)) (esNil))))) (e0 := [.ow (osD os), .ow (.lst true []), .ow (.dk true [] []), .no, .no, .no, .no, .no, .no, .no, .no, .no, .no])
    (fun p : Of × Nat => .tup [nD p.2, oD p.1]) (fun p => [.ow (osD os), .ow (.lst true []), .ow (.dk true [] []), .no, .no, .ow (nD p.2), .no, .no, .no, .ow (oD p.1), .no, .no, .no]) (fun p => .tup [.int p.1.1, .int p.1.2.1, nD p.2]) os.zipIdx (fun p _ => by simp [eVar])
  rw [tz] at e1
  have so := srt_t3 (o := true) os (List.range os.length) (by simp; omega)
  have so' : bSorted [.lst true ((List.range os.length).map (t3 os))] = some (.lst true ((byBeg os).map (t3 os))) := so
  have rg : rng1Of [.int (os.length : Int)] = some ((List.range os.length).map nD) := rng_n os.length (by omega)
  have sm : ∀ hh : Int, m_many_at [osD os, gD (List.range os.length), .int hh] = some (.int (cnt os (List.range os.length) hh : Nat), []) := fun hh => sp_many os _ hh (fun k hk => List.mem_range.mp hk) (by simp; omega)
  have e2 := lcGo_map (β := Unit) (bd := bdName 12) (gt := tBl (eOp dEq (eCall m_many_at (esCons (eVar 0) (esCons (eVar 7) (esCons (eVar 12) (esNil))))) (eBi bLen (esCons (eVar 1) (esNil))))) (ge := eFz (eVar 12)) (e0 := [.ow (osD os), .ow (.lst true (e.map .int)), .ow (.dk true (kI (asK as)) (asV as)), a', b', c', d', .ow (gD (List.range os.length)), .no, .no, .no, .no, .no])
    D.int (fun i => [.ow (osD os), .ow (.lst true (e.map .int)), .ow (.dk true (kI (asK as)) (asV as)), a', b', c', d', .ow (gD (List.range os.length)), .no, .no, .no, .no, .ow (.int i)]) (fun i => ((cnt os (List.range os.length) i : Nat) : Int) == (e.length : Int)) (fun i => .int i) hs (fun i _ => by
      refine ⟨by simp, ?_, fun _ => by simp [eVar]⟩
      simp [eVar, sm])
  generalize hfs : hs.filter (fun i => ((cnt os (List.range os.length) i : Nat) : Int) == (e.length : Int)) = fs at e2
  have fl : fs.length ≤ 16 := by rw [← hfs]; have := List.length_filter_le (fun i => ((cnt os (List.range os.length) i : Nat) : Int) == (e.length : Int)) hs; omega
  have gk : ∀ k, k < os.length → dItem (.dk true (kI (asK as)) (asV as)) (nD k) = some (nD (bn as k)) := by
    intro k hk
    show (keyD (.int (k : Int))).bind _ = _
    exact get_bn as k (kp.mem_iff.mpr (List.mem_range.mpr hk))
  have e3 := lcGo_mapT (bd := bdName 5) (ge := eOp dIxF (eVar 2) (eVar 5)) (e0 := [.ow (osD os), .ow (.lst true (e.map .int)), .ow (.dk true (kI (asK as)) (asV as)), a', b', .no, d', .ow (gD (List.range os.length)), .ow (.lst true (fs.map .int)), .no, .no, .no, .no])
    nD (fun k => [.ow (osD os), .ow (.lst true (e.map .int)), .ow (.dk true (kI (asK as)) (asV as)), a', b', .ow (nD k), d', .ow (gD (List.range os.length)), .ow (.lst true (fs.map .int)), .no, .no, .no, .no]) (fun k => nD (bn as k)) (List.range os.length) (fun k hk => by simp [eVar, gk k (List.mem_range.mp hk)])
  refine ⟨(e, as), .tup ((List.range os.length).map fun k => nD (bn as k)), .int (fs.headD 0), F, kp, ?_, ?_, by simp⟩
  · rw [m_fewest_benches_eq]
    show fin [] (sSeq _ (sSeq _ (sSeq (sFor _ _ bdy_fb) _)) _) = _
    have zz : isFzs ((List.range os.length).map fun k => nD (bn as k)) = true := isFzs_map _ (fun _ => by simp) _
    have ig : dItems (gD (List.range os.length)) = some ((List.range os.length).map nD) := rfl
    have lr : (List.range os.length).length ≤ lim := by simpa using l1
    have hl3 : hs.length ≤ lim := le_lim (by omega)
    have t1 : sDrop (vOf (eCall m_check_offers (esCons (eVar 0) (esCons (eC (.int 1)) (esNil))))) [.ow (osD os), .no, .no, .no, .no, .no, .no, .no, .no, .no, .no, .no, .no] = some (.nx, [.ow (osD os), .no, .no, .no, .no, .no, .no, .no, .no, .no, .no, .no, .no]) := by simp [eVar, c0]
    have t2 : sAsg (vOf (eTup (esCons (eLst (esNil)) (esCons (eC (.dk true [] [])) (esNil))))) (bdTup (bdCons (boName 1) (bdCons (boName 2) (bdNil)))) [.ow (osD os), .no, .no, .no, .no, .no, .no, .no, .no, .no, .no, .no, .no] = some (.nx, [.ow (osD os), .ow (.lst true []), .ow (.dk true [] []), .no, .no, .no, .no, .no, .no, .no, .no, .no, .no]) := rfl
    rw [z_sSeq, t1, Option.bind_some]
    simp only []
    rw [z_sSeq, t2, Option.bind_some]
    simp only []
    have ev0 : ∀ E, eVar 0 (.ow (osD os) :: E) = some (osD os) := fun _ => rfl
    have wi : wipeE [.ow (osD os), .ow (.lst true []), .ow (.dk true [] []), .no, .no, .no, .no, .no, .no, .no, .no, .no, .no] [5, 9] = [.ow (osD os), .ow (.lst true []), .ow (.dk true [] []), .no, .no, .no, .no, .no, .no, .no, .no, .no, .no] := rfl
    have nl : (os.zipIdx.map fun p => D.tup [nD p.2, oD p.1]).length ≤ lim := by simpa using l1
    have wi2 : wipeE [.ow (osD os), .ow (.lst true (e.map .int)), .ow (.dk true (kI (asK as)) (asV as)), a', b', c', d', .ow (gD (List.range os.length)), .no, .no, .no, .no, .no] [12] = [.ow (osD os), .ow (.lst true (e.map .int)), .ow (.dk true (kI (asK as)) (asV as)), a', b', c', d', .ow (gD (List.range os.length)), .no, .no, .no, .no, .no] := rfl
    have wi3 : wipeE [.ow (osD os), .ow (.lst true (e.map .int)), .ow (.dk true (kI (asK as)) (asV as)), a', b', c', d', .ow (gD (List.range os.length)), .ow (.lst true (fs.map .int)), .no, .no, .no, .no] [5] = [.ow (osD os), .ow (.lst true (e.map .int)), .ow (.dk true (kI (asK as)) (asV as)), a', b', .no, d', .ow (gD (List.range os.length)), .ow (.lst true (fs.map .int)), .no, .no, .no, .no] := rfl
    have lp : (eItems (eBi bSorted (esCons (eLc [5, 9] (eEnum (esCons (eVar 0) (esNil))) (bdTup (bdCons (bdName 5) (bdCons (bdName 9) (bdNil)))) (gYes) (eTup (esCons (eOp dIxF (eVar 9) (eC (.int 0))) (esCons (eOp dIxF (eVar 9) (eC (.int 1))) (esCons (eFz (eVar 5)) (esNil)))))) (esNil)))) [.ow (osD os), .ow (.lst true []), .ow (.dk true [] []), .no, .no, .no, .no, .no, .no, .no, .no, .no, .no] = some ((byBeg os).map (t3 os)) := by
      simp only [z_eItems, z_eBi, z_esCons, z_eLc, z_eEnum, ev0, z_esNil, Option.bind_some, dItems_os, wi]
      rw [no, if_pos nl, e1]
      simp only [Option.bind_some, so', z_dItems2]
    simp only [z_sSeq, z_sFor, z_iOf, lp, Option.bind_some, el']
    have t4 : sSet 7 (vOf (eRgT rng1Of (esCons (eBi bLen (esCons (eVar 0) (esNil))) esNil))) (fbS os (e, as) a' b' c' d') = some (.nx, [.ow (osD os), .ow (.lst true (e.map .int)), .ow (.dk true (kI (asK as)) (asV as)), a', b', c', d', .ow (gD (List.range os.length)), .no, .no, .no, .no, .no]) := by
      simp [fbS, eVar, rg, open?, gD]
    have hr : eCall m_hours_of (esCons (eVar 0) (esNil)) [.ow (osD os), .ow (.lst true (e.map .int)), .ow (.dk true (kI (asK as)) (asV as)), a', b', c', d', .ow (gD (List.range os.length)), .no, .no, .no, .no, .no] = some (.lst true (hs.map .int)) := by
      have nz : noFzs (hs.map D.int) = true := noFzs_ints hs
      simp [eVar, eh, nz]
    have t5 : sSet 8 (vOf (eLc [12] (eItems (eCall m_hours_of (esCons (eVar 0) (esNil)))) (bdName 12) (tBl (eOp dEq (eCall m_many_at (esCons (eVar 0) (esCons (eVar 7) (esCons (eVar 12) (esNil))))) (eBi bLen (esCons (eVar 1) (esNil))))) (eFz (eVar 12)))) [.ow (osD os), .ow (.lst true (e.map .int)), .ow (.dk true (kI (asK as)) (asV as)), a', b', c', d', .ow (gD (List.range os.length)), .no, .no, .no, .no, .no] = some (.nx, [.ow (osD os), .ow (.lst true (e.map .int)), .ow (.dk true (kI (asK as)) (asV as)), a', b', c', d', .ow (gD (List.range os.length)), .ow (.lst true (fs.map .int)), .no, .no, .no, .no]) := by
      have hl4 : (hs.map D.int).length ≤ lim := by simpa using hl3
      simp only [z_sSet, z_vOf, z_eLc, z_eItems, hr, Option.bind_some, z_dItems2, if_pos hl4, wi2, e2]
      rfl
    rw [t4, Option.bind_some]
    simp only []
    rw [t5, Option.bind_some]
    have ev7 : eVar 7 [.ow (osD os), .ow (.lst true (e.map .int)), .ow (.dk true (kI (asK as)) (asV as)), a', b', c', d', .ow (gD (List.range os.length)), .ow (.lst true (fs.map .int)), .no, .no, .no, .no] = some (gD (List.range os.length)) := rfl
    have lr2 : ((List.range os.length).map nD).length ≤ lim := by simpa using l1
    have t6 : eLc [5] (eItems (eVar 7)) (bdName 5) (gYes) (eOp dIxF (eVar 2) (eVar 5)) [.ow (osD os), .ow (.lst true (e.map .int)), .ow (.dk true (kI (asK as)) (asV as)), a', b', c', d', .ow (gD (List.range os.length)), .ow (.lst true (fs.map .int)), .no, .no, .no, .no] = some (.lst true ((List.range os.length).map fun k => nD (bn as k))) := by
      simp only [z_eLc, z_eItems, ev7, Option.bind_some, ig, if_pos lr2, wi3, e3]
    have t7 : eIf (tBl (eOp dGt (eBi bLen (esCons (eVar 8) (esNil))) (eC (.int 0)))) (eOp dIxF (eVar 8) (eC (.int 0))) (eC (.int 0)) [.ow (osD os), .ow (.lst true (e.map .int)), .ow (.dk true (kI (asK as)) (asV as)), a', b', c', d', .ow (gD (List.range os.length)), .ow (.lst true (fs.map .int)), .no, .no, .no, .no] = some (.int (fs.headD 0)) := by
      cases fs with
      | nil => simp [eVar]
      | cons x fs =>
        simp [eVar]
    have t8 : eBi bLen (esCons (eVar 1) (esNil)) [.ow (osD os), .ow (.lst true (e.map .int)), .ow (.dk true (kI (asK as)) (asV as)), a', b', c', d', .ow (gD (List.range os.length)), .ow (.lst true (fs.map .int)), .no, .no, .no, .no] = some (.int e.length) := by simp [eVar]
    simp only [z_sRet, z_vOf, z_eTup, z_esCons, t8, z_eBi, t6, t7, z_esNil, Option.bind_some, z_tupL, if_pos zz]
    rfl
  · simp
    exact noFzs_all (by
      intro d hd
      obtain ⟨k, _, rfl⟩ := List.mem_map.mp hd
      simp [nD])

/-! what it shows -/
theorem below_len : ∀ (m : Nat) (l : List Nat), l.Nodup → (∀ x ∈ l, x < m) → l.length ≤ m
  | 0, [], _, _ => Nat.le_refl _
  | 0, x :: l, _, h => by have := h x List.mem_cons_self; omega
  | m + 1, l, n, h => by
    have ih := below_len m (l.erase m) (n.erase m) (fun x hx => by
      have h1 := (n.mem_erase_iff).mp hx
      have h2 := h x h1.2
      have h3 := h1.1
      omega)
    have : l.length ≤ (l.erase m).length + 1 := by
      rw [List.length_erase]; split <;> omega
    omega
theorem fewest_fit {os : List Of} {st : List Int × Asg} (F : FB os st) (kp : (st.2.map (·.1)).Perm (List.range os.length)) (h : Int) : cnt os (List.range os.length) h ≤ st.1.length := by
  obtain ⟨e, as⟩ := st
  have e1 : cnt os (List.range os.length) h = ((as.filter fun p => inn os h p.1).map (·.2)).length := by
    unfold cnt
    rw [← (kp.filter _).length_eq, List.filter_map]
    simp [Function.comp_def]
  rw [e1]
  refine below_len _ _ ?_ ?_
  · refine List.Pairwise.map _ ?_ ((F.sep.filter _).and (List.pairwise_of_forall_mem_list (r := fun p q => inn os h p.1 = true ∧ inn os h q.1 = true) (fun p hp q hq => ⟨(List.mem_filter.mp hp).2, (List.mem_filter.mp hq).2⟩)))
    intro p q ⟨h1, h2, h3⟩ e'
    have := h1 e'
    simp only [inn, Bool.and_eq_true, decide_eq_true_eq] at h2 h3
    omega
  · intro j hj
    obtain ⟨p, hp, rfl⟩ := List.mem_map.mp hj
    obtain ⟨h, _⟩ := F.in_ p (List.mem_filter.mp hp).1
    exact h
theorem shared : ∀ (m c : Nat) (as : Asg), (∀ p ∈ as, p.2 < m) → (∀ j, (as.filter fun p => p.2 == j).length ≤ c) → as.length ≤ c * m
  | 0, c, [], _, _ => by simp
  | 0, c, x :: l, h, _ => by have := h x List.mem_cons_self; omega
  | m + 1, c, as, h, hc => by
    have ih := shared m c (as.filter fun p => !(p.2 == m)) (fun p hp => by
      have h1 := List.mem_filter.mp hp
      have h2 := h p h1.1
      have h3 := h1.2
      simp at h3
      omega) (fun j => by
      refine Nat.le_trans ?_ (hc j)
      exact ((List.filter_sublist (l := as) (p := fun p => !(p.2 == m))).filter _).length_le)
    have h2 := hc m
    have h3 : as.length = (as.filter fun p => p.2 == m).length + (as.filter fun p => !(p.2 == m)).length := by
      have : ∀ l : Asg, l.length = (l.filter fun p => p.2 == m).length + (l.filter fun p => !(p.2 == m)).length := by
        intro l
        induction l with
        | nil => rfl
        | cons x l ih =>
          rw [List.filter_cons, List.filter_cons]
          cases x.2 == m <;> simp <;> omega
      exact this as
    rw [Nat.mul_succ]; omega
theorem fewest_most {os : List Of} (hv : valid os) {st : List Int × Asg} (F : FB os st) (kp : (st.2.map (·.1)).Perm (List.range os.length)) : os.length ≤ most os * st.1.length := by
  obtain ⟨e, as⟩ := st
  have l1 : as.length = os.length := by have := kp.length_eq; simpa using this
  rw [← l1]
  refine shared _ _ as (fun p hp => (F.in_ p hp).1) ?_
  intro j
  have kl : ∀ p ∈ as, p.1 < os.length := fun p hp => List.mem_range.mp (kp.mem_iff.mp (List.mem_map_of_mem (f := fun p : Nat × Nat => p.1) hp))
  have := le_most hv (g := (as.filter fun p => p.2 == j).map (·.1)) (fun k hk => by
    obtain ⟨p, hp, rfl⟩ := List.mem_map.mp hk
    exact kl p (List.mem_filter.mp hp).1) (by
    rw [lawApart_iff, List.pairwise_map]
    refine List.Pairwise.imp_of_mem ?_ (F.sep.filter _)
    intro p q hp hq h
    have h1 := (List.mem_filter.mp hp).2
    have h2 := (List.mem_filter.mp hq).2
    simp at h1 h2
    have := h (by omega)
    rw [lap_sep]
    exact Or.inl this)
  simpa using this
theorem busy_le {os : List Of} {g : List Nat} {hs : List Int} {b : Int} (h0 : 0 ≤ b) (h : ∀ i, (cnt os g i : Int) ≤ b) : busy os g hs ≤ b := by
  unfold busy
  have := max_some (l := ((0 : Int) :: hs.map fun h => (cnt os g h : Int))) (by simp)
  have m := (List.max?_eq_some_iff.mp this).1
  rcases List.mem_cons.mp m with e | m
  · rw [e]; exact h0
  · obtain ⟨i, _, e⟩ := List.mem_map.mp m
    rw [← e]; exact h i
end K74

set_option maxRecDepth 100000
set_option linter.all false
set_option Elab.async false
namespace K74
open PySem Z
/-! texts of true signs -/
theorem sok_of (s : String) : PyData.strOk (Str.ofString s) = true := by
  unfold PyData.strOk
  rw [Str.ofString_eq_toList]
  rw [Array.all_eq_true']
  intro c hc
  simp only [List.mem_toArray, List.mem_map] at hc
  obtain ⟨x, _, rfl⟩ := hc
  have := x.valid
  simp only [decide_eq_true_eq]
  show x.val.toNat < _
  rcases this with h | h
  · have : x.val.toNat < 0xd800 := h
    omega
  · exact h.2
theorem sok_app {a b : Str} (ha : PyData.strOk a = true) (hb : PyData.strOk b = true) : PyData.strOk (a ++ b) = true := by
  show (a.cps ++ b.cps).all _ = true
  rw [Array.all_append]
  unfold PyData.strOk at ha hb
  rw [ha, hb]; rfl
theorem sok_join (sep : Str) (h : PyData.strOk sep = true) : ∀ (l : List Str), (∀ x ∈ l, PyData.strOk x = true) → PyData.strOk (Str.join sep l) = true
  | [], _ => show PyData.strOk Str.empty = true by decide +kernel
  | [x], hx => hx x List.mem_cons_self
  | x :: y :: l, hx => by
    show PyData.strOk (x ++ sep ++ Str.join sep (y :: l)) = true
    exact sok_app (sok_app (hx x List.mem_cons_self) h) (sok_join sep h (y :: l) fun z hz => hx z (List.mem_cons_of_mem _ hz))
theorem sok_tuple (l : List Str) (hx : ∀ x ∈ l, PyData.strOk x = true) : PyData.strOk (tupleText l) = true := by
  unfold tupleText
  refine sok_app (sok_app (sok_of _) (sok_join _ (sok_of _) l hx)) ?_
  split <;> exact sok_of _
theorem sok_from : ∀ (l : List Str) (k : Nat) (acc : Str), PyData.strOk acc = true → (∀ x ∈ l, PyData.strOk x = true) → PyData.strOk (textFrom k acc l) = true
  | [], k, acc, h, _ => h
  | x :: l, k, acc, h, hx => by
    show PyData.strOk (textFrom (k + 1) _ l) = true
    refine sok_from l _ _ (sok_app (sok_app h ?_) (hx x List.mem_cons_self)) fun z hz => hx z (List.mem_cons_of_mem _ hz)
    split <;> exact sok_of _
theorem sok_list (l : List Str) (hx : ∀ x ∈ l, PyData.strOk x = true) : PyData.strOk (listText l) = true := sok_app (sok_from l 0 _ (sok_of _) hx) (sok_of _)
/-! data that can be shown -/
structure Sw (N m : Nat) (d : D) : Prop where
  ok : okPy d = true
  hd : (dPy d).hasDict = false
  sh : (dPy d).showable = true
  lv : (dPy d).leavesShort 60 = true
  bk : (dPy d).bulk ≤ N
  dp : (dPy d).depth ≤ m
  st : PyData.strOk (dPy d).shown = true
theorem Sw.mono {N m N' m' : Nat} {d : D} (h : Sw N m d) (h1 : N ≤ N') (h2 : m ≤ m') : Sw N' m' d := ⟨h.ok, h.hd, h.sh, h.lv, Nat.le_trans h.bk h1, Nat.le_trans h.dp h2, h.st⟩
theorem Sw.shOk {N m : Nat} {d : D} (h : Sw N m d) (h1 : N ≤ 10000) (h2 : m ≤ 30) : shOk d = true := by
  have b := PyData.shown_le_bulk 60 (by decide) (dPy d) h.lv
  have l : (dPy d).shown.length ≤ lim := by
    have : (60 + 2) * (dPy d).bulk ≤ (60 + 2) * 10000 := Nat.mul_le_mul_left _ (Nat.le_trans h.bk h1)
    have : lim = 1000000 := rfl
    omega
  have dp := h.dp
  unfold Z.shOk
  simp only [h.ok, h.hd, h.sh, Bool.not_false, Bool.and_true, Bool.or_true, Bool.true_and, decide_eq_true l, Bool.and_self]
  simp; omega
/-- a single thing -/
def Lf (d : D) : Prop := d = .non ∨ (∃ b, d = .bl b) ∨ (∃ i : Int, d = .int i ∧ -(10 : Int) ^ 41 ≤ i ∧ i ≤ (10 : Int) ^ 41) ∨ ∃ s, d = .str s ∧ PyData.strOk s = true ∧ s.cps.size ≤ 10 ∧ (∀ c ∈ s.cps.toList, c < 16 ^ 8) ∧ PyData.strOk (PyData.shown (.str s)) = true
def Rw (l : List D) : Prop := l.length ≤ 20 ∧ ∀ x ∈ l, Lf x
def Pt (d : D) : Prop := Lf d ∨ ∃ l, (d = .tup l ∨ d = .lst false l) ∧ Rw l
def Th (d : D) : Prop := Lf d ∨ d = .dk false [] [] ∨ ∃ l, (d = .tup l ∨ d = .lst false l) ∧ l.length ≤ 4 ∧ ∀ x ∈ l, Pt x
theorem log_lt {i : Int} (h1 : -(10 : Int) ^ 41 ≤ i) (h2 : i ≤ (10 : Int) ^ 41) : i.natAbs < 10 ^ 42 ∧ i.natAbs.log2 < 1920 := by
  have h : i.natAbs < 10 ^ 42 := by
    have e1 : (10 : Int) ^ 41 = 100000000000000000000000000000000000000000 := by decide
    have e2 : (10 : Nat) ^ 42 = 1000000000000000000000000000000000000000000 := by decide
    omega
  refine ⟨h, ?_⟩
  by_cases z : i.natAbs = 0
  · rw [z]; decide
  · rw [Nat.log2_lt z]
    have : (10 : Nat) ^ 42 ≤ 2 ^ 140 := by decide
    have : (2 : Nat) ^ 140 ≤ 2 ^ 1920 := Nat.pow_le_pow_right (by decide) (by decide)
    omega
theorem Lf.sw {d : D} (h : Lf d) : Sw 10 1 d := by
  rcases h with rfl | ⟨b, rfl⟩ | ⟨i, rfl, h1, h2⟩ | ⟨s, rfl, h1, h2, h3, h4⟩
  · exact ⟨rfl, rfl, rfl, rfl, by decide, by decide, by decide +kernel⟩
  · exact ⟨rfl, rfl, rfl, rfl, by simp [dPy, PyData.bulk], by simp [dPy, PyData.depth], by cases b <;> decide +kernel⟩
  · obtain ⟨g1, g2⟩ := log_lt h1 h2
    have g3 := int_text_length_le10 (by decide) g1
    refine ⟨rfl, rfl, ?_, ?_, by simp [dPy, PyData.bulk], by simp [dPy, PyData.depth], sok_of _⟩
    · simp [dPy, PyData.showable, g2]
    · simp only [dPy, PyData.leavesShort]
      refine decide_eq_true ?_
      show (Str.ofString (toString i)).length ≤ 60
      rw [ofString_length]
      omega
  · refine ⟨rfl, rfl, rfl, ?_, by simp [dPy, PyData.bulk]; omega, by simp [dPy, PyData.depth], h4⟩
    simp only [dPy, PyData.leavesShort, List.all_eq_true, decide_eq_true_eq]
    exact h3
theorem sw_all {N m : Nat} : ∀ (l : List D), (∀ x ∈ l, Sw N m x) → okPys l = true ∧ PyData.hasDictAll (dPys l) = false ∧ PyData.showableAll (dPys l) = true ∧ PyData.leavesShortAll 60 (dPys l) = true ∧ PyData.bulkAll (dPys l) ≤ l.length * (N + 1) ∧ PyData.depthAll (dPys l) ≤ m ∧ ∀ x ∈ PyData.shownAll (dPys l), PyData.strOk x = true
  | [], _ => ⟨rfl, rfl, rfl, rfl, by simp [dPys, PyData.bulkAll], by simp [dPys, PyData.depthAll], fun x hx => nomatch hx⟩
  | x :: l, h => by
    obtain ⟨i1, i2, i3, i4, i5, i6, i7⟩ := sw_all l fun y hy => h y (List.mem_cons_of_mem _ hy)
    obtain ⟨x1, x2, x3, x4, x5, x6, x7⟩ := h x List.mem_cons_self
    refine ⟨by simp [okPys, i1, x1], by simp [dPys, PyData.hasDictAll, i2, x2], by simp [dPys, PyData.showableAll, i3, x3], by simp [dPys, PyData.leavesShortAll, i4, x4], ?_, ?_, ?_⟩
    · simp only [dPys, PyData.bulkAll, List.length_cons]
      rw [Nat.add_mul]; omega
    · simp only [dPys, PyData.depthAll]; omega
    · intro y hy
      simp only [dPys, PyData.shownAll] at hy
      rcases List.mem_cons.mp hy with rfl | hy
      · exact x7
      · exact i7 y hy
theorem Sw.tup {N m : Nat} {l : List D} (h : ∀ x ∈ l, Sw N m x) : Sw (l.length * (N + 1)) (m + 1) (.tup l) := by
  obtain ⟨i1, i2, i3, i4, i5, i6, i7⟩ := sw_all l h
  refine ⟨by simp [okPy, i1], by simp [dPy, PyData.hasDict, i2], by simp [dPy, PyData.showable, i3], by simp [dPy, PyData.leavesShort, i4], by simp only [dPy, PyData.bulk]; exact i5, by simp only [dPy, PyData.depth]; omega, sok_tuple _ i7⟩
theorem Sw.lst {N m : Nat} {o : Bool} {l : List D} (h : ∀ x ∈ l, Sw N m x) : Sw (l.length * (N + 1)) (m + 1) (.lst o l) := by
  obtain ⟨i1, i2, i3, i4, i5, i6, i7⟩ := sw_all l h
  refine ⟨by simp [okPy, i1], by simp [dPy, PyData.hasDict, i2], by simp [dPy, PyData.showable, i3], by simp [dPy, PyData.leavesShort, i4], by simp only [dPy, PyData.bulk]; exact i5, by simp only [dPy, PyData.depth]; omega, sok_list _ i7⟩
theorem Pt.sw {d : D} (h : Pt d) : Sw 220 2 d := by
  rcases h with h | ⟨l, h | h, hl, hx⟩
  · exact h.sw.mono (by omega) (by omega)
  · subst h
    refine (Sw.tup (fun x hx' => (hx x hx').sw)).mono ?_ (by omega)
    omega
  · subst h
    refine (Sw.lst (fun x hx' => (hx x hx').sw)).mono ?_ (by omega)
    omega
theorem Th.sh {d : D} (h : Th d) : shOk d = true := by
  rcases h with h | rfl | ⟨l, h | h, hl, hx⟩
  · exact h.sw.shOk (by omega) (by omega)
  · decide +kernel
  · subst h
    refine (Sw.tup (fun x hx' => (hx x hx').sw)).shOk ?_ (by omega)
    omega
  · subst h
    refine (Sw.lst (fun x hx' => (hx x hx').sw)).shOk ?_ (by omega)
    omega
theorem Th.st {d : D} (h : Th d) : PyData.strOk (dPy d).shown = true := by
  rcases h with h | rfl | ⟨l, h | h, hl, hx⟩
  · exact h.sw.st
  · decide +kernel
  · subst h; exact (Sw.tup (fun x hx' => (hx x hx').sw)).st
  · subst h; exact (Sw.lst (fun x hx' => (hx x hx').sw)).st
theorem Lf.fz {d : D} (h : Lf d) : isFz d = true := by
  rcases h with rfl | ⟨b, rfl⟩ | ⟨i, rfl, h1, h2⟩ | ⟨s, rfl, h1, h2, h3, h4⟩ <;> simp
theorem Lf.gd {d : D} (h : Lf d) : Gd d := by
  refine ⟨h.fz, ?_⟩
  rcases h with rfl | ⟨b, rfl⟩ | ⟨i, rfl, h1, h2⟩ | ⟨s, rfl, h1, h2, h3, h4⟩ <;> exact ⟨_, rfl⟩
theorem Rw.fz {l : List D} (h : Rw l) : isFzs l = true := isFzs_all fun x hx => (h.2 x hx).fz
theorem Pt.fz {d : D} (h : Pt d) : isFz d = true := by
  rcases h with h | ⟨l, h | h, r⟩
  · exact h.fz
  · subst h; simp [r.fz]
  · subst h; simp [isFz, r.fz]
theorem Pt.gt {d : D} (h : Pt d) : Gt d := by
  refine { fz := h.fz, ty := ?_, it := ?_ }
  · rcases h with h | ⟨l, h | h, r⟩
    · exact h.gd.ty
    · subst h; exact ⟨_, rfl⟩
    · subst h; exact ⟨_, rfl⟩
  · intro l e
    rcases h with h | ⟨l', h | h, r⟩
    · subst e
      rcases h with h | ⟨b, h⟩ | ⟨i, h, _⟩ | ⟨s, h, _⟩ <;> cases h
    · rw [h] at e; cases e
      exact ⟨by have := r.1; omega, fun x hx => (r.2 x hx).gd⟩
    · rw [h] at e; cases e
theorem Th.gz {d : D} (h : Th d) : Gz d := by
  have fz : isFz d = true := by
    rcases h with h | rfl | ⟨l, h | h, hl, hx⟩
    · exact h.fz
    · simp [isFz]
    · subst h; simp; exact isFzs_all fun x hx' => (hx x hx').fz
    · subst h; simp [isFz]; exact isFzs_all fun x hx' => (hx x hx').fz
  have ty : ∃ t, tyOf d = some t := by
    rcases h with h | rfl | ⟨l, h | h, hl, hx⟩
    · exact h.gd.ty
    · exact ⟨_, rfl⟩
    · subst h; exact ⟨_, rfl⟩
    · subst h; exact ⟨_, rfl⟩
  have tp : ∀ l, d = .tup l → ∀ x ∈ l, Pt x := by
    intro l e
    rcases h with h | rfl | ⟨l', h | h, hl, hx⟩
    · subst e
      rcases h with h | ⟨b, h⟩ | ⟨i, h, _⟩ | ⟨s, h, _⟩ <;> cases h
    · cases e
    · rw [h] at e; cases e; exact hx
    · rw [h] at e; cases e
  refine { fz := fz, ty := ty, it := ?_, sm := ?_ }
  · intro a b c e
    have := tp _ e
    exact ⟨(this a (by simp)).gt.toGd, (this b (by simp)).gt, (this c (by simp)).gt⟩
  · intro a b l i e hi
    have := tp _ e (.tup l) (by simp)
    rcases this with h | ⟨l', h | h, r⟩
    · rcases h with h | ⟨b, h⟩ | ⟨i, h, _⟩ | ⟨s, h, _⟩ <;> cases h
    · cases h
      rcases r.2 _ hi with h | ⟨b, h⟩ | ⟨j, h, h1, h2⟩ | ⟨s, h, _⟩ <;> cases h
      exact ⟨h1, h2⟩
    · cases h
theorem lf_int {i : Int} (h1 : -1000000000 ≤ i) (h2 : i ≤ 1000000000) : Lf (.int i) := by
  refine Or.inr (Or.inr (Or.inl ⟨i, rfl, ?_, ?_⟩))
  · have e1 : (10 : Int) ^ 41 = 100000000000000000000000000000000000000000 := by decide
    omega
  · have e1 : (10 : Int) ^ 41 = 100000000000000000000000000000000000000000 := by decide
    omega
end K74

set_option maxRecDepth 100000
set_option linter.all false
set_option Elab.async false
namespace K74
open PySem Z
/-! a triple with something otherwise -/
theorem mem_cut {α : Type} {l : List α} {a b : Option Int} {x : α} (h : x ∈ cutD l a b) : x ∈ l := List.mem_of_mem_drop (List.mem_of_mem_take h)
theorem len_cut {α : Type} (l : List α) (a b : Option Int) : (cutD l a b).length ≤ l.length := by unfold cutD; simp; omega
theorem Rw.cut {l : List D} (h : Rw l) (a b : Option Int) : Rw (cutD l a b) := ⟨Nat.le_trans (len_cut l a b) h.1, fun x hx => h.2 x (mem_cut hx)⟩
theorem Rw.rev {l : List D} (h : Rw l) : Rw l.reverse := ⟨by simpa using h.1, fun x hx => h.2 x (List.mem_reverse.mp hx)⟩
theorem Pt.tup {l : List D} (h : Rw l) : Pt (.tup l) := Or.inr ⟨l, Or.inl rfl, h⟩
theorem Pt.lst {l : List D} (h : Rw l) : Pt (.lst false l) := Or.inr ⟨l, Or.inr rfl, h⟩
theorem Th.three {a b c : D} (ha : Pt a) (hb : Pt b) (hc : Pt c) : Th (.tup [a, b, c]) := Or.inr (Or.inr ⟨_, Or.inl rfl, by simp, by
  intro x hx
  simp only [List.mem_cons, List.not_mem_nil, or_false] at hx
  rcases hx with rfl | rfl | rfl <;> assumption⟩)
@[simp] theorem fz_tup (l : List D) : fz (.tup l) = .tup (fzs l) := rfl
@[simp] theorem fz_lst (o : Bool) (l : List D) : fz (.lst o l) = .lst false (fzs l) := rfl
@[simp] theorem fzs_app : ∀ (a b : List D), fzs (a ++ b) = fzs a ++ fzs b
  | [], b => rfl
  | x :: a, b => by simp [fzs_app a b]
theorem mem_fzs : ∀ {l : List D} {x : D}, x ∈ fzs l → ∃ y ∈ l, x = fz y
  | y :: l, x, h => by
    simp only [fzs] at h
    rcases List.mem_cons.mp h with rfl | h
    · exact ⟨y, List.mem_cons_self, rfl⟩
    · obtain ⟨z, hz, e⟩ := mem_fzs h
      exact ⟨z, List.mem_cons_of_mem _ hz, e⟩
theorem len_fzs : ∀ l : List D, (fzs l).length = l.length
  | [] => rfl
  | x :: l => by simp [fzs, len_fzs l]
theorem fz_fz (d : D) : fz (fz d) = fz d := fz_id _ (fz_isFz d)
def Lt (n : Nat) (L : List D) : Prop := L.length ≤ n ∧ ∀ x ∈ L, Th (fz x)
theorem Lt.add {n m : Nat} {L M : List D} (h1 : Lt n L) (h2 : Lt m M) : Lt (n + m) (fzs L ++ fzs M) := by
  refine ⟨by rw [List.length_append, len_fzs, len_fzs]; have := h1.1; have := h2.1; omega, ?_⟩
  intro x hx
  rcases List.mem_append.mp hx with hx | hx
  · obtain ⟨y, hy, rfl⟩ := mem_fzs hx
    rw [fz_fz]; exact h1.2 y hy
  · obtain ⟨y, hy, rfl⟩ := mem_fzs hx
    rw [fz_fz]; exact h2.2 y hy
section
variable {os : List Of} {th : D} {n : Int} {G H : List D} {a : Nat} {od pl : D} {t : D}
def eB (t : D) (os : List Of) (th : D) (n : Int) (G H : List D) (a : Nat) (od pl : D) (x : Sl) : En := [.ow t, .ow (osD os), .ow th, .ow (.int n), .ow (.tup G), .ow (.tup H), .ow (nD a), .ow od, .ow pl, x, .no, .no]
theorem b_add {v : En → Option (D × En)} {L M : List D} {t' : D} {k m : Nat} (hX : v (eB t os th n G H a od pl .no) = some (.lst true M, eB t' os th n G H a od pl .no)) (h1 : Lt k L) (h2 : Lt m M) (h : k + m ≤ 1000) :
    ∃ L', Lt (k + m) L' ∧ L.length ≤ L'.length ∧ sSet 9 (vOp dAdd (vFz (vMove 9)) (vFz v)) (eB t os th n G H a od pl (.ow (.lst true L))) = some (.nx, eB t' os th n G H a od pl (.ow (.lst true L'))) := by
  refine ⟨fzs L ++ fzs M, h1.add h2, by rw [List.length_append, len_fzs]; omega, ?_⟩
  have mv : vMove 9 (eB t os th n G H a od pl (.ow (.lst true L))) = some (.lst true L, eB t os th n G H a od pl .no) := rfl
  have ll : (fzs L).length + (fzs M).length ≤ lim := by
    rw [len_fzs, len_fzs]; have := h1.1; have := h2.1; exact le_lim (by omega)
  simp only [z_sSet, z_vOp, z_vFz, mv, Option.bind_some, hX, fz_lst, z_addL]
  rw [if_pos ⟨ll, fzs_isFzs _, fzs_isFzs _⟩]
  rfl
theorem b_app {g : En → Option D} {L : List D} {x : D} {k : Nat} (hX : g (eB t os th n G H a od pl (.ow (.lst true L))) = some x) (h1 : Lt k L) (h2 : Th (fz x)) (h : k ≤ 900) :
    ∃ L', Lt (k + 1) L' ∧ 0 < L'.length ∧ sDrop (vMeth "list" 9 mAppend (vsCons (vOf g) (vsNil))) (eB t os th n G H a od pl (.ow (.lst true L))) = some (.nx, eB t os th n G H a od pl (.ow (.lst true L'))) := by
  refine ⟨L ++ [x], ⟨by simp; exact h1.1, ?_⟩, by simp, ?_⟩
  · intro y hy
    rcases List.mem_append.mp hy with hy | hy
    · exact h1.2 y hy
    · rw [List.mem_singleton.mp hy]; exact h2
  · have s : (eB t os th n G H a od pl (.ow (.lst true L)))[9]? = some (.ow (.lst true L)) := rfl
    have ll : L.length < lim := Nat.lt_of_le_of_lt h1.1 (Nat.lt_of_le_of_lt h (by decide))
    have vm : vMeth "list" 9 mAppend (vsCons (vOf g) (vsNil)) (eB t os th n G H a od pl (.ow (.lst true L))) = some (.non, eB t os th n G H a od pl (.ow (.lst true (L ++ [x])))) := by
      rw [vMeth, s]
      simp only [isTy, z_vsCons, z_vOf, hX, Option.bind_some, z_vsNil]
      simp [eB, updE, modP, mAppend, ll]
    rw [z_sDrop, vm]; rfl
end
theorem evB (t : D) (os : List Of) (th : D) (n : Int) (G H : List D) (a : Nat) (od pl : D) (x : Sl) :
    eVar 1 (eB t os th n G H a od pl x) = some (osD os) ∧ eVar 2 (eB t os th n G H a od pl x) = some th ∧ eVar 3 (eB t os th n G H a od pl x) = some (.int n) ∧ eVar 4 (eB t os th n G H a od pl x) = some (.tup G) ∧ eVar 5 (eB t os th n G H a od pl x) = some (.tup H) ∧ eVar 6 (eB t os th n G H a od pl x) = some (.int (a : Int)) ∧ eVar 7 (eB t os th n G H a od pl x) = some od ∧ eVar 8 (eB t os th n G H a od pl x) = some pl := ⟨rfl, rfl, rfl, rfl, rfl, rfl, rfl, rfl⟩
section
variable {os : List Of} {n : Int} {G H : List D} {a : Nat} {od pl : D} {t : D}
theorem sl_rw {l : List D} (h : Rw l) (a b : Option Int) : dSl (.tup l) a b = some (.tup (cutD l a b)) := by
  show (if _ then _ else _) = _
  rw [if_pos h.fz]
theorem lim_rw {x y : List D} (h1 : x.length ≤ 100) (h2 : y.length ≤ 100) : x.length + y.length ≤ lim := le_lim (by omega)
/-- a row with something in the place of one -/
theorem put_rw {l : List D} {o : D} (h : Rw l) (h8 : l.length ≤ 9) (ho : Lf o) (i j : Option Int) : Rw (cutD l none i ++ [o] ++ cutD l j none) ∧ ((dAdd (.tup (cutD l none i)) (.tup [o])).bind fun x => dAdd x (.tup (cutD l j none))) = some (.tup (cutD l none i ++ [o] ++ cutD l j none)) := by
  have c1 := len_cut l none i
  have c2 := len_cut l j none
  have f1 := (h.cut none i).fz
  have f2 := (h.cut j none).fz
  constructor
  · refine ⟨by simp; omega, ?_⟩
    intro x hx
    simp only [List.append_assoc, List.mem_append, List.mem_singleton] at hx
    rcases hx with hx | rfl | hx
    · exact (h.cut none i).2 x hx
    · exact ho
    · exact (h.cut j none).2 x hx
  · have q1 : (cutD l none i).length + [o].length ≤ lim := le_lim (by simp; omega)
    have q2 : (cutD l none i ++ [o]).length + (cutD l j none).length ≤ lim := le_lim (by simp; omega)
    have f3 : isFzs [o] = true := by simp [ho.fz]
    have f4 : isFzs (cutD l none i ++ [o]) = true := by rw [isFzs_append, f1, f3]; rfl
    rw [z_addT, if_pos ⟨q1, f1, f3⟩, Option.bind_some, z_addT, if_pos ⟨q2, f4, f2⟩]
theorem lf_n (h1 : 0 ≤ n) (h2 : n ≤ 100) : Lf (.int n) := lf_int (by omega) (by omega)
def gM1 : En → Option D := eLst (esCons (eTup (esCons (eFz (eVar 3)) (esCons (eFz (eVar 4)) (esCons (eOp dAdd (eOp dAdd (eSl (eVar 5) (eNoP) (eP (eVar 6))) (eTup (esCons (eFz (eVar 7)) (esNil)))) (eSl (eVar 5) (eP (eOp dAdd (eVar 6) (eC (.int 1)))) (eNoP))) (esNil))))) (esCons (eTup (esCons (eFz (eVar 3)) (esCons (eFz (eVar 4)) (esCons (eFz (eVar 8)) (esNil))))) (esCons (eTup (esCons (eFz (eVar 3)) (esCons (eFz (eVar 4)) (esCons (eFz (eVar 8)) (esNil))))) (esNil))))
def gM2 : En → Option D := eLst (esCons (eTup (esCons (eFz (eVar 3)) (esCons (eOp dAdd (eOp dAdd (eSl (eVar 4) (eNoP) (eP (eVar 6))) (eTup (esCons (eFz (eVar 7)) (esNil)))) (eSl (eVar 4) (eP (eOp dAdd (eVar 6) (eC (.int 1)))) (eNoP))) (esCons (eFz (eVar 5)) (esNil))))) (esCons (eTup (esCons (eFz (eVar 3)) (esCons (eSl (eVar 4) (eP (eC (.int 1))) (eNoP)) (esCons (eFz (eVar 5)) (esNil))))) (esNil)))
def gA3 : En → Option D := eTup (esCons (eFz (eVar 3)) (esCons (eFz (eVar 4)) (esCons (eSl (eVar 5) (eP (eC (.int 1))) (eNoP)) (esNil))))
def gM4 : En → Option D := eLst (esCons (eTup (esCons (eOp dSub (eVar 3) (eC (.int 1))) (esCons (eSl (eVar 4) (eP (eC (.int 1))) (eNoP)) (esCons (eSl (eVar 5) (eP (eC (.int 1))) (eNoP)) (esNil))))) (esCons (eTup (esCons (eOp dAdd (eVar 3) (eC (.int 1))) (esCons (eFz (eVar 4)) (esCons (eFz (eVar 5)) (esNil))))) (esCons (eTup (esCons (eC (.bl true)) (esCons (eFz (eVar 4)) (esCons (eFz (eVar 5)) (esNil))))) (esNil))))
def gA5 : En → Option D := eTup (esCons (eFz (eVar 3)) (esCons (eBi bList (esCons (eVar 4) (esNil))) (esCons (eFz (eVar 5)) (esNil))))
def gM6 : En → Option D := eLst (esCons (eTup (esCons (eFz (eVar 3)) (esCons (eFz (eVar 4)) (esCons (eBi bList (esCons (eVar 5) (esNil))) (esNil))))) (esCons (eTup (esCons (eFz (eVar 3)) (esCons (eUn dRev (eVar 4)) (esCons (eFz (eVar 5)) (esNil))))) (esCons (eTup (esCons (eFz (eVar 3)) (esCons (eFz (eVar 4)) (esCons (eUn dRev (eVar 5)) (esNil))))) (esNil))))
def gA7 : En → Option D := eTup (esCons (eFz (eVar 3)) (esCons (eFz (eVar 5)) (esCons (eFz (eVar 4)) (esNil))))
def vM8 : En → Option (D × En) := vLst (vsCons (vTup (vsCons (vOf (eFz (eVar 3))) (vsCons (vCall m__law_any [.lend 0, .val (vOf (eCall m__law_groups (esCons (eRgL rng1Of (esCons (eBi bLen (esCons (eVar 1) (esNil))) esNil)) (esNil))))]) (vsCons (vOf (eFz (eVar 5))) (vsNil))))) (vsCons (vOf (eLst (esCons (eFz (eVar 3)) (esCons (eFz (eVar 4)) (esCons (eFz (eVar 5)) (esNil)))))) (vsNil)))
def gM9 : En → Option D := eLst (esCons (eTup (esCons (eFz (eVar 3)) (esCons (eFz (eVar 4)) (esNil)))) (esCons (eC .non) (esNil)))
def gM10 : En → Option D := eLst (esCons (eOp dAdd (eVar 2) (eTup (esCons (eC (.int 0)) (esNil)))) (esCons (eC (.dk true [] [])) (esCons (eC (.int 0)) (esCons (eTup (esCons (eFz (eVar 3)) (esCons (eFz (eVar 4)) (esCons (eC .non) (esNil))))) (esCons (eTup (esCons (eFz (eVar 3)) (esCons (eC .non) (esCons (eFz (eVar 5)) (esNil))))) (esCons (eTup (esCons (eBi bStr (esCons (eVar 3) (esNil))) (esCons (eFz (eVar 4)) (esCons (eFz (eVar 5)) (esNil))))) (esNil)))))))
end
end K74

set_option maxRecDepth 100000
set_option linter.all false
set_option Elab.async false
namespace K74
open PySem Z
theorem PtF.lf {d : D} (h : Lf d) : Pt (fz d) := by rw [fz_same d h.fz]; exact Or.inl h
theorem PtF.tup {l : List D} (h : Rw l) : Pt (fz (.tup l)) := by rw [fz_tup, fzs_same l h.fz]; exact Pt.tup h
theorem PtF.lst {o : Bool} {l : List D} (h : Rw l) : Pt (fz (.lst o l)) := by rw [fz_lst, fzs_same l h.fz]; exact Pt.lst h
theorem ThF.three {a b c : D} (ha : Pt (fz a)) (hb : Pt (fz b)) (hc : Pt (fz c)) : Th (fz (.tup [a, b, c])) := by
  simp only [fz_tup, z_fzs1, z_fzs0]
  exact Th.three ha hb hc
theorem Lt.one {x : D} (h : Th (fz x)) : Lt 1 [x] := ⟨by simp, by intro y hy; rw [List.mem_singleton.mp hy]; exact h⟩
theorem Lt.cons {x : D} {n : Nat} {L : List D} (h : Th (fz x)) (hL : Lt n L) : Lt (n + 1) (x :: L) := ⟨by simp; exact hL.1, by
  intro y hy
  rcases List.mem_cons.mp hy with rfl | hy
  · exact h
  · exact hL.2 y hy⟩
theorem Lt.nil : Lt 0 [] := ⟨by simp, fun x h => nomatch h⟩
theorem str_ok : ∀ k : Fin 9, PyData.strOk (Str.ofString (toString ((k.1 : Nat) : Int))) = true ∧ (Str.ofString (toString ((k.1 : Nat) : Int))).cps.size ≤ 10 ∧ (∀ c ∈ (Str.ofString (toString ((k.1 : Nat) : Int))).cps.toList, c < 16 ^ 8) ∧ PyData.strOk (PyData.shown (.str (Str.ofString (toString ((k.1 : Nat) : Int))))) = true := by decide +kernel
theorem lf_str {n : Int} (h1 : 0 ≤ n) (h2 : n ≤ 8) : Lf (.str (Str.ofString (toString n))) := by
  obtain ⟨k, rfl⟩ := Int.eq_ofNat_of_zero_le h1
  exact Or.inr (Or.inr (Or.inr ⟨_, rfl, str_ok ⟨k, by omega⟩⟩))
theorem lf_non : Lf .non := Or.inl rfl
theorem lf_bl (b : Bool) : Lf (.bl b) := Or.inr (Or.inl ⟨b, rfl⟩)
structure Bt (n : Int) (G H : List D) (od : D) (P : List D) : Prop where
  n0 : 0 ≤ n
  n8 : n ≤ 8
  g : Rw G
  g9 : G.length ≤ 9
  h : Rw H
  h9 : H.length ≤ 9
  o : Lf od
  p : Rw P
section
variable {t : D} {os : List Of} {n : Int} {G H : List D} {a : Nat} {od : D} {P : List D} (B : Bt n G H od P) (th : D) (x : Sl)
include B
theorem Bt.ln : Lf (.int n) := lf_int (by have := B.n0; omega) (by have := B.n8; omega)
theorem Bt.ln1 : Lf (.int (n - 1)) ∧ Lf (.int (n + 1)) := ⟨lf_int (by have := B.n0; omega) (by have := B.n8; omega), lf_int (by have := B.n0; omega) (by have := B.n8; omega)⟩
theorem Bt.m1 : ∃ M, gM1 (eB t os th n G H a od (.tup P) x) = some (.lst true M) ∧ Lt 3 M := by
  obtain ⟨e1, e2, e3, e4, e5, e6, e7, e8⟩ := evB t os th n G H a od (.tup P) x
  obtain ⟨p1, p2⟩ := put_rw B.h B.h9 B.o (some (a : Int)) (some ((a : Int) + 1))
  refine ⟨[.tup [.int n, .tup G, .tup (cutD H none (some (a : Int)) ++ [od] ++ cutD H (some ((a : Int) + 1)) none)], .tup [.int n, .tup G, .tup P], .tup [.int n, .tup G, .tup P]], ?_, ?_⟩
  · simp [gM1, e3, e4, e5, e6, e7, e8, sl_rw B.h, B.g.fz, B.p.fz, B.o.fz, p2, - z_addT]
  · exact Lt.cons (ThF.three (PtF.lf B.ln) (PtF.tup B.g) (PtF.tup p1)) (Lt.cons (ThF.three (PtF.lf B.ln) (PtF.tup B.g) (PtF.tup B.p)) (Lt.one (ThF.three (PtF.lf B.ln) (PtF.tup B.g) (PtF.tup B.p))))
theorem Bt.m2 : ∃ M, gM2 (eB t os th n G H a od (.tup P) x) = some (.lst true M) ∧ Lt 2 M := by
  obtain ⟨e1, e2, e3, e4, e5, e6, e7, e8⟩ := evB t os th n G H a od (.tup P) x
  obtain ⟨p1, p2⟩ := put_rw B.g B.g9 B.o (some (a : Int)) (some ((a : Int) + 1))
  refine ⟨[.tup [.int n, .tup (cutD G none (some (a : Int)) ++ [od] ++ cutD G (some ((a : Int) + 1)) none), .tup H], .tup [.int n, .tup (cutD G (some 1) none), .tup H]], ?_, ?_⟩
  · simp [gM2, e3, e4, e5, e6, e7, e8, sl_rw B.g, B.h.fz, B.p.fz, B.o.fz, p2, - z_addT, - cut_from1]
  · exact Lt.cons (ThF.three (PtF.lf B.ln) (PtF.tup p1) (PtF.tup B.h)) (Lt.one (ThF.three (PtF.lf B.ln) (PtF.tup (B.g.cut _ _)) (PtF.tup B.h)))
theorem Bt.a3 : ∃ M, gA3 (eB t os th n G H a od (.tup P) x) = some M ∧ Th (fz M) := by
  obtain ⟨e1, e2, e3, e4, e5, e6, e7, e8⟩ := evB t os th n G H a od (.tup P) x
  refine ⟨.tup [.int n, .tup G, .tup (cutD H (some 1) none)], ?_, ThF.three (PtF.lf B.ln) (PtF.tup B.g) (PtF.tup (B.h.cut _ _))⟩
  simp [gA3, e3, e4, e5, sl_rw B.h, B.g.fz, - cut_from1]
theorem Bt.m4 : ∃ M, gM4 (eB t os th n G H a od (.tup P) x) = some (.lst true M) ∧ Lt 3 M := by
  obtain ⟨e1, e2, e3, e4, e5, e6, e7, e8⟩ := evB t os th n G H a od (.tup P) x
  refine ⟨[.tup [.int (n - 1), .tup (cutD G (some 1) none), .tup (cutD H (some 1) none)], .tup [.int (n + 1), .tup G, .tup H], .tup [.bl true, .tup G, .tup H]], ?_, ?_⟩
  · simp [gM4, e3, e4, e5, sl_rw B.g, sl_rw B.h, B.g.fz, B.h.fz, - cut_from1]
  · exact Lt.cons (ThF.three (PtF.lf B.ln1.1) (PtF.tup (B.g.cut _ _)) (PtF.tup (B.h.cut _ _))) (Lt.cons (ThF.three (PtF.lf B.ln1.2) (PtF.tup B.g) (PtF.tup B.h)) (Lt.one (ThF.three (PtF.lf (lf_bl _)) (PtF.tup B.g) (PtF.tup B.h))))
theorem Bt.a5 : ∃ M, gA5 (eB t os th n G H a od (.tup P) x) = some M ∧ Th (fz M) := by
  obtain ⟨e1, e2, e3, e4, e5, e6, e7, e8⟩ := evB t os th n G H a od (.tup P) x
  refine ⟨.tup [.int n, .lst true G, .tup H], ?_, ThF.three (PtF.lf B.ln) (PtF.lst B.g) (PtF.tup B.h)⟩
  simp [gA5, e3, e4, e5, B.g.fz, B.h.fz]
theorem Bt.m6 : ∃ M, gM6 (eB t os th n G H a od (.tup P) x) = some (.lst true M) ∧ Lt 3 M := by
  obtain ⟨e1, e2, e3, e4, e5, e6, e7, e8⟩ := evB t os th n G H a od (.tup P) x
  refine ⟨[.tup [.int n, .tup G, .lst true H], .tup [.int n, .tup G.reverse, .tup H], .tup [.int n, .tup G, .tup H.reverse]], ?_, ?_⟩
  · simp [gM6, e3, e4, e5, dRev, B.g.fz, B.h.fz]
  · exact Lt.cons (ThF.three (PtF.lf B.ln) (PtF.tup B.g) (PtF.lst B.h)) (Lt.cons (ThF.three (PtF.lf B.ln) (PtF.tup B.g.rev) (PtF.tup B.h)) (Lt.one (ThF.three (PtF.lf B.ln) (PtF.tup B.g) (PtF.tup B.h.rev))))
theorem Bt.a7 : ∃ M, gA7 (eB t os th n G H a od (.tup P) x) = some M ∧ Th (fz M) := by
  obtain ⟨e1, e2, e3, e4, e5, e6, e7, e8⟩ := evB t os th n G H a od (.tup P) x
  refine ⟨.tup [.int n, .tup H, .tup G], ?_, ThF.three (PtF.lf B.ln) (PtF.tup B.h) (PtF.tup B.g)⟩
  simp [gA7, e3, e4, e5, B.g.fz, B.h.fz]
theorem Bt.m9 : ∃ M, gM9 (eB t os th n G H a od (.tup P) x) = some (.lst true M) ∧ Lt 2 M := by
  obtain ⟨e1, e2, e3, e4, e5, e6, e7, e8⟩ := evB t os th n G H a od (.tup P) x
  refine ⟨[.tup [.int n, .tup G], .non], ?_, ?_⟩
  · simp [gM9, e3, e4, e5, B.g.fz, B.h.fz]
  · refine Lt.cons ?_ (Lt.one (Or.inl lf_non))
    simp only [fz_tup, z_fzs1, z_fzs0]
    refine Or.inr (Or.inr ⟨_, Or.inl rfl, by simp, ?_⟩)
    intro y hy
    simp only [List.mem_cons, List.not_mem_nil, or_false] at hy
    rcases hy with rfl | rfl
    · exact PtF.lf B.ln
    · exact PtF.tup B.g
theorem Bt.m10 (hth : th = .tup [.int n, .tup G, .tup H]) : ∃ M, gM10 (eB t os th n G H a od (.tup P) x) = some (.lst true M) ∧ Lt 6 M := by
  subst hth
  obtain ⟨e1, e2, e3, e4, e5, e6, e7, e8⟩ := evB t os (.tup [.int n, .tup G, .tup H]) n G H a od (.tup P) x
  have st : bStr [.int n] = some (.str (Str.ofString (toString n))) := by
    show (if _ then _ else _) = _
    rw [if_pos (log_lt (by have := B.n0; have : -(10 : Int) ^ 41 ≤ 0 := by decide
                           omega) (by have := B.n8; have : (8 : Int) ≤ 10 ^ 41 := by decide
                                      omega)).2]
  have l4 : 3 + 1 ≤ lim := by decide
  refine ⟨[.tup [.int n, .tup G, .tup H, .int 0], .dk true [] [], .int 0, .tup [.int n, .tup G, .non], .tup [.int n, .non, .tup H], .tup [.str (Str.ofString (toString n)), .tup G, .tup H]], ?_, ?_⟩
  · simp [gM10, e2, e3, e4, e5, B.g.fz, B.h.fz, st, l4]
  · refine Lt.cons ?_ (Lt.cons (Or.inr (Or.inl rfl)) (Lt.cons (Or.inl (lf_int (by omega) (by omega))) (Lt.cons (ThF.three (PtF.lf B.ln) (PtF.tup B.g) (PtF.lf lf_non)) (Lt.cons (ThF.three (PtF.lf B.ln) (PtF.lf lf_non) (PtF.tup B.h)) (Lt.one (ThF.three (PtF.lf (lf_str B.n0 B.n8)) (PtF.tup B.g) (PtF.tup B.h)))))))
    simp only [fz_tup, z_fzs1, z_fzs0]
    refine Or.inr (Or.inr ⟨_, Or.inl rfl, by simp, ?_⟩)
    intro y hy
    simp only [List.mem_cons, List.not_mem_nil, or_false] at hy
    rcases hy with rfl | rfl | rfl | rfl
    · exact PtF.lf B.ln
    · exact PtF.tup B.g
    · exact PtF.tup B.h
    · exact PtF.lf (lf_int (by omega) (by omega))
theorem Bt.m8 (h : Tp t) (hos : Ok os) : ∃ M t', Tp t' ∧ vM8 (eB t os th n G H a od (.tup P) x) = some (.lst true M, eB t' os th n G H a od (.tup P) x) ∧ Lt 2 M := by
  have ol := hos.len
  have rg : rng1Of [.int (os.length : Int)] = some ((List.range os.length).map nD) := rng_n os.length (by omega)
  have gr := sp_groups (d := .lst false ((List.range os.length).map nD)) (g := List.range os.length) (Or.inr rfl) (by simp; omega)
  have gl : (groups (List.range os.length)).length ≤ 1000 := groups_len (by simp; omega)
  have g0 : 0 < (groups (List.range os.length)).length := List.length_pos_of_mem (mem_groups.mpr (List.nil_sublist _))
  have hv : ∀ t, vOf (eCall m__law_groups (esCons (eRgL rng1Of (esCons (eBi bLen (esCons (eVar 1) (esNil))) esNil)) (esNil))) (eB t os th n G H a od (.tup P) x) = some (.lst true ((groups (List.range os.length)).map gD), eB t os th n G H a od (.tup P) x) := by
    intro t
    have e1 := (evB t os th n G H a od (.tup P) x).1
    simp [e1, rg, gr, fz_same, - List.map_map]
  obtain ⟨d, t', hd, T, e⟩ := vAny (t := t) (t1 := t) (E := [.ow (osD os), .ow th, .ow (.int n), .ow (.tup G), .ow (.tup H), .ow (nD a), .ow od, .ow (.tup P), x, .no, .no]) (E1 := [.ow (osD os), .ow th, .ow (.int n), .ow (.tup G), .ow (.tup H), .ow (nD a), .ow od, .ow (.tup P), x, .no, .no]) ((groups (List.range os.length)).map gD) (by simpa using g0) (by simpa using gl) (by simp) (hv t) h
  obtain ⟨g, hg, rfl⟩ := List.mem_map.mp hd
  have sg := mem_groups.mp hg
  have rgd : Rw (g.map nD) := by
    refine ⟨by simp; have := sg.length_le; simp at this; omega, ?_⟩
    intro y hy
    obtain ⟨k, hk, rfl⟩ := List.mem_map.mp hy
    have := List.mem_range.mp (sg.subset hk)
    exact lf_int (by omega) (by omega)
  have e' : vCall m__law_any [.lend 0, .val (vOf (eCall m__law_groups (esCons (eRgL rng1Of (esCons (eBi bLen (esCons (eVar 1) (esNil))) esNil)) (esNil))))] (eB t os th n G H a od (.tup P) x) = some (gD g, eB t' os th n G H a od (.tup P) x) := e
  obtain ⟨_, _, e3, _, _, _, _, _⟩ := evB t os th n G H a od (.tup P) x
  obtain ⟨_, _, f3, f4, f5, _, _, _⟩ := evB t' os th n G H a od (.tup P) x
  refine ⟨[.tup [.int n, gD g, .tup H], .lst true [.int n, .tup G, .tup H]], t', T, ?_, ?_⟩
  · simp [vM8, e3, e', f3, f4, f5, B.g.fz, B.h.fz, - z_vCall]
  · refine Lt.cons (ThF.three (PtF.lf B.ln) (PtF.tup rgd) (PtF.tup B.h)) (Lt.one ?_)
    simp only [fz_lst, z_fzs1, z_fzs0]
    refine Or.inr (Or.inr ⟨_, Or.inr rfl, by simp, ?_⟩)
    intro y hy
    simp only [List.mem_cons, List.not_mem_nil, or_false] at hy
    rcases hy with rfl | rfl | rfl
    · exact PtF.lf B.ln
    · exact PtF.tup B.g
    · exact PtF.tup B.h
end
end K74

set_option maxRecDepth 100000
set_option linter.all false
set_option Elab.async false
namespace K74
open PySem Z
def b0 (t : D) (os : List Of) (th : D) (n : Int) (G H : List D) (x y z : Sl) : En := [.ow t, .ow (osD os), .ow th, .ow (.int n), .ow (.tup G), .ow (.tup H), x, y, z, .no, .no, .no]
theorem odd_lf {i : Nat} (hi : i < 20) {d : D} (h : d ∈ [D.int (i : Int), .int (-1), .non, .bl true, .str "0", .int (10 ^ 30)]) : Lf d := by
  simp only [List.mem_cons, List.not_mem_nil, or_false] at h
  rcases h with rfl | rfl | rfl | rfl | rfl | rfl
  · exact lf_int (by omega) (by omega)
  · exact lf_int (by omega) (by omega)
  · exact lf_non
  · exact lf_bl _
  · exact Or.inr (Or.inr (Or.inr ⟨_, rfl, by decide +kernel, by decide +kernel, by decide +kernel, by decide +kernel⟩))
  · exact Or.inr (Or.inr (Or.inl ⟨_, rfl, by decide, by decide⟩))
theorem p30 : dPow (.int 10) (.int 30) = some (.int (10 ^ 30)) := rfl
theorem sp_bent (t : D) (h : Tp t) (os : List Of) (ho : Ok os) (n : Int) (G : List D) (hs : List Int) (n0 : 0 ≤ n) (n8 : n ≤ 8) (rG : Rw G) (g9 : G.length ≤ 9) (rH : Rw (hs.map .int)) (h9 : hs.length ≤ 9) (hb : ∀ i ∈ hs, -1000000000 ≤ i ∧ i ≤ 1000000000) :
    ∃ d t', Th d ∧ Tp t' ∧ m__law_bent [t, osD os, .tup [.int n, .tup G, .tup (hs.map .int)]] = some (d, [t']) := by
  generalize hth : D.tup [.int n, .tup G, .tup (hs.map .int)] = th
  generalize hH : hs.map D.int = H at *
  have fth : isFz th = true := by rw [← hth]; simp [rG.fz, rH.fz]
  -- the two that are drawn
  have hl : H.length = hs.length := by rw [← hH]; simp
  obtain ⟨a, t1, ha, T1, e1⟩ := vPick (v := vOf (eOp dAdd (eBi bLen (esCons (eVar 5) (esNil))) (eC (.int 1)))) (t := t) (t1 := t) (E := [.ow (osD os), .ow th, .ow (.int n), .ow (.tup G), .ow (.tup H), .no, .no, .no, .no, .no, .no]) (E1 := [.ow (osD os), .ow th, .ow (.int n), .ow (.tup G), .ow (.tup H), .no, .no, .no, .no, .no, .no]) (hs.length + 1) (by omega) (by omega) (by simp [eVar, hl]) h
  obtain ⟨i, t2, hi, T2, e2⟩ := vPick (v := vOf (eC (.int 20))) (t := t1) (t1 := t1) (E := [.ow (osD os), .ow th, .ow (.int n), .ow (.tup G), .ow (.tup H), .no, .no, .no, .no, .no, .no]) (E1 := [.ow (osD os), .ow th, .ow (.int n), .ow (.tup G), .ow (.tup H), .no, .no, .no, .no, .no, .no]) 20 (by omega) (by omega) (by simp) T1
  obtain ⟨od, t3, hod, T3, e3⟩ := vAny (t := t1) (t1 := t2) (E := [.ow (osD os), .ow th, .ow (.int n), .ow (.tup G), .ow (.tup H), .no, .no, .no, .no, .no, .no]) (E1 := [.ow (osD os), .ow th, .ow (.int n), .ow (.tup G), .ow (.tup H), .no, .no, .no, .no, .no, .no]) (v := vLst (vsCons (vCall m__law_pick [.lend 0, .val (vOf (eC (.int 20)))]) (vsCons (vOf (eUn dNeg (eC (.int 1)))) (vsCons (vOf (eC .non)) (vsCons (vOf (eC (.bl true))) (vsCons (vOf (eC (.str "0"))) (vsCons (vOf (eOp dPow (eC (.int 10)) (eC (.int 30)))) (vsNil))))))))
    [.int (i : Int), .int (-1), .non, .bl true, .str "0", .int (10 ^ 30)] (by simp) (by simp) (by simp) (by simp [e2, p30, - z_vCall, - Int.reducePow]) T2
  have lod := odd_lf hi hod
  have fod := lod.fz
  obtain ⟨j, t4, hj, T4, e4⟩ := vPick (v := vOf (eC (.int 15))) (t := t3) (t1 := t3) (E := [.ow (osD os), .ow th, .ow (.int n), .ow (.tup G), .ow (.tup H), .ow (nD a), .ow od, .no, .no, .no, .no]) (E1 := [.ow (osD os), .ow th, .ow (.int n), .ow (.tup G), .ow (.tup H), .ow (nD a), .ow od, .no, .no, .no, .no]) 15 (by omega) (by omega) (by simp) T3
  -- the hours with one otherwise
  have nm : (numbered H).map pairT = hs.zipIdx.map fun p => .tup [nD p.2, .int p.1] := by rw [← hH]; exact num_mapN D.int hs
  have ec := lcGo_map (β := Unit) (bd := bdTup (bdCons (bdName 10) (bdCons (bdName 11) (bdNil)))) (gt := tBl (eOp dNe (eVar 10) (eVar 6))) (ge := eFz (eVar 11)) (e0 := b0 t3 os th n G H (.ow (nD a)) (.ow od) .no)
    (fun p : Int × Nat => .tup [nD p.2, .int p.1]) (fun p => [.ow t3, .ow (osD os), .ow th, .ow (.int n), .ow (.tup G), .ow (.tup H), .ow (nD a), .ow od, .no, .no, .ow (nD p.2), .ow (.int p.1)]) (fun p => ((p.2 : Nat) : Int) != (a : Int)) (fun p => .int p.1) hs.zipIdx (fun p _ => by
      refine ⟨by simp [b0], ?_, fun _ => by simp [eVar]⟩
      simp [eVar, nD])
  generalize hzs : (hs.zipIdx.filter fun p => ((p.2 : Nat) : Int) != (a : Int)) = zs at ec
  have zl : zs.length ≤ 9 := by rw [← hzs]; refine Nat.le_trans (List.length_filter_le _ _) ?_; simpa using h9
  have zm : ∀ p ∈ zs, p.1 ∈ hs := by
    intro p hp
    rw [← hzs] at hp
    have := List.mk_mem_zipIdx_iff_getElem?.mp (show (p.1, p.2) ∈ hs.zipIdx from (List.mem_filter.mp hp).1)
    exact List.mem_of_getElem? this
  have so := srt_ints (o := true) (zs.map (·.1) ++ [(j : Int)]) (by simp; omega)
  have so' : bSorted [.lst true (zs.map (fun p => D.int p.1) ++ [.int (j : Int)])] = some (.lst true (((zs.map (·.1) ++ [(j : Int)]).mergeSort intLe).map .int)) := by
    rw [← so]; simp [Function.comp_def]
  generalize hpl : ((zs.map (·.1) ++ [(j : Int)]).mergeSort intLe).map D.int = P at so'
  have rP : Rw P := by
    rw [← hpl]
    refine ⟨by simp; omega, ?_⟩
    intro y hy
    obtain ⟨v, hv, rfl⟩ := List.mem_map.mp hy
    rw [List.mem_mergeSort] at hv
    rcases List.mem_append.mp hv with hv | hv
    · obtain ⟨p, hp, rfl⟩ := List.mem_map.mp hv
      have := hb _ (zm p hp)
      exact lf_int this.1 this.2
    · rw [List.mem_singleton.mp hv]
      exact lf_int (by omega) (by omega)
  have B : Bt n G H od P := ⟨n0, n8, rG, g9, rH, by omega, lod, rP⟩
  -- the statements
  have s1 : sAsg (vOf (eFz (eVar 2))) (bdTup (bdCons (boName 3) (bdCons (boName 4) (bdCons (boName 5) (bdNil))))) [.ow t, .ow (osD os), .ow th, .no, .no, .no, .no, .no, .no, .no, .no, .no] = some (.nx, b0 t os th n G H .no .no .no) := by
    rw [← hth]
    simp [eVar, rG.fz, rH.fz, open?, b0]
  have e1' : vCall m__law_pick [.lend 0, .val (vOf (eOp dAdd (eBi bLen (esCons (eVar 5) (esNil))) (eC (.int 1))))] (b0 t os th n G H .no .no .no) = some (.int (a : Int), b0 t1 os th n G H .no .no .no) := e1
  have e3' : vCall m__law_any [.lend 0, .val (vLst (vsCons (vCall m__law_pick [.lend 0, .val (vOf (eC (.int 20)))]) (vsCons (vOf (eUn dNeg (eC (.int 1)))) (vsCons (vOf (eC .non)) (vsCons (vOf (eC (.bl true))) (vsCons (vOf (eC (.str "0"))) (vsCons (vOf (eOp dPow (eC (.int 10)) (eC (.int 30)))) (vsNil))))))))] (b0 t1 os th n G H .no .no .no) = some (od, b0 t3 os th n G H .no .no .no) := e3
  have s2 : sAsg (vTup (vsCons (vCall m__law_pick [.lend 0, .val (vOf (eOp dAdd (eBi bLen (esCons (eVar 5) (esNil))) (eC (.int 1))))]) (vsCons (vCall m__law_any [.lend 0, .val (vLst (vsCons (vCall m__law_pick [.lend 0, .val (vOf (eC (.int 20)))]) (vsCons (vOf (eUn dNeg (eC (.int 1)))) (vsCons (vOf (eC .non)) (vsCons (vOf (eC (.bl true))) (vsCons (vOf (eC (.str "0"))) (vsCons (vOf (eOp dPow (eC (.int 10)) (eC (.int 30)))) (vsNil))))))))]) (vsNil)))) (bdTup (bdCons (boName 6) (bdCons (boName 7) (bdNil)))) (b0 t os th n G H .no .no .no) = some (.nx, b0 t3 os th n G H (.ow (nD a)) (.ow od) .no) := by
    simp only [z_sAsg, z_vTup, z_vsCons, e1', e3', Option.bind_some, z_vsNil, z_bdTup, z_bdCons, z_boName]
    rfl
  have e4' : vCall m__law_pick [.lend 0, .val (vOf (eC (.int 15)))] (b0 t3 os th n G H (.ow (nD a)) (.ow od) .no) = some (.int (j : Int), b0 t4 os th n G H (.ow (nD a)) (.ow od) .no) := e4
  have s3 : sSet 8 (vBi bTup (vsCons (vBi bSorted (vsCons (vOp dAdd (vOf (eLc [10, 11] (eEnum (esCons (eVar 5) (esNil))) (bdTup (bdCons (bdName 10) (bdCons (bdName 11) (bdNil)))) (tBl (eOp dNe (eVar 10) (eVar 6))) (eFz (eVar 11)))) (vLst (vsCons (vCall m__law_pick [.lend 0, .val (vOf (eC (.int 15)))]) (vsNil)))) (vsNil))) (vsNil))) (b0 t3 os th n G H (.ow (nD a)) (.ow od) .no) = some (.nx, b0 t4 os th n G H (.ow (nD a)) (.ow od) (.ow (.tup P))) := by
    have ev5 : eVar 5 (b0 t3 os th n G H (.ow (nD a)) (.ow od) .no) = some (.tup H) := rfl
    have wi : wipeE (b0 t3 os th n G H (.ow (nD a)) (.ow od) .no) [10, 11] = b0 t3 os th n G H (.ow (nD a)) (.ow od) .no := rfl
    have nl : ((numbered H).map pairT).length ≤ lim := by rw [nm]; simp; exact le_lim (by omega)
    have le : eLc [10, 11] (eEnum (esCons (eVar 5) (esNil))) (bdTup (bdCons (bdName 10) (bdCons (bdName 11) (bdNil)))) (tBl (eOp dNe (eVar 10) (eVar 6))) (eFz (eVar 11)) (b0 t3 os th n G H (.ow (nD a)) (.ow od) .no) = some (.lst true (zs.map fun p => D.int p.1)) := by
      simp only [z_eLc, z_eEnum, z_esCons, ev5, z_esNil, Option.bind_some, z_dItems1, wi, if_pos nl]
      rw [nm, ec, Option.bind_some]
    have ad : dAdd (.lst true (zs.map fun p => D.int p.1)) (.lst true [.int (j : Int)]) = some (.lst true (zs.map (fun p => D.int p.1) ++ [.int (j : Int)])) := by
      rw [z_addL, if_pos ⟨le_lim (by simp; omega), isFzs_map _ (fun _ => by simp) _, by simp⟩]
    simp only [z_sSet, z_vBi, z_vsCons, z_vOp, z_vOf, le, Option.bind_some, z_vLst, e4', z_vsNil, ad, so', z_tupL, if_pos rP.fz]
    rfl
  obtain ⟨M1, g1, L1⟩ := B.m1 (t := t4) (os := os) (a := a) th .no
  have s4 : sSet 9 (vOf gM1) (b0 t4 os th n G H (.ow (nD a)) (.ow od) (.ow (.tup P))) = some (.nx, eB t4 os th n G H a od (.tup P) (.ow (.lst true M1))) := by
    have : b0 t4 os th n G H (.ow (nD a)) (.ow od) (.ow (.tup P)) = eB t4 os th n G H a od (.tup P) .no := rfl
    rw [this, z_sSet, z_vOf, g1]; rfl
  obtain ⟨M2, g2, L2⟩ := B.m2 (t := t4) (os := os) (a := a) th .no
  obtain ⟨K2, k2, kk2, s5⟩ := b_add (v := vOf gM2) (t' := t4) (by rw [z_vOf, g2]; rfl) L1 L2 (by omega)
  obtain ⟨M3, g3, L3⟩ := B.a3 (t := t4) (os := os) (a := a) th (.ow (.lst true K2))
  obtain ⟨K3, k3, kk3, s6⟩ := b_app g3 k2 L3 (by omega)
  obtain ⟨M4, g4, L4⟩ := B.m4 (t := t4) (os := os) (a := a) th .no
  obtain ⟨K4, k4, kk4, s7⟩ := b_add (v := vOf gM4) (t' := t4) (by rw [z_vOf, g4]; rfl) k3 L4 (by omega)
  obtain ⟨M5, g5, L5⟩ := B.a5 (t := t4) (os := os) (a := a) th (.ow (.lst true K4))
  obtain ⟨K5, k5, kk5, s8⟩ := b_app g5 k4 L5 (by omega)
  obtain ⟨M6, g6, L6⟩ := B.m6 (t := t4) (os := os) (a := a) th .no
  obtain ⟨K6, k6, kk6, s9⟩ := b_add (v := vOf gM6) (t' := t4) (by rw [z_vOf, g6]; rfl) k5 L6 (by omega)
  obtain ⟨M7, g7, L7⟩ := B.a7 (t := t4) (os := os) (a := a) th (.ow (.lst true K6))
  obtain ⟨K7, k7, kk7, s10⟩ := b_app g7 k6 L7 (by omega)
  obtain ⟨M8, t5, T5, g8, L8⟩ := B.m8 (a := a) th .no T4 ho
  obtain ⟨K8, k8, kk8, s11⟩ := b_add g8 k7 L8 (by omega)
  obtain ⟨M9, g9', L9⟩ := B.m9 (t := t5) (os := os) (a := a) th .no
  obtain ⟨K9, k9, kk9, s12⟩ := b_add (v := vOf gM9) (t' := t5) (by rw [z_vOf, g9']; rfl) k8 L9 (by omega)
  obtain ⟨M10, g10, L10⟩ := B.m10 (t := t5) (os := os) (a := a) th .no hth.symm
  obtain ⟨K10, k10, kk10, s13⟩ := b_add (v := vOf gM10) (t' := t5) (by rw [z_vOf, g10]; rfl) k9 L10 (by omega)
  have kp : 0 < K10.length := by omega
  obtain ⟨d, t6, hd, T6, e6⟩ := sp_any_l t5 T5 (fzs K10) (by rw [len_fzs]; exact kp) (by rw [len_fzs]; have := k10.1; omega) (fzs_isFzs _)
  have e6' : vCall m__law_any [.lend 0, .val (vMove 9)] (eB t5 os th n G H a od (.tup P) (.ow (.lst true K10))) = some (d, eB t6 os th n G H a od (.tup P) .no) := vCall_lend (d := .lst true K10) rfl e6
  refine ⟨d, t6, ?_, T6, ?_⟩
  · obtain ⟨y, hy, rfl⟩ := mem_fzs hd
    exact k10.2 y hy
  · rw [m__law_bent_eq]
    show fin [0] (sSeq _ (sSeq _ (sSeq _ (sSeq (sSet 9 (vOf gM1)) (sSeq (sSet 9 (vOp dAdd (vFz (vMove 9)) (vFz (vOf gM2)))) (sSeq (sDrop (vMeth "list" 9 mAppend (vsCons (vOf gA3) (vsNil)))) (sSeq (sSet 9 (vOp dAdd (vFz (vMove 9)) (vFz (vOf gM4)))) (sSeq (sDrop (vMeth "list" 9 mAppend (vsCons (vOf gA5) (vsNil)))) (sSeq (sSet 9 (vOp dAdd (vFz (vMove 9)) (vFz (vOf gM6)))) (sSeq (sDrop (vMeth "list" 9 mAppend (vsCons (vOf gA7) (vsNil)))) (sSeq (sSet 9 (vOp dAdd (vFz (vMove 9)) (vFz vM8))) (sSeq (sSet 9 (vOp dAdd (vFz (vMove 9)) (vFz (vOf gM9)))) (sSeq (sSet 9 (vOp dAdd (vFz (vMove 9)) (vFz (vOf gM10)))) (sSeq (sRet (vCall m__law_any [.lend 0, .val (vMove 9)])) sNil))))))))))))) _) = _
    simp only [z_sSeq, s1, s2, s3, s4, s5, s6, s7, s8, s9, s10, s11, s12, s13, Option.bind_some, z_sRet, e6', z_fin]
    rfl
end K74

set_option maxRecDepth 100000
set_option linter.all false
set_option Elab.async false
namespace K74
open PySem Z
theorem repr_th {d : D} (h : Th d) : bRepr [d] = some (.str (dPy d).shown) := by
  show (if _ then _ else _) = _
  rw [if_pos h.sh]
theorem ne_same {s : Str} (h : PyData.strOk s = true) : dNe (.str s) (.str s) = some (.bl false) := by
  simp [dNe, eqOk, dPy, PyData.eqv, okPy, SeqAt.shaped, PyData.canLay0, PyData.depth, h]
theorem Ok.span {os : List Of} (h : Ok os) {k : Nat} (hk : k < os.length) : 0 ≤ bg os k ∧ bg os k < nd os k ∧ nd os k ≤ 1000000 := by
  have : gt os k = os[k] := by rw [gt, List.getD_eq_getElem?_getD, List.getElem?_eq_getElem hk]; rfl
  have o := h.ok os[k] (List.getElem_mem hk)
  unfold bg nd
  rw [this]
  exact ⟨o.1, o.2.1, o.2.2.1⟩
theorem least_bd {os : List Of} (h : Ok os) {g : List Nat} (hg : ∀ k ∈ g, k < os.length) : 0 ≤ leastEnd os g ∧ leastEnd os g ≤ 1000000 := by
  unfold leastEnd
  split
  · rename_i k q
    have m := List.mem_of_getLast? q
    have kl := apart_lt m
    rw [List.length_map] at kl
    have := gt_s (os := os) kl
    rw [this]
    have := h.span (hg _ (phi_in kl))
    unfold nd at this
    omega
  · omega
theorem vAnyF {v : En → Option (D × En)} {t t1 : D} {E E1 : En} (l : List D) (h0 : 0 < l.length) (h1 : l.length ≤ 1000) (hv : v (.ow t :: E) = some (.lst true l, .ow t1 :: E1)) (h : Tp t1) : ∃ (d t2 : D), d ∈ fzs l ∧ Tp t2 ∧ vCall m__law_any [.lend 0, .val v] (.ow t :: E) = some (d, .ow t2 :: E1) := by
  obtain ⟨d, t2, hd, T, e⟩ := sp_any_l t1 h (fzs l) (by rw [len_fzs]; exact h0) (by rw [len_fzs]; exact h1) (fzs_isFzs _)
  exact ⟨d, t2, hd, T, vCall_lend (d := .lst true l) hv e⟩
def bdy_er : SF := (sSeq (sSet 3 (vCall m__law_any [.lend 0, .val (vOf (eCall m__law_groups (esCons (eRgL rng1Of (esCons (eBi bLen (esCons (eVar 1) (esNil))) esNil)) (esNil))))])) (sSeq (sIf (tBl (eOp dNe (eBi bRepr (esCons (eCall m_least_end (esCons (eVar 1) (esCons (eVar 3) (esNil)))) (esNil))) (eBi bRepr (esCons (eCall m__law_least_end (esCons (eVar 1) (esCons (eVar 3) (esNil)))) (esNil))))) (sSeq (sRet (vOf (eC (.bl false)))) (sNil)) (sNil)) (sNil)))
theorem er_body {os : List Of} (h : Ok os) (t : D) (T : Tp t) (k x y : Sl) (ox : opn x) : ∃ t' g, Tp t' ∧ bdy_er [.ow t, .ow (osD os), k, x, y] = some (.nx, [.ow t', .ow (osD os), k, .ow (gD g), y]) := by
  have ol := h.len
  have rg : rng1Of [.int (os.length : Int)] = some ((List.range os.length).map nD) := rng_n os.length (by omega)
  have gr := sp_groups (d := .lst false ((List.range os.length).map nD)) (g := List.range os.length) (Or.inr rfl) (by simp; omega)
  have gl : (groups (List.range os.length)).length ≤ 1000 := groups_len (by simp; omega)
  have g0 : 0 < (groups (List.range os.length)).length := List.length_pos_of_mem (mem_groups.mpr (List.nil_sublist _))
  have hv : vOf (eCall m__law_groups (esCons (eRgL rng1Of (esCons (eBi bLen (esCons (eVar 1) (esNil))) esNil)) (esNil))) [.ow t, .ow (osD os), k, x, y] = some (.lst true ((groups (List.range os.length)).map gD), [.ow t, .ow (osD os), k, x, y]) := by
    have e1 : eVar 1 [.ow t, .ow (osD os), k, x, y] = some (osD os) := rfl
    simp [e1, rg, gr, - List.map_map]
  obtain ⟨d, t', hd, T', e⟩ := vAny (t := t) (t1 := t) (E := [.ow (osD os), k, x, y]) (E1 := [.ow (osD os), k, x, y]) ((groups (List.range os.length)).map gD) (by simpa using g0) (by simpa using gl) (by simp) hv T
  obtain ⟨g, hg, rfl⟩ := List.mem_map.mp hd
  have sg := mem_groups.mp hg
  have gm : ∀ k ∈ g, k < os.length := fun k hk => List.mem_range.mp (sg.subset hk)
  have gr' : rise g := List.Pairwise.sublist sg (by rw [List.range_eq_range']; exact List.pairwise_lt_range')
  have gll : g.length ≤ 8 := by have := sg.length_le; simp at this; omega
  have l1 : m_least_end [osD os, gD g] = some (.int (leastEnd os g), []) := sp_least_ok h g gr' gm gll
  have l2 := sp_law_least gm gll
  rw [← least_eq h gm] at l2
  have bd := least_bd h gm
  have th : Th (.int (leastEnd os g)) := Or.inl (lf_int (by omega) (by omega))
  have rp := repr_th th
  have ns := ne_same th.st
  refine ⟨t', g, T', ?_⟩
  have s1 : sSet 3 (vCall m__law_any [.lend 0, .val (vOf (eCall m__law_groups (esCons (eRgL rng1Of (esCons (eBi bLen (esCons (eVar 1) (esNil))) esNil)) (esNil))))]) [.ow t, .ow (osD os), k, x, y] = some (.nx, [.ow t', .ow (osD os), k, .ow (gD g), y]) := by
    rw [z_sSet, e]
    rcases ox with rfl | ⟨_, rfl⟩ <;> rfl
  unfold bdy_er
  rw [z_sSeq, s1]
  have e1 : eVar 1 [.ow t', .ow (osD os), k, .ow (gD g), y] = some (osD os) := rfl
  have e3 : eVar 3 [.ow t', .ow (osD os), k, .ow (gD g), y] = some (gD g) := rfl
  simp [e1, e3, l1, l2, rp, ns]
theorem er_loop {os : List Of} (h : Ok os) (y : Sl) : ∀ (ks : List Nat) (t : D) (k x : Sl), Tp t → opn k → opn x → ∃ t' k' x', Tp t' ∧ opn x' ∧ sForGo (boName 2) bdy_er (ks.map nD) [.ow t, .ow (osD os), k, x, y] = some (.nx, [.ow t', .ow (osD os), k', x', y])
  | [], t, k, x, T, _, ox => ⟨t, k, x, T, ox, rfl⟩
  | j :: ks, t, k, x, T, ok, ox => by
    obtain ⟨t1, g, T1, e1⟩ := er_body h t T (.ow (nD j)) x y ox
    have hb : boName 2 (nD j) [.ow t, .ow (osD os), k, x, y] = some [.ow t, .ow (osD os), .ow (nD j), x, y] := by rcases ok with rfl | ⟨_, rfl⟩ <;> rfl
    obtain ⟨t', k', x', T', ox', e⟩ := er_loop h y ks t1 (.ow (nD j)) (.ow (gD g)) T1 (Or.inr ⟨_, rfl⟩) (Or.inr ⟨_, rfl⟩)
    exact ⟨t', k', x', T', ox', by rw [List.map_cons, forGo_nx (isFz_nD j) hb e1, e]⟩
theorem rw_one {d : D} (h : Lf d) : Rw [d] := ⟨by simp, by intro x hx; rw [List.mem_singleton.mp hx]; exact h⟩
theorem rw_two {d e : D} (h : Lf d) (h2 : Lf e) : Rw [d, e] := ⟨by simp, by
  intro x hx
  simp only [List.mem_cons, List.not_mem_nil, or_false] at hx
  rcases hx with rfl | rfl <;> assumption⟩
theorem sp_ends {os : List Of} (h : Ok os) (t : D) (T : Tp t) : ∃ t', Tp t' ∧ m__law_are_ends_right [t, osD os] = some (.bl true, [t']) := by
  have r3 : rng1Of [.int 3] = some ([0, 1, 2].map nD) := rfl
  obtain ⟨t1, k1, x1, T1, ox1, e1⟩ := er_loop h .no [0, 1, 2] t .no .no T (Or.inl rfl) (Or.inl rfl)
  have hv : vOf (eLst (esCons (eC .non) (esCons (eLst (esCons (eC (.int 0)) (esNil))) (esCons (eTup (esCons (eBi bLen (esCons (eVar 1) (esNil))) (esNil))) (esCons (eTup (esCons (eUn dNeg (eC (.int 1))) (esNil))) (esCons (eTup (esCons (eC (.int 0)) (esCons (eC (.int 0)) (esNil)))) (esCons (eTup (esCons (eC (.int 1)) (esCons (eC (.int 0)) (esNil)))) (esCons (eTup (esCons (eC (.bl true)) (esNil))) (esCons (eC (.str "0")) (esCons (eC (.int 0)) (esCons (eC (.dk true [] [])) (esCons (eTup (esCons (eTup (esCons (eC (.int 0)) (esNil))) (esNil))) (esCons (eTup (esCons (eC (.str "0")) (esNil))) (esNil)))))))))))))) [.ow t1, .ow (osD os), k1, x1, .no] =
      some (.lst true [.non, .lst true [.int 0], .tup [.int os.length], .tup [.int (-1)], .tup [.int 0, .int 0], .tup [.int 1, .int 0], .tup [.bl true], .str "0", .int 0, .dk true [] [], .tup [.tup [.int 0]], .tup [.str "0"]], [.ow t1, .ow (osD os), k1, x1, .no]) := by
    have e1 : eVar 1 [.ow t1, .ow (osD os), k1, x1, .no] = some (osD os) := rfl
    simp [e1]
  obtain ⟨d, t2, hd, T2, e2⟩ := vAnyF _ (by simp) (by simp) hv T1
  have ls : Lf (.str "0") := Or.inr (Or.inr (Or.inr ⟨_, rfl, by decide +kernel, by decide +kernel, by decide +kernel, by decide +kernel⟩))
  have l0 : ∀ i : Int, -10 ≤ i → i ≤ 10 → Lf (.int i) := fun i h1 h2 => lf_int (by omega) (by omega)
  have ol := h.len
  have gd : Gt d ∧ grpOf os.length d = none := by
    simp only [fzs, fz, List.mem_cons, List.not_mem_nil, or_false] at hd
    rcases hd with rfl | rfl | rfl | rfl | rfl | rfl | rfl | rfl | rfl | rfl | rfl | rfl
    · exact ⟨Pt.gt (Or.inl lf_non), rfl⟩
    · exact ⟨Pt.gt (Pt.lst (rw_one (l0 0 (by omega) (by omega)))), rfl⟩
    · refine ⟨Pt.gt (Pt.tup (rw_one (lf_int (by omega) (by omega)))), ?_⟩
      simp [grpOf, intsOf]
      intro q; omega
    · refine ⟨Pt.gt (Pt.tup (rw_one (l0 (-1) (by omega) (by omega)))), ?_⟩
      simp [grpOf, intsOf]
    · refine ⟨Pt.gt (Pt.tup (rw_two (l0 0 (by omega) (by omega)) (l0 0 (by omega) (by omega)))), ?_⟩
      simp [grpOf, intsOf, asc]
    · refine ⟨Pt.gt (Pt.tup (rw_two (l0 1 (by omega) (by omega)) (l0 0 (by omega) (by omega)))), ?_⟩
      simp [grpOf, intsOf, asc]
    · exact ⟨Pt.gt (Pt.tup (rw_one (lf_bl true))), rfl⟩
    · exact ⟨Pt.gt (Or.inl ls), rfl⟩
    · exact ⟨Pt.gt (Or.inl (l0 0 (by omega) (by omega))), rfl⟩
    · exact ⟨{ fz := by simp [isFz], ty := ⟨_, rfl⟩, it := fun l e => by cases e }, rfl⟩
    · refine ⟨{ fz := by simp, ty := ⟨_, rfl⟩, it := ?_ }, rfl⟩
      intro l e
      cases e
      refine ⟨by simp, ?_⟩
      intro x hx
      rw [List.mem_singleton.mp hx]
      exact ⟨by simp, _, rfl⟩
    · exact ⟨Pt.gt (Pt.tup (rw_one ls)), rfl⟩
  have le := sp_least_no h d gd.1 gd.2
  refine ⟨t2, T2, ?_⟩
  rw [m__law_are_ends_right_eq]
  show fin [0] (sSeq (sFor _ _ bdy_er) (sSeq (sSet 4 _) _) _) = _
  have s1 : sFor (iOf (eRng rng1Of (esCons (eC (.int 3)) (esNil)))) (boName 2) bdy_er [.ow t, .ow (osD os), .no, .no, .no] = some (.nx, [.ow t1, .ow (osD os), k1, x1, .no]) := by
    rw [z_sFor, z_iOf, z_eRng]
    simp only [z_esCons, z_eC, z_esNil, Option.bind_some, r3, e1]
  rw [z_sSeq]
  have s1' : sFor (iOf (eRng rng1Of (esCons (eC (.int 3)) (esNil)))) (boName 2) bdy_er ([.ow t, .ow (osD os)] ++ [.no, .no, .no]) = some (.nx, [.ow t1, .ow (osD os), k1, x1, .no]) := s1
  simp only [s1, Option.bind_some]
  rw [z_sSeq, z_sSet, e2, Option.bind_some]
  have op : open? [.ow t2, .ow (osD os), k1, x1, .no] 4 = true := rfl
  rw [if_pos op, Option.bind_some]
  have e1 : eVar 1 [.ow t2, .ow (osD os), k1, x1, .ow d] = some (osD os) := rfl
  have e4 : eVar 4 [.ow t2, .ow (osD os), k1, x1, .ow d] = some d := rfl
  simp [e1, e4, fz_of gd.1.toGd, le, dIsNg, noGl, dIsN, isNon, outs]
end K74

set_option maxRecDepth 100000
set_option linter.all false
set_option Elab.async false
namespace K74
open PySem Z
/-! offers otherwise: alike, later, in another order -/
theorem lawApart_congr {os os' : List Of} : ∀ (g : List Nat), (∀ i ∈ g, ∀ j ∈ g, lap os' i j = lap os i j) → lawApart os' g = lawApart os g
  | [], _ => rfl
  | k :: r, h => by
    have ih := lawApart_congr r fun i hi j hj => h i (List.mem_cons_of_mem _ hi) j (List.mem_cons_of_mem _ hj)
    have e : r.any (lap os' k) = r.any (lap os k) := by
      rw [Bool.eq_iff_iff, List.any_eq_true, List.any_eq_true]
      constructor
      · rintro ⟨j, hj, q⟩; exact ⟨j, hj, by rw [← h k List.mem_cons_self j (List.mem_cons_of_mem _ hj)]; exact q⟩
      · rintro ⟨j, hj, q⟩; exact ⟨j, hj, by rw [h k List.mem_cons_self j (List.mem_cons_of_mem _ hj)]; exact q⟩
    simp only [lawApart, ih, e]
structure Lk2 (os os' : List Of) : Prop where
  len : os'.length = os.length
  lap : ∀ i j, i < os.length → j < os.length → lap os' i j = lap os i j
theorem Lk2.ap {os os' : List Of} (L : Lk2 os os') {g : List Nat} (hg : ∀ k ∈ g, k < os.length) : lawApart os' g = lawApart os g := lawApart_congr g fun i hi j hj => L.lap i j (hg i hi) (hg j hj)
theorem Lk2.most {os os' : List Of} (L : Lk2 os os') (h : valid os) (h' : valid os') : most os' = most os := by
  have a1 := le_most h (g := pick os') (fun k hk => by rw [← L.len]; exact pick_lt hk) (by
    rw [← L.ap (fun k hk => by rw [← L.len]; exact pick_lt hk)]; exact pick_apart h')
  have a2 := le_most h' (g := pick os) (fun k hk => by rw [L.len]; exact pick_lt hk) (by
    rw [L.ap (fun k hk => pick_lt hk)]; exact pick_apart h)
  have l1 : (pick os).length = K74.most os := (pick_perm os).length_eq
  have l2 : (pick os').length = K74.most os' := (pick_perm os').length_eq
  omega
theorem lio_mem (os : List Of) : ∀ (ks f : List Nat), ∀ k ∈ lio os ks f, k ∈ f ∨ k ∈ ks
  | [], f, k, h => Or.inl h
  | q :: r, f, k, h => by
    rw [lio] at h
    split at h
    · rcases lio_mem os r _ k h with h | h
      · rcases List.mem_append.mp h with h | h
        · exact Or.inl h
        · exact Or.inr (by rw [List.mem_singleton.mp h]; exact List.mem_cons_self)
      · exact Or.inr (List.mem_cons_of_mem _ h)
    · rcases lio_mem os r _ k h with h | h
      · exact Or.inl h
      · exact Or.inr (List.mem_cons_of_mem _ h)
theorem Lk2.lio {os os' : List Of} (L : Lk2 os os') : ∀ (ks f : List Nat), (∀ k ∈ ks, k < os.length) → (∀ k ∈ f, k < os.length) → lio os' ks f = lio os ks f
  | [], f, _, _ => rfl
  | k :: r, f, hk, hf => by
    have hf2 : ∀ j ∈ f ++ [k], j < os.length := by
      intro j hj
      rcases List.mem_append.mp hj with hj | hj
      · exact hf j hj
      · rw [List.mem_singleton.mp hj]; exact hk k List.mem_cons_self
    rw [K74.lio, K74.lio, L.ap hf2, Lk2.lio L r _ (fun q hq => hk q (List.mem_cons_of_mem _ hq)) hf2, Lk2.lio L r _ (fun q hq => hk q (List.mem_cons_of_mem _ hq)) hf]
theorem Lk2.taken {os os' : List Of} (L : Lk2 os os') (h : valid os) (h' : valid os') : taken os' = taken os := by
  rw [taken_in os h, taken_in os' h']
  unfold inOrder
  rw [L.len]
  exact L.lio _ _ (fun k hk => List.mem_range.mp hk) (fun k hk => nomatch hk)
theorem gt_map {f : Of → Of} {os : List Of} {k : Nat} (h : k < os.length) : gt (os.map f) k = f (gt os k) := by
  rw [gt, gt, List.getD_eq_getElem?_getD, List.getD_eq_getElem?_getD, List.getElem?_map, List.getElem?_eq_getElem h]; rfl
def al (o : Of) : Of := (o.1, o.2.1, 1)
def sh (s : Int) (o : Of) : Of := (o.1 + s, o.2.1 + s, o.2.2)
theorem lk_al (os : List Of) : Lk2 os (os.map al) := ⟨by simp, fun i j hi hj => by unfold lap; rw [gt_map hi, gt_map hj]; rfl⟩
theorem lk_sh (os : List Of) (s : Int) : Lk2 os (os.map (sh s)) := ⟨by simp, fun i j hi hj => by
  unfold lap
  rw [Bool.eq_iff_iff]
  simp only [Bool.and_eq_true, decide_eq_true_eq]
  rw [gt_map hi, gt_map hj]
  simp only [sh]
  omega⟩
theorem ok_al {os : List Of} (h : Ok os) : Ok (os.map al) := ⟨by simpa using h.len, fun o ho => by
  obtain ⟨p, hp, rfl⟩ := List.mem_map.mp ho
  have := h.ok p hp
  unfold ofOk al at *
  simp only at *
  omega⟩
theorem ok_sh {os : List Of} (h : ∀ o ∈ os, small o) (hl : os.length ≤ 8) {s : Int} (h0 : 0 ≤ s) (h1 : s ≤ 100) : Ok (os.map (sh s)) := ⟨by simpa using hl, fun o ho => by
  obtain ⟨p, hp, rfl⟩ := List.mem_map.mp ho
  have := h p hp
  unfold small at this
  unfold ofOk sh
  simp only
  omega⟩
theorem ok_perm {os r : List Of} (h : Ok os) (p : r.Perm os) : Ok r := ⟨by rw [p.length_eq]; exact h.len, fun o ho => h.ok o (p.mem_iff.mp ho)⟩
theorem most_meets {os : List Of} (hv : valid os) {hs : List Int} (h : meets os hs = true) : most os ≤ hs.length := by
  have := pigeon (pick os) hs (pick_apart hv) (fun k hk => meets_iff.mp h k (pick_lt hk))
  have pl : (pick os).length = most os := (pick_perm os).length_eq
  omega
theorem meets_perm {os r : List Of} (p : r.Perm os) (hs : List Int) : meets r hs = meets os hs := by
  unfold meets
  rw [Bool.eq_iff_iff, List.all_eq_true, List.all_eq_true]
  constructor
  · intro h x hx; exact h x (p.mem_iff.mpr hx)
  · intro h x hx; exact h x (p.mem_iff.mp hx)
theorem most_perm {os r : List Of} (p : r.Perm os) (h : valid os) (h' : valid r) : most r = most os := by
  have a1 := most_meets h' (hs := wOf os (apart os)) (by rw [meets_perm p]; exact wOf_meets h)
  have a2 := most_meets h (hs := wOf r (apart r)) (by rw [← meets_perm p]; exact wOf_meets h')
  simp only [wOf, List.length_map] at a1 a2
  unfold most at *
  omega
theorem one_apart {os : List Of} {g : List Nat} (h : lawApart os g = true) (i : Int) : cnt os g i ≤ 1 := by
  rw [lawApart_iff] at h
  unfold cnt
  have h2 := h.filter (inn os i)
  have h3 : ∀ k ∈ g.filter (inn os i), inn os i k = true := fun k hk => (List.mem_filter.mp hk).2
  generalize g.filter (inn os i) = l at h2 h3
  rcases l with _ | ⟨x, _ | ⟨y, l⟩⟩
  · simp
  · simp
  · have a := (List.pairwise_cons.mp h2).1 y (by simp)
    have b := h3 x (by simp)
    have c := h3 y (by simp)
    simp only [inn, Bool.and_eq_true, decide_eq_true_eq] at b c
    unfold bg nd at b c
    simp only [lap, Bool.and_eq_false_iff, decide_eq_false_iff_not] at a
    exfalso
    omega
theorem most8 {os : List Of} (h : Ok os) : most os ≤ 8 := by
  have := apart_len os
  have := h.len
  unfold most; omega
theorem rw_nats {g : List Nat} (h : g.length ≤ 20) (hk : ∀ k ∈ g, k < 1000) : Rw (g.map nD) := ⟨by simpa using h, by
  intro x hx
  obtain ⟨k, hk', rfl⟩ := List.mem_map.mp hx
  have := hk k hk'
  exact lf_int (by omega) (by omega)⟩
theorem wOf_bd {os : List Of} (h : Ok os) : ∀ i ∈ wOf os (apart os), -1000000000 ≤ i ∧ i ≤ 1000000000 := by
  intro i hi
  obtain ⟨k, hk, rfl⟩ := List.mem_map.mp hi
  have := h.span (apart_lt hk)
  unfold nd at this
  omega
theorem rw_w {os : List Of} (h : Ok os) : Rw ((wOf os (apart os)).map .int) := ⟨by
  have := most8 h
  unfold most at this
  simp [wOf]; omega, by
  intro x hx
  obtain ⟨i, hi, rfl⟩ := List.mem_map.mp hx
  have := wOf_bd h i hi
  exact lf_int this.1 this.2⟩
theorem rw_pick {os : List Of} (h : Ok os) : Rw ((pick os).map nD) := by
  have pl : (pick os).length = most os := (pick_perm os).length_eq
  have := most8 h
  have := h.len
  exact rw_nats (by omega) (fun k hk => by have := pick_lt hk; omega)
theorem told_eq (os : List Of) : told os = .tup [.int (most os : Nat), .tup ((pick os).map nD), .tup ((wOf os (apart os)).map .int)] := rfl
theorem th_told {os : List Of} (h : Ok os) : Th (told os) := by
  rw [told_eq]
  have := most8 h
  exact Th.three (Or.inl (lf_int (by omega) (by omega))) (Pt.tup (rw_pick h)) (Pt.tup (rw_w h))
theorem taken_mem {os : List Of} (h : Ok os) : ∀ k ∈ taken os, k < os.length := by
  intro k hk
  rw [taken_in os h.valid] at hk
  rcases lio_mem os _ _ k hk with q | q
  · cases q
  · exact List.mem_range.mp q
theorem taken_most {os : List Of} (h : Ok os) : (taken os).length ≤ most os := by
  have := taken_mem h
  rw [taken_in os h.valid] at this ⊢
  exact le_most h.valid this (lio_apart os _ _ rfl)
theorem eqv_nats : ∀ g : List Nat, PyData.eqv (.tuple (dPys (g.map nD))) (.tuple (dPys (g.map nD))) = true := by
  intro g
  simp only [PyData.eqv]
  induction g with
  | nil => rfl
  | cons k g ih =>
    simp only [List.map_cons, dPys, PyData.eqvAll, ih, Bool.and_true]
    simp [nD, dPy, PyData.eqv]
theorem ne_nats (g : List Nat) : dNe (gD g) (gD g) = some (.bl false) := by
  have k : ∀ g : List Nat, okPys (g.map nD) = true := okPys_map nD (fun _ => rfl)
  have cl : ∀ g : List Nat, PyData.canLayAll0 (dPys (g.map nD)) = true := by
    intro g
    induction g with
    | nil => rfl
    | cons k g ih => simp only [List.map_cons, dPys, PyData.canLayAll0, ih, Bool.and_true]; rfl
  have dp : ∀ g : List Nat, PyData.depthAll (dPys (g.map nD)) ≤ 1 := by
    intro g
    induction g with
    | nil => simp [dPys, PyData.depthAll]
    | cons k g ih => simp only [List.map_cons, dPys, PyData.depthAll]; simp [nD, dPy, PyData.depth]; exact ih
  have ok : eqOk (gD g) = true := by
    have := dp g
    simp only [eqOk, gD, okPy, k g, dPy, SeqAt.shaped, PyData.canLay0, cl g, PyData.depth, Bool.true_and, decide_eq_true_eq]
    omega
  have e := eqv_nats g
  have e' : PyData.eqv (dPy (gD g)) (dPy (gD g)) = true := e
  unfold dNe
  rw [ok, e']; rfl
end K74

set_option maxRecDepth 100000
set_option linter.all false
set_option Elab.async false
namespace K74
open PySem Z
theorem vCall_lend2 {F : Fn} {v u : En → Option (D × En)} {t t1 t2 d d2 r : D} {E E1 E2 : En} (hv : v (.ow t :: E) = some (d, .ow t1 :: E1)) (hu : u (.ow t1 :: E1) = some (d2, .ow t1 :: E2)) (hF : F [t1, fz d, fz d2] = some (r, [t2])) : vCall F [.lend 0, .val v, .val u] (.ow t :: E) = some (r, .ow t2 :: E2) := by
  simp [vCall, arGo, arTake, arBack, hv, hu, hF, open?]
def arS (t : D) (os : List Of) (gs : D) (j th sh fl : Sl) (R : En) : En := .ow t :: .ow (osD os) :: .ow (told os) :: .ow gs :: .ow (.int (most os : Nat)) :: j :: th :: sh :: fl :: R
def bdy_ar : SF := (sSeq (sSet 6 (vIf (tOf (tBl (eOp dEq (eVar 5) (eC (.int 0))))) (vOf (eFz (eVar 2))) (vCall m__law_bent [.lend 0, .val (vOf (eFz (eVar 1))), .val (vOf (eFz (eVar 2)))]))) (sSeq (sPar 7 8 (vsCons (vOf (eBi bRepr (esCons (eVar 6) (esNil)))) (vsCons (vOf (eCall m__law_is_right (esCons (eVar 1) (esCons (eVar 6) (esNil))))) (vsNil)))) (sSeq (sIf (tOrB (tBl (eOp dNe (eBi bRepr (esCons (eCall m_is_most_apart (esCons (eVar 1) (esCons (eVar 6) (esNil)))) (esNil))) (eBi bRepr (esCons (eVar 8) (esNil))))) (tBl (eOp dNe (eBi bRepr (esCons (eVar 6) (esNil))) (eVar 7)))) (sSeq (sRet (vOf (eC (.bl false)))) (sNil)) (sNil)) (sSeq (sIf (tAndB (tBl (eVar 8)) (tBl (eOp dNe (eOp dItem (eVar 6) (eC (.int 0))) (eVar 4)))) (sSeq (sRet (vOf (eC (.bl false)))) (sNil)) (sNil)) (sNil)))))
theorem right_item {os : List Of} (hv : valid os) {d : D} (h : rightR os d = true) : dItem d (.int 0) = some (.int (most os : Nat)) := by
  have h0 := h
  unfold rightR at h
  split at h
  · rw [right_most hv h0]; simp
  · cases h
theorem th_bl (b : Bool) : Th (.bl b) := Or.inl (lf_bl b)
theorem ar_body {os : List Of} (h : Ok os) (gs : D) (t : D) (T : Tp t) (j : Nat) (x y z : Sl) (R : En) (ox : opn x) (oy : opn y) (oz : opn z) : ∃ t' x' y' z', Tp t' ∧ opn x' ∧ opn y' ∧ opn z' ∧ bdy_ar (arS t os gs (.ow (nD j)) x y z R) = some (.nx, arS t' os gs (.ow (nD j)) x' y' z' R) := by
  have tt := th_told h
  have m8 := most8 h
  have s1 : ∃ d t', Th d ∧ Tp t' ∧ sSet 6 (vIf (tOf (tBl (eOp dEq (eVar 5) (eC (.int 0))))) (vOf (eFz (eVar 2))) (vCall m__law_bent [.lend 0, .val (vOf (eFz (eVar 1))), .val (vOf (eFz (eVar 2)))])) (arS t os gs (.ow (nD j)) x y z R) = some (.nx, arS t' os gs (.ow (nD j)) (.ow d) y z R) := by
    have e5 : eVar 5 (arS t os gs (.ow (nD j)) x y z R) = some (.int (j : Int)) := rfl
    have e2 : ∀ t, eVar 2 (arS t os gs (.ow (nD j)) x y z R) = some (told os) := fun _ => rfl
    have e1 : ∀ t, eVar 1 (arS t os gs (.ow (nD j)) x y z R) = some (osD os) := fun _ => rfl
    have op : ∀ t, open? (arS t os gs (.ow (nD j)) x y z R) 6 = true := by intro t; rcases ox with rfl | ⟨_, rfl⟩ <;> rfl
    by_cases q : j = 0
    · subst q
      refine ⟨told os, t, tt, T, ?_⟩
      have c : (tOf (tBl (eOp dEq (eVar 5) (eC (.int 0))))) (arS t os gs (.ow (nD 0)) x y z R) = some (true, arS t os gs (.ow (nD 0)) x y z R) := by
        simp [e5]
      rw [z_sSet, z_vIf, c, Option.bind_some]
      simp only [if_true, z_vOf, z_eFz, e2, Option.bind_some, if_pos tt.gz.fz, if_pos (op t)]
      rfl
    · obtain ⟨d, t', td, T', e⟩ := sp_bent t T os h (most os : Nat) ((pick os).map nD) (wOf os (apart os)) (by omega) (by omega) (rw_pick h) (by
        have pl : (pick os).length = most os := (pick_perm os).length_eq
        simp; omega) (rw_w h) (by simp [wOf]; unfold most at m8; omega) (wOf_bd h)
      refine ⟨d, t', td, T', ?_⟩
      have c : (tOf (tBl (eOp dEq (eVar 5) (eC (.int 0))))) (arS t os gs (.ow (nD j)) x y z R) = some (false, arS t os gs (.ow (nD j)) x y z R) := by
        have : ((j : Int) == 0) = false := by rw [beq_eq_false_iff_ne]; omega
        simp [e5, this]
      have vc : vCall m__law_bent [.lend 0, .val (vOf (eFz (eVar 1))), .val (vOf (eFz (eVar 2)))] (arS t os gs (.ow (nD j)) x y z R) = some (d, arS t' os gs (.ow (nD j)) x y z R) := by
        refine vCall_lend2 (d := osD os) (d2 := told os) (t1 := t) (E1 := .ow (osD os) :: .ow (told os) :: .ow gs :: .ow (.int (most os : Nat)) :: .ow (nD j) :: x :: y :: z :: R) ?_ ?_ ?_
        · have : vOf (eFz (eVar 1)) (arS t os gs (.ow (nD j)) x y z R) = some (osD os, arS t os gs (.ow (nD j)) x y z R) := by
            rw [z_vOf, z_eFz, e1]; simp
          exact this
        · have : vOf (eFz (eVar 2)) (arS t os gs (.ow (nD j)) x y z R) = some (told os, arS t os gs (.ow (nD j)) x y z R) := by
            rw [z_vOf, z_eFz, e2, Option.bind_some, if_pos tt.gz.fz]; rfl
          exact this
        · rw [fz_os, fz_same _ tt.gz.fz, told_eq]; exact e
      rw [z_sSet, z_vIf, c, Option.bind_some]
      simp only [Bool.false_eq_true, if_false, vc, Option.bind_some, if_pos (op t')]
      rfl
  obtain ⟨d, t1, td, T1, s1⟩ := s1
  have gz := td.gz
  have ir := sp_is_right h d gz
  have im := sp_is_most_apart h d gz.toGs
  rw [mostR_eq h.valid] at im
  have rd := repr_th td
  have nd := ne_same td.st
  have rb := repr_th (th_bl (rightR os d))
  have nb := ne_same (th_bl (rightR os d)).st
  refine ⟨t1, .ow d, .ow (.str (dPy d).shown), .ow (.bl (rightR os d)), T1, Or.inr ⟨_, rfl⟩, Or.inr ⟨_, rfl⟩, Or.inr ⟨_, rfl⟩, ?_⟩
  have e6 : eVar 6 (arS t1 os gs (.ow (nD j)) (.ow d) y z R) = some d := rfl
  have e1 : eVar 1 (arS t1 os gs (.ow (nD j)) (.ow d) y z R) = some (osD os) := rfl
  have s2 : sPar 7 8 (vsCons (vOf (eBi bRepr (esCons (eVar 6) (esNil)))) (vsCons (vOf (eCall m__law_is_right (esCons (eVar 1) (esCons (eVar 6) (esNil))))) (vsNil))) (arS t1 os gs (.ow (nD j)) (.ow d) y z R) = some (.nx, arS t1 os gs (.ow (nD j)) (.ow d) (.ow (.str (dPy d).shown)) (.ow (.bl (rightR os d))) R) := by
    have op : open? (arS t1 os gs (.ow (nD j)) (.ow d) y z R) 7 = true ∧ open? ((arS t1 os gs (.ow (nD j)) (.ow d) y z R).set 7 (.ow (.str (dPy d).shown))) 8 = true := by
      constructor
      · rcases oy with rfl | ⟨_, rfl⟩ <;> rfl
      · rcases oz with rfl | ⟨_, rfl⟩ <;> rfl
    simp only [sPar, z_vsCons, z_vOf, z_eBi, z_esCons, e6, e1, z_esNil, Option.bind_some, rd, z_eCall, z_fzs1, z_fzs0, fz_os, fz_same d gz.fz, ir, z_noFzB, if_true, z_vsNil]
    rw [if_pos op]; rfl
  unfold bdy_ar
  rw [z_sSeq, s1, Option.bind_some]
  simp only []
  rw [z_sSeq, s2, Option.bind_some]
  simp only []
  have f6 : eVar 6 (arS t1 os gs (.ow (nD j)) (.ow d) (.ow (.str (dPy d).shown)) (.ow (.bl (rightR os d))) R) = some d := rfl
  have f1 : eVar 1 (arS t1 os gs (.ow (nD j)) (.ow d) (.ow (.str (dPy d).shown)) (.ow (.bl (rightR os d))) R) = some (osD os) := rfl
  have f4 : eVar 4 (arS t1 os gs (.ow (nD j)) (.ow d) (.ow (.str (dPy d).shown)) (.ow (.bl (rightR os d))) R) = some (.int (most os : Nat)) := rfl
  have f7 : eVar 7 (arS t1 os gs (.ow (nD j)) (.ow d) (.ow (.str (dPy d).shown)) (.ow (.bl (rightR os d))) R) = some (.str (dPy d).shown) := rfl
  have f8 : eVar 8 (arS t1 os gs (.ow (nD j)) (.ow d) (.ow (.str (dPy d).shown)) (.ow (.bl (rightR os d))) R) = some (.bl (rightR os d)) := rfl
  cases q : rightR os d with
  | false =>
    rw [q] at rb nb im f1 f4 f6 f7 f8
    simp [f1, f4, f6, f7, f8, fz_same d gz.fz, im, rb, nb, rd, nd]
  | true =>
    have it := right_item h.valid q
    rw [q] at rb nb im f1 f4 f6 f7 f8
    simp [f1, f4, f6, f7, f8, fz_same d gz.fz, im, rb, nb, rd, nd, it]
theorem ar_loop {os : List Of} (h : Ok os) (gs : D) (R : En) : ∀ (ks : List Nat) (t : D) (j x y z : Sl), Tp t → opn j → opn x → opn y → opn z → ∃ t' j' x' y' z', Tp t' ∧ sForGo (boName 5) bdy_ar (ks.map nD) (arS t os gs j x y z R) = some (.nx, arS t' os gs j' x' y' z' R)
  | [], t, j, x, y, z, T, _, _, _, _ => ⟨t, j, x, y, z, T, rfl⟩
  | k :: ks, t, j, x, y, z, T, oj, ox, oy, oz => by
    obtain ⟨t1, x1, y1, z1, T1, ox1, oy1, oz1, e1⟩ := ar_body h gs t T k x y z R ox oy oz
    have hb : boName 5 (nD k) (arS t os gs j x y z R) = some (arS t os gs (.ow (nD k)) x y z R) := by rcases oj with rfl | ⟨_, rfl⟩ <;> rfl
    obtain ⟨t', j', x', y', z', T', e⟩ := ar_loop h gs R ks t1 (.ow (nD k)) x1 y1 z1 T1 (Or.inr ⟨_, rfl⟩) ox1 oy1 oz1
    exact ⟨t', j', x', y', z', T', by rw [List.map_cons, forGo_nx (isFz_nD k) hb e1, e]⟩
end K74

set_option maxRecDepth 100000
set_option linter.all false
set_option Elab.async false
namespace K74
open PySem Z
def gsD (os : List Of) : D := .lst true ((groups (List.range os.length)).map gD)
def eE (t : D) (os : List Of) (j x y z s9 s10 s11 s12 s13 s14 : Sl) : En := arS t os (gsD os) j x y z [s9, s10, s11, s12, s13, s14, .no, .no, .no, .no]
theorem zmul {a b : Nat} (h : a ≤ 1000) : dMul (.int (a : Int)) (.int (b : Int)) = some (.int ((a : Int) * b)) := by
  rw [z_mulI, if_pos]
  left
  have : big = 2 ^ 64 := rfl
  constructor <;> omega
theorem seq_nx {f g : SF} {e e1 : En} (h : f e = some (.nx, e1)) : sSeq f g e = g e1 := by rw [z_sSeq, h]; rfl
theorem seq_rt {f g : SF} {e e1 : En} {d : D} (h : f e = some (.rt d, e1)) : sSeq f g e = some (.rt d, e1) := by rw [z_sSeq, h]; rfl
theorem ne_two (a : Int) : dNe (.lst true [.int a, .int a]) (.lst true [.int a, .int a]) = some (.bl false) := by
  simp [dNe, eqOk, dPy, dPys, PyData.eqv, PyData.eqvAll, okPy, okPys, SeqAt.shaped, PyData.canLay0, PyData.canLayAll0, PyData.depth, PyData.depthAll]
theorem ret_ge {E : En} {c : D} {a b n : Nat} (e1 : eVar 1 E = some c) (bl : bLen [c] = some (.int (n : Int))) (e4 : eVar 4 E = some (.int (a : Int))) (e11 : eVar 11 E = some (.int (b : Int))) (ha : a ≤ 1000) (h : (n : Int) ≤ (a : Int) * b) :
    sRet (vOf (eOp dGe (eOp dMul (eVar 4) (eVar 11)) (eBi bLen (esCons (eVar 1) (esNil))))) E = some (.rt (.bl true), E) := by
  have zm := zmul (a := a) (b := b) ha
  rw [z_sRet, z_vOf, z_eOp, z_eOp, e4, Option.bind_some, e11, Option.bind_some, zm, Option.bind_some, z_eBi, z_esCons, e1, Option.bind_some, z_esNil, Option.bind_some, Option.bind_some, bl, Option.bind_some, z_ge]
  rw [decide_eq_true h]
  rfl
theorem sp_right {os : List Of} (sm : ∀ o ∈ os, small o) (ol : os.length ≤ 8) (t : D) (T : Tp t) : ∃ t', Tp t' ∧ m__law_are_right [t, osD os] = some (.bl true, [t']) := by
  have h : Ok os := Ok.of_small sm ol
  have hv := h.valid
  have m8 := most8 h
  have tt := th_told h
  have l1 : os.length ≤ lim := le_lim (by omega)
  have lr : (List.range os.length).length ≤ 8 := by simpa using ol
  have rg : rng1Of [.int (os.length : Int)] = some ((List.range os.length).map nD) := rng_n os.length (by omega)
  have gr := sp_groups (d := .lst false ((List.range os.length).map nD)) (g := List.range os.length) (Or.inr rfl) lr
  have gl : (groups (List.range os.length)).length ≤ 1000 := groups_len lr
  have gm : ∀ g ∈ groups (List.range os.length), (∀ k ∈ g, k < os.length) ∧ g.length ≤ 1000 := by
    intro g hg
    have sg := mem_groups.mp hg
    exact ⟨fun k hk => List.mem_range.mp (sg.subset hk), by have := sg.length_le; simp at this; omega⟩
  have ma := sp_most_apart h
  have nt : noFz (told os) = true := by
    rw [told_eq]; simp
  -- the two at the beginning
  have s1 : sPar 2 3 (vsCons (vOf (eCall m_most_apart (esCons (eVar 1) (esNil)))) (vsCons (vOf (eCall m__law_groups (esCons (eRgL rng1Of (esCons (eBi bLen (esCons (eVar 1) (esNil))) esNil)) (esNil)))) (vsNil))) [.ow t, .ow (osD os), .no, .no, .no, .no, .no, .no, .no, .no, .no, .no, .no, .no, .no, .no, .no, .no, .no] = some (.nx, [.ow t, .ow (osD os), .ow (told os), .ow (gsD os), .no, .no, .no, .no, .no, .no, .no, .no, .no, .no, .no, .no, .no, .no, .no]) := by
    simp [sPar, eVar, ma, nt, rg, gr, open?, gsD, - List.map_map]
  have ec := lcGo_map (β := Unit) (bd := bdName 15) (gt := tBl (eCall m__law_are_apart (esCons (eVar 1) (esCons (eVar 15) (esNil))))) (ge := eBi bLen (esCons (eVar 15) (esNil))) (e0 := [.ow t, .ow (osD os), .ow (told os), .ow (gsD os), .no, .no, .no, .no, .no, .no, .no, .no, .no, .no, .no, .no, .no, .no, .no])
    gD (fun g => [.ow t, .ow (osD os), .ow (told os), .ow (gsD os), .no, .no, .no, .no, .no, .no, .no, .no, .no, .no, .no, .ow (gD g), .no, .no, .no]) (lawApart os) (fun g => .int (g.length : Int)) (groups (List.range os.length)) (fun g hg => by
      have la : m__law_are_apart [osD os, gD g] = some (.bl (lawApart os g), []) := sp_law_apart (gm g hg).1 (gm g hg).2
      refine ⟨by simp, ?_, fun _ => ?_⟩
      · simp [eVar, la]
      · simp [eVar, gD])
  have mx := z_max (o := true) (fun g : List Nat => (g.length : Int)) (okGroups os (List.range os.length))
  have lm := lens_max os (List.range os.length)
  unfold lens at lm
  rw [lm, most_eq hv, Option.bind_some] at mx
  have s2 : sSet 4 (vOf (eBi bMax (esCons (eLc [15] (eItems (eVar 3)) (bdName 15) (tBl (eCall m__law_are_apart (esCons (eVar 1) (esCons (eVar 15) (esNil))))) (eBi bLen (esCons (eVar 15) (esNil)))) (esNil)))) [.ow t, .ow (osD os), .ow (told os), .ow (gsD os), .no, .no, .no, .no, .no, .no, .no, .no, .no, .no, .no, .no, .no, .no, .no] = some (.nx, eE t os .no .no .no .no .no .no .no .no .no .no) := by
    have e3 : eVar 3 [.ow t, .ow (osD os), .ow (told os), .ow (gsD os), .no, .no, .no, .no, .no, .no, .no, .no, .no, .no, .no, .no, .no, .no, .no] = some (gsD os) := rfl
    have wi : wipeE [.ow t, .ow (osD os), .ow (told os), .ow (gsD os), .no, .no, .no, .no, .no, .no, .no, .no, .no, .no, .no, .no, .no, .no, .no] [15] = [.ow t, .ow (osD os), .ow (told os), .ow (gsD os), .no, .no, .no, .no, .no, .no, .no, .no, .no, .no, .no, .no, .no, .no, .no] := rfl
    have di : dItems (gsD os) = some ((groups (List.range os.length)).map gD) := rfl
    have ln : ((groups (List.range os.length)).map gD).length ≤ lim := by rw [List.length_map]; exact le_lim gl
    simp only [z_sSet, z_vOf, z_eBi, z_esCons, z_eLc, z_eItems, e3, Option.bind_some, di, if_pos ln, wi, ec, z_esNil]
    have mx' : bMax [.lst true (((groups (List.range os.length)).filter (lawApart os)).map fun g => D.int (g.length : Int))] = some (.int (most os : Nat)) := mx
    rw [mx']; rfl
  have ir := sp_is_right h (told os) tt.gz
  rw [told_right hv] at ir
  have it0 : dItem (told os) (.int 0) = some (.int (most os : Nat)) := by rw [told_eq]; simp
  have s3 : sIf (tOrB (tNotB (tBl (eCall m__law_is_right (esCons (eVar 1) (esCons (eVar 2) (esNil)))))) (tBl (eOp dNe (eOp dItem (eVar 2) (eC (.int 0))) (eVar 4)))) (sSeq (sRet (vOf (eC (.bl false)))) (sNil)) (sNil) (eE t os .no .no .no .no .no .no .no .no .no .no) = some (.nx, eE t os .no .no .no .no .no .no .no .no .no .no) := by
    have e1 : eVar 1 (eE t os .no .no .no .no .no .no .no .no .no .no) = some (osD os) := rfl
    have e2 : eVar 2 (eE t os .no .no .no .no .no .no .no .no .no .no) = some (told os) := rfl
    have e4 : eVar 4 (eE t os .no .no .no .no .no .no .no .no .no .no) = some (.int (most os : Nat)) := rfl
    simp [e1, e2, e4, fz_same _ tt.gz.fz, ir, it0]
  -- the seven
  obtain ⟨t1, j, x, y, z, T1, lo⟩ := ar_loop h (gsD os) [.no, .no, .no, .no, .no, .no, .no, .no, .no, .no] [0, 1, 2, 3, 4, 5, 6] t .no .no .no .no T (Or.inl rfl) (Or.inl rfl) (Or.inl rfl) (Or.inl rfl)
  have r7 : rng1Of [.int 7] = some ([0, 1, 2, 3, 4, 5, 6].map nD) := rfl
  have s4 : sFor (iOf (eRng rng1Of (esCons (eC (.int 7)) (esNil)))) (boName 5) bdy_ar (eE t os .no .no .no .no .no .no .no .no .no .no) = some (.nx, eE t1 os j x y z .no .no .no .no .no .no) := by
    rw [z_sFor, z_iOf, z_eRng]
    simp only [z_esCons, z_eC, z_esNil, Option.bind_some, r7]
    exact lo
  -- taken one by one
  have tk := sp_taken h
  have ti := sp_in_order h
  rw [← taken_in os hv] at ti
  have tkl : (taken os).length ≤ most os := taken_most h
  have rwt : Rw ((taken os).map nD) := rw_nats (by omega) (fun k hk => by have := taken_mem h k hk; omega)
  have pt : Pt (gD (taken os)) := Pt.tup rwt
  have rp : bRepr [gD (taken os)] = some (.str (dPy (gD (taken os))).shown) := by
    show (if _ then _ else _) = _
    rw [if_pos (pt.sw.shOk (by omega) (by omega))]
  have np := ne_same pt.sw.st
  have nk : noFz (gD (taken os)) = true := by simp [gD]
  have s5 : sSet 9 (vOf (eCall m_taken_in_order (esCons (eVar 1) (esNil)))) (eE t1 os j x y z .no .no .no .no .no .no) = some (.nx, eE t1 os j x y z (.ow (gD (taken os))) .no .no .no .no .no) := by
    have e1 : eVar 1 (eE t1 os j x y z .no .no .no .no .no .no) = some (osD os) := rfl
    have tk' : m_taken_in_order [osD os] = some (gD (taken os), []) := tk
    simp only [z_sSet, z_vOf, z_eCall, z_esCons, e1, z_esNil, Option.bind_some, z_fzs1, z_fzs0, fz_os, tk', if_pos nk]
    rfl
  have s6 : sIf (tOrB (tBl (eOp dNe (eBi bRepr (esCons (eVar 9) (esNil))) (eBi bRepr (esCons (eCall m__law_in_order (esCons (eVar 1) (esNil))) (esNil))))) (tBl (eOp dGt (eBi bLen (esCons (eVar 9) (esNil))) (eVar 4)))) (sSeq (sRet (vOf (eC (.bl false)))) (sNil)) (sNil) (eE t1 os j x y z (.ow (gD (taken os))) .no .no .no .no .no) = some (.nx, eE t1 os j x y z (.ow (gD (taken os))) .no .no .no .no .no) := by
    have e1 : eVar 1 (eE t1 os j x y z (.ow (gD (taken os))) .no .no .no .no .no) = some (osD os) := rfl
    have e4 : eVar 4 (eE t1 os j x y z (.ow (gD (taken os))) .no .no .no .no .no) = some (.int (most os : Nat)) := rfl
    have e9 : eVar 9 (eE t1 os j x y z (.ow (gD (taken os))) .no .no .no .no .no) = some (gD (taken os)) := rfl
    have bl : bLen [gD (taken os)] = some (.int (taken os).length) := by simp [gD]
    have lt : ¬ ((most os : Int) < ((taken os).length : Int)) := by omega
    simp [e1, e4, e9, rp, ti, np, nk, bl, lt]
  -- all worths one, one bench
  have la := ok_al h
  obtain ⟨dg, dp, de, dn1, dn2⟩ := sp_dearest la (fun k hk => by
    have : k < os.length := by simpa using hk
    rw [gt_map this]; rfl)
  rw [(lk_al os).most hv la.valid] at de
  have s7 : sSet 10 (vOf (eBi bTup (esCons (eLc [16, 17, 18] (eItems (eVar 1)) (bdTup (bdCons (bdName 16) (bdCons (bdName 17) (bdCons (bdName 18) (bdNil))))) (gYes) (eTup (esCons (eFz (eVar 16)) (esCons (eFz (eVar 17)) (esCons (eC (.int 1)) (esNil)))))) (esNil)))) (eE t1 os j x y z (.ow (gD (taken os))) .no .no .no .no .no) = some (.nx, eE t1 os j x y z (.ow (gD (taken os))) (.ow (osD (os.map al))) .no .no .no .no) := by
    have e := lcGo_mapT (bd := bdTup (bdCons (bdName 16) (bdCons (bdName 17) (bdCons (bdName 18) (bdNil))))) (ge := eTup (esCons (eFz (eVar 16)) (esCons (eFz (eVar 17)) (esCons (eC (.int 1)) (esNil))))) (e0 := eE t1 os j x y z (.ow (gD (taken os))) .no .no .no .no .no)
      oD (fun o => arS t1 os (gsD os) j x y z [.ow (gD (taken os)), .no, .no, .no, .no, .no, .no, .ow (.int o.1), .ow (.int o.2.1), .ow (.int o.2.2)]) (fun o => oD (al o)) os (fun o _ => by
        constructor
        · simp [eE, arS, oD]
        · simp [arS, eVar, oD, al])
    have e1 : eVar 1 (eE t1 os j x y z (.ow (gD (taken os))) .no .no .no .no .no) = some (osD os) := rfl
    have wi : wipeE (eE t1 os j x y z (.ow (gD (taken os))) .no .no .no .no .no) [16, 17, 18] = eE t1 os j x y z (.ow (gD (taken os))) .no .no .no .no .no := rfl
    have ln : (os.map oD).length ≤ lim := by simpa using l1
    have zz : isFzs (os.map fun o => oD (al o)) = true := isFzs_map _ (fun _ => by simp) _
    have em : osD (os.map al) = .tup (os.map fun o => oD (al o)) := by simp [osD]
    simp only [z_sSet, z_vOf, z_eBi, z_esCons, z_eLc, z_eItems, e1, Option.bind_some, dItems_os, if_pos ln, wi, e, z_esNil, z_tupL, if_pos zz, em]
    rfl
  have pkm : ∀ k ∈ pick os, k < os.length := fun k hk => pick_lt hk
  have pkl : (pick os).length = most os := (pick_perm os).length_eq
  obtain ⟨h1, H1, f1⟩ := sp_does_fit h 1 (by omega) (by omega) (pick os) (pick_rise os) pkm (by omega)
  have b1 : busy os (pick os) h1 ≤ 1 := busy_le (by omega) (fun i => by have := one_apart (pick_apart hv) i; omega)
  rw [decide_eq_true b1] at f1
  have it1 : dItem (told os) (.int 1) = some (gD (pick os)) := by rw [told_eq]; simp [gD]
  have s8 : sIf (tOrB (tBl (eOp dNe (eOp dItem (eCall m_dearest (esCons (eVar 10) (esCons (eC (.int 1)) (esNil)))) (eC (.int 0))) (eVar 4))) (tBl (eOp dNotB (eCall m_does_fit (esCons (eVar 1) (esCons (eC (.int 1)) (esCons (eOp dItem (eVar 2) (eC (.int 1))) (esNil))))) (eC (.bl true))))) (sSeq (sRet (vOf (eC (.bl false)))) (sNil)) (sNil) (eE t1 os j x y z (.ow (gD (taken os))) (.ow (osD (os.map al))) .no .no .no .no) = some (.nx, eE t1 os j x y z (.ow (gD (taken os))) (.ow (osD (os.map al))) .no .no .no .no) := by
    have e1 : eVar 1 (eE t1 os j x y z (.ow (gD (taken os))) (.ow (osD (os.map al))) .no .no .no .no) = some (osD os) := rfl
    have e2 : eVar 2 (eE t1 os j x y z (.ow (gD (taken os))) (.ow (osD (os.map al))) .no .no .no .no) = some (told os) := rfl
    have e4 : eVar 4 (eE t1 os j x y z (.ow (gD (taken os))) (.ow (osD (os.map al))) .no .no .no .no) = some (.int (most os : Nat)) := rfl
    have e10 : eVar 10 (eE t1 os j x y z (.ow (gD (taken os))) (.ow (osD (os.map al))) .no .no .no .no) = some (osD (os.map al)) := rfl
    simp [e1, e2, e4, e10, de, dn1, dn2, it1, f1]
  -- on as many benches all fit
  obtain ⟨st, fx, fy, F, kp, fe, fn1, fn2⟩ := sp_fewest h
  have sl : st.1.length ≤ 8 := by
    have a := F.le
    have b : st.2.length = os.length := by have := kp.length_eq; simpa using this
    omega
  have s9 : sSet 11 (vOf (eOp dItem (eCall m_fewest_benches (esCons (eVar 1) (esNil))) (eC (.int 0)))) (eE t1 os j x y z (.ow (gD (taken os))) (.ow (osD (os.map al))) .no .no .no .no) = some (.nx, eE t1 os j x y z (.ow (gD (taken os))) (.ow (osD (os.map al))) (.ow (.int (st.1.length : Nat))) .no .no .no) := by
    have e1 : eVar 1 (eE t1 os j x y z (.ow (gD (taken os))) (.ow (osD (os.map al))) .no .no .no .no) = some (osD os) := rfl
    have nf : noFz (.tup [.int (st.1.length : Nat), fx, fy]) = true := by simp [fn1, fn2]
    simp only [z_sSet, z_vOf, z_eOp, z_eCall, z_esCons, e1, z_esNil, Option.bind_some, z_fzs1, z_fzs0, fz_os, fe, if_pos nf, z_eC, z_itemT, atI0]
    rfl
  have s10 : sIf (tAndB (tBl (eOp dGt (eVar 11) (eC (.int 0)))) (tBl (eOp dNotB (eCall m_does_fit (esCons (eVar 1) (esCons (eVar 11) (esCons (eRgT rng1Of (esCons (eBi bLen (esCons (eVar 1) (esNil))) esNil)) (esNil))))) (eC (.bl true))))) (sSeq (sRet (vOf (eC (.bl false)))) (sNil)) (sNil) (eE t1 os j x y z (.ow (gD (taken os))) (.ow (osD (os.map al))) (.ow (.int (st.1.length : Nat))) .no .no .no) = some (.nx, eE t1 os j x y z (.ow (gD (taken os))) (.ow (osD (os.map al))) (.ow (.int (st.1.length : Nat))) .no .no .no) := by
    have e1 : eVar 1 (eE t1 os j x y z (.ow (gD (taken os))) (.ow (osD (os.map al))) (.ow (.int (st.1.length : Nat))) .no .no .no) = some (osD os) := rfl
    have e11 : eVar 11 (eE t1 os j x y z (.ow (gD (taken os))) (.ow (osD (os.map al))) (.ow (.int (st.1.length : Nat))) .no .no .no) = some (.int (st.1.length : Nat)) := rfl
    by_cases z0 : (0 : Int) < (st.1.length : Nat)
    · obtain ⟨h2, H2, f2⟩ := sp_does_fit h (st.1.length : Nat) (by omega) (by omega) (List.range os.length) (by
        unfold rise; rw [List.range_eq_range']; exact List.pairwise_lt_range') (fun k hk => List.mem_range.mp hk) (by simp; omega)
      have b2 : busy os (List.range os.length) h2 ≤ (st.1.length : Nat) := busy_le (by omega) (fun i => by have := fewest_fit F kp i; omega)
      rw [decide_eq_true b2] at f2
      have f2' : m_does_fit [osD os, .int (st.1.length : Nat), .tup ((List.range os.length).map nD)] = some (.bl true, []) := f2
      have t0 : (decide ((0 : Int) < ((st.1.length : Nat) : Int))) = true := decide_eq_true z0
      simp only [z_sIf, z_tAndB, z_tBl, z_eOp, e11, z_eC, Option.bind_some, z_gt, t0, if_true, z_eCall, z_esCons, e1, z_esNil, z_eRgT, z_eBi, bLen_os, rg, z_fzs1, z_fzs0, fz_os, z_fzI]
      have fg : fz (.tup ((List.range os.length).map nD)) = .tup ((List.range os.length).map nD) := fz_same _ (by simp)
      simp only [fg, f2', Option.bind_some, z_noFzB, if_true, z_notB]
      rfl
    · have t0 : (decide ((0 : Int) < ((st.1.length : Nat) : Int))) = false := decide_eq_false z0
      simp only [z_sIf, z_tAndB, z_tBl, z_eOp, e11, z_eC, Option.bind_some, z_gt, t0, Bool.false_eq_true, if_false]
      rfl
  -- later, in another order
  obtain ⟨s, t2, hs, T2, e2⟩ := vPick (v := vOf (eC (.int 50))) (t := t1) (t1 := t1) (E := (eE t1 os j x y z (.ow (gD (taken os))) (.ow (osD (os.map al))) (.ow (.int (st.1.length : Nat))) .no .no .no).tail) (E1 := (eE t1 os j x y z (.ow (gD (taken os))) (.ow (osD (os.map al))) (.ow (.int (st.1.length : Nat))) .no .no .no).tail) 50 (by omega) (by omega) (by simp) T1
  have s12 : sSet 12 (vCall m__law_pick [.lend 0, .val (vOf (eC (.int 50)))]) (eE t1 os j x y z (.ow (gD (taken os))) (.ow (osD (os.map al))) (.ow (.int (st.1.length : Nat))) .no .no .no) = some (.nx, eE t2 os j x y z (.ow (gD (taken os))) (.ow (osD (os.map al))) (.ow (.int (st.1.length : Nat))) (.ow (.int (s : Nat))) .no .no) := by
    have e2' : vCall m__law_pick [.lend 0, .val (vOf (eC (.int 50)))] (eE t1 os j x y z (.ow (gD (taken os))) (.ow (osD (os.map al))) (.ow (.int (st.1.length : Nat))) .no .no .no) = some (.int (s : Nat), eE t2 os j x y z (.ow (gD (taken os))) (.ow (osD (os.map al))) (.ow (.int (st.1.length : Nat))) .no .no .no) := e2
    rw [z_sSet, e2']; rfl
  have ls := ok_sh sm ol (s := (s : Int)) (by omega) (by omega)
  have s13 : sSet 13 (vOf (eBi bTup (esCons (eLc [16, 17, 18] (eItems (eVar 1)) (bdTup (bdCons (bdName 16) (bdCons (bdName 17) (bdCons (bdName 18) (bdNil))))) (gYes) (eTup (esCons (eOp dAdd (eVar 16) (eVar 12)) (esCons (eOp dAdd (eVar 17) (eVar 12)) (esCons (eFz (eVar 18)) (esNil)))))) (esNil)))) (eE t2 os j x y z (.ow (gD (taken os))) (.ow (osD (os.map al))) (.ow (.int (st.1.length : Nat))) (.ow (.int (s : Nat))) .no .no) = some (.nx, eE t2 os j x y z (.ow (gD (taken os))) (.ow (osD (os.map al))) (.ow (.int (st.1.length : Nat))) (.ow (.int (s : Nat))) (.ow (osD (os.map (sh s)))) .no) := by
    have e := lcGo_mapT (bd := bdTup (bdCons (bdName 16) (bdCons (bdName 17) (bdCons (bdName 18) (bdNil))))) (ge := eTup (esCons (eOp dAdd (eVar 16) (eVar 12)) (esCons (eOp dAdd (eVar 17) (eVar 12)) (esCons (eFz (eVar 18)) (esNil))))) (e0 := eE t2 os j x y z (.ow (gD (taken os))) (.ow (osD (os.map al))) (.ow (.int (st.1.length : Nat))) (.ow (.int (s : Nat))) .no .no)
      oD (fun o => arS t2 os (gsD os) j x y z [.ow (gD (taken os)), .ow (osD (os.map al)), .ow (.int (st.1.length : Nat)), .ow (.int (s : Nat)), .no, .no, .no, .ow (.int o.1), .ow (.int o.2.1), .ow (.int o.2.2)]) (fun o => oD (sh s o)) os (fun o _ => by
        constructor
        · simp [eE, arS, oD]
        · simp [arS, eVar, oD, sh])
    have e1 : eVar 1 (eE t2 os j x y z (.ow (gD (taken os))) (.ow (osD (os.map al))) (.ow (.int (st.1.length : Nat))) (.ow (.int (s : Nat))) .no .no) = some (osD os) := rfl
    have wi : wipeE (eE t2 os j x y z (.ow (gD (taken os))) (.ow (osD (os.map al))) (.ow (.int (st.1.length : Nat))) (.ow (.int (s : Nat))) .no .no) [16, 17, 18] = eE t2 os j x y z (.ow (gD (taken os))) (.ow (osD (os.map al))) (.ow (.int (st.1.length : Nat))) (.ow (.int (s : Nat))) .no .no := rfl
    have ln : (os.map oD).length ≤ lim := by simpa using l1
    have zz : isFzs (os.map fun o => oD (sh s o)) = true := isFzs_map _ (fun _ => by simp) _
    have em : osD (os.map (sh s)) = .tup (os.map fun o => oD (sh s o)) := by simp [osD]
    simp only [z_sSet, z_vOf, z_eBi, z_esCons, z_eLc, z_eItems, e1, Option.bind_some, dItems_os, if_pos ln, wi, e, z_esNil, z_tupL, if_pos zz, em]
    rfl
  obtain ⟨t3, r, T3, pr, em⟩ := sp_mixed t2 T2 os ol
  have lm' := ok_perm h pr
  have s14 : sSet 14 (vBi bTup (vsCons (vCall m__law_mixed [.lend 0, .val (vOf (eBi bList (esCons (eVar 1) (esNil))))]) (vsNil))) (eE t2 os j x y z (.ow (gD (taken os))) (.ow (osD (os.map al))) (.ow (.int (st.1.length : Nat))) (.ow (.int (s : Nat))) (.ow (osD (os.map (sh s)))) .no) = some (.nx, eE t3 os j x y z (.ow (gD (taken os))) (.ow (osD (os.map al))) (.ow (.int (st.1.length : Nat))) (.ow (.int (s : Nat))) (.ow (osD (os.map (sh s)))) (.ow (osD r))) := by
    have lo : vOf (eBi bList (esCons (eVar 1) (esNil))) (eE t2 os j x y z (.ow (gD (taken os))) (.ow (osD (os.map al))) (.ow (.int (st.1.length : Nat))) (.ow (.int (s : Nat))) (.ow (osD (os.map (sh s)))) .no) = some (.lst true (os.map oD), eE t2 os j x y z (.ow (gD (taken os))) (.ow (osD (os.map al))) (.ow (.int (st.1.length : Nat))) (.ow (.int (s : Nat))) (.ow (osD (os.map (sh s)))) .no) := by
      have e1 : eVar 1 (eE t2 os j x y z (.ow (gD (taken os))) (.ow (osD (os.map al))) (.ow (.int (st.1.length : Nat))) (.ow (.int (s : Nat))) (.ow (osD (os.map (sh s)))) .no) = some (osD os) := rfl
      have bl : bList [osD os] = some (.lst true (os.map oD)) := by simp [osD]
      simp only [z_vOf, z_eBi, z_esCons, e1, z_esNil, Option.bind_some, bl]
    have fo : fz (.lst true (os.map oD)) = .lst false (os.map oD) := by rw [fz_lst, fzs_same _ (by simp)]
    have vc : vCall m__law_mixed [.lend 0, .val (vOf (eBi bList (esCons (eVar 1) (esNil))))] (eE t2 os j x y z (.ow (gD (taken os))) (.ow (osD (os.map al))) (.ow (.int (st.1.length : Nat))) (.ow (.int (s : Nat))) (.ow (osD (os.map (sh s)))) .no) = some (.lst true (r.map oD), eE t3 os j x y z (.ow (gD (taken os))) (.ow (osD (os.map al))) (.ow (.int (st.1.length : Nat))) (.ow (.int (s : Nat))) (.ow (osD (os.map (sh s)))) .no) := by
      exact vCall_lend (t1 := t2) (d := .lst true (os.map oD)) lo (by rw [fo]; exact em)
    have zz : isFzs (r.map oD) = true := by simp
    simp only [z_sSet, z_vBi, z_vsCons, vc, Option.bind_some, z_vsNil, z_tupL, if_pos zz]
    rfl
  have mL := sp_most_apart ls
  have mM := sp_most_apart lm'
  have tL := sp_taken ls
  rw [(lk_sh os s).taken hv ls.valid] at tL
  have tL' : m_taken_in_order [osD (os.map (sh s))] = some (gD (taken os), []) := tL
  have nL : noFz (told (os.map (sh s))) = true := by rw [told_eq]; simp
  have nM : noFz (told r) = true := by rw [told_eq]; simp
  have iL : dItem (told (os.map (sh s))) (.int 0) = some (.int (most os : Nat)) := by rw [told_eq, (lk_sh os s).most hv ls.valid]; simp
  have iM : dItem (told r) (.int 0) = some (.int (most os : Nat)) := by rw [told_eq, most_perm pr hv lm'.valid]; simp
  have nn := ne_nats (taken os)
  have n2 := ne_two (most os : Nat)
  have s15 : sIf (tOrB (tBl (eOp dNe (eLst (esCons (eOp dItem (eCall m_most_apart (esCons (eVar 13) (esNil))) (eC (.int 0))) (esCons (eOp dItem (eCall m_most_apart (esCons (eVar 14) (esNil))) (eC (.int 0))) (esNil)))) (eLst (esCons (eFz (eVar 4)) (esCons (eFz (eVar 4)) (esNil)))))) (tBl (eOp dNe (eCall m_taken_in_order (esCons (eVar 13) (esNil))) (eVar 9)))) (sSeq (sRet (vOf (eC (.bl false)))) (sNil)) (sNil) (eE t3 os j x y z (.ow (gD (taken os))) (.ow (osD (os.map al))) (.ow (.int (st.1.length : Nat))) (.ow (.int (s : Nat))) (.ow (osD (os.map (sh s)))) (.ow (osD r))) = some (.nx, eE t3 os j x y z (.ow (gD (taken os))) (.ow (osD (os.map al))) (.ow (.int (st.1.length : Nat))) (.ow (.int (s : Nat))) (.ow (osD (os.map (sh s)))) (.ow (osD r))) := by
    have e4 : eVar 4 (eE t3 os j x y z (.ow (gD (taken os))) (.ow (osD (os.map al))) (.ow (.int (st.1.length : Nat))) (.ow (.int (s : Nat))) (.ow (osD (os.map (sh s)))) (.ow (osD r))) = some (.int (most os : Nat)) := rfl
    have e9 : eVar 9 (eE t3 os j x y z (.ow (gD (taken os))) (.ow (osD (os.map al))) (.ow (.int (st.1.length : Nat))) (.ow (.int (s : Nat))) (.ow (osD (os.map (sh s)))) (.ow (osD r))) = some (gD (taken os)) := rfl
    have e13 : eVar 13 (eE t3 os j x y z (.ow (gD (taken os))) (.ow (osD (os.map al))) (.ow (.int (st.1.length : Nat))) (.ow (.int (s : Nat))) (.ow (osD (os.map (sh s)))) (.ow (osD r))) = some (osD (os.map (sh s))) := rfl
    have e14 : eVar 14 (eE t3 os j x y z (.ow (gD (taken os))) (.ow (osD (os.map al))) (.ow (.int (st.1.length : Nat))) (.ow (.int (s : Nat))) (.ow (osD (os.map (sh s)))) (.ow (osD r))) = some (osD r) := rfl
    simp only [z_sIf, z_tOrB, z_tBl, z_eOp, z_eLst, z_esCons, z_eCall, e13, e14, z_esNil, Option.bind_some, z_fzs1, z_fzs0, fz_os, mL, mM, if_pos nL, if_pos nM, z_eC, iL, iM, z_eFz, e4, z_isFzI, if_true, n2, Bool.false_eq_true, if_false, tL', if_pos nk, e9, nn]
    rfl
  have fin_ : (os.length : Int) ≤ (most os : Int) * (st.1.length : Nat) := by
    have := fewest_most hv F kp
    exact_mod_cast this
  refine ⟨t3, T3, ?_⟩
  rw [m__law_are_right_eq]
  unfold b__law_are_right
  rw [seq_nx s1, seq_nx s2, seq_nx s3]
  unfold bdy_ar at s4
  rw [seq_nx s4]
  rw [seq_nx s5, seq_nx s6, seq_nx s7, seq_nx s8, seq_nx s9, seq_nx s10, seq_nx s12, seq_nx s13, seq_nx s14, seq_nx s15]
  have e1 : eVar 1 (eE t3 os j x y z (.ow (gD (taken os))) (.ow (osD (os.map al))) (.ow (.int (st.1.length : Nat))) (.ow (.int (s : Nat))) (.ow (osD (os.map (sh s)))) (.ow (osD r))) = some (osD os) := rfl
  have e4 : eVar 4 (eE t3 os j x y z (.ow (gD (taken os))) (.ow (osD (os.map al))) (.ow (.int (st.1.length : Nat))) (.ow (.int (s : Nat))) (.ow (osD (os.map (sh s)))) (.ow (osD r))) = some (.int (most os : Nat)) := rfl
  have e11 : eVar 11 (eE t3 os j x y z (.ow (gD (taken os))) (.ow (osD (os.map al))) (.ow (.int (st.1.length : Nat))) (.ow (.int (s : Nat))) (.ow (osD (os.map (sh s)))) (.ow (osD r))) = some (.int (st.1.length : Nat)) := rfl
  have sr := ret_ge e1 (bLen_os os) e4 e11 (by omega) fin_
  rw [seq_rt sr]
  rfl
end K74

set_option maxRecDepth 100000
set_option linter.all false
set_option Elab.async false
namespace K74
open PySem Z
def os5 : List Of := [(0, 4, 1), (0, 2, 1), (2, 3, 1), (3, 6, 1), (1, 5, 1)]
theorem ok5 : Ok os5 := ⟨by decide, by
  intro o ho
  simp only [os5, List.mem_cons, List.not_mem_nil, or_false] at ho
  rcases ho with rfl | rfl | rfl | rfl | rfl <;> (unfold ofOk; decide)⟩
theorem most5 : most os5 = 3 := by
  have a := le_most ok5.valid (g := [1, 2, 3]) (by decide) (by decide)
  have b := most_meets ok5.valid (hs := [1, 2, 4]) (by decide)
  simp at a b
  omega
theorem taken5 : taken os5 = [0] := by rw [taken_in os5 ok5.valid]; decide
theorem least5 : leastEnd os5 [0, 3, 4] = 4 := by rw [least_eq ok5 (by decide)]; decide
theorem least50 : leastEnd os5 [] = 0 := by rw [least_eq ok5 (by decide)]; decide
theorem told0 : told [] = .tup [.int 0, .tup [], .tup []] := by simp [told, apart, byEnd, grd, wOf]
theorem right5 : rightR os5 (.tup [.int 3, gD [1, 2, 3], .tup ([1, 2, 4].map .int)]) = true := by
  have g := grpN_gD (n := os5.length) (g := [1, 2, 3]) (by unfold rise; decide) (by decide)
  have q : hrsOf (.tup ([1, 2, 4].map .int)) = some [1, 2, 4] := rfl
  simp only [rightR, g, q]
  decide
def lwS (ns : List Int) (t : D) (x y z : Sl) : En := [.ow (.scr ns), .ow t, x, y, z]
def bdy_lw : SF := (sSeq (sSet 2 (vCall m__law_offers [.lend 1])) (sSeq (sIfV (tOrVv (tNotVv (tBlV (vCall m__law_are_right [.lend 1, .val (vOf (eFz (eVar 2)))]))) (tNotVv (tBlV (vCall m__law_are_ends_right [.lend 1, .val (vOf (eFz (eVar 2)))])))) (sSeq (sRet (vOf (eC (.bl false)))) (sNil)) (sNil)) (sNil)))
theorem lend1 {F : Fn} {ns : List Int} {t t' r : D} {x y z : Sl} (h : F [t] = some (r, [t'])) : vCall F [.lend 1] (lwS ns t x y z) = some (r, lwS ns t' x y z) := by
  simp [vCall, lwS, arGo, arTake, arBack, h, open?]
theorem lend1v {F : Fn} {ns : List Int} {t t' r : D} {os : List Of} {y z : Sl} (h : F [t, osD os] = some (r, [t'])) : vCall F [.lend 1, .val (vOf (eFz (eVar 2)))] (lwS ns t (.ow (osD os)) y z) = some (r, lwS ns t' (.ow (osD os)) y z) := by
  simp [vCall, lwS, arGo, arTake, arBack, eVar, h, open?]
theorem lw_body (ns : List Int) (t : D) (T : Tp t) (x y z : Sl) (ox : opn x) : ∃ t' x', Tp t' ∧ opn x' ∧ bdy_lw (lwS ns t x y z) = some (.nx, lwS ns t' x' y z) := by
  obtain ⟨t1, os, T1, ol, sm, e1⟩ := sp_offers t T
  obtain ⟨t2, T2, e2⟩ := sp_right sm ol t1 T1
  obtain ⟨t3, T3, e3⟩ := sp_ends (Ok.of_small sm ol) t2 T2
  refine ⟨t3, .ow (osD os), T3, Or.inr ⟨_, rfl⟩, ?_⟩
  have s1 : sSet 2 (vCall m__law_offers [.lend 1]) (lwS ns t x y z) = some (.nx, lwS ns t1 (.ow (osD os)) y z) := by
    rw [z_sSet, lend1 e1]
    rcases ox with rfl | ⟨_, rfl⟩ <;> rfl
  unfold bdy_lw
  rw [seq_nx s1]
  have c : tOrVv (tNotVv (tBlV (vCall m__law_are_right [.lend 1, .val (vOf (eFz (eVar 2)))]))) (tNotVv (tBlV (vCall m__law_are_ends_right [.lend 1, .val (vOf (eFz (eVar 2)))]))) (lwS ns t1 (.ow (osD os)) y z) = some (false, lwS ns t3 (.ow (osD os)) y z) := by
    rw [z_tOrVv, z_tNotVv, z_tBlV, lend1v e2]
    simp only [Option.bind_some, Bool.not_true, Bool.false_eq_true, if_false]
    rw [z_tNotVv, z_tBlV, lend1v e3]; rfl
  have s2 : sIfV (tOrVv (tNotVv (tBlV (vCall m__law_are_right [.lend 1, .val (vOf (eFz (eVar 2)))]))) (tNotVv (tBlV (vCall m__law_are_ends_right [.lend 1, .val (vOf (eFz (eVar 2)))])))) (sSeq (sRet (vOf (eC (.bl false)))) (sNil)) (sNil) (lwS ns t1 (.ow (osD os)) y z) = some (.nx, lwS ns t3 (.ow (osD os)) y z) := by
    rw [z_sIfV, c]; rfl
  rw [seq_nx s2]; rfl
theorem lw_loop (ns : List Int) (y : Sl) : ∀ (ks : List Nat) (t : D) (x z : Sl), Tp t → opn x → opn z → ∃ t' x' z', sForGo (boName 4) bdy_lw (ks.map nD) (lwS ns t x y z) = some (.nx, lwS ns t' x' y z')
  | [], t, x, z, T, _, _ => ⟨t, x, z, rfl⟩
  | k :: ks, t, x, z, T, ox, oz => by
    have hb : boName 4 (nD k) (lwS ns t x y z) = some (lwS ns t x y (.ow (nD k))) := by rcases oz with rfl | ⟨_, rfl⟩ <;> rfl
    obtain ⟨t1, x1, T1, ox1, e1⟩ := lw_body ns t T x y (.ow (nD k)) ox
    obtain ⟨t', x', z', e⟩ := lw_loop ns y ks t1 x1 (.ow (nD k)) T1 ox1 (Or.inr ⟨_, rfl⟩)
    exact ⟨t', x', z', by rw [List.map_cons, forGo_nx (isFz_nD k) hb e1, e]⟩
def exp5 : List D := [.int 3, .tup [.int 0], .int 4, .int 0, .tup [.int 0, .tup [], .tup []]]
theorem ne5 : dNe (.lst true exp5) (.lst true exp5) = some (.bl false) := by
  simp [exp5, dNe, eqOk, dPy, dPys, PyData.eqv, PyData.eqvAll, okPy, okPys, SeqAt.shaped, PyData.canLay0, PyData.canLayAll0, PyData.depth, PyData.depthAll]
theorem law_true (ns : List Int) (h : ns.length ≤ 63) : ∃ l, m_law [.scr ns] = some (.bl true, l) := by
  obtain ⟨t, T, e1⟩ := sp_tape ns h
  have s1 : sSet 1 (vCall m__law_tape [.val (vOf (eFz (eVar 0)))]) [.ow (.scr ns), .no, .no, .no, .no] = some (.nx, lwS ns t .no .no .no) := by
    have fs : isFz (.scr ns) = true := rfl
    have vc : vCall m__law_tape [.val (vOf (eFz (eVar 0)))] [.ow (.scr ns), .no, .no, .no, .no] = some (t, [.ow (.scr ns), .no, .no, .no, .no]) := by
      have ff : fz (.scr ns) = .scr ns := rfl
      simp [vCall, arGo, arTake, arBack, eVar, fs, ff, e1]
    rw [z_sSet, vc]; rfl
  have s2 : sSet 2 (vOf (eTup (esCons (eTup (esCons (eC (.int 0)) (esCons (eC (.int 4)) (esCons (eC (.int 1)) (esNil))))) (esCons (eTup (esCons (eC (.int 0)) (esCons (eC (.int 2)) (esCons (eC (.int 1)) (esNil))))) (esCons (eTup (esCons (eC (.int 2)) (esCons (eC (.int 3)) (esCons (eC (.int 1)) (esNil))))) (esCons (eTup (esCons (eC (.int 3)) (esCons (eC (.int 6)) (esCons (eC (.int 1)) (esNil))))) (esCons (eTup (esCons (eC (.int 1)) (esCons (eC (.int 5)) (esCons (eC (.int 1)) (esNil))))) (esNil)))))))) (lwS ns t .no .no .no) = some (.nx, lwS ns t (.ow (osD os5)) .no .no) := rfl
  have ma := sp_most_apart ok5
  have nt : noFz (told os5) = true := by rw [told_eq]; simp
  have i0 : dItem (told os5) (.int 0) = some (.int 3) := by rw [told_eq, most5]; rfl
  have tk := sp_taken ok5
  rw [taken5] at tk
  have l1 := sp_least_ok ok5 [0, 3, 4] (by unfold rise; decide) (by decide) (by decide)
  rw [least5] at l1
  have l2 := sp_least_ok ok5 [] (by unfold rise; decide) (by decide) (by decide)
  rw [least50] at l2
  have s3 : sSet 3 (vOf (eLst (esCons (eOp dItem (eCall m_most_apart (esCons (eVar 2) (esNil))) (eC (.int 0))) (esCons (eCall m_taken_in_order (esCons (eVar 2) (esNil))) (esCons (eCall m_least_end (esCons (eVar 2) (esCons (eTup (esCons (eC (.int 0)) (esCons (eC (.int 3)) (esCons (eC (.int 4)) (esNil))))) (esNil)))) (esCons (eCall m_least_end (esCons (eVar 2) (esCons (eTup (esNil)) (esNil)))) (esNil))))))) (lwS ns t (.ow (osD os5)) .no .no) = some (.nx, lwS ns t (.ow (osD os5)) (.ow (.lst true [.int 3, .tup [.int 0], .int 4, .int 0])) .no) := by
    have ev : eVar 2 (lwS ns t (.ow (osD os5)) .no .no) = some (osD os5) := rfl
    have l1' : m_least_end [osD os5, .tup [.int 0, .int 3, .int 4]] = some (.int 4, []) := l1
    have l2' : m_least_end [osD os5, .tup []] = some (.int 0, []) := l2
    have tk' : m_taken_in_order [osD os5] = some (.tup [.int 0], []) := tk
    have f1 : fz (.tup [.int 0, .int 3, .int 4]) = .tup [.int 0, .int 3, .int 4] := rfl
    have f2 : fz (.tup []) = .tup [] := rfl
    have n1 : noFz (.tup [.int 0]) = true := by simp
    simp only [z_sSet, z_vOf, z_eLst, z_esCons, z_eOp, z_eCall, ev, z_esNil, Option.bind_some, z_fzs1, z_fzs0, fz_os, ma, if_pos nt, z_eC, i0, tk', if_pos n1, z_eTup, f1, f2, l1', l2', z_noFzI, if_true]
    rfl
  have m0 := sp_most_apart (os := []) ⟨by decide, fun o ho => nomatch ho⟩
  rw [told0] at m0
  have s4 : sDrop (vMeth "list" 3 mAppend (vsCons (vOf (eCall m_most_apart (esCons (eTup (esNil)) (esNil)))) (vsNil))) (lwS ns t (.ow (osD os5)) (.ow (.lst true [.int 3, .tup [.int 0], .int 4, .int 0])) .no) = some (.nx, lwS ns t (.ow (osD os5)) (.ow (.lst true exp5)) .no) := by
    have m0' : m_most_apart [.tup []] = some (.tup [.int 0, .tup [], .tup []], []) := m0
    have l4 : 4 < lim := by decide
    simp [lwS, vMeth, isTy, updE, modP, mAppend, m0', exp5, l4]
  have im := sp_is_most_apart ok5 (.tup [.int 3, gD [1, 2, 3], .tup ([1, 2, 4].map .int)]) (Th.gz (Th.three (Or.inl (lf_int (by omega) (by omega))) (Pt.tup (rw_nats (by decide) (by decide))) (Pt.tup ⟨by decide, by
    intro x hx
    simp only [List.map_cons, List.map_nil, List.mem_cons, List.not_mem_nil, or_false] at hx
    rcases hx with rfl | rfl | rfl <;> exact lf_int (by omega) (by omega)⟩))).toGs
  rw [mostR_eq ok5.valid, right5] at im
  have s5 : sIf (tOrB (tBl (eOp dNe (eVar 3) (eLst (esCons (eC (.int 3)) (esCons (eTup (esCons (eC (.int 0)) (esNil))) (esCons (eC (.int 4)) (esCons (eC (.int 0)) (esCons (eTup (esCons (eC (.int 0)) (esCons (eTup (esNil)) (esCons (eTup (esNil)) (esNil))))) (esNil))))))))) (tBl (eOp dNotB (eCall m_is_most_apart (esCons (eVar 2) (esCons (eTup (esCons (eC (.int 3)) (esCons (eTup (esCons (eC (.int 1)) (esCons (eC (.int 2)) (esCons (eC (.int 3)) (esNil))))) (esCons (eTup (esCons (eC (.int 1)) (esCons (eC (.int 2)) (esCons (eC (.int 4)) (esNil))))) (esNil))))) (esNil)))) (eC (.bl true))))) (sSeq (sRet (vOf (eC (.bl false)))) (sNil)) (sNil) (lwS ns t (.ow (osD os5)) (.ow (.lst true exp5)) .no) = some (.nx, lwS ns t (.ow (osD os5)) (.ow (.lst true exp5)) .no) := by
    have ev2 : eVar 2 (lwS ns t (.ow (osD os5)) (.ow (.lst true exp5)) .no) = some (osD os5) := rfl
    have ev3 : eVar 3 (lwS ns t (.ow (osD os5)) (.ow (.lst true exp5)) .no) = some (.lst true exp5) := rfl
    have im' : m_is_most_apart [osD os5, .tup [.int 3, .tup [.int 1, .int 2, .int 3], .tup [.int 1, .int 2, .int 4]]] = some (.bl true, []) := im
    have f1 : fz (.tup [.int 3, .tup [.int 1, .int 2, .int 3], .tup [.int 1, .int 2, .int 4]]) = .tup [.int 3, .tup [.int 1, .int 2, .int 3], .tup [.int 1, .int 2, .int 4]] := rfl
    have n5 : dNe (.lst true exp5) (.lst true [.int 3, .tup [.int 0], .int 4, .int 0, .tup [.int 0, .tup [], .tup []]]) = some (.bl false) := ne5
    simp only [z_sIf, z_tOrB, z_tBl, z_eOp, ev3, Option.bind_some, z_eLst, z_esCons, z_eC, z_eTup, z_esNil, n5, Bool.false_eq_true, if_false, z_eCall, ev2, z_fzs1, z_fzs0, fz_os, f1, im', z_noFzB, if_true, z_notB]
    rfl
  obtain ⟨t', x', z', e6⟩ := lw_loop ns (.ow (.lst true exp5)) [0, 1, 2, 3] t (.ow (osD os5)) .no T (Or.inr ⟨_, rfl⟩) (Or.inl rfl)
  have r4 : rng1Of [.int 4] = some ([0, 1, 2, 3].map nD) := rfl
  have s6 : sFor (iOf (eRng rng1Of (esCons (eC (.int 4)) (esNil)))) (boName 4) bdy_lw (lwS ns t (.ow (osD os5)) (.ow (.lst true exp5)) .no) = some (.nx, lwS ns t' x' (.ow (.lst true exp5)) z') := by
    rw [z_sFor, z_iOf, z_eRng]
    simp only [z_esCons, z_eC, z_esNil, Option.bind_some, r4]
    exact e6
  unfold bdy_lw at s6
  have s7 : sRet (vOf (eC (.bl true))) (lwS ns t' x' (.ow (.lst true exp5)) z') = some (.rt (.bl true), lwS ns t' x' (.ow (.lst true exp5)) z') := rfl
  refine ⟨[], ?_⟩
  rw [m_law_eq]
  unfold b_law
  rw [seq_nx s1, seq_nx s2, seq_nx s3, seq_nx s4, seq_nx s5, seq_nx s6, seq_rt s7]
  rfl
end K74

set_option Elab.async false
set_option linter.all false
set_option maxRecDepth 100000
set_option maxHeartbeats 4000000
namespace K74
open PySem PySem.Spec PyProof.Rows L2 Z

theorem hold_of {K : PySem.W.Frag} {mg : Str → Option Value} (H : Hp) (a : Addr) (ns : List Int) (hS : SqL K H a (ns.map V.int)) (h : ∃ l, m_law [.scr ns] = some (.bl true, l)) : spFn ⟨K, mg⟩ 1 [] m_law [.ref a] H (fun v _ => v = .bl true) fun _ _ _ => False := by
  obtain ⟨out, h⟩ := h
  refine ⟨rfl, H, [.scr ns], f0, .bl true, out, .refl H, ?_, .zero, h, fun v S' H' Fv Fo t rv ro ok => ?_⟩
  · simp only [reps, rep]
    exact ⟨.ref a, [], f0, f0, rfl, ⟨⟨a, rfl, hS⟩, rfl⟩, ⟨rfl, rfl⟩, (fadd_f0 f0).symm⟩
  · simp only [rep] at rv
    exact rv.1
theorem all_mk {l : PySem.W.OpenLaw} {w : World} {K : PySem.W.Frag} {h : Heap} {mg : Str → Option Value} {fa : Addr} {C0 : Addr} {f0 : Addr} {od0 an0 : Option Addr} {sl0 : Array (Option Value)} {oc0 kV0 dc0 pm0 cd0 ct0 : Value} {f1 : Addr} {od1 an1 : Option Addr} {sl1 : Array (Option Value)} {oc1 kV1 dc1 pm1 cd1 ct1 : Value} {f2 : Addr} {od2 an2 : Option Addr} {sl2 : Array (Option Value)} {oc2 kV2 dc2 pm2 cd2 ct2 : Value} {f3 : Addr} {od3 an3 : Option Addr} {sl3 : Array (Option Value)} {oc3 kV3 dc3 pm3 cd3 ct3 : Value} {f4 : Addr} {od4 an4 : Option Addr} {sl4 : Array (Option Value)} {oc4 kV4 dc4 pm4 cd4 ct4 : Value} {f5 : Addr} {od5 an5 : Option Addr} {sl5 : Array (Option Value)} {oc5 kV5 dc5 pm5 cd5 ct5 : Value} {f6 : Addr} {od6 an6 : Option Addr} {sl6 : Array (Option Value)} {oc6 kV6 dc6 pm6 cd6 ct6 : Value} {f7 : Addr} {od7 an7 : Option Addr} {sl7 : Array (Option Value)} {oc7 kV7 dc7 pm7 cd7 ct7 : Value} {f8 : Addr} {od8 an8 : Option Addr} {sl8 : Array (Option Value)} {oc8 kV8 dc8 pm8 cd8 ct8 : Value} {f9 : Addr} {od9 an9 : Option Addr} {sl9 : Array (Option Value)} {oc9 kV9 dc9 pm9 cd9 ct9 : Value} {f10 : Addr} {od10 an10 : Option Addr} {sl10 : Array (Option Value)} {oc10 kV10 dc10 pm10 cd10 ct10 : Value} {f11 : Addr} {od11 an11 : Option Addr} {sl11 : Array (Option Value)} {oc11 kV11 dc11 pm11 cd11 ct11 : Value} {f12 : Addr} {od12 an12 : Option Addr} {sl12 : Array (Option Value)} {oc12 kV12 dc12 pm12 cd12 ct12 : Value} {f13 : Addr} {od13 an13 : Option Addr} {sl13 : Array (Option Value)} {oc13 kV13 dc13 pm13 cd13 ct13 : Value} {f14 : Addr} {od14 an14 : Option Addr} {sl14 : Array (Option Value)} {oc14 kV14 dc14 pm14 cd14 ct14 : Value} {f15 : Addr} {od15 an15 : Option Addr} {sl15 : Array (Option Value)} {oc15 kV15 dc15 pm15 cd15 ct15 : Value} {f16 : Addr} {od16 an16 : Option Addr} {sl16 : Array (Option Value)} {oc16 kV16 dc16 pm16 cd16 ct16 : Value} {f17 : Addr} {od17 an17 : Option Addr} {sl17 : Array (Option Value)} {oc17 kV17 dc17 pm17 cd17 ct17 : Value} {f18 : Addr} {od18 an18 : Option Addr} {sl18 : Array (Option Value)} {oc18 kV18 dc18 pm18 cd18 ct18 : Value} {f19 : Addr} {od19 an19 : Option Addr} {sl19 : Array (Option Value)} {oc19 kV19 dc19 pm19 cd19 ct19 : Value} {f20 : Addr} {od20 an20 : Option Addr} {sl20 : Array (Option Value)} {oc20 kV20 dc20 pm20 cd20 ct20 : Value} {f21 : Addr} {od21 an21 : Option Addr} {sl21 : Array (Option Value)} {oc21 kV21 dc21 pm21 cd21 ct21 : Value} {f22 : Addr} {od22 an22 : Option Addr} {sl22 : Array (Option Value)} {oc22 kV22 dc22 pm22 cd22 ct22 : Value} {f23 : Addr} {od23 an23 : Option Addr} {sl23 : Array (Option Value)} {oc23 kV23 dc23 pm23 cd23 ct23 : Value} {f24 : Addr} {od24 an24 : Option Addr} {sl24 : Array (Option Value)} {oc24 kV24 dc24 pm24 cd24 ct24 : Value} {f25 : Addr} {od25 an25 : Option Addr} {sl25 : Array (Option Value)} {oc25 kV25 dc25 pm25 cd25 ct25 : Value} {f26 : Addr} {od26 an26 : Option Addr} {sl26 : Array (Option Value)} {oc26 kV26 dc26 pm26 cd26 ct26 : Value} {f27 : Addr} {od27 an27 : Option Addr} {sl27 : Array (Option Value)} {oc27 kV27 dc27 pm27 cd27 ct27 : Value} {f28 : Addr} {od28 an28 : Option Addr} {sl28 : Array (Option Value)} {oc28 kV28 dc28 pm28 cd28 ct28 : Value} {f29 : Addr} {od29 an29 : Option Addr} {sl29 : Array (Option Value)} {oc29 kV29 dc29 pm29 cd29 ct29 : Value} {f30 : Addr} {od30 an30 : Option Addr} {sl30 : Array (Option Value)} {oc30 kV30 dc30 pm30 cd30 ct30 : Value} {f31 : Addr} {od31 an31 : Option Addr} {sl31 : Array (Option Value)} {oc31 kV31 dc31 pm31 cd31 ct31 : Value} {f32 : Addr} {od32 an32 : Option Addr} {sl32 : Array (Option Value)} {oc32 kV32 dc32 pm32 cd32 ct32 : Value} {f33 : Addr} {od33 an33 : Option Addr} {sl33 : Array (Option Value)} {oc33 kV33 dc33 pm33 cd33 ct33 : Value} {f34 : Addr} {od34 an34 : Option Addr} {sl34 : Array (Option Value)} {oc34 kV34 dc34 pm34 cd34 ct34 : Value} {f35 : Addr} {od35 an35 : Option Addr} {sl35 : Array (Option Value)} {oc35 kV35 dc35 pm35 cd35 ct35 : Value} {f36 : Addr} {od36 an36 : Option Addr} {sl36 : Array (Option Value)} {oc36 kV36 dc36 pm36 cd36 ct36 : Value} {f37 : Addr} {od37 an37 : Option Addr} {sl37 : Array (Option Value)} {oc37 kV37 dc37 pm37 cd37 ct37 : Value} {f38 : Addr} {od38 an38 : Option Addr} {sl38 : Array (Option Value)} {oc38 kV38 dc38 pm38 cd38 ct38 : Value} {f39 : Addr} {od39 an39 : Option Addr} {sl39 : Array (Option Value)} {oc39 kV39 dc39 pm39 cd39 ct39 : Value} {f40 : Addr} {od40 an40 : Option Addr} {sl40 : Array (Option Value)} {oc40 kV40 dc40 pm40 cd40 ct40 : Value} {f41 : Addr} {od41 an41 : Option Addr} {sl41 : Array (Option Value)} {oc41 kV41 dc41 pm41 cd41 ct41 : Value} {t_MOST : Tok} {t_MOST_BENCHES : Tok} {t_MOST_OFFERS : Tok} (X : K.In h) (G : h.Ns mainGlobals mg) (hfa : mg "law" = some (.ref fa))
    (aC0 : PySem.W.nsIn K mainGlobals "Lines" = some (some (.ref C0)))
    (a0 : PySem.W.nsIn K mainGlobals "is_integer" = some (some (.ref f0)))
    (l0 : K.lookup f0 = some ⟨oc0, od0, .func (PySem.W.fnOf "is_integer" "is_integer" (defArgs (top 1)) (defBody (top 1)) (defScope (top 1)) .none kV0 dc0 pm0 an0 cd0 ct0), sl0⟩)
    (c0 : PySem.W.codeIn K cd0 "is_integer" = true)
    (k0 : PySem.W.keepIn K (.ref f0) = true)
    (a1 : PySem.W.nsIn K mainGlobals "is_within" = some (some (.ref f1)))
    (l1 : K.lookup f1 = some ⟨oc1, od1, .func (PySem.W.fnOf "is_within" "is_within" (defArgs (top 2)) (defBody (top 2)) (defScope (top 2)) .none kV1 dc1 pm1 an1 cd1 ct1), sl1⟩)
    (c1 : PySem.W.codeIn K cd1 "is_within" = true)
    (k1 : PySem.W.keepIn K (.ref f1) = true)
    (a2 : PySem.W.nsIn K mainGlobals "are_ascending" = some (some (.ref f2)))
    (l2 : K.lookup f2 = some ⟨oc2, od2, .func (PySem.W.fnOf "are_ascending" "are_ascending" (defArgs (top 3)) (defBody (top 3)) (defScope (top 3)) .none kV2 dc2 pm2 an2 cd2 ct2), sl2⟩)
    (c2 : PySem.W.codeIn K cd2 "are_ascending" = true)
    (k2 : PySem.W.keepIn K (.ref f2) = true)
    (a3 : PySem.W.nsIn K mainGlobals "is_group_of" = some (some (.ref f3)))
    (l3 : K.lookup f3 = some ⟨oc3, od3, .func (PySem.W.fnOf "is_group_of" "is_group_of" (defArgs (top 10)) (defBody (top 10)) (defScope (top 10)) .none kV3 dc3 pm3 an3 cd3 ct3), sl3⟩)
    (c3 : PySem.W.codeIn K cd3 "is_group_of" = true)
    (k3 : PySem.W.keepIn K (.ref f3) = true)
    (a4 : PySem.W.nsIn K mainGlobals "is_offer" = some (some (.ref f4)))
    (l4 : K.lookup f4 = some ⟨oc4, od4, .func (PySem.W.fnOf "is_offer" "is_offer" (defArgs (top 14)) (defBody (top 14)) (defScope (top 14)) .none kV4 dc4 pm4 an4 cd4 ct4), sl4⟩)
    (c4 : PySem.W.codeIn K cd4 "is_offer" = true)
    (k4 : PySem.W.keepIn K (.ref f4) = true)
    (a5 : PySem.W.nsIn K mainGlobals "check_offers" = some (some (.ref f5)))
    (l5 : K.lookup f5 = some ⟨oc5, od5, .func (PySem.W.fnOf "check_offers" "check_offers" (defArgs (top 15)) (defBody (top 15)) (defScope (top 15)) .none kV5 dc5 pm5 an5 cd5 ct5), sl5⟩)
    (c5 : PySem.W.codeIn K cd5 "check_offers" = true)
    (k5 : PySem.W.keepIn K (.ref f5) = true)
    (a6 : PySem.W.nsIn K mainGlobals "hours_of" = some (some (.ref f6)))
    (l6 : K.lookup f6 = some ⟨oc6, od6, .func (PySem.W.fnOf "hours_of" "hours_of" (defArgs (top 16)) (defBody (top 16)) (defScope (top 16)) .none kV6 dc6 pm6 an6 cd6 ct6), sl6⟩)
    (c6 : PySem.W.codeIn K cd6 "hours_of" = true)
    (k6 : PySem.W.keepIn K (.ref f6) = true)
    (a7 : PySem.W.nsIn K mainGlobals "busiest" = some (some (.ref f7)))
    (l7 : K.lookup f7 = some ⟨oc7, od7, .func (PySem.W.fnOf "busiest" "busiest" (defArgs (top 17)) (defBody (top 17)) (defScope (top 17)) .none kV7 dc7 pm7 an7 cd7 ct7), sl7⟩)
    (c7 : PySem.W.codeIn K cd7 "busiest" = true)
    (k7 : PySem.W.keepIn K (.ref f7) = true)
    (a8 : PySem.W.nsIn K mainGlobals "does_fit" = some (some (.ref f8)))
    (l8 : K.lookup f8 = some ⟨oc8, od8, .func (PySem.W.fnOf "does_fit" "does_fit" (defArgs (top 18)) (defBody (top 18)) (defScope (top 18)) .none kV8 dc8 pm8 an8 cd8 ct8), sl8⟩)
    (c8 : PySem.W.codeIn K cd8 "does_fit" = true)
    (k8 : PySem.W.keepIn K (.ref f8) = true)
    (a9 : PySem.W.findIn K (.ref C0) "steps" = some (some (.ref f9)))
    (i9 : PySem.W.isFn K (.ref f9) = true)
    (l9 : K.lookup f9 = some ⟨oc9, od9, .func (PySem.W.fnOf "steps" "Lines.steps" (defArgs (inClass (top 19) 1)) (defBody (inClass (top 19) 1)) (defScope (inClass (top 19) 1)) .none kV9 dc9 pm9 an9 cd9 ct9), sl9⟩)
    (c9 : PySem.W.codeIn K cd9 "Lines.steps" = true)
    (k9 : PySem.W.keepIn K (.ref f9) = true)
    (a10 : PySem.W.findIn K (.ref C0) "distances" = some (some (.ref f10)))
    (i10 : PySem.W.isFn K (.ref f10) = true)
    (l10 : K.lookup f10 = some ⟨oc10, od10, .func (PySem.W.fnOf "distances" "Lines.distances" (defArgs (inClass (top 19) 2)) (defBody (inClass (top 19) 2)) (defScope (inClass (top 19) 2)) .none kV10 dc10 pm10 an10 cd10 ct10), sl10⟩)
    (c10 : PySem.W.codeIn K cd10 "Lines.distances" = true)
    (k10 : PySem.W.keepIn K (.ref f10) = true)
    (a11 : PySem.W.findIn K (.ref C0) "lead" = some (some (.ref f11)))
    (i11 : PySem.W.isFn K (.ref f11) = true)
    (l11 : K.lookup f11 = some ⟨oc11, od11, .func (PySem.W.fnOf "lead" "Lines.lead" (defArgs (inClass (top 19) 3)) (defBody (inClass (top 19) 3)) (defScope (inClass (top 19) 3)) .none kV11 dc11 pm11 an11 cd11 ct11), sl11⟩)
    (c11 : PySem.W.codeIn K cd11 "Lines.lead" = true)
    (k11 : PySem.W.keepIn K (.ref f11) = true)
    (a12 : PySem.W.findIn K (.ref C0) "__init__" = some (some (.ref f12)))
    (i12 : PySem.W.isFn K (.ref f12) = true)
    (l12 : K.lookup f12 = some ⟨oc12, od12, .func (PySem.W.fnOf "__init__" "Lines.__init__" (defArgs (inClass (top 19) 0)) (defBody (inClass (top 19) 0)) (defScope (inClass (top 19) 0)) .none kV12 dc12 pm12 an12 cd12 ct12), sl12⟩)
    (c12 : PySem.W.codeIn K cd12 "Lines.__init__" = true)
    (k12 : PySem.W.keepIn K (.ref f12) = true)
    (a13 : PySem.W.nsIn K mainGlobals "prices_of" = some (some (.ref f13)))
    (l13 : K.lookup f13 = some ⟨oc13, od13, .func (PySem.W.fnOf "prices_of" "prices_of" (defArgs (top 20)) (defBody (top 20)) (defScope (top 20)) .none kV13 dc13 pm13 an13 cd13 ct13), sl13⟩)
    (c13 : PySem.W.codeIn K cd13 "prices_of" = true)
    (k13 : PySem.W.keepIn K (.ref f13) = true)
    (a14 : PySem.W.nsIn K mainGlobals "dearest" = some (some (.ref f14)))
    (l14 : K.lookup f14 = some ⟨oc14, od14, .func (PySem.W.fnOf "dearest" "dearest" (defArgs (top 21)) (defBody (top 21)) (defScope (top 21)) .none kV14 dc14 pm14 an14 cd14 ct14), sl14⟩)
    (c14 : PySem.W.codeIn K cd14 "dearest" = true)
    (k14 : PySem.W.keepIn K (.ref f14) = true)
    (a15 : PySem.W.nsIn K mainGlobals "many_at" = some (some (.ref f15)))
    (l15 : K.lookup f15 = some ⟨oc15, od15, .func (PySem.W.fnOf "many_at" "many_at" (defArgs (top 23)) (defBody (top 23)) (defScope (top 23)) .none kV15 dc15 pm15 an15 cd15 ct15), sl15⟩)
    (c15 : PySem.W.codeIn K cd15 "many_at" = true)
    (k15 : PySem.W.keepIn K (.ref f15) = true)
    (a16 : PySem.W.nsIn K mainGlobals "fewest_benches" = some (some (.ref f16)))
    (l16 : K.lookup f16 = some ⟨oc16, od16, .func (PySem.W.fnOf "fewest_benches" "fewest_benches" (defArgs (top 22)) (defBody (top 22)) (defScope (top 22)) .none kV16 dc16 pm16 an16 cd16 ct16), sl16⟩)
    (c16 : PySem.W.codeIn K cd16 "fewest_benches" = true)
    (k16 : PySem.W.keepIn K (.ref f16) = true)
    (a17 : PySem.W.nsIn K mainGlobals "by_end" = some (some (.ref f17)))
    (l17 : K.lookup f17 = some ⟨oc17, od17, .func (PySem.W.fnOf "by_end" "by_end" (defArgs (top 25)) (defBody (top 25)) (defScope (top 25)) .none kV17 dc17 pm17 an17 cd17 ct17), sl17⟩)
    (c17 : PySem.W.codeIn K cd17 "by_end" = true)
    (k17 : PySem.W.keepIn K (.ref f17) = true)
    (a18 : PySem.W.nsIn K mainGlobals "apart_ones" = some (some (.ref f18)))
    (l18 : K.lookup f18 = some ⟨oc18, od18, .func (PySem.W.fnOf "apart_ones" "apart_ones" (defArgs (top 26)) (defBody (top 26)) (defScope (top 26)) .none kV18 dc18 pm18 an18 cd18 ct18), sl18⟩)
    (c18 : PySem.W.codeIn K cd18 "apart_ones" = true)
    (k18 : PySem.W.keepIn K (.ref f18) = true)
    (a19 : PySem.W.nsIn K mainGlobals "most_apart" = some (some (.ref f19)))
    (l19 : K.lookup f19 = some ⟨oc19, od19, .func (PySem.W.fnOf "most_apart" "most_apart" (defArgs (top 27)) (defBody (top 27)) (defScope (top 27)) .none kV19 dc19 pm19 an19 cd19 ct19), sl19⟩)
    (c19 : PySem.W.codeIn K cd19 "most_apart" = true)
    (k19 : PySem.W.keepIn K (.ref f19) = true)
    (a20 : PySem.W.nsIn K mainGlobals "are_apart" = some (some (.ref f20)))
    (l20 : K.lookup f20 = some ⟨oc20, od20, .func (PySem.W.fnOf "are_apart" "are_apart" (defArgs (top 28)) (defBody (top 28)) (defScope (top 28)) .none kV20 dc20 pm20 an20 cd20 ct20), sl20⟩)
    (c20 : PySem.W.codeIn K cd20 "are_apart" = true)
    (k20 : PySem.W.keepIn K (.ref f20) = true)
    (a21 : PySem.W.nsIn K mainGlobals "do_meet" = some (some (.ref f21)))
    (l21 : K.lookup f21 = some ⟨oc21, od21, .func (PySem.W.fnOf "do_meet" "do_meet" (defArgs (top 29)) (defBody (top 29)) (defScope (top 29)) .none kV21 dc21 pm21 an21 cd21 ct21), sl21⟩)
    (c21 : PySem.W.codeIn K cd21 "do_meet" = true)
    (k21 : PySem.W.keepIn K (.ref f21) = true)
    (a22 : PySem.W.nsIn K mainGlobals "is_most_apart" = some (some (.ref f22)))
    (l22 : K.lookup f22 = some ⟨oc22, od22, .func (PySem.W.fnOf "is_most_apart" "is_most_apart" (defArgs (top 30)) (defBody (top 30)) (defScope (top 30)) .none kV22 dc22 pm22 an22 cd22 ct22), sl22⟩)
    (c22 : PySem.W.codeIn K cd22 "is_most_apart" = true)
    (k22 : PySem.W.keepIn K (.ref f22) = true)
    (a23 : PySem.W.nsIn K mainGlobals "least_end" = some (some (.ref f23)))
    (l23 : K.lookup f23 = some ⟨oc23, od23, .func (PySem.W.fnOf "least_end" "least_end" (defArgs (top 31)) (defBody (top 31)) (defScope (top 31)) .none kV23 dc23 pm23 an23 cd23 ct23), sl23⟩)
    (c23 : PySem.W.codeIn K cd23 "least_end" = true)
    (k23 : PySem.W.keepIn K (.ref f23) = true)
    (a24 : PySem.W.nsIn K mainGlobals "taken_in_order" = some (some (.ref f24)))
    (l24 : K.lookup f24 = some ⟨oc24, od24, .func (PySem.W.fnOf "taken_in_order" "taken_in_order" (defArgs (top 32)) (defBody (top 32)) (defScope (top 32)) .none kV24 dc24 pm24 an24 cd24 ct24), sl24⟩)
    (c24 : PySem.W.codeIn K cd24 "taken_in_order" = true)
    (k24 : PySem.W.keepIn K (.ref f24) = true)
    (a25 : PySem.W.nsIn K mainGlobals "_law_tape" = some (some (.ref f25)))
    (l25 : K.lookup f25 = some ⟨oc25, od25, .func (PySem.W.fnOf "_law_tape" "_law_tape" (defArgs (top 34)) (defBody (top 34)) (defScope (top 34)) .none kV25 dc25 pm25 an25 cd25 ct25), sl25⟩)
    (c25 : PySem.W.codeIn K cd25 "_law_tape" = true)
    (k25 : PySem.W.keepIn K (.ref f25) = true)
    (a26 : PySem.W.nsIn K mainGlobals "_law_pick" = some (some (.ref f26)))
    (l26 : K.lookup f26 = some ⟨oc26, od26, .func (PySem.W.fnOf "_law_pick" "_law_pick" (defArgs (top 35)) (defBody (top 35)) (defScope (top 35)) .none kV26 dc26 pm26 an26 cd26 ct26), sl26⟩)
    (c26 : PySem.W.codeIn K cd26 "_law_pick" = true)
    (k26 : PySem.W.keepIn K (.ref f26) = true)
    (a27 : PySem.W.nsIn K mainGlobals "_law_any" = some (some (.ref f27)))
    (l27 : K.lookup f27 = some ⟨oc27, od27, .func (PySem.W.fnOf "_law_any" "_law_any" (defArgs (top 36)) (defBody (top 36)) (defScope (top 36)) .none kV27 dc27 pm27 an27 cd27 ct27), sl27⟩)
    (c27 : PySem.W.codeIn K cd27 "_law_any" = true)
    (k27 : PySem.W.keepIn K (.ref f27) = true)
    (a28 : PySem.W.nsIn K mainGlobals "_law_mixed" = some (some (.ref f28)))
    (l28 : K.lookup f28 = some ⟨oc28, od28, .func (PySem.W.fnOf "_law_mixed" "_law_mixed" (defArgs (top 37)) (defBody (top 37)) (defScope (top 37)) .none kV28 dc28 pm28 an28 cd28 ct28), sl28⟩)
    (c28 : PySem.W.codeIn K cd28 "_law_mixed" = true)
    (k28 : PySem.W.keepIn K (.ref f28) = true)
    (a29 : PySem.W.nsIn K mainGlobals "_law_offers" = some (some (.ref f29)))
    (l29 : K.lookup f29 = some ⟨oc29, od29, .func (PySem.W.fnOf "_law_offers" "_law_offers" (defArgs (top 38)) (defBody (top 38)) (defScope (top 38)) .none kV29 dc29 pm29 an29 cd29 ct29), sl29⟩)
    (c29 : PySem.W.codeIn K cd29 "_law_offers" = true)
    (k29 : PySem.W.keepIn K (.ref f29) = true)
    (a30 : PySem.W.nsIn K mainGlobals "_law_groups" = some (some (.ref f30)))
    (l30 : K.lookup f30 = some ⟨oc30, od30, .func (PySem.W.fnOf "_law_groups" "_law_groups" (defArgs (top 39)) (defBody (top 39)) (defScope (top 39)) .none kV30 dc30 pm30 an30 cd30 ct30), sl30⟩)
    (c30 : PySem.W.codeIn K cd30 "_law_groups" = true)
    (k30 : PySem.W.keepIn K (.ref f30) = true)
    (a31 : PySem.W.nsIn K mainGlobals "_law_are_apart" = some (some (.ref f31)))
    (l31 : K.lookup f31 = some ⟨oc31, od31, .func (PySem.W.fnOf "_law_are_apart" "_law_are_apart" (defArgs (top 40)) (defBody (top 40)) (defScope (top 40)) .none kV31 dc31 pm31 an31 cd31 ct31), sl31⟩)
    (c31 : PySem.W.codeIn K cd31 "_law_are_apart" = true)
    (k31 : PySem.W.keepIn K (.ref f31) = true)
    (a32 : PySem.W.nsIn K mainGlobals "_law_is_number" = some (some (.ref f32)))
    (l32 : K.lookup f32 = some ⟨oc32, od32, .func (PySem.W.fnOf "_law_is_number" "_law_is_number" (defArgs (top 41)) (defBody (top 41)) (defScope (top 41)) .none kV32 dc32 pm32 an32 cd32 ct32), sl32⟩)
    (c32 : PySem.W.codeIn K cd32 "_law_is_number" = true)
    (k32 : PySem.W.keepIn K (.ref f32) = true)
    (a33 : PySem.W.nsIn K mainGlobals "_law_is_group" = some (some (.ref f33)))
    (l33 : K.lookup f33 = some ⟨oc33, od33, .func (PySem.W.fnOf "_law_is_group" "_law_is_group" (defArgs (top 42)) (defBody (top 42)) (defScope (top 42)) .none kV33 dc33 pm33 an33 cd33 ct33), sl33⟩)
    (c33 : PySem.W.codeIn K cd33 "_law_is_group" = true)
    (k33 : PySem.W.keepIn K (.ref f33) = true)
    (a34 : PySem.W.nsIn K mainGlobals "_law_do_meet" = some (some (.ref f34)))
    (l34 : K.lookup f34 = some ⟨oc34, od34, .func (PySem.W.fnOf "_law_do_meet" "_law_do_meet" (defArgs (top 43)) (defBody (top 43)) (defScope (top 43)) .none kV34 dc34 pm34 an34 cd34 ct34), sl34⟩)
    (c34 : PySem.W.codeIn K cd34 "_law_do_meet" = true)
    (k34 : PySem.W.keepIn K (.ref f34) = true)
    (a35 : PySem.W.nsIn K mainGlobals "_law_is_right" = some (some (.ref f35)))
    (l35 : K.lookup f35 = some ⟨oc35, od35, .func (PySem.W.fnOf "_law_is_right" "_law_is_right" (defArgs (top 44)) (defBody (top 44)) (defScope (top 44)) .none kV35 dc35 pm35 an35 cd35 ct35), sl35⟩)
    (c35 : PySem.W.codeIn K cd35 "_law_is_right" = true)
    (k35 : PySem.W.keepIn K (.ref f35) = true)
    (a36 : PySem.W.nsIn K mainGlobals "_law_bent" = some (some (.ref f36)))
    (l36 : K.lookup f36 = some ⟨oc36, od36, .func (PySem.W.fnOf "_law_bent" "_law_bent" (defArgs (top 45)) (defBody (top 45)) (defScope (top 45)) .none kV36 dc36 pm36 an36 cd36 ct36), sl36⟩)
    (c36 : PySem.W.codeIn K cd36 "_law_bent" = true)
    (k36 : PySem.W.keepIn K (.ref f36) = true)
    (a37 : PySem.W.nsIn K mainGlobals "_law_least_end" = some (some (.ref f37)))
    (l37 : K.lookup f37 = some ⟨oc37, od37, .func (PySem.W.fnOf "_law_least_end" "_law_least_end" (defArgs (top 46)) (defBody (top 46)) (defScope (top 46)) .none kV37 dc37 pm37 an37 cd37 ct37), sl37⟩)
    (c37 : PySem.W.codeIn K cd37 "_law_least_end" = true)
    (k37 : PySem.W.keepIn K (.ref f37) = true)
    (a38 : PySem.W.nsIn K mainGlobals "_law_in_order" = some (some (.ref f38)))
    (l38 : K.lookup f38 = some ⟨oc38, od38, .func (PySem.W.fnOf "_law_in_order" "_law_in_order" (defArgs (top 47)) (defBody (top 47)) (defScope (top 47)) .none kV38 dc38 pm38 an38 cd38 ct38), sl38⟩)
    (c38 : PySem.W.codeIn K cd38 "_law_in_order" = true)
    (k38 : PySem.W.keepIn K (.ref f38) = true)
    (a39 : PySem.W.nsIn K mainGlobals "_law_are_ends_right" = some (some (.ref f39)))
    (l39 : K.lookup f39 = some ⟨oc39, od39, .func (PySem.W.fnOf "_law_are_ends_right" "_law_are_ends_right" (defArgs (top 48)) (defBody (top 48)) (defScope (top 48)) .none kV39 dc39 pm39 an39 cd39 ct39), sl39⟩)
    (c39 : PySem.W.codeIn K cd39 "_law_are_ends_right" = true)
    (k39 : PySem.W.keepIn K (.ref f39) = true)
    (a40 : PySem.W.nsIn K mainGlobals "_law_are_right" = some (some (.ref f40)))
    (l40 : K.lookup f40 = some ⟨oc40, od40, .func (PySem.W.fnOf "_law_are_right" "_law_are_right" (defArgs (top 49)) (defBody (top 49)) (defScope (top 49)) .none kV40 dc40 pm40 an40 cd40 ct40), sl40⟩)
    (c40 : PySem.W.codeIn K cd40 "_law_are_right" = true)
    (k40 : PySem.W.keepIn K (.ref f40) = true)
    (a41 : PySem.W.nsIn K mainGlobals "law" = some (some (.ref f41)))
    (l41 : K.lookup f41 = some ⟨oc41, od41, .func (PySem.W.fnOf "law" "law" (defArgs (top 50)) (defBody (top 50)) (defScope (top 50)) .none kV41 dc41 pm41 an41 cd41 ct41), sl41⟩)
    (c41 : PySem.W.codeIn K cd41 "law" = true)
    (k41 : PySem.W.keepIn K (.ref f41) = true)
    (pg0 : PySem.W.plainGet K C0 Str.empty = true)
    (hd0 : PySem.W.hasDictIn K C0 = true)
    (po0 : PySem.W.plainOver K C0 = true)
    (sa0 : PySem.W.findIn K (.ref C0) "__setattr__" = some (some (.builtin "object.__setattr__")))
    (mk0 : PySem.W.makesIn K C0 = true)
    (kc0 : PySem.W.keepIn K (.ref C0) = true)
    (n0_hours : PySem.W.findIn K (.ref C0) "hours" = some none)
    (n0_idle : PySem.W.findIn K (.ref C0) "idle" = some none)
    (n0_offers : PySem.W.findIn K (.ref C0) "offers" = some none)
    (n0_places : PySem.W.findIn K (.ref C0) "places" = some none)
    (n0_taken : PySem.W.findIn K (.ref C0) "taken" = some none)
    (z_abs : PySem.W.nsIn K mainGlobals "abs" = some none)
    (z_all : PySem.W.nsIn K mainGlobals "all" = some none)
    (z_any : PySem.W.nsIn K mainGlobals "any" = some none)
    (z_bool : PySem.W.nsIn K mainGlobals "bool" = some none)
    (z_enumerate : PySem.W.nsIn K mainGlobals "enumerate" = some none)
    (z_int : PySem.W.nsIn K mainGlobals "int" = some none)
    (z_isinstance : PySem.W.nsIn K mainGlobals "isinstance" = some none)
    (z_len : PySem.W.nsIn K mainGlobals "len" = some none)
    (z_list : PySem.W.nsIn K mainGlobals "list" = some none)
    (z_max : PySem.W.nsIn K mainGlobals "max" = some none)
    (z_min : PySem.W.nsIn K mainGlobals "min" = some none)
    (z_range : PySem.W.nsIn K mainGlobals "range" = some none)
    (z_repr : PySem.W.nsIn K mainGlobals "repr" = some none)
    (z_sorted : PySem.W.nsIn K mainGlobals "sorted" = some none)
    (z_str : PySem.W.nsIn K mainGlobals "str" = some none)
    (z_sum : PySem.W.nsIn K mainGlobals "sum" = some none)
    (z_tuple : PySem.W.nsIn K mainGlobals "tuple" = some none)
    (z_zip : PySem.W.nsIn K mainGlobals "zip" = some none)
    (g_MOST : PySem.W.nsIn K mainGlobals "MOST" = some (some (.int 1000000 t_MOST)))
    (g_MOST_BENCHES : PySem.W.nsIn K mainGlobals "MOST_BENCHES" = some (some (.int 8 t_MOST_BENCHES)))
    (g_MOST_OFFERS : PySem.W.nsIn K mainGlobals "MOST_OFFERS" = some (some (.int 40 t_MOST_OFFERS))) :
    ∃ fd : FuncData, (∀ (s : Shared) (v : Value), BindsTo s fd ⟨[v], []⟩ [("script", v)]) ∧ ∀ base : Heap, K.In base → base.Ns mainGlobals mg → FnG l.prog w K mg base CX0 8 fa fd ["script"] (spFn ⟨K, mg⟩ 1 [] m_law) := by
  have e := hfa.symm.trans (PySem.W.mg_of X G a41)
  cases e
  let T : Txt K mg := {
    C_Lines := C0
    g_Lines := PySem.W.mg_of X G aC0
    cl_Lines := ⟨pg0, hd0, po0, sa0⟩
    na_Lines_hours := n0_hours
    na_Lines_idle := n0_idle
    na_Lines_offers := n0_offers
    na_Lines_places := n0_places
    na_Lines_taken := n0_taken
    a_is_integer := f0
    d_is_integer := _
    D_is_integer := ⟨fun_mk (st := top 1) l0 c0 k0, PySem.W.mg_of X G a0, Fun.binds (fun_mk (st := top 1) l0 c0 k0) (ps := ["thing"]) fun _ _ _ _ _ _ us hl => match us, hl with | [_], _ => rfl⟩
    a_is_within := f1
    d_is_within := _
    D_is_within := ⟨fun_mk (st := top 2) l1 c1 k1, PySem.W.mg_of X G a1, Fun.binds (fun_mk (st := top 2) l1 c1 k1) (ps := ["thing", "least", "most"]) fun _ _ _ _ _ _ us hl => match us, hl with | [_, _, _], _ => rfl⟩
    a_are_ascending := f2
    d_are_ascending := _
    D_are_ascending := ⟨fun_mk (st := top 3) l2 c2 k2, PySem.W.mg_of X G a2, Fun.binds (fun_mk (st := top 3) l2 c2 k2) (ps := ["numbers"]) fun _ _ _ _ _ _ us hl => match us, hl with | [_], _ => rfl⟩
    a_is_group_of := f3
    d_is_group_of := _
    D_is_group_of := ⟨fun_mk (st := top 10) l3 c3 k3, PySem.W.mg_of X G a3, Fun.binds (fun_mk (st := top 10) l3 c3 k3) (ps := ["many", "thing"]) fun _ _ _ _ _ _ us hl => match us, hl with | [_, _], _ => rfl⟩
    a_is_offer := f4
    d_is_offer := _
    D_is_offer := ⟨fun_mk (st := top 14) l4 c4 k4, PySem.W.mg_of X G a4, Fun.binds (fun_mk (st := top 14) l4 c4 k4) (ps := ["thing"]) fun _ _ _ _ _ _ us hl => match us, hl with | [_], _ => rfl⟩
    a_check_offers := f5
    d_check_offers := _
    D_check_offers := ⟨fun_mk (st := top 15) l5 c5 k5, PySem.W.mg_of X G a5, Fun.binds (fun_mk (st := top 15) l5 c5 k5) (ps := ["offers", "benches"]) fun _ _ _ _ _ _ us hl => match us, hl with | [_, _], _ => rfl⟩
    a_hours_of := f6
    d_hours_of := _
    D_hours_of := ⟨fun_mk (st := top 16) l6 c6 k6, PySem.W.mg_of X G a6, Fun.binds (fun_mk (st := top 16) l6 c6 k6) (ps := ["offers"]) fun _ _ _ _ _ _ us hl => match us, hl with | [_], _ => rfl⟩
    a_busiest := f7
    d_busiest := _
    D_busiest := ⟨fun_mk (st := top 17) l7 c7 k7, PySem.W.mg_of X G a7, Fun.binds (fun_mk (st := top 17) l7 c7 k7) (ps := ["offers", "group"]) fun _ _ _ _ _ _ us hl => match us, hl with | [_, _], _ => rfl⟩
    a_does_fit := f8
    d_does_fit := _
    D_does_fit := ⟨fun_mk (st := top 18) l8 c8 k8, PySem.W.mg_of X G a8, Fun.binds (fun_mk (st := top 18) l8 c8 k8) (ps := ["offers", "benches", "group"]) fun _ _ _ _ _ _ us hl => match us, hl with | [_, _, _], _ => rfl⟩
    a_Lines_steps := f9
    d_Lines_steps := _
    M_Lines_steps := ⟨fun_mk (st := inClass (top 19) 1) l9 c9 k9, ⟨a9, i9, k9⟩, Fun.binds (fun_mk (st := inClass (top 19) 1) l9 c9 k9) (ps := ["self"]) fun _ _ _ _ _ _ us hl => match us, hl with | [_], _ => rfl⟩
    a_Lines_distances := f10
    d_Lines_distances := _
    M_Lines_distances := ⟨fun_mk (st := inClass (top 19) 2) l10 c10 k10, ⟨a10, i10, k10⟩, Fun.binds (fun_mk (st := inClass (top 19) 2) l10 c10 k10) (ps := ["self"]) fun _ _ _ _ _ _ us hl => match us, hl with | [_], _ => rfl⟩
    a_Lines_lead := f11
    d_Lines_lead := _
    M_Lines_lead := ⟨fun_mk (st := inClass (top 19) 3) l11 c11 k11, ⟨a11, i11, k11⟩, Fun.binds (fun_mk (st := inClass (top 19) 3) l11 c11 k11) (ps := ["self"]) fun _ _ _ _ _ _ us hl => match us, hl with | [_], _ => rfl⟩
    a_Lines___init__ := f12
    d_Lines___init__ := _
    M_Lines___init__ := ⟨fun_mk (st := inClass (top 19) 0) l12 c12 k12, ⟨a12, i12, k12⟩, Fun.binds (fun_mk (st := inClass (top 19) 0) l12 c12 k12) (ps := ["self", "offers", "benches"]) fun _ _ _ _ _ _ us hl => match us, hl with | [_, _, _], _ => rfl⟩
    a_prices_of := f13
    d_prices_of := _
    D_prices_of := ⟨fun_mk (st := top 20) l13 c13 k13, PySem.W.mg_of X G a13, Fun.binds (fun_mk (st := top 20) l13 c13 k13) (ps := ["lines"]) fun _ _ _ _ _ _ us hl => match us, hl with | [_], _ => rfl⟩
    a_dearest := f14
    d_dearest := _
    D_dearest := ⟨fun_mk (st := top 21) l14 c14 k14, PySem.W.mg_of X G a14, Fun.binds (fun_mk (st := top 21) l14 c14 k14) (ps := ["offers", "benches"]) fun _ _ _ _ _ _ us hl => match us, hl with | [_, _], _ => rfl⟩
    a_many_at := f15
    d_many_at := _
    D_many_at := ⟨fun_mk (st := top 23) l15 c15 k15, PySem.W.mg_of X G a15, Fun.binds (fun_mk (st := top 23) l15 c15 k15) (ps := ["offers", "group", "hour"]) fun _ _ _ _ _ _ us hl => match us, hl with | [_, _, _], _ => rfl⟩
    a_fewest_benches := f16
    d_fewest_benches := _
    D_fewest_benches := ⟨fun_mk (st := top 22) l16 c16 k16, PySem.W.mg_of X G a16, Fun.binds (fun_mk (st := top 22) l16 c16 k16) (ps := ["offers"]) fun _ _ _ _ _ _ us hl => match us, hl with | [_], _ => rfl⟩
    a_by_end := f17
    d_by_end := _
    D_by_end := ⟨fun_mk (st := top 25) l17 c17 k17, PySem.W.mg_of X G a17, Fun.binds (fun_mk (st := top 25) l17 c17 k17) (ps := ["offers"]) fun _ _ _ _ _ _ us hl => match us, hl with | [_], _ => rfl⟩
    a_apart_ones := f18
    d_apart_ones := _
    D_apart_ones := ⟨fun_mk (st := top 26) l18 c18 k18, PySem.W.mg_of X G a18, Fun.binds (fun_mk (st := top 26) l18 c18 k18) (ps := ["offers"]) fun _ _ _ _ _ _ us hl => match us, hl with | [_], _ => rfl⟩
    a_most_apart := f19
    d_most_apart := _
    D_most_apart := ⟨fun_mk (st := top 27) l19 c19 k19, PySem.W.mg_of X G a19, Fun.binds (fun_mk (st := top 27) l19 c19 k19) (ps := ["offers"]) fun _ _ _ _ _ _ us hl => match us, hl with | [_], _ => rfl⟩
    a_are_apart := f20
    d_are_apart := _
    D_are_apart := ⟨fun_mk (st := top 28) l20 c20 k20, PySem.W.mg_of X G a20, Fun.binds (fun_mk (st := top 28) l20 c20 k20) (ps := ["offers", "group"]) fun _ _ _ _ _ _ us hl => match us, hl with | [_, _], _ => rfl⟩
    a_do_meet := f21
    d_do_meet := _
    D_do_meet := ⟨fun_mk (st := top 29) l21 c21 k21, PySem.W.mg_of X G a21, Fun.binds (fun_mk (st := top 29) l21 c21 k21) (ps := ["offers", "hours"]) fun _ _ _ _ _ _ us hl => match us, hl with | [_, _], _ => rfl⟩
    a_is_most_apart := f22
    d_is_most_apart := _
    D_is_most_apart := ⟨fun_mk (st := top 30) l22 c22 k22, PySem.W.mg_of X G a22, Fun.binds (fun_mk (st := top 30) l22 c22 k22) (ps := ["offers", "thing"]) fun _ _ _ _ _ _ us hl => match us, hl with | [_, _], _ => rfl⟩
    a_least_end := f23
    d_least_end := _
    D_least_end := ⟨fun_mk (st := top 31) l23 c23 k23, PySem.W.mg_of X G a23, Fun.binds (fun_mk (st := top 31) l23 c23 k23) (ps := ["offers", "group"]) fun _ _ _ _ _ _ us hl => match us, hl with | [_, _], _ => rfl⟩
    a_taken_in_order := f24
    d_taken_in_order := _
    D_taken_in_order := ⟨fun_mk (st := top 32) l24 c24 k24, PySem.W.mg_of X G a24, Fun.binds (fun_mk (st := top 32) l24 c24 k24) (ps := ["offers"]) fun _ _ _ _ _ _ us hl => match us, hl with | [_], _ => rfl⟩
    a__law_tape := f25
    d__law_tape := _
    D__law_tape := ⟨fun_mk (st := top 34) l25 c25 k25, PySem.W.mg_of X G a25, Fun.binds (fun_mk (st := top 34) l25 c25 k25) (ps := ["script"]) fun _ _ _ _ _ _ us hl => match us, hl with | [_], _ => rfl⟩
    a__law_pick := f26
    d__law_pick := _
    D__law_pick := ⟨fun_mk (st := top 35) l26 c26 k26, PySem.W.mg_of X G a26, Fun.binds (fun_mk (st := top 35) l26 c26 k26) (ps := ["tape", "many"]) fun _ _ _ _ _ _ us hl => match us, hl with | [_, _], _ => rfl⟩
    a__law_any := f27
    d__law_any := _
    D__law_any := ⟨fun_mk (st := top 36) l27 c27 k27, PySem.W.mg_of X G a27, Fun.binds (fun_mk (st := top 36) l27 c27 k27) (ps := ["tape", "things"]) fun _ _ _ _ _ _ us hl => match us, hl with | [_, _], _ => rfl⟩
    a__law_mixed := f28
    d__law_mixed := _
    D__law_mixed := ⟨fun_mk (st := top 37) l28 c28 k28, PySem.W.mg_of X G a28, Fun.binds (fun_mk (st := top 37) l28 c28 k28) (ps := ["tape", "things"]) fun _ _ _ _ _ _ us hl => match us, hl with | [_, _], _ => rfl⟩
    a__law_offers := f29
    d__law_offers := _
    D__law_offers := ⟨fun_mk (st := top 38) l29 c29 k29, PySem.W.mg_of X G a29, Fun.binds (fun_mk (st := top 38) l29 c29 k29) (ps := ["tape"]) fun _ _ _ _ _ _ us hl => match us, hl with | [_], _ => rfl⟩
    a__law_groups := f30
    d__law_groups := _
    D__law_groups := ⟨fun_mk (st := top 39) l30 c30 k30, PySem.W.mg_of X G a30, Fun.binds (fun_mk (st := top 39) l30 c30 k30) (ps := ["some"]) fun _ _ _ _ _ _ us hl => match us, hl with | [_], _ => rfl⟩
    a__law_are_apart := f31
    d__law_are_apart := _
    D__law_are_apart := ⟨fun_mk (st := top 40) l31 c31 k31, PySem.W.mg_of X G a31, Fun.binds (fun_mk (st := top 40) l31 c31 k31) (ps := ["offers", "group"]) fun _ _ _ _ _ _ us hl => match us, hl with | [_, _], _ => rfl⟩
    a__law_is_number := f32
    d__law_is_number := _
    D__law_is_number := ⟨fun_mk (st := top 41) l32 c32 k32, PySem.W.mg_of X G a32, Fun.binds (fun_mk (st := top 41) l32 c32 k32) (ps := ["thing", "low", "high"]) fun _ _ _ _ _ _ us hl => match us, hl with | [_, _, _], _ => rfl⟩
    a__law_is_group := f33
    d__law_is_group := _
    D__law_is_group := ⟨fun_mk (st := top 42) l33 c33 k33, PySem.W.mg_of X G a33, Fun.binds (fun_mk (st := top 42) l33 c33 k33) (ps := ["thing", "many"]) fun _ _ _ _ _ _ us hl => match us, hl with | [_, _], _ => rfl⟩
    a__law_do_meet := f34
    d__law_do_meet := _
    D__law_do_meet := ⟨fun_mk (st := top 43) l34 c34 k34, PySem.W.mg_of X G a34, Fun.binds (fun_mk (st := top 43) l34 c34 k34) (ps := ["offers", "hours"]) fun _ _ _ _ _ _ us hl => match us, hl with | [_, _], _ => rfl⟩
    a__law_is_right := f35
    d__law_is_right := _
    D__law_is_right := ⟨fun_mk (st := top 44) l35 c35 k35, PySem.W.mg_of X G a35, Fun.binds (fun_mk (st := top 44) l35 c35 k35) (ps := ["offers", "thing"]) fun _ _ _ _ _ _ us hl => match us, hl with | [_, _], _ => rfl⟩
    a__law_bent := f36
    d__law_bent := _
    D__law_bent := ⟨fun_mk (st := top 45) l36 c36 k36, PySem.W.mg_of X G a36, Fun.binds (fun_mk (st := top 45) l36 c36 k36) (ps := ["tape", "offers", "thing"]) fun _ _ _ _ _ _ us hl => match us, hl with | [_, _, _], _ => rfl⟩
    a__law_least_end := f37
    d__law_least_end := _
    D__law_least_end := ⟨fun_mk (st := top 46) l37 c37 k37, PySem.W.mg_of X G a37, Fun.binds (fun_mk (st := top 46) l37 c37 k37) (ps := ["offers", "group"]) fun _ _ _ _ _ _ us hl => match us, hl with | [_, _], _ => rfl⟩
    a__law_in_order := f38
    d__law_in_order := _
    D__law_in_order := ⟨fun_mk (st := top 47) l38 c38 k38, PySem.W.mg_of X G a38, Fun.binds (fun_mk (st := top 47) l38 c38 k38) (ps := ["offers"]) fun _ _ _ _ _ _ us hl => match us, hl with | [_], _ => rfl⟩
    a__law_are_ends_right := f39
    d__law_are_ends_right := _
    D__law_are_ends_right := ⟨fun_mk (st := top 48) l39 c39 k39, PySem.W.mg_of X G a39, Fun.binds (fun_mk (st := top 48) l39 c39 k39) (ps := ["tape", "offers"]) fun _ _ _ _ _ _ us hl => match us, hl with | [_, _], _ => rfl⟩
    a__law_are_right := f40
    d__law_are_right := _
    D__law_are_right := ⟨fun_mk (st := top 49) l40 c40 k40, PySem.W.mg_of X G a40, Fun.binds (fun_mk (st := top 49) l40 c40 k40) (ps := ["tape", "offers"]) fun _ _ _ _ _ _ us hl => match us, hl with | [_, _], _ => rfl⟩
    a_law := fa
    d_law := _
    D_law := ⟨fun_mk (st := top 50) l41 c41 k41, PySem.W.mg_of X G a41, Fun.binds (fun_mk (st := top 50) l41 c41 k41) (ps := ["script"]) fun _ _ _ _ _ _ us hl => match us, hl with | [_], _ => rfl⟩
    mk_Lines := ⟨mk0, a12, i12, kc0⟩
    m_abs := PySem.W.mg_none_of X G z_abs
    m_all := PySem.W.mg_none_of X G z_all
    m_any := PySem.W.mg_none_of X G z_any
    m_bool := PySem.W.mg_none_of X G z_bool
    m_enumerate := PySem.W.mg_none_of X G z_enumerate
    m_int := PySem.W.mg_none_of X G z_int
    m_isinstance := PySem.W.mg_none_of X G z_isinstance
    m_len := PySem.W.mg_none_of X G z_len
    m_list := PySem.W.mg_none_of X G z_list
    m_max := PySem.W.mg_none_of X G z_max
    m_min := PySem.W.mg_none_of X G z_min
    m_range := PySem.W.mg_none_of X G z_range
    m_repr := PySem.W.mg_none_of X G z_repr
    m_sorted := PySem.W.mg_none_of X G z_sorted
    m_str := PySem.W.mg_none_of X G z_str
    m_sum := PySem.W.mg_none_of X G z_sum
    m_tuple := PySem.W.mg_none_of X G z_tuple
    m_zip := PySem.W.mg_none_of X G z_zip
    t_MOST := t_MOST
    c_MOST := PySem.W.mg_of X G g_MOST
    t_MOST_BENCHES := t_MOST_BENCHES
    c_MOST_BENCHES := PySem.W.mg_of X G g_MOST_BENCHES
    t_MOST_OFFERS := t_MOST_OFFERS
    c_MOST_OFFERS := PySem.W.mg_of X G g_MOST_OFFERS }
  exact ⟨T.d_law, fun s v => .of_eq rfl, fun base _ _ => ok_law T⟩
end K74
open PySem PySem.W PyProof.Rows in
set_option maxRecDepth 100000 in
set_option maxHeartbeats 0 in
theorem PySem.Challenge.cw_workhall_k74_whole_offers_apart_holds : PySem.Challenge.rw_workhall_k74_whole_offers_apart.Holds := by
  w_on; o_law; k_head; (case hw => w_witness2)
  k_fill
  refine Z.walk_ofG (l := PySem.Challenge.rw_workhall_k74_whole_offers_apart) (n := 63) (k := 8) (x := "script") (sp := fun K mg => Z.spFn ⟨K, mg⟩ 1 [] K74.m_law) rfl (by decide) rfl ⟨⟨rfl, by decide, by decide⟩, rfl⟩ (fun w h Y => PySem.W.kIn_of Y) ?F (fun K mg H a ns hl _ hS => K74.hold_of H a ns hS (K74.law_true ns hl))
  case F =>
    intro w mg fa h KX G hmg
    refine' K74.all_mk KX G hmg ?aC0 ?a0 ?l0 ?c0 ?k0 ?a1 ?l1 ?c1 ?k1 ?a2 ?l2 ?c2 ?k2 ?a3 ?l3 ?c3 ?k3 ?a4 ?l4 ?c4 ?k4 ?a5 ?l5 ?c5 ?k5 ?a6 ?l6 ?c6 ?k6 ?a7 ?l7 ?c7 ?k7 ?a8 ?l8 ?c8 ?k8 ?a9 ?i9 ?l9 ?c9 ?k9 ?a10 ?i10 ?l10 ?c10 ?k10 ?a11 ?i11 ?l11 ?c11 ?k11 ?a12 ?i12 ?l12 ?c12 ?k12 ?a13 ?l13 ?c13 ?k13 ?a14 ?l14 ?c14 ?k14 ?a15 ?l15 ?c15 ?k15 ?a16 ?l16 ?c16 ?k16 ?a17 ?l17 ?c17 ?k17 ?a18 ?l18 ?c18 ?k18 ?a19 ?l19 ?c19 ?k19 ?a20 ?l20 ?c20 ?k20 ?a21 ?l21 ?c21 ?k21 ?a22 ?l22 ?c22 ?k22 ?a23 ?l23 ?c23 ?k23 ?a24 ?l24 ?c24 ?k24 ?a25 ?l25 ?c25 ?k25 ?a26 ?l26 ?c26 ?k26 ?a27 ?l27 ?c27 ?k27 ?a28 ?l28 ?c28 ?k28 ?a29 ?l29 ?c29 ?k29 ?a30 ?l30 ?c30 ?k30 ?a31 ?l31 ?c31 ?k31 ?a32 ?l32 ?c32 ?k32 ?a33 ?l33 ?c33 ?k33 ?a34 ?l34 ?c34 ?k34 ?a35 ?l35 ?c35 ?k35 ?a36 ?l36 ?c36 ?k36 ?a37 ?l37 ?c37 ?k37 ?a38 ?l38 ?c38 ?k38 ?a39 ?l39 ?c39 ?k39 ?a40 ?l40 ?c40 ?k40 ?a41 ?l41 ?c41 ?k41 ?pg0 ?hd0 ?po0 ?sa0 ?mk0 ?kc0 ?n0_hours ?n0_idle ?n0_offers ?n0_places ?n0_taken ?z_abs ?z_all ?z_any ?z_bool ?z_enumerate ?z_int ?z_isinstance ?z_len ?z_list ?z_max ?z_min ?z_range ?z_repr ?z_sorted ?z_str ?z_sum ?z_tuple ?z_zip ?g_MOST ?g_MOST_BENCHES ?g_MOST_OFFERS
    (case aC0 => k_is)
    (case a0 => k_is)
    (case l0 => k_is)
    (case c0 => k_is)
    (case k0 => k_is)
    (case a1 => k_is)
    (case l1 => k_is)
    (case c1 => k_is)
    (case k1 => k_is)
    (case a2 => k_is)
    (case l2 => k_is)
    (case c2 => k_is)
    (case k2 => k_is)
    (case a3 => k_is)
    (case l3 => k_is)
    (case c3 => k_is)
    (case k3 => k_is)
    (case a4 => k_is)
    (case l4 => k_is)
    (case c4 => k_is)
    (case k4 => k_is)
    (case a5 => k_is)
    (case l5 => k_is)
    (case c5 => k_is)
    (case k5 => k_is)
    (case a6 => k_is)
    (case l6 => k_is)
    (case c6 => k_is)
    (case k6 => k_is)
    (case a7 => k_is)
    (case l7 => k_is)
    (case c7 => k_is)
    (case k7 => k_is)
    (case a8 => k_is)
    (case l8 => k_is)
    (case c8 => k_is)
    (case k8 => k_is)
    (case a9 => k_is)
    (case i9 => k_is)
    (case l9 => k_is)
    (case c9 => k_is)
    (case k9 => k_is)
    (case a10 => k_is)
    (case i10 => k_is)
    (case l10 => k_is)
    (case c10 => k_is)
    (case k10 => k_is)
    (case a11 => k_is)
    (case i11 => k_is)
    (case l11 => k_is)
    (case c11 => k_is)
    (case k11 => k_is)
    (case a12 => k_is)
    (case i12 => k_is)
    (case l12 => k_is)
    (case c12 => k_is)
    (case k12 => k_is)
    (case a13 => k_is)
    (case l13 => k_is)
    (case c13 => k_is)
    (case k13 => k_is)
    (case a14 => k_is)
    (case l14 => k_is)
    (case c14 => k_is)
    (case k14 => k_is)
    (case a15 => k_is)
    (case l15 => k_is)
    (case c15 => k_is)
    (case k15 => k_is)
    (case a16 => k_is)
    (case l16 => k_is)
    (case c16 => k_is)
    (case k16 => k_is)
    (case a17 => k_is)
    (case l17 => k_is)
    (case c17 => k_is)
    (case k17 => k_is)
    (case a18 => k_is)
    (case l18 => k_is)
    (case c18 => k_is)
    (case k18 => k_is)
    (case a19 => k_is)
    (case l19 => k_is)
    (case c19 => k_is)
    (case k19 => k_is)
    (case a20 => k_is)
    (case l20 => k_is)
    (case c20 => k_is)
    (case k20 => k_is)
    (case a21 => k_is)
    (case l21 => k_is)
    (case c21 => k_is)
    (case k21 => k_is)
    (case a22 => k_is)
    (case l22 => k_is)
    (case c22 => k_is)
    (case k22 => k_is)
    (case a23 => k_is)
    (case l23 => k_is)
    (case c23 => k_is)
    (case k23 => k_is)
    (case a24 => k_is)
    (case l24 => k_is)
    (case c24 => k_is)
    (case k24 => k_is)
    (case a25 => k_is)
    (case l25 => k_is)
    (case c25 => k_is)
    (case k25 => k_is)
    (case a26 => k_is)
    (case l26 => k_is)
    (case c26 => k_is)
    (case k26 => k_is)
    (case a27 => k_is)
    (case l27 => k_is)
    (case c27 => k_is)
    (case k27 => k_is)
    (case a28 => k_is)
    (case l28 => k_is)
    (case c28 => k_is)
    (case k28 => k_is)
    (case a29 => k_is)
    (case l29 => k_is)
    (case c29 => k_is)
    (case k29 => k_is)
    (case a30 => k_is)
    (case l30 => k_is)
    (case c30 => k_is)
    (case k30 => k_is)
    (case a31 => k_is)
    (case l31 => k_is)
    (case c31 => k_is)
    (case k31 => k_is)
    (case a32 => k_is)
    (case l32 => k_is)
    (case c32 => k_is)
    (case k32 => k_is)
    (case a33 => k_is)
    (case l33 => k_is)
    (case c33 => k_is)
    (case k33 => k_is)
    (case a34 => k_is)
    (case l34 => k_is)
    (case c34 => k_is)
    (case k34 => k_is)
    (case a35 => k_is)
    (case l35 => k_is)
    (case c35 => k_is)
    (case k35 => k_is)
    (case a36 => k_is)
    (case l36 => k_is)
    (case c36 => k_is)
    (case k36 => k_is)
    (case a37 => k_is)
    (case l37 => k_is)
    (case c37 => k_is)
    (case k37 => k_is)
    (case a38 => k_is)
    (case l38 => k_is)
    (case c38 => k_is)
    (case k38 => k_is)
    (case a39 => k_is)
    (case l39 => k_is)
    (case c39 => k_is)
    (case k39 => k_is)
    (case a40 => k_is)
    (case l40 => k_is)
    (case c40 => k_is)
    (case k40 => k_is)
    (case a41 => k_is)
    (case l41 => k_is)
    (case c41 => k_is)
    (case k41 => k_is)
    (case pg0 => k_is)
    (case hd0 => k_is)
    (case po0 => k_is)
    (case sa0 => k_is)
    (case mk0 => k_is)
    (case kc0 => k_is)
    (case n0_hours => k_is)
    (case n0_idle => k_is)
    (case n0_offers => k_is)
    (case n0_places => k_is)
    (case n0_taken => k_is)
    (case z_abs => k_is)
    (case z_all => k_is)
    (case z_any => k_is)
    (case z_bool => k_is)
    (case z_enumerate => k_is)
    (case z_int => k_is)
    (case z_isinstance => k_is)
    (case z_len => k_is)
    (case z_list => k_is)
    (case z_max => k_is)
    (case z_min => k_is)
    (case z_range => k_is)
    (case z_repr => k_is)
    (case z_sorted => k_is)
    (case z_str => k_is)
    (case z_sum => k_is)
    (case z_tuple => k_is)
    (case z_zip => k_is)
    (case g_MOST => k_is)
    (case g_MOST_BENCHES => k_is)
    (case g_MOST_OFFERS => k_is)

