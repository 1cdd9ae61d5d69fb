import PyProof.Rows.All
import Wide.All
import OpenK.AllK
import Wide.FinOn
import HandS.ForMost
import HandS.ForExc
import HandS.Walk
import HandS.IsInst
import HandS.Wide
import HandS.TupAny
import HandS.TupMul
import HandS.Style
import HandS.ExcIs
import HandS.Zip
import HandS.More
import HandS.Flow
import HandS.Deep
import HandS.SortRule
import KE.GoesEnum
import KE.GoesMore
import KE.GoesZip
import HandS.Text
import HandS.Conv
import HandS.Defaults
import HandS.Head0
import HandS.Head1
import HandS.Head2
import HandS.HeadEnd
import HandS.HeadHook1
import HandS.HeadHook2
import PySem.Challenge.RW_ridgesight_k16_texts
import PyProof.StrLawsTight
import PyProof.StrLawsIn
import PyProof.StrLawsChain
import PyProof.Rows.StrJoinMade
import KE.KIntText
set_option Elab.async false
set_option linter.all false
set_option maxRecDepth 100000
set_option maxHeartbeats 4000000
set_option exponentiation.threshold 10000
namespace RS
open PySem PySem.Spec PyProof.Rows L2

/-! ### data -/
inductive D where
  | non | bl (b : Bool) | int (i : Int) | str (s : Str) | lst (ds : List D) | tup (ds : List D) | ins (ds : List D) | scr (ns : List Int)

inductive R (α : Type) where
  | ok (a : α) | exc (c : Nat) | bad
def R.bind {α β : Type} : R α → (α → R β) → R β
  | .ok a, f => f a
  | .exc c, _ => .exc c
  | .bad, _ => .bad
@[simp] theorem R.ok_bind {α β : Type} (a : α) (f : α → R β) : (R.ok a).bind f = f a := rfl
@[simp] theorem R.exc_bind {α β : Type} (c : Nat) (f : α → R β) : (R.exc c).bind f = .exc c := rfl
@[simp] theorem R.bad_bind {α β : Type} (f : α → R β) : (R.bad : R α).bind f = .bad := rfl

/-- the written part, and where the own class stands and its fields -/
structure Bk where
  K : PySem.W.Frag
  yard : Addr
  flds : List Str
  exc : Nat → Addr

mutual
inductive Rep (B : Bk) (Z : Hp) : V → D → Prop
  | non : Rep B Z .non .non
  | bl (b : Bool) : Rep B Z (.bl b) (.bl b)
  | int (i : Int) : Rep B Z (.int i) (.int i)
  | str (x : Str) : Rep B Z (.str x) (.str x)
  | lst {a : Addr} {xs : List V} {ds : List D} : Z a = some (.lst xs) → Reps B Z xs ds → Rep B Z (.ref a) (.lst ds)
  | tup {a : Addr} {xs : List V} {ds : List D} : Z a = some (.tup xs) → Reps B Z xs ds → Rep B Z (.ref a) (.tup ds)
  | ins {a dx : Addr} {fs : List (Str × V)} {ds : List D} : Z a = some (.ins B.yard dx fs) → fs.map (·.1) = B.flds → Reps B Z (fs.map (·.2)) ds → Rep B Z (.ref a) (.ins ds)
  | scr {a : Addr} {ns : List Int} : SqL B.K Z a (ns.map V.int) → Rep B Z (.ref a) (.scr ns)
inductive Reps (B : Bk) (Z : Hp) : List V → List D → Prop
  | nil : Reps B Z [] []
  | cons {v : V} {vs : List V} {d : D} {ds : List D} : Rep B Z v d → Reps B Z vs ds → Reps B Z (v :: vs) (d :: ds)
end
mutual
theorem Rep.mono {B : Bk} {Z Z' : Hp} (h : Same Z Z') : ∀ {v : V} {d : D}, Rep B Z v d → Rep B Z' v d
  | _, _, .non => .non
  | _, _, .bl b => .bl b
  | _, _, .int i => .int i
  | _, _, .str x => .str x
  | _, _, .lst e r => .lst (h _ _ e) (Reps.mono h r)
  | _, _, .tup e r => .tup (h _ _ e) (Reps.mono h r)
  | _, _, .ins e f r => .ins (h _ _ e) f (Reps.mono h r)
  | _, _, .scr e => .scr (h.seq e)
theorem Reps.mono {B : Bk} {Z Z' : Hp} (h : Same Z Z') : ∀ {vs : List V} {ds : List D}, Reps B Z vs ds → Reps B Z' vs ds
  | _, _, .nil => .nil
  | _, _, .cons r t => .cons (Rep.mono h r) (Reps.mono h t)
end
section
variable {B : Bk} {Z : Hp}
theorem Reps.length : ∀ {vs : List V} {ds : List D}, Reps B Z vs ds → vs.length = ds.length
  | _, _, .nil => rfl
  | _, _, .cons _ t => by simp [Reps.length t]
theorem Reps.get : ∀ {vs : List V} {ds : List D} {i : Nat} {d : D}, Reps B Z vs ds → ds[i]? = some d → ∃ v, vs[i]? = some v ∧ Rep B Z v d
  | _, _, _, _, .nil, e => by simp at e
  | _, _, 0, _, .cons r _, e => by simp at e; subst e; exact ⟨_, rfl, r⟩
  | _, _, i + 1, d, .cons _ t, e => by
    obtain ⟨u, h1, h2⟩ := Reps.get (i := i) (d := d) t (by simpa using e)
    exact ⟨u, by simpa using h1, h2⟩
theorem Reps.get' : ∀ {vs : List V} {ds : List D} {i : Nat} {v : V}, Reps B Z vs ds → vs[i]? = some v → ∃ d, ds[i]? = some d ∧ Rep B Z v d
  | _, _, _, _, .nil, e => by simp at e
  | _, _, 0, _, .cons r _, e => by simp at e; subst e; exact ⟨_, rfl, r⟩
  | _, _, i + 1, v, .cons _ t, e => by
    obtain ⟨u, h1, h2⟩ := Reps.get' (i := i) (v := v) t (by simpa using e)
    exact ⟨u, by simpa using h1, h2⟩
theorem Reps.append : ∀ {vs us : List V} {ds es : List D}, Reps B Z vs ds → Reps B Z us es → Reps B Z (vs ++ us) (ds ++ es)
  | _, _, _, _, .nil, s => s
  | _, _, _, _, .cons r t, s => .cons r (Reps.append t s)
theorem Reps.take : ∀ {vs : List V} {ds : List D} (n : Nat), Reps B Z vs ds → Reps B Z (vs.take n) (ds.take n)
  | _, _, 0, _ => by simpa using Reps.nil
  | _, _, _ + 1, .nil => by simpa using Reps.nil
  | _, _, n + 1, .cons r t => by simpa using Reps.cons r (Reps.take n t)
theorem Reps.drop : ∀ {vs : List V} {ds : List D} (n : Nat), Reps B Z vs ds → Reps B Z (vs.drop n) (ds.drop n)
  | _, _, 0, r => by simpa using r
  | _, _, _ + 1, .nil => by simpa using Reps.nil
  | _, _, n + 1, .cons r t => by simpa using Reps.drop n t
theorem Reps.set : ∀ {vs : List V} {ds : List D} (i : Nat) {v : V} {d : D}, Rep B Z v d → Reps B Z vs ds → Reps B Z (vs.set i v) (ds.set i d)
  | _, _, _, _, _, _, .nil => .nil
  | _, _, 0, _, _, r, .cons _ t => .cons r t
  | _, _, i + 1, _, _, r, .cons q t => .cons q (Reps.set i r t)
theorem Reps.reverse {vs : List V} {ds : List D} (h : Reps B Z vs ds) : Reps B Z vs.reverse ds.reverse := by
  induction vs generalizing ds with
  | nil => cases h; exact .nil
  | cons v vs ih =>
    cases h with
    | cons r t => simpa using (ih t).append (.cons r .nil)
theorem Reps.rep {vs : List V} {ds : List D} (h : Reps B Z vs ds) : ∀ k : Nat, Reps B Z (List.replicate k vs).flatten (List.replicate k ds).flatten
  | 0 => .nil
  | k + 1 => by simpa [List.replicate_succ] using h.append (Reps.rep h k)
theorem Reps.ints : ∀ (ns : List Int), Reps B Z (ns.map V.int) (ns.map D.int)
  | [] => .nil
  | n :: ns => .cons (.int n) (Reps.ints ns)
end

/-! ### heaps -/
structure Step (Z H Z' H' : Hp) : Prop where
  hh : Same H H'
  zz : Same Z Z'
  zh : Same Z' H'
  fr : ∀ a, H a ≠ none → Z' a = Z a
theorem Step.refl {Z H : Hp} (h : Same Z H) : Step Z H Z H := ⟨.refl _, .refl _, h, fun _ _ => rfl⟩
theorem Step.trans {Z H Z1 H1 Z2 H2 : Hp} (a : Step Z H Z1 H1) (b : Step Z1 H1 Z2 H2) : Step Z H Z2 H2 := by
  refine ⟨a.hh.trans b.hh, a.zz.trans b.zz, b.zh, fun x hx => ?_⟩
  rw [b.fr x ?_, a.fr x hx]
  intro e
  cases q : H x with
  | none => exact hx q
  | some o => rw [a.hh x o q] at e; cases e
theorem Step.grow {Z H H' : Hp} (zh : Same Z H) (h : Same H H') : Step Z H Z H' := ⟨h, .refl _, zh.trans h, fun _ _ => rfl⟩
theorem same_upd {H : Hp} {p : Addr} {o : HO} (h : H p = none) : Same H (upd H p o) := fun b u e => by rw [upd_ne (ne_of_none e h)]; exact e
/-- a new object, frozen -/
theorem Step.new {Z H : Hp} {p : Addr} {o : HO} (zh : Same Z H) (h : H p = none) : Step Z H (upd Z p o) (upd H p o) := by
  have hz : Z p = none := zh.free h
  refine ⟨same_upd h, same_upd hz, fun b u e => ?_, fun a ha => ?_⟩
  · by_cases hb : b = p
    · subst hb; rw [upd_same] at e ⊢; exact e
    · rw [upd_ne hb] at e ⊢; exact zh b u e
  · rw [upd_ne]; rintro rfl; exact ha h

/-! ### names' values -/
inductive PV where
  | un | val (d : D) | own (ds : List D)
abbrev Env := List PV

structure EnvOk (B : Bk) (H0 Z H : Hp) (σ : L2.St) (ρ : Env) : Prop where
  val : ∀ (i : Nat) (d : D), ρ[i]? = some (.val d) → ∃ v, σ[i]? = some (some v) ∧ Rep B Z v d
  own : ∀ (i : Nat) (ds : List D), ρ[i]? = some (.own ds) → ∃ p vs, σ[i]? = some (some (.ref p)) ∧ H0 p = none ∧ Z p = none ∧ H p = some (.lst vs) ∧ Reps B Z vs ds
  sep : ∀ (i j : Nat) (ds es : List D) (p : Addr), i ≠ j → ρ[i]? = some (.own ds) → ρ[j]? = some (.own es) → σ[i]? = some (some (.ref p)) → σ[j]? ≠ some (some (.ref p))
  len : σ.length = ρ.length
theorem EnvOk.step {B : Bk} {H0 Z H Z' H' : Hp} {σ : L2.St} {ρ : Env} (h : EnvOk B H0 Z H σ ρ) (s : Step Z H Z' H') : EnvOk B H0 Z' H' σ ρ := by
  refine ⟨fun i d e => ?_, fun i ds e => ?_, h.sep, h.len⟩
  · obtain ⟨v, h1, h2⟩ := h.val i d e
    exact ⟨v, h1, h2.mono s.zz⟩
  · obtain ⟨p, vs, h1, h2, h3, h4, h5⟩ := h.own i ds e
    exact ⟨p, vs, h1, h2, by rw [s.fr p (by rw [h4]; simp)]; exact h3, s.hh _ _ h4, h5.mono s.zz⟩
/-- a plain value stored -/
theorem EnvOk.set {B : Bk} {H0 Z H : Hp} {σ : L2.St} {ρ : Env} {v : V} {d : D} (h : EnvOk B H0 Z H σ ρ) (i : Nat) (r : Rep B Z v d) : EnvOk B H0 Z H (σ.set i (some v)) (ρ.set i (.val d)) := by
  have key : ∀ (j : Nat) (ds : List D), (ρ.set i (.val d))[j]? = some (.own ds) → i ≠ j ∧ ρ[j]? = some (.own ds) := fun j ds e => by
    by_cases hj : i = j
    · subst hj
      by_cases hl : i < ρ.length
      · rw [List.getElem?_set_self hl] at e; cases e
      · rw [List.getElem?_eq_none (by simpa using hl)] at e; cases e
    · rw [List.getElem?_set_ne hj] at e; exact ⟨hj, e⟩
  refine ⟨fun j d' e => ?_, fun j ds e => ?_, fun j k ds es p hjk e1 e2 e3 => ?_, by simpa using h.len⟩
  · by_cases hj : i = j
    · subst hj
      by_cases hl : i < ρ.length
      · rw [List.getElem?_set_self hl] at e; cases e
        exact ⟨v, by rw [List.getElem?_set_self (by rw [h.len]; exact hl)], r⟩
      · rw [List.getElem?_eq_none (by simpa using hl)] at e; cases e
    · rw [List.getElem?_set_ne hj] at e ⊢
      exact h.val j d' e
  · obtain ⟨hj, e⟩ := key j ds e
    rw [List.getElem?_set_ne hj]
    exact h.own j ds e
  · obtain ⟨hj, e1⟩ := key j ds e1
    obtain ⟨hk, e2⟩ := key k es e2
    rw [List.getElem?_set_ne hj] at e3
    rw [List.getElem?_set_ne hk]
    exact h.sep j k ds es p hjk e1 e2 e3
/-- a name forgotten -/
theorem EnvOk.forget {B : Bk} {H0 Z H : Hp} {σ : L2.St} {ρ : Env} (h : EnvOk B H0 Z H σ ρ) (i : Nat) (x : Option V) : EnvOk B H0 Z H (σ.set i x) (ρ.set i .un) := by
  have key : ∀ (j : Nat) (q : PV), q ≠ .un → (ρ.set i .un)[j]? = some q → i ≠ j ∧ ρ[j]? = some q := fun j q hq e => by
    by_cases hj : i = j
    · subst hj
      by_cases hl : i < ρ.length
      · rw [List.getElem?_set_self hl] at e; cases e; exact absurd rfl hq
      · rw [List.getElem?_eq_none (by simpa using hl)] at e; cases e
    · rw [List.getElem?_set_ne hj] at e; exact ⟨hj, e⟩
  refine ⟨fun j d' e => ?_, fun j ds e => ?_, fun j k ds es p hjk e1 e2 e3 => ?_, by simpa using h.len⟩
  · obtain ⟨hj, e⟩ := key j _ (by simp) e
    rw [List.getElem?_set_ne hj]
    exact h.val j d' e
  · obtain ⟨hj, e⟩ := key j _ (by simp) e
    rw [List.getElem?_set_ne hj]
    exact h.own j ds e
  · obtain ⟨hj, e1⟩ := key j _ (by simp) e1
    obtain ⟨hk, e2⟩ := key k _ (by simp) e2
    rw [List.getElem?_set_ne hj] at e3
    rw [List.getElem?_set_ne hk]
    exact h.sep j k ds es p hjk e1 e2 e3
/-- an owned list changed (or made): the slot i holds p -/
theorem EnvOk.own_set {B : Bk} {H0 Z H : Hp} {σ : L2.St} {ρ : Env} {i : Nat} {p : Addr} {vs : List V} {ds es : List D} (h : EnvOk B H0 Z H σ ρ) (e : ρ[i]? = some (.own ds)) (hp : σ[i]? = some (some (.ref p))) (r : Reps B Z vs es) :
    EnvOk B H0 Z (upd H p (.lst vs)) σ (ρ.set i (.own es)) := by
  have hl : i < ρ.length := (List.getElem?_eq_some_iff.mp e).1
  obtain ⟨p', vs', h1, h2, h3, h4, h5⟩ := h.own i ds e
  rw [hp] at h1; cases h1
  have key : ∀ (j : Nat) (fs : List D), (ρ.set i (.own es))[j]? = some (.own fs) → (i = j ∧ fs = es) ∨ (i ≠ j ∧ ρ[j]? = some (.own fs)) := fun j fs e => by
    by_cases hj : i = j
    · subst hj
      rw [List.getElem?_set_self hl] at e; cases e; exact .inl ⟨rfl, rfl⟩
    · rw [List.getElem?_set_ne hj] at e; exact .inr ⟨hj, e⟩
  refine ⟨fun j d' e' => ?_, fun j fs e' => ?_, fun j k fs gs q hjk e1 e2 e3 => ?_, by simpa using h.len⟩
  · by_cases hj : i = j
    · subst hj; rw [List.getElem?_set_self hl] at e'; cases e'
    · rw [List.getElem?_set_ne hj] at e'; exact h.val j d' e'
  · rcases key j fs e' with ⟨hj, hf⟩ | ⟨hj, e'⟩
    · subst hj; subst hf; exact ⟨p, vs, hp, h2, h3, upd_same, r⟩
    · obtain ⟨q, ws, a1, a2, a3, a4, a5⟩ := h.own j fs e'
      refine ⟨q, ws, a1, a2, a3, ?_, a5⟩
      rw [upd_ne]; exact a4
      rintro rfl
      exact h.sep i j ds fs q hj e e' hp a1
  · have f1 : ∃ fs', ρ[j]? = some (.own fs') := by rcases key j fs e1 with ⟨rfl, _⟩ | ⟨_, e1⟩; exact ⟨_, e⟩; exact ⟨_, e1⟩
    have f2 : ∃ gs', ρ[k]? = some (.own gs') := by rcases key k gs e2 with ⟨rfl, _⟩ | ⟨_, e2⟩; exact ⟨_, e⟩; exact ⟨_, e2⟩
    obtain ⟨fs', f1⟩ := f1
    obtain ⟨gs', f2⟩ := f2
    exact h.sep j k fs' gs' q hjk f1 f2 e3
theorem Step.own {Z0 H0 Z H : Hp} {p : Addr} {o : HO} (s : Step Z0 H0 Z H) (h0 : H0 p = none) (hz : Z p = none) : Step Z0 H0 Z (upd H p o) := by
  refine ⟨fun b u e => ?_, s.zz, fun b u e => ?_, s.fr⟩
  · rw [upd_ne (ne_of_none e h0)]; exact s.hh b u e
  · rw [upd_ne (ne_of_none e hz)]; exact s.zh b u e
/-- a new owned list -/
theorem EnvOk.own_new {B : Bk} {H0 Z H : Hp} {σ : L2.St} {ρ : Env} {i : Nat} {p : Addr} {vs : List V} {ds : List D} (h : EnvOk B H0 Z H σ ρ) (zh : Same Z H) (h0 : Same H0 H) (hp : H p = none) (r : Reps B Z vs ds) :
    EnvOk B H0 Z (upd H p (.lst vs)) (σ.set i (some (.ref p))) (ρ.set i (.own ds)) := by
  by_cases hl : i < ρ.length
  · have hl' : i < σ.length := by rw [h.len]; exact hl
    have key : ∀ (j : Nat) (fs : List D), (ρ.set i (.own ds))[j]? = some (.own fs) → (i = j ∧ fs = ds) ∨ (i ≠ j ∧ ρ[j]? = some (.own fs)) := fun j fs e => by
      by_cases hj : i = j
      · subst hj
        rw [List.getElem?_set_self hl] at e; cases e; exact .inl ⟨rfl, rfl⟩
      · rw [List.getElem?_set_ne hj] at e; exact .inr ⟨hj, e⟩
    refine ⟨fun j d' e' => ?_, fun j fs e' => ?_, fun j k fs gs q hjk e1 e2 e3 => ?_, by simpa using h.len⟩
    · by_cases hj : i = j
      · subst hj; rw [List.getElem?_set_self hl] at e'; cases e'
      · rw [List.getElem?_set_ne hj] at e' ⊢; exact h.val j d' e'
    · rcases key j fs e' with ⟨hj, hf⟩ | ⟨hj, e'⟩
      · subst hj; subst hf
        exact ⟨p, vs, by rw [List.getElem?_set_self hl'], h0.free hp, zh.free hp, upd_same, r⟩
      · obtain ⟨q, ws, a1, a2, a3, a4, a5⟩ := h.own j fs e'
        refine ⟨q, ws, by rw [List.getElem?_set_ne hj]; exact a1, a2, a3, ?_, a5⟩
        rw [upd_ne (ne_of_none a4 hp)]; exact a4
    · rcases key j fs e1 with ⟨rfl, _⟩ | ⟨hj, e1⟩ <;> rcases key k gs e2 with ⟨rfl, _⟩ | ⟨hk, e2⟩
      · exact absurd rfl hjk
      · rw [List.getElem?_set_self hl'] at e3; cases e3
        rw [List.getElem?_set_ne hk]
        intro z
        obtain ⟨q, ws, a1, a2, a3, a4, a5⟩ := h.own k gs e2
        rw [z] at a1; cases a1
        rw [hp] at a4; cases a4
      · rw [List.getElem?_set_ne hj] at e3
        rw [List.getElem?_set_self hl']
        intro z; cases z
        obtain ⟨q', ws, a1, a2, a3, a4, a5⟩ := h.own j fs e1
        rw [e3] at a1; cases a1
        rw [hp] at a4; cases a4
      · rw [List.getElem?_set_ne hj] at e3
        rw [List.getElem?_set_ne hk]
        exact h.sep j k fs gs q hjk e1 e2 e3
  · have e1 : ρ.set i (.own ds) = ρ := List.set_eq_of_length_le (by omega)
    have e2 : σ.set i (some (.ref p)) = σ := List.set_eq_of_length_le (by rw [h.len]; omega)
    rw [e1, e2]
    exact h.step (Step.grow zh (same_upd hp))
/-- an owned list becomes a plain value -/
theorem EnvOk.freeze {B : Bk} {H0 Z H : Hp} {σ : L2.St} {ρ : Env} {i : Nat} {ds : List D} (h : EnvOk B H0 Z H σ ρ) (e : ρ[i]? = some (.own ds)) {Z0 : Hp} (s : Step Z0 H0 Z H) :
    ∃ Z', Step Z0 H0 Z' H ∧ EnvOk B H0 Z' H σ (ρ.set i (.val (.lst ds))) := by
  have hl : i < ρ.length := (List.getElem?_eq_some_iff.mp e).1
  obtain ⟨p, vs, h1, h2, h3, h4, h5⟩ := h.own i ds e
  have zz : Same Z (upd Z p (.lst vs)) := same_upd h3
  refine ⟨upd Z p (.lst vs), ⟨s.hh, s.zz.trans zz, fun b u q => ?_, fun a ha => ?_⟩, ?_⟩
  · by_cases hb : b = p
    · subst hb; rw [upd_same] at q; cases q; exact h4
    · rw [upd_ne hb] at q; exact s.zh b u q
  · rw [upd_ne, s.fr a ha]
    rintro rfl; exact ha h2
  · refine ⟨fun j d' e' => ?_, fun j fs e' => ?_, fun j k fs gs q hjk e1 e2 e3 => ?_, by simpa using h.len⟩
    · by_cases hj : i = j
      · subst hj; rw [List.getElem?_set_self hl] at e'; cases e'
        exact ⟨_, h1, .lst upd_same (h5.mono zz)⟩
      · rw [List.getElem?_set_ne hj] at e'
        obtain ⟨v, a, b⟩ := h.val j d' e'
        exact ⟨v, a, b.mono zz⟩
    · by_cases hj : i = j
      · subst hj; rw [List.getElem?_set_self hl] at e'; cases e'
      · rw [List.getElem?_set_ne hj] at e'
        obtain ⟨q, ws, a1, a2, a3, a4, a5⟩ := h.own j fs e'
        refine ⟨q, ws, a1, a2, ?_, a4, a5.mono zz⟩
        rw [upd_ne]; exact a3
        rintro rfl
        exact h.sep i j ds fs q hj e e' h1 a1
    · by_cases hj : i = j
      · subst hj; rw [List.getElem?_set_self hl] at e1; cases e1
      · by_cases hk : i = k
        · subst hk; rw [List.getElem?_set_self hl] at e2; cases e2
        · rw [List.getElem?_set_ne hj] at e1
          rw [List.getElem?_set_ne hk] at e2
          exact h.sep j k fs gs q hjk e1 e2 e3

/-! ### what is wanted behind an expression -/
def Post {α β : Type} (B : Bk) (W : WX) (σ : L2.St) (rel : Hp → β → α → Prop) (Z H : Hp) (Q : β → Hp → Prop) : R α → Prop
  | .ok a => ∀ v H' Z', Step Z H Z' H' → rel Z' v a → Q v H'
  | .exc c => ∀ H', Same H H' → W (.ref (B.exc c)) none σ H'
  | .bad => False
theorem Post.step {α β : Type} {B : Bk} {W : WX} {σ : L2.St} {rel : Hp → β → α → Prop} {Z H Z' H' : Hp} {Q : β → Hp → Prop} {r : R α} (h : Post B W σ rel Z H Q r) (s : Step Z H Z' H') : Post B W σ rel Z' H' Q r := by
  cases r with
  | ok a => exact fun v H'' Z'' s' rv => h v H'' Z'' (s.trans s') rv
  | exc c => exact fun H'' s' => h H'' (s.hh.trans s')
  | bad => exact h
/-- the reading that a denotation gives -/
def tD {α β : Type} (B : Bk) (W : WX) (rel : Hp → β → α → Prop) (δ : Env → R α) : L2.St → Hp → (β → Hp → Prop) → Prop := fun σ H Q =>
  ∃ H0 Z ρ, Same Z H ∧ EnvOk B H0 Z H σ ρ ∧ Post B W σ rel Z H Q (δ ρ)
/-- t serves δ -/
def Sok {α β : Type} (B : Bk) (W : WX) (rel : Hp → β → α → Prop) (t : L2.St → Hp → (β → Hp → Prop) → Prop) (δ : Env → R α) : Prop :=
  ∀ H0 Z H σ ρ Q, Same Z H → EnvOk B H0 Z H σ ρ → Post B W σ rel Z H Q (δ ρ) → t σ H Q
theorem Sok.self {α β : Type} {B : Bk} {W : WX} {rel : Hp → β → α → Prop} {δ : Env → R α} : Sok B W rel (tD B W rel δ) δ := fun H0 Z H σ ρ Q zh h p => ⟨H0, Z, ρ, zh, h, p⟩
/-- one after another -/
theorem Sok.bind {α β γ ε : Type} {B : Bk} {W : WX} {rel : Hp → β → α → Prop} {rel2 : Hp → ε → γ → Prop} {t : L2.St → Hp → (β → Hp → Prop) → Prop} {δ : Env → R α} (hs : Sok B W rel t δ)
    {H0 Z H : Hp} {σ : L2.St} {ρ : Env} {Q : ε → Hp → Prop} {f : α → R γ} (zh : Same Z H) (e : EnvOk B H0 Z H σ ρ) (h : Post B W σ rel2 Z H Q ((δ ρ).bind f)) {Q' : β → Hp → Prop}
    (k : ∀ a v H' Z', Step Z H Z' H' → EnvOk B H0 Z' H' σ ρ → rel Z' v a → Post B W σ rel2 Z' H' Q (f a) → Q' v H') : t σ H Q' := by
  refine hs H0 Z H σ ρ Q' zh e ?_
  cases q : δ ρ with
  | ok a =>
    rw [q] at h
    exact fun v H' Z' s r => k a v H' Z' s (e.step s) r (Post.step h s)
  | exc c => rw [q] at h; exact h
  | bad => rw [q] at h; exact h
abbrev relE (B : Bk) : Hp → V → D → Prop := fun Z v d => Rep B Z v d
abbrev relA (B : Bk) : Hp → List V → List D → Prop := fun Z v d => Reps B Z v d
abbrev relT : Hp → Bool → Bool → Prop := fun _ v d => v = d
abbrev tE (B : Bk) (W : WX) (δ : Env → R D) : TE := tD B W (relE B) δ
abbrev tA (B : Bk) (W : WX) (δ : Env → R (List D)) : TA := tD B W (relA B) δ
abbrev tT (B : Bk) (W : WX) (δ : Env → R Bool) : TT := tD B W relT δ
theorem PE.of {X : Cx} {e : Expr} {t : TE} {B : Bk} {W : WX} {δ : Env → R D} (h : PE X e t) (s : Sok B W (relE B) t δ) : PE X e (tE B W δ) :=
  ⟨fun pins st σ H Q I ⟨H0, Z, ρ, zh, e, p⟩ => h.run pins st σ H Q I (s H0 Z H σ ρ Q zh e p)⟩
theorem PA.of {X : Cx} {e : List Expr} {t : TA} {B : Bk} {W : WX} {δ : Env → R (List D)} (h : PA X e t) (s : Sok B W (relA B) t δ) : PA X e (tA B W δ) :=
  ⟨fun pos pins st σ H Q I ⟨H0, Z, ρ, zh, e, p⟩ => h.run pos pins st σ H Q I (s H0 Z H σ ρ Q zh e p)⟩
theorem PT.of {X : Cx} {e : Expr} {t : TT} {B : Bk} {W : WX} {δ : Env → R Bool} (h : PT X e t) (s : Sok B W relT t δ) : PT X e (tT B W δ) :=
  ⟨fun pins st σ H Q I ⟨H0, Z, ρ, zh, e, p⟩ => h.run pins st σ H Q I (s H0 Z H σ ρ Q zh e p)⟩
theorem PW.of {X : Cx} {e : Expr} {t : TT} {B : Bk} {W : WX} {δ : Env → R Bool} (h : PW X e t) (s : Sok B W relT t δ) : PW X e (tT B W δ) :=
  ⟨fun wh pins st σ H Q I ⟨H0, Z, ρ, zh, e, p⟩ => h.run wh pins st σ H Q I (s H0 Z H σ ρ Q zh e p)⟩
end RS

namespace RS
open PySem PySem.Spec PyProof.Rows L2
section
variable {X : Cx}
/-! ### x in a tuple of data -/
def rInT (K : PySem.W.Frag) : R2 := fun x y H Q => ∃ d ds, Dp K H x d ∧ Dp K H y (.tuple ds) ∧ SeqAt.shaped d = true ∧ SeqAt.shaped (.tuple ds) = true ∧ Q (.bl (ds.any fun z => PyData.eqv z d)) H
def rNotInT (K : PySem.W.Frag) : R2 := fun x y H Q => ∃ d ds, Dp K H x d ∧ Dp K H y (.tuple ds) ∧ SeqAt.shaped d = true ∧ SeqAt.shaped (.tuple ds) = true ∧ Q (.bl (!ds.any fun z => PyData.eqv z d)) H
theorem op_inT (hu : X.A.units + 65 < cLine) : OpR X (compareOp .In) (rInT X.K) := by
  rintro pins s σ H x y v u Q I rx ry ⟨d, ds, hd, he, sd, se, q⟩
  obtain ⟨as, r1⟩ := Dp.reads I d x v hd rx
  obtain ⟨bs, r2⟩ := Dp.reads I (.tuple ds) y u he ry
  exact SeqAt.in_tuple_reads r2 r1 (SeqAt.canLay_of_shaped se) (SeqAt.canLay_of_shaped sd) (room_in_shaped sd hu) ⟨.bl _, H, I, rfl, q⟩
theorem op_notInT (hu : X.A.units + 65 < cLine) : OpR X (compareOp .NotIn) (rNotInT X.K) := by
  rintro pins s σ H x y v u Q I rx ry ⟨d, ds, hd, he, sd, se, q⟩
  obtain ⟨as, r1⟩ := Dp.reads I d x v hd rx
  obtain ⟨bs, r2⟩ := Dp.reads I (.tuple ds) y u he ry
  exact SeqAt.notIn_tuple_reads r2 r1 (SeqAt.canLay_of_shaped se) (SeqAt.canLay_of_shaped sd) (room_in_shaped sd hu) ⟨.bl _, H, I, rfl, q⟩
/-! ### max, min of a tuple of ints -/
theorem tupIter_old {s : Shared} {l : Addr} {h' : Heap} (hk : ∀ b o, b ∉ [s.heap.objs.size] → (s.heap.push { cls := .type "tuple_iterator", data := .fields #[.ref l, .int 0 0] }).get? b = some o → h'.get? b = some o) :
    ∀ b o, s.heap.get? b = some o → h'.get? b = some o := fun b o e => by
  refine hk b o (fun hm => ?_) (Heap.get?_push_of_some _ e)
  rcases List.mem_cons.mp hm with e1 | hm
  · exact absurd (e1 ▸ Heap.lt_size e) (Nat.lt_irrefl _)
  · cases hm
theorem tupIter_fp {s : Shared} {l : Addr} (hlt : l < s.heap.objs.size) : ∀ b ∈ [s.heap.objs.size, l], b < (s.heap.push { cls := .type "tuple_iterator", data := .fields #[.ref l, .int 0 0] }).objs.size := fun b hb => by
  rw [Heap.size_push]
  rcases List.mem_cons.mp hb with rfl | hb
  · exact Nat.lt_succ_self _
  · rcases List.mem_cons.mp hb with rfl | hb
    · exact Nat.lt_succ_of_lt hlt
    · cases hb
theorem max_intTuple {prog : Program} {w : World} {A : Around} {E : Value → Shared → Prop} {s : Shared} {l : Addr} {xs : Array (Int × Tok)} {Q : Value → Shared → Prop} (hh : A.handled = none) (hl : s.heap.IsTuple l (intItems xs)) (hne : 0 < xs.size)
    (h : ∀ v h' tk, (intItems xs)[argBest (fun i j => decide (numAt xs i > numAt xs j)) (xs.size - 1)]? = some v → (∀ b o, s.heap.get? b = some o → h'.get? b = some o) → Q v { s with heap := h', toks := tk }) :
    wpAny (model prog w) A (call (.builtin "max") [.ref l]) Q E s := by
  have hlt : l < s.heap.objs.size := by obtain ⟨_, e, _⟩ := hl; exact Heap.lt_size e
  refine call_max_walk (wpAny_pyIter_tuple hl ?_)
  refine ⟨_, [_, l], [_], _, _, _, _, rfl, Walks.tuple (A := A.in1) hh _ l (Nat.ne_of_lt hlt) (intItems xs), ⟨⟨_, Heap.get?_push_size _ rfl, rfl, rfl⟩, hl.push _⟩, tupIter_fp hlt, by simpa [intItems] using hne, CmpOf.ints_gt (numAt xs) (fun _ _ => intItems_at), fun v h' tk hP hk => ?_⟩
  exact h v h' tk (by simpa [intItems] using hP) (tupIter_old hk)
def rMaxT (K : PySem.W.Frag) : List V → Hp → VK → Prop := fun vs H Q => ∃ (a : Addr) (ns : List Int), vs = [V.ref a] ∧ SqT K H a (ns.map V.int) ∧ 0 < ns.length ∧ ∀ m, m ∈ ns → (∀ y, y ∈ ns → y ≤ m) → Q (.int m) H
theorem cr_maxT (hc : X.calm = true) : CallR X (.builtin "max") (rMaxT X.K) := by
  rintro pins s σ H vs us Q I r ⟨a, ns, rfl, hs, hne, q⟩
  obtain ⟨its, rv, hl, _⟩ := I.tuple hs
  rw [Vals.ref1 r]
  have hi := rv.ints
  obtain ⟨xs, e⟩ := hi.allInts.items
  have hn : numsOf (intItems xs).toList = ns := by rw [← e]; exact hi.numsOf
  rw [nums_intItems] at hn
  subst hn
  have hl : s.heap.IsTuple a (intItems xs) := by rw [← e]; exact hl
  have hsz : 0 < xs.size := by simpa using hne
  refine max_intTuple (I.ok.hd hc) hl hsz fun v h' tk hv hk => ?_
  obtain ⟨t, rfl⟩ := intItems_at hv
  obtain ⟨h1, h2⟩ := argBest_gt (numAt xs) (xs.size - 1)
  refine ⟨.int _, H, I.kept hk, ⟨_, rfl⟩, q _ ?_ fun a ha => ?_⟩
  · rw [numAt_eq]; exact PySem.getD_mem (by rw [List.length_map, Array.length_toList]; omega)
  · obtain ⟨j, hj, rfl⟩ := mem_getD ha
    rw [List.length_map, Array.length_toList] at hj
    rw [← numAt_eq]; exact h2 j (by omega)
/-! ### a chain of three comparisons -/
section
variable {a b c d : Expr} {ta tb tc td : TE} {pos : Pos}
def tChain3 (r r' r'' : R2) (ta tb tc td : TE) : TE := fun σ H Q => ta σ H fun x H1 => tb σ H1 fun y H2 => r x y H2 fun z H3 => ∃ k, z = .bl k ∧
  (if k = true then tc σ H3 fun w' H4 => r' y w' H4 fun z' H5 => ∃ k', z' = .bl k' ∧ (if k' = true then td σ H5 fun w2 H6 => r'' w' w2 H6 Q else Q (.bl false) H5) else Q (.bl false) H3)
theorem pt_chain3 {op op' op'' : CmpOp} {r r' r'' : R2} (ho : OpR X (compareOp op) r) (ho' : OpR X (compareOp op') r') (ho'' : OpR X (compareOp op'') r'') (ha : PE X a ta) (hb : PE X b tb) (hc : PE X c tc) (hd : PE X d td)
    (hm : lastMarks [op, op', op''] [b, c, d] = false) : PT X (.Compare a [op, op', op''] [b, c, d] pos) (tTest (tChain3 r r' r'' ta tb tc td)) := by
  refine ⟨fun pins s σ H Q I h => ?_⟩
  refine isTrue_chain (thn (ha.run pins s σ H _ I h) fun v s1 ⟨x, H1, I1, r1, q1⟩ => test_link (thn (hb.run pins s1 σ H1 _ I1 q1) fun u s2 ⟨y, H2, I2, r2, q2⟩ =>
    thn (ho pins s2 σ H2 x y v u _ I2 r1 r2 q2) fun d s3 ⟨z, H3, I3, r3, k, e, q3⟩ => ?_)) hm
  subst e
  cases r3
  refine wpAny_truthy_bool ?_
  cases k with
  | false =>
    obtain ⟨k', e', q'⟩ := q3
    cases e'
    exact ite_ff ⟨H3, I3, q'⟩
  | true =>
    refine ite_tt (test_link (thn (hc.run pins s3 σ H3 _ I3 q3) fun w' s4 ⟨z', H4, I4, r4, q4⟩ => thn (ho' pins s4 σ H4 y z' u w' _ I4 r2 r4 q4) fun d' s5 ⟨z2, H5, I5, r5, k2, e2, q5⟩ => ?_))
    subst e2
    cases r5
    refine wpAny_truthy_bool ?_
    cases k2 with
    | false =>
      obtain ⟨k', e', q'⟩ := q5
      cases e'
      exact ite_ff ⟨H5, I5, q'⟩
    | true =>
      refine ite_tt (test_last (thn (hd.run pins s5 σ H5 _ I5 q5) fun w3 s6 ⟨z3, H6, I6, r6, q6⟩ => thn (ho'' pins s6 σ H6 z' z3 w' w3 _ I6 r4 r6 q6) fun d3 s7 ⟨z4, H7, I7, r7, k4, e4, q7⟩ => ?_))
      subst e4
      cases r7
      exact wpAny_truthy_bool ⟨H7, I7, q7⟩
end
/-! ### enumerate(tuple) -/
def IteT (K : PySem.W.Frag) (a : Addr) : It :=
  ⟨fun i H => ∃ (xs : List V) (x : V), SqT K H a xs ∧ xs[i]? = some x, fun i H v H' => ∃ T x, v = .ref T ∧ H T = none ∧ H' = upd H T (.tup [.int (i : Nat), x]) ∧ ∀ xs, SqT K H a xs → xs[i]? = some x, fun i H => ∃ xs : List V, SqT K H a xs ∧ xs.length ≤ i⟩
theorem turn_enumT {P : Program} {w : World} {K : PySem.W.Frag} {elts : List Expr} {kk : Nat} {tpos : Pos} (a e it : Addr) (hea : a ≠ e) (hia : a ≠ it) :
    Turn P w K (.Tuple elts kk tpos) (IteT K a) [e, it] e (fun i h => (∃ old, IsEnum h e it ((i : Nat) : Int) old) ∧ h.IsTupleIter it a i ∧ e ≠ it) where
  mem := by simp
  obj := fun i h st b hb => by
    obtain ⟨⟨old, he⟩, ⟨o, ho, hc, hd⟩, _⟩ := st
    have e' : b = e ∨ b = it := by simpa using hb
    rcases e' with z | z
    · rw [z]; exact ⟨_, he, fun v q => nomatch q⟩
    · rw [z]; exact ⟨o, ho, fun v q => by rw [hd] at q; cases q⟩
  keep := fun i h h' st k => let ⟨⟨old, he⟩, hi, hne⟩ := st; ⟨⟨old, k e (by simp) _ he⟩, hi.at fun o q => k it (by simp) o q, hne⟩
  item := by
    intro X hP hw hK hc i pins s σ H E I hf st hg
    subst hP hw hK
    obtain ⟨⟨old, he⟩, hit, hne⟩ := st
    obtain ⟨xs, x, hq, hx⟩ := hg
    obtain ⟨its, rv, p, hz⟩ := I.tuple hq
    obtain ⟨u, hu, ru⟩ := rv.get hx
    have hlt : i < its.toArray.size := by
      have := (List.getElem?_eq_some_iff.mp hu).1
      simpa using this
    have hel : e < s.heap.objs.size := Heap.lt_size he
    have hil : it < s.heap.objs.size := by obtain ⟨_, q, _⟩ := hit; exact Heap.lt_size q
    refine wpAny_pyNext_enum_itemD (Draws.tuple (A := X.A.in1) (I.ok.hd hc) it a hia its.toArray) he ⟨hit, p⟩ hlt hne (by intro hm; rcases List.mem_cons.mp hm with z | hm; exact hne z; rcases List.mem_cons.mp hm with z | hm; exact hea z.symm; cases hm) fun u' h' tk hP' ho hit' hT hsz hk => ?_
    have eu : u' = u := by
      have e1 : its.toArray[i]? = some u := by simpa using hu
      rw [e1] at hP'; exact (Option.some.inj hP').symm
    subst eu
    refine ⟨_, rfl, wpAny_letOwnedTupleGo_enum (s := { s with heap := h', toks := tk + 1 }) ho fun h'' he' sb => ?_⟩
    have hT2 : h''.get? s.heap.objs.size = some { cls := .type "tuple", data := .seq #[.int i tk, u'] } := (sb.2 _ (Nat.ne_of_gt hel)).trans hT
    have new : ObjOk X.prog X.w (upd H s.heap.objs.size (.tup [.int (i : Nat), x])) h'' s.heap.objs.size (.tup [.int (i : Nat), x]) :=
      ⟨by show 2 ≤ sizeLine; decide, [.int i tk, u'], .cons ⟨_, rfl⟩ (.cons ru .nil), ⟨_, hT2, rfl, _, rfl⟩⟩
    have I1 : Inv X pins σ (upd H s.heap.objs.size (.tup [.int (i : Nat), x])) { s with heap := h'', toks := tk + 1 } :=
      I.turnedNew (ch := [e, it]) (fun b ob hb q => (sb.2 b (fun z => hb (by simp [z]))).trans (hk b ob (fun z => hb (by simp [z])) (fun z => hb (by simp [z])) q)) hf (Nat.le_refl _) new
    refine ⟨.ref s.heap.objs.size, _, I1, rfl, ⟨_, x, rfl, I.hok.fresh (Nat.le_refl _), rfl, fun ys hy => by rw [I.tuple_inj hy hq]; exact hx⟩, ⟨⟨u', ?_⟩, hit'.1.at fun o q => (sb.2 it (Ne.symm hne)).trans q, hne⟩, fun b hb => ?_⟩
    · have e1 : ((i + 1 : Nat) : Int) = (i : Int) + 1 := by omega
      rw [e1]; exact he'
    · have hb' : b < s.heap.objs.size := by
        have e' : b = e ∨ b = it := by simpa using hb
        rcases e' with z | z
        · rw [z]; exact hel
        · rw [z]; exact hil
      rw [upd_ne (Nat.ne_of_lt hb')]
      exact (hf b hb).1
  done := by
    intro X hP hw hK hc i pins s σ H E I hf st hg
    subst hP hw hK
    obtain ⟨⟨old, he⟩, hit, hne⟩ := st
    obtain ⟨xs, hq, hx⟩ := hg
    obtain ⟨its, rv, p, hz⟩ := I.tuple hq
    obtain ⟨f0, f1, f2, f3, f4, f5⟩ := hf it (by simp)
    have hl := rv.length
    have hT : s.TypeIs (.ref e) "enumerate" := ⟨_, he, rfl⟩
    unfold pyNext
    refine wpAny_bind (wpAny_attempt (wpAny_callSpecial?_slot (name := Str.ofString "__next__") hT F.slot_enumerate_next
      (wpAny_call_entry F.slot_enumerate_next hT F.entry_enumerate_next ?_ (F.args_enumerate_next_1 _))))
    show wpAny _ _ (field (.ref e) 2 >>= _) _ _ _
    refine wpAny_bind (wpAny_field he rfl (x := .ref it) rfl ?_)
    refine wpAny_bind (wpAny_nextOf_tuple_end (A := X.A.in1) (I.ok.hd hc) hit (show s.heap.IsTuple a its.toArray from p) (by simp; omega) fun h' x he' hx' => ?_)
    obtain ⟨o, ho, hc⟩ := hx'
    refine wpAny_bind (wpAny_isInstance (T := "StopIteration") (b := true) ⟨o, ho, hc⟩ isSubtype_stop ?_)
    exact wpAny_pure ⟨rfl, I.turned (t' := s.toks) (fun b o hb q => he' b o hb q) f0 f1 f3 f4 f5⟩
  self := fun A i s Q E st h => let ⟨⟨_, he⟩, _⟩ := st; wpAny_pyIter_enum he h
theorem meets_enumerate_newT (l : Addr) (items : Array Value) :
    Meets (Builtin.«enumerate.__new__» ⟨[.type "enumerate", .ref l], []⟩) (fun _ R s => s.heap.IsTuple l items ∧
      R (.ok (.ret (.ref (s.heap.push { cls := .type "tuple_iterator", data := .fields #[.ref l, .int 0 0] }).objs.size)))
        { s with heap := (s.heap.push { cls := .type "tuple_iterator", data := .fields #[.ref l, .int 0 0] }).push { cls := .type "enumerate", data := .fields #[.none, .bool false, .ref s.heap.objs.size, rawInt 0, .none, .none] } }) :=
  .of_wp fun prog w A R s h => by
    obtain ⟨hp, g, d, tk, os⟩ := s; obtain ⟨hL, h⟩ := h
    have hsub := sub_enumerate
    have q1 : ∀ {A' : Around} {E : Value → Shared → Prop} {Q : Value → Shared → Prop}, Q (.ref hp.objs.size) ⟨hp.push { cls := .type "tuple_iterator", data := .fields #[.ref l, .int 0 0] }, g, d, tk, os⟩ → wpAny (model prog w) A' (pyIter (.ref l)) Q E ⟨hp, g, d, tk, os⟩ :=
      fun q => wpAny_pyIter_tuple hL q
    wp_walk using q1
    refine wpAny_stack_any fun st => wpAny_pure ?_
    split
    · rename_i c _ _ _ _ _
      cases (c == Value.type "enumerate")
      · wp_walk using q1
        exact ⟨_, rfl, h⟩
      · wp_walk using q1
        exact ⟨_, rfl, h⟩
    · wp_walk using q1
      exact ⟨_, rfl, h⟩
theorem call_enumerate_tup {prog : Program} {w : World} {A : Around} {E : Value → Shared → Prop} {s : Shared} {l : Addr} {items : Array Value} {Q : Value → Shared → Prop} (hL : s.heap.IsTuple l items)
    (h : ∀ h', IsEnum h' (s.heap.objs.size + 1) s.heap.objs.size 0 .none → h'.IsTupleIter s.heap.objs.size l 0 → h'.objs.size = s.heap.objs.size + 2 →
      (∀ b o, s.heap.get? b = some o → h'.get? b = some o) → Q (.ref (s.heap.objs.size + 1)) { s with heap := h' }) :
    wpAny (model prog w) A (call (.type "enumerate") [.ref l]) Q E s := by
  refine callType_new F.called_enumerate (by decide) (F.typeCall_enumerate_1 _) (F.newCall_enumerate_1 _) (fun obj => F.args_object_init_2 obj _) F.entry_enumerate_new
    (meets_enumerate_newT l items) ⟨hL, ?_⟩
  have hz : (s.heap.push { cls := .type "tuple_iterator", data := .fields #[.ref l, .int 0 0] }).objs.size = s.heap.objs.size + 1 := Heap.size_push ..
  show _ ∧ _
  rw [hz]
  have he : IsEnum ((s.heap.push { cls := .type "tuple_iterator", data := .fields #[.ref l, .int 0 0] }).push
      { cls := .type "enumerate", data := .fields #[.none, .bool false, .ref s.heap.objs.size, rawInt 0, .none, .none] }) (s.heap.objs.size + 1) s.heap.objs.size 0 .none := by
    have := Heap.get?_push_size (s.heap.push { cls := .type "tuple_iterator", data := .fields #[.ref l, .int 0 0] })
      (o := { cls := .type "enumerate", data := .fields #[.none, .bool false, .ref s.heap.objs.size, rawInt 0, .none, .none] }) rfl
    rw [hz] at this; exact this
  refine ⟨⟨_, he, rfl⟩, h _ he ⟨_, Heap.get?_push_of_some _ (Heap.get?_push_size _ rfl), rfl, rfl⟩ (by rw [Heap.size_push, hz]) fun b o x => Heap.get?_push_of_some _ (Heap.get?_push_of_some _ x)⟩
def iEnumT (K : PySem.W.Frag) (ta : TA) : TI := fun σ H R => ta σ H fun vs H1 => ∃ a xs, vs = [.ref a] ∧ SqT K H1 a xs ∧ R (IteT K a) H1
theorem pi_enumT {e : Expr} {ta : TA} {p pos tpos : Pos} {elts : List Expr} {kk : Nat} (hg : Gl X "enumerate") (hm : X.mg "enumerate" = none) (ha : PA X [e] ta) (hs : starEach [e] X.env = [(false, eval e X.env)]) :
    PI X (.Tuple elts kk tpos) (.Call (.Name "enumerate" p) [e] [] pos) (iEnumT X.K ta) := by
  refine ⟨fun pins s σ H R I h => ?_⟩
  refine Call_ (ld_blt I hg hm boot_enumerate (PyProof.Rows.callWith_type1 (thn (ha.run pos pins s σ H _ I h) fun us s1 ⟨vs, H1, I1, r1, q1⟩ => ?_) hs rfl))
  obtain ⟨a, xs, ex, hq, q⟩ := q1
  subst ex
  cases r1 with
  | cons r rr =>
    cases rr
    cases r
    obtain ⟨its, rv, p', hz⟩ := I1.tuple hq
    have p' : s1.heap.IsTuple a its.toArray := p'
    have hal : a < s1.heap.objs.size := by obtain ⟨_, e, _⟩ := p'; exact Heap.lt_size e
    refine call_enumerate_tup p' fun h' he hit hsz hk => wpAny_pyIter_enum he ?_
    have I2 : Inv X pins σ H1 { s1 with heap := h' } := I1.kept (t' := s1.toks) hk
    refine ⟨s1.heap.objs.size + 1, [s1.heap.objs.size + 1, s1.heap.objs.size], _, _, H1, rfl, I2, turn_enumT a (s1.heap.objs.size + 1) s1.heap.objs.size (Nat.ne_of_lt (Nat.lt_succ_of_lt hal)) (Nat.ne_of_lt hal), ⟨⟨.none, he⟩, hit, Nat.succ_ne_self _⟩, fun b hb => ?_, q⟩
    have e' : b = s1.heap.objs.size + 1 ∨ b = s1.heap.objs.size := by simpa using hb
    have hle : s1.heap.objs.size ≤ b := by
      rcases e' with z | z
      · rw [z]; exact Nat.le_add_right _ _
      · rw [z]; exact Nat.le_refl _
    exact I1.fpOk hle (I1.hok.fresh hle)
end
end RS

namespace RS
open PySem PySem.Spec PyProof.Rows L2
section
variable {X : Cx}
/-! ### zip(tuple, list) -/
def ItzM (K : PySem.W.Frag) (a b : Addr) : It :=
  ⟨fun i H => ∃ (xs ys : List V) (x y : V), SqT K H a xs ∧ SqL K H b ys ∧ xs[i]? = some x ∧ ys[i]? = some y,
   fun i H v H' => ∃ T x y, v = .ref T ∧ H T = none ∧ H' = upd H T (.tup [x, y]) ∧ (∀ xs, SqT K H a xs → xs[i]? = some x) ∧ ∀ ys, SqL K H b ys → ys[i]? = some y,
   fun i H => ∃ xs ys : List V, SqT K H a xs ∧ SqL K H b ys ∧ i ≤ xs.length ∧ i ≤ ys.length ∧ (i = xs.length ∨ i = ys.length)⟩
theorem five {c z TI TO i1 i2 : Addr} (h : c ∈ [z, TI, TO, i1, i2]) : c = z ∨ c = TI ∨ c = TO ∨ c = i1 ∨ c = i2 := by simpa using h
theorem turn_zipM {P : Program} {w : World} {K : PySem.W.Frag} {elts : List Expr} {kk : Nat} {tpos : Pos} {a b z TI TO i1 i2 : Addr} (S : ZipSep2 z TI TO i1 i2 [i1, a] [i2, b]) (ha : a ≠ i1) (hb : b ≠ i2) :
    Turn P w K (.Tuple elts kk tpos) (ItzM K a b) [z, TI, TO, i1, i2] z (fun i h => IsZip h z TI TO .none ∧ IsTupOf2 h TI (.ref i1) (.ref i2) ∧ (∃ x y, IsTupOf2 h TO x y) ∧ h.IsTupleIter i1 a i ∧ h.IsListIter i2 b i) where
  mem := by simp
  obj := fun i h st c hc => by
    obtain ⟨hz, hTI, ⟨x, y, hTO⟩, ⟨o1, e1, _, d1⟩, ⟨o2, e2, _, d2⟩⟩ := st
    rcases five hc with q | q | q | q | q <;> subst q
    · exact ⟨_, hz, fun v q => nomatch q⟩
    · exact ⟨_, hTI, fun v q => nomatch q⟩
    · exact ⟨_, hTO, fun v q => nomatch q⟩
    · exact ⟨o1, e1, fun v q => by rw [d1] at q; cases q⟩
    · exact ⟨o2, e2, fun v q => by rw [d2] at q; cases q⟩
  keep := fun i h h' st k => by
    obtain ⟨hz, hTI, ⟨x, y, hTO⟩, h1, h2⟩ := st
    exact ⟨k _ (by simp) _ hz, k _ (by simp) _ hTI, ⟨x, y, k _ (by simp) _ hTO⟩, h1.at fun o q => k _ (by simp) o q, h2.at fun o q => k _ (by simp) o q⟩
  item := by
    intro X hP hw hK hc i pins s σ H E I hf st hg
    subst hP hw hK
    obtain ⟨hz, hTI, ⟨x0, y0, hTO⟩, h1, h2⟩ := st
    obtain ⟨xs, ys, x, y, hqx, hqy, hx, hy⟩ := hg
    obtain ⟨its, rv, p, _⟩ := I.tuple hqx
    obtain ⟨its2, rv2, p2, _⟩ := I.list hqy
    obtain ⟨u, hu, ru⟩ := rv.get hx
    obtain ⟨u2, hu2, ru2⟩ := rv2.get hy
    have hzl : z < s.heap.objs.size := Heap.lt_size hz
    have l1 : i < its.toArray.size := by simpa using (List.getElem?_eq_some_iff.mp hu).1
    have l2 : i < its2.toArray.size := by simpa using (List.getElem?_eq_some_iff.mp hu2).1
    refine wpAny_pyNext_zipD2_item S (Draws.tuple (A := X.A.in1) (I.ok.hd hc) i1 a ha its.toArray) (Draws.list (A := X.A.in1) (I.ok.hd hc) i2 b hb its2.toArray) hz hTI hTO ⟨h1, p⟩ ⟨h2, p2.isList⟩ l1 l2 fun w1 w2 h' tk P1 P2 z' TO' st1 st2 hT hsz hk => ?_
    have e1 : w1 = u := by
      have : its.toArray[i]? = some u := by simpa using hu
      rw [this] at P1; exact (Option.some.inj P1).symm
    have e2 : w2 = u2 := by
      have : its2.toArray[i]? = some u2 := by simpa using hu2
      rw [this] at P2; exact (Option.some.inj P2).symm
    subst e1 e2
    refine ⟨_, rfl, wpAny_letOwnedTupleGo_zip (s := { s with heap := h', toks := tk }) z' fun h'' z'' sb => ?_⟩
    have hT2 : h''.get? s.heap.objs.size = some { cls := .type "tuple", data := .seq #[w1, w2] } := (sb.2 _ (Nat.ne_of_gt hzl)).trans hT
    have new : ObjOk X.prog X.w (upd H s.heap.objs.size (.tup [x, y])) h'' s.heap.objs.size (.tup [x, y]) := ⟨by show 2 ≤ sizeLine; decide, [w1, w2], .cons ru (.cons ru2 .nil), ⟨_, hT2, rfl, _, rfl⟩⟩
    have I1 : Inv X pins σ (upd H s.heap.objs.size (.tup [x, y])) { s with heap := h'', toks := tk } :=
      I.turnedNew (t' := tk) (ch := [z, TI, TO, i1, i2]) (fun c o hb q => (sb.2 c fun z => hb (by simp [z])).trans (hk c o (fun z => hb (by simp [z])) (fun z => hb (by simp [z])) (fun z => hb (by simp [z])) (fun z => hb (by simp [z])) q)) hf (Nat.le_refl _) new
    refine ⟨.ref s.heap.objs.size, _, I1, rfl, ⟨_, x, y, rfl, I.hok.fresh (Nat.le_refl _), rfl, fun l hl => by rw [I.tuple_inj hl hqx]; exact hx, fun l hl => by rw [I.list_inj hl hqy]; exact hy⟩, ⟨z'', (sb.2 _ S.TIz).trans (hk _ _ S.TIz S.TITO S.TIi1 S.TIi2 hTI), ⟨w1, w2, (sb.2 _ S.TOz).trans TO'⟩, st1.1.at fun o q => (sb.2 _ S.zi1.symm).trans q, st2.1.at fun o q => (sb.2 _ S.zi2.symm).trans q⟩, fun c hcm => ?_⟩
    have hlt : c < s.heap.objs.size := by
      rcases five hcm with q | q | q | q | q <;> subst q
      · exact hzl
      · exact Heap.lt_size hTI
      · exact Heap.lt_size hTO
      · obtain ⟨_, e1, _⟩ := h1; exact Heap.lt_size e1
      · obtain ⟨_, e2, _⟩ := h2; exact Heap.lt_size e2
    rw [upd_ne (Nat.ne_of_lt hlt)]
    exact (hf c hcm).1
  done := by
    intro X hP hw hK hc i pins s σ H E I hf st hg
    subst hP hw hK
    obtain ⟨hz, hTI, ⟨x0, y0, hTO⟩, h1, h2⟩ := st
    obtain ⟨xs, ys, hqx, hqy, b1, b2, hend⟩ := hg
    obtain ⟨its, rv, p, _⟩ := I.tuple hqx
    obtain ⟨its2, rv2, p2, _⟩ := I.list hqy
    have l1 := rv.length
    have l2 := rv2.length
    exact wpAny_pyNext_zipD2_end S (Draws.tuple (A := X.A.in1) (I.ok.hd hc) i1 a ha its.toArray) (Draws.list (A := X.A.in1) (I.ok.hd hc) i2 b hb its2.toArray) hz hTI hTO ⟨h1, p⟩ ⟨h2, p2.isList⟩ (by simp; omega) (by simp; omega) (by simp; omega)
      fun h' tk hk => ⟨rfl, I.turnedL (t' := tk) (ch := [z, TI, TO, i1, i2]) (fun c o hb q => hk c o (fun z => hb (by simp [z])) (fun z => hb (by simp [z])) (fun z => hb (by simp [z])) (fun z => hb (by simp [z])) q) hf⟩
  self := fun A i s Q E st h => wpAny_pyIter_zip st.1 h
theorem nin2 {x y z : Nat} (h1 : x ≠ y) (h2 : x ≠ z) : x ∉ [y, z] := fun h => by
  simp only [List.mem_cons, List.not_mem_nil, or_false] at h
  exact h.elim h1 h2
theorem sepM {n a b : Nat} (ha : a < n) (hb : b < n) : ZipSep2 (n + 4) (n + 2) (n + 3) n (n + 1) [n, a] [n + 1, b] := by
  have h : ∀ i j : Nat, i ≠ j → n + i ≠ n + j := fun i j z => by omega
  have g : ∀ i : Nat, n + i ≠ a := fun i => by omega
  have g' : ∀ i : Nat, n + i ≠ b := fun i => by omega
  exact ⟨h 2 4 (by decide), h 3 4 (by decide), h 2 3 (by decide), h 2 0 (by decide), List.mem_cons_self, nin2 (h 4 0 (by decide)) (g 4), nin2 (h 3 0 (by decide)) (g 3), h 2 1 (by decide), List.mem_cons_self, nin2 (h 4 1 (by decide)) (g' 4), nin2 (h 3 1 (by decide)) (g' 3), nin2 (h 0 1 (by decide)) (g' 0), nin2 (h 1 0 (by decide)) (g 1)⟩
def iZipM (K : PySem.W.Frag) (ta : TA) : TI := fun σ H R => ta σ H fun vs H1 => ∃ a b xs ys, vs = [.ref a, .ref b] ∧ SqT K H1 a xs ∧ SqL K H1 b ys ∧ R (ItzM K a b) H1
theorem pi_zipM {e e2 : Expr} {ta : TA} {p pos tpos : Pos} {elts : List Expr} {kk : Nat} (hg : Gl X "zip") (hm : X.mg "zip" = none) (ha : PA X [e, e2] ta)
    (hs : starEach [e, e2] X.env = (false, eval e X.env) :: starEach [e2] X.env) (hpl : (backTo pos (starEach [e2] X.env)).any (·.1) = false) :
    PI X (.Tuple elts kk tpos) (.Call (.Name "zip" p) [e, e2] [] pos) (iZipM X.K ta) := by
  refine ⟨fun pins s σ H R I h => ?_⟩
  refine Call_ (ld_blt I hg hm PyProof.Rows.boot_zip (PyProof.Rows.callWith_type1 (thn (ha.run pos pins s σ H _ I h) fun us s1 ⟨vs, H1, I1, r1, q1⟩ => ?_) hs hpl))
  obtain ⟨a, b, xs, ys, ex, hqx, hqy, q⟩ := q1
  subst ex
  cases r1 with
  | cons r rr =>
    cases rr with
    | cons r' rr =>
      cases rr
      cases r
      cases r'
      obtain ⟨its, rv, p1, _⟩ := I1.tuple hqx
      obtain ⟨its2, rv2, p2, _⟩ := I1.list hqy
      have p1 : s1.heap.IsTuple a its.toArray := p1
      have al : a < s1.heap.objs.size := by obtain ⟨_, e, _⟩ := id p1; exact Heap.lt_size e
      have bl : b < s1.heap.objs.size := p2.lt
      refine zip_begins2 (begins_tuple a its.toArray) (begins_list b its2.toArray) p1 p2.isList fun h' hz hTI hTO g1 g2 hsz hk => wpAny_pyIter_zip hz ?_
      have I2 : Inv X pins σ H1 { s1 with heap := h' } := I1.kept (t' := s1.toks) hk
      refine ⟨s1.heap.objs.size + 4, [s1.heap.objs.size + 4, s1.heap.objs.size + 2, s1.heap.objs.size + 3, s1.heap.objs.size, s1.heap.objs.size + 1], _, _, H1, rfl, I2,
        turn_zipM (sepM al bl) (Nat.ne_of_lt al) (Nat.ne_of_lt (Nat.lt_succ_of_lt bl)), ⟨hz, hTI, ⟨_, _, hTO⟩, ⟨_, g1, rfl, rfl⟩, ⟨_, g2, rfl, rfl⟩⟩, fun c hcm => ?_, q⟩
      have hle : s1.heap.objs.size ≤ c := by
        rcases five hcm with z | z | z | z | z <;> rw [z] <;> first | exact Nat.le_refl _ | exact Nat.le_add_right _ _
      exact I1.fpOk hle (I1.hok.fresh hle)
end
end RS

namespace RS
open PySem PySem.Spec PyProof.Rows L2

/-! ### syntax -/
inductive Bop where | add | sub | mul | fdiv | mod | pow
inductive Cop where | lt | le | gt | ge | eq | ne | is | isnot | inn | notin
inductive Bi where | len | abs | min2 | max2 | minL | maxL | tuple | list | str | int | sorted
inductive Ty where | int | bool | tuple | list | str
inductive Mt where | app | ins | ext
inductive Tg where | one (i : Nat) | two (i j : Nat)
mutual
inductive E where
  | var (i : Nat) | int (n : Int) | bl (b : Bool) | non | str (s : Str) | glob (g : Nat)
  | neg (a : E) | not (a : E)
  | bin (o : Bop) (a b : E) | cmp (o : Cop) (a b : E) | chain (o o2 : Cop) (a b c : E)
  | bop (k : Bool) (es : Es)
  | ite (c : T) (a b : E)
  | tup (es : Es) | lst (es : Es)
  | call (f : Nat) (es : Es)
  | bi (b : Bi) (es : Es)
  | isi (a : E) (t : Ty)
  | ix (a i : E) | slU (a hi : E) | slL (a lo : E) | slB (a lo hi : E) | rev (a : E)
  | olen (i : Nat) | oix (i : Nat) (e : E)
  | comp (el : E) (tg : Tg) (it : I) (cs : Ts)
  | fld (a : E) (k : Nat) | new (f : Nat) (es : Es) | meth (f : Nat) (a : E) (es : Es)
  | split (a b : E) | join (a b : E) | index (a b : E) | trng (a : E)
inductive Es where | nil | cons (e : E) (es : Es)
inductive T where
  | tr (e : E) | otr (i : Nat) | cmp (o : Cop) (a b : E) | chain (o o2 : Cop) (a b c : E) | bop (k : Bool) (ts : Ts) | not (t : T) | chain3 (o o2 o3 : Cop) (a b c d : E)
inductive Ts where | nil | cons (t : T) (ts : Ts)
inductive I where
  | val (e : E) | own (i : Nat) | rng1 (e : E) | rng2 (a b : E) | enum (e : E) | zip (a b : E)
end
/-- what an except clause's suite may say of the exception: None is ValueError -/
inductive HE where | bl (b : Bool) | one (k : Option Nat) | lst (ks : List (Option Nat)) | cat (i : Nat) (ks : List (Option Nat))
inductive HS where | ret (e : HE) | asg (i : Nat) (e : HE)
mutual
inductive S where
  | expr (e : E) | asg (i : Nat) (e : E) | newl (i : Nat)
  | par (i j : Nat) (a b : E) | unp (i j : Nat) (e : E) | aug (i : Nat) (e : E)
  | ret (e : E) | ite (c : T) (a b : Ss) | whl (c : T) (b : Ss) | for_ (tg : Tg) (it : I) (b : Ss)
  | mt (m : Mt) (i : Nat) (es : Es) | seti (i : Nat) (a e : E)
  | rai (c : Nat)
  | frz (i : Nat)
  | tryE (cl nx : Nat) (nm : Option Nat) (b : Ss) (hs : List HS)
  | par3 (i j l : Nat) (a b c : E)
  | junk
  | newll (i : Nat) (e : E)
  | asgX (i : Nat) (el : E) (j : Nat) (it : I)
inductive Ss where | nil | cons (s : S) (ss : Ss)
end

/-! ### operations on data -/
mutual
def toP : D → PyData
  | .non => .none
  | .bl b => .bool b
  | .int i => .int i
  | .str s => .str s
  | .lst ds => .list (toPs ds)
  | .tup ds => .tuple (toPs ds)
  | .ins _ => .dict []
  | .scr _ => .dict []
def toPs : List D → List PyData
  | [] => []
  | d :: ds => toP d :: toPs ds
end
def shp (d : D) : Bool := SeqAt.shaped (toP d)
def big : Nat := 1000000
def mulOk (i j : Int) : Bool := decide (i.natAbs < 2 ^ 64) || decide (j.natAbs < 2 ^ 64) || decide (i.natAbs.log2 + j.natAbs.log2 < 1000000)
def binD : Bop → D → D → R D
  | .add, .int i, .int j => .ok (.int (i + j))
  | .add, .tup a, .tup b => if a.length + b.length ≤ big then .ok (.tup (a ++ b)) else .bad
  | .add, .lst a, .lst b => if a.length + b.length ≤ big then .ok (.lst (a ++ b)) else .bad
  | .add, .str a, .str b => if a.length + b.length ≤ big then .ok (.str (a ++ b)) else .bad
  | .sub, .int i, .int j => .ok (.int (i - j))
  | .mul, .int i, .int j => if mulOk i j then .ok (.int (i * j)) else .bad
  | .mul, .tup a, .int k => if !a.isEmpty && decide (2 ≤ k) && decide (k ≤ 1000) && decide (a.length ≤ 1000) then .ok (.tup (List.replicate k.toNat a).flatten) else .bad
  | .fdiv, .int i, .int j => if decide (0 < j) && decide (j.natAbs.log2 < 9000) then .ok (.int (i / j)) else .bad
  | .mod, .int i, .int j => if 0 < j then .ok (.int (i % j)) else .bad
  | .pow, .int i, .int j => if decide (0 ≤ j) && decide (j ≤ 1000000) && decide (i.natAbs < 2 ^ 64) then .ok (.int (i ^ j.toNat)) else .bad
  | _, _, _ => .bad
def flatD : D → Option V
  | .non => some .non
  | .bl b => some (.bl b)
  | .int i => some (.int i)
  | .str s => some (.str s)
  | _ => none
def inD (x y : D) (ys : List D) : R Bool := if shp x && shp y then .ok ((toPs ys).any fun z => PyData.eqv z (toP x)) else .bad
def cmpD : Cop → D → D → R Bool
  | .lt, .int i, .int j => .ok (decide (i < j))
  | .le, .int i, .int j => .ok (decide (i ≤ j))
  | .gt, .int i, .int j => .ok (decide (j < i))
  | .ge, .int i, .int j => .ok (decide (j ≤ i))
  | .eq, a, b => if shp a && shp b then .ok (PyData.eqv (toP a) (toP b)) else .bad
  | .ne, a, b => if shp a && shp b then .ok (!PyData.eqv (toP a) (toP b)) else .bad
  | .is, a, .non => .ok (match a with | .non => true | _ => false)
  | .isnot, a, .non => .ok (match a with | .non => false | _ => true)
  | .is, .bl a, .bl b => .ok (decide (a = b))
  | .isnot, .bl a, .bl b => .ok (!decide (a = b))
  | .inn, x, .lst ys => inD x (.lst ys) ys
  | .inn, x, .tup ys => inD x (.tup ys) ys
  | .notin, x, .lst ys => (inD x (.lst ys) ys).bind fun b => .ok (!b)
  | .notin, x, .tup ys => (inD x (.tup ys) ys).bind fun b => .ok (!b)
  | .inn, .str a, .str b => .ok (!(Builtin.Str.occurrences b a 0 b.length 1).isEmpty)
  | .notin, .str a, .str b => .ok (!(!(Builtin.Str.occurrences b a 0 b.length 1).isEmpty))
  | _, _, _ => .bad
def truD : D → R Bool
  | .non => .ok false
  | .bl b => .ok b
  | .int i => .ok (i != 0)
  | .str s => if s.length ≤ big then .ok ((s.length : Int) != 0) else .bad
  | .lst ds => .ok (!ds.isEmpty)
  | .tup ds => .ok (!ds.isEmpty)
  | _ => .bad
def negD : D → R D
  | .int i => .ok (.int (-i))
  | _ => .bad
def notD (d : D) : R D := (truD d).bind fun b => .ok (.bl (!b))
def ixD : D → D → R D
  | .lst ds, .int i => match atI ds i with | some d => .ok d | none => .bad
  | .tup ds, .int i => match atI ds i with | some d => .ok d | none => .bad
  | .scr ns, .int i => match atI ns i with | some n => .ok (.int n) | none => .bad
  | .str z, .int i => if z.length ≤ big then (match atI z.cps.toList i with | some c => .ok (.str ⟨#[c]⟩) | none => .bad) else .bad
  | _, _ => .bad
def cutD (xs : List D) (lo hi : Option Int) : List D := (xs.drop (HT.sIx xs.length 0 lo)).take (HT.sIx xs.length xs.length hi - HT.sIx xs.length 0 lo)
def slD : D → Option Int → Option Int → R D
  | .lst ds, lo, hi => .ok (.lst (cutD ds lo hi))
  | .tup ds, lo, hi => .ok (.tup (cutD ds lo hi))
  | .str z, lo, hi => if z.length ≤ big then .ok (.str (cutS z lo hi)) else .bad
  | _, _, _ => .bad
def ixOf : D → R Int
  | .int i => .ok i
  | _ => .bad
def revD : D → R D
  | .lst ds => .ok (.lst ds.reverse)
  | .tup ds => .ok (.tup ds.reverse)
  | _ => .bad
def isiD : D → Ty → R Bool
  | .bl _, .int => .ok true
  | .bl _, .bool => .ok true
  | .int _, .int => .ok true
  | .str _, .str => .ok true
  | .lst _, .list => .ok true
  | .tup _, .tuple => .ok true
  | .ins _, _ => .bad
  | .scr _, _ => .bad
  | _, _ => .ok false
def ints? : List D → Option (List Int)
  | [] => some []
  | .int i :: r => (ints? r).map (i :: ·)
  | _ :: _ => none
def prD (p : Int × Int) : D := .tup [.int p.1, .int p.2]
def prs? : List D → Option (List (Int × Int))
  | [] => some []
  | .tup [.int i, .int j] :: r => (prs? r).map ((i, j) :: ·)
  | _ :: _ => none
def leP (a b : Int × Int) : Bool := decide (a.1 < b.1) || (decide (a.1 = b.1) && decide (a.2 ≤ b.2))
def idxD : D → D → R D
  | .lst ds, y => if shp (.lst ds) && shp y then (match (toPs ds).findIdx? fun z => PyData.eqv z (toP y) with | some j => .ok (.int (j : Nat)) | none => .bad) else .bad
  | _, _ => .bad
def biD : Bi → List D → R D
  | .len, [.lst ds] => .ok (.int ds.length)
  | .len, [.tup ds] => .ok (.int ds.length)
  | .len, [.scr ns] => .ok (.int ns.length)
  | .len, [.str s] => if s.length ≤ big then .ok (.int s.length) else .bad
  | .abs, [.int i] => .ok (.int (if i < 0 then -i else i))
  | .min2, [.int i, .int j] => .ok (.int (if j < i then j else i))
  | .max2, [.int i, .int j] => .ok (.int (if j > i then j else i))
  | .minL, [.lst ds] => match ints? ds with | some (n :: ns) => .ok (.int (ns.foldl min n)) | _ => .bad
  | .maxL, [.lst ds] => match ints? ds with | some (n :: ns) => .ok (.int (ns.foldl max n)) | _ => .bad
  | .maxL, [.tup ds] => match ints? ds with | some (n :: ns) => .ok (.int (ns.foldl max n)) | _ => .bad
  | .sorted, [.lst ds] => match prs? ds with | some l => .ok (.lst ((l.mergeSort leP).map prD)) | none => .bad
  | .tuple, [.lst ds] => .ok (.tup ds)
  | .tuple, [.tup ds] => .ok (.tup ds)
  | .list, [.lst ds] => .ok (.lst ds)
  | .list, [.tup ds] => .ok (.lst ds)
  | .int, [.str a] => match PySem.intText? a with | some n => if a.length ≤ 640 then .ok (.int n) else .bad | none => .bad
  | .str, [.int i] => if i.natAbs.log2 < 1920 then .ok (.str (toString i)) else .bad
  | _, _ => .bad

def setT : Tg → D → Env → R Env
  | .one i, d, ρ => .ok (ρ.set i (.val d))
  | .two i j, .tup [a, b], ρ => .ok ((ρ.set i (.val a)).set j (.val b))
  | _, _, _ => .bad
def Tg.ixs : Tg → List Nat
  | .one i => [i]
  | .two i j => [i, j]
def wipeE (ρ : Env) : List Nat → Env
  | [] => ρ
  | v :: vs => (wipeE ρ vs).set v .un
def noX {α : Type} : R α → R α
  | .exc _ => .bad
  | r => r
/-- a comprehension over ds -/
def compR (f : D → R (Option D)) : List D → R (List D)
  | [] => .ok []
  | d :: r => (noX (f d)).bind fun o => (compR f r).bind fun l => .ok (o.toList ++ l)
/-- as compR, where what is raised goes on -/
def mapX (f : D → R D) : List D → R (List D)
  | [] => .ok []
  | d :: r => (f d).bind fun y => (mapX f r).bind fun l => .ok (y :: l)
def cmpX (r : R (List D)) (f : D → R D) : R D := r.bind fun ds => if ds.length ≤ big then (mapX f ds).bind fun l => .ok (.lst l) else .bad
def rngD (i j : Int) : R (List D) :=
  if decide (-(2 ^ 62) ≤ i) && decide (i < 2 ^ 62) && decide (-(2 ^ 62) ≤ j) && decide (j < 2 ^ 62) then .ok ((List.range (j - i).toNat).map fun k => .int (i + (k : Nat))) else .bad
def seqD : D → R (List D)
  | .lst ds => .ok ds
  | .tup ds => .ok ds
  | .str z => .ok (z.cps.toList.map fun c => .str ⟨#[c]⟩)
  | _ => .bad
def ltD : D → R (List D)
  | .lst ds => .ok ds
  | .tup ds => .ok ds
  | _ => .bad
def strs? : List D → Option (List Str)
  | [] => some []
  | .str s :: r => (strs? r).map (s :: ·)
  | _ :: _ => none
def strD : D → R Str
  | .str s => .ok s
  | _ => .bad
def joinD (a : Str) : D → R D
  | .lst ds => match strs? ds with
    | some ys => if (ys.map (·.length)).sum + ys.length * a.length ≤ big then .ok (.str (Txt.join a ys)) else .bad
    | none => .bad
  | _ => .bad
def splitD (a : Str) : D → R D
  | .str b => if (!(b.length == 0)) && decide (a.length ≤ big) then .ok (.lst ((Txt.split a b).map D.str)) else .bad
  | _ => .bad
def trngD (n : Int) : R D := if decide (0 ≤ n) && decide (n ≤ 1000) then .ok (.tup ((List.range n.toNat).map fun k => .int (k : Nat))) else .bad
def fldD (k : Nat) : D → R D
  | .ins ds => match ds[k]? with | some d => .ok d | none => .bad
  | _ => .bad
def insD : D → R (List D)
  | .ins ds => .ok ds
  | _ => .bad
def lstD : D → R (List D)
  | .lst ds => .ok ds
  | _ => .bad

section
variable (φ : Nat → List D → R D) (gl : Nat → Option D)
mutual
def denE : E → Env → R D
  | .var i, ρ => match ρ[i]? with | some (.val d) => .ok d | _ => .bad
  | .int n, _ => .ok (.int n)
  | .bl b, _ => .ok (.bl b)
  | .non, _ => .ok .non
  | .str s, _ => .ok (.str s)
  | .glob g, _ => match gl g with | some d => .ok d | none => .bad
  | .neg a, ρ => (denE a ρ).bind negD
  | .not a, ρ => (denE a ρ).bind notD
  | .bin o a b, ρ => (denE a ρ).bind fun x => (denE b ρ).bind fun y => binD o x y
  | .cmp o a b, ρ => (denE a ρ).bind fun x => (denE b ρ).bind fun y => (cmpD o x y).bind fun k => .ok (.bl k)
  | .chain o o2 a b c, ρ => (denE a ρ).bind fun x => (denE b ρ).bind fun y => (cmpD o x y).bind fun k => if k = true then (denE c ρ).bind fun z => (cmpD o2 y z).bind fun k => .ok (.bl k) else .ok (.bl false)
  | .bop k es, ρ => denB k es ρ
  | .ite c a b, ρ => (denT c ρ).bind fun k => if k = true then denE a ρ else denE b ρ
  | .tup es, ρ => (denEs es ρ).bind fun ds => if ds.length ≤ big then .ok (.tup ds) else .bad
  | .lst es, ρ => (denEs es ρ).bind fun ds => if ds.length ≤ big then .ok (.lst ds) else .bad
  | .call f es, ρ => (denEs es ρ).bind (φ f)
  | .bi b es, ρ => (denEs es ρ).bind (biD b)
  | .isi a t, ρ => (denE a ρ).bind fun x => (isiD x t).bind fun k => .ok (.bl k)
  | .ix a i, ρ => (denE a ρ).bind fun x => (denE i ρ).bind fun y => ixD x y
  | .slU a hi, ρ => (denE a ρ).bind fun x => (denE hi ρ).bind fun y => (ixOf y).bind fun j => slD x none (some j)
  | .slL a lo, ρ => (denE a ρ).bind fun x => (denE lo ρ).bind fun y => (ixOf y).bind fun j => slD x (some j) none
  | .slB a lo hi, ρ => (denE a ρ).bind fun x => (denE lo ρ).bind fun y => (ixOf y).bind fun i => (denE hi ρ).bind fun y => (ixOf y).bind fun j => slD x (some i) (some j)
  | .rev a, ρ => (denE a ρ).bind revD
  | .olen i, ρ => match ρ[i]? with | some (.own ds) => .ok (.int ds.length) | _ => .bad
  | .oix i e, ρ => match ρ[i]? with | some (.own ds) => (denE e ρ).bind fun y => ixD (.lst ds) y | _ => .bad
  | .comp el tg it cs, ρ => (denI it ρ).bind fun ds => if ds.length ≤ big then (compR (fun d => (setT tg d (wipeE ρ tg.ixs)).bind fun ρ' => (denTs true cs ρ').bind fun k => if k = true then (denE el ρ').bind fun y => .ok (some y) else .ok none) ds).bind fun l => .ok (.lst l) else .bad
  | .fld a k, ρ => (denE a ρ).bind (fldD k)
  | .new f es, ρ => (noX (denEs es ρ)).bind fun ds => noX (φ f ds)
  | .meth f a es, ρ => (denE a ρ).bind fun x => (insD x).bind fun _ => (denEs es ρ).bind fun xs => noX (φ f (x :: xs))
  | .split a b, ρ => (denE a ρ).bind fun x => (strD x).bind fun s => (denE b ρ).bind (splitD s)
  | .join a b, ρ => (denE a ρ).bind fun x => (strD x).bind fun s => (denE b ρ).bind (joinD s)
  | .trng a, ρ => (denE a ρ).bind fun x => (ixOf x).bind trngD
  | .index a b, ρ => (denE a ρ).bind fun x => (lstD x).bind fun _ => (denE b ρ).bind fun y => idxD x y
def denEs : Es → Env → R (List D)
  | .nil, _ => .ok []
  | .cons e es, ρ => (denE e ρ).bind fun x => (denEs es ρ).bind fun xs => .ok (x :: xs)
/-- and (k = true), or (k = false), as a value -/
def denB (k : Bool) : Es → Env → R D
  | .nil, _ => .bad
  | .cons e es, ρ => match es with
    | .nil => denE e ρ
    | .cons e2 es2 => (denE e ρ).bind fun x => match x with
      | .bl c => if c = k then denB k (.cons e2 es2) ρ else .ok (.bl c)
      | _ => .bad
def denT : T → Env → R Bool
  | .tr e, ρ => (denE e ρ).bind truD
  | .otr i, ρ => match ρ[i]? with | some (.own ds) => .ok (!ds.isEmpty) | _ => .bad
  | .cmp o a b, ρ => (denE a ρ).bind fun x => (denE b ρ).bind fun y => cmpD o x y
  | .chain o o2 a b c, ρ => (denE a ρ).bind fun x => (denE b ρ).bind fun y => (cmpD o x y).bind fun k => if k = true then (denE c ρ).bind fun z => cmpD o2 y z else .ok false
  | .bop k ts, ρ => denTs k ts ρ
  | .not t, ρ => (denT t ρ).bind fun b => .ok (!b)
  | .chain3 o o2 o3 a b c d, ρ => (denE a ρ).bind fun x => (denE b ρ).bind fun y => (cmpD o x y).bind fun k => if k = true then (denE c ρ).bind fun z => (cmpD o2 y z).bind fun k => if k = true then (denE d ρ).bind fun u => cmpD o3 z u else .ok false else .ok false
def denTs (k : Bool) : Ts → Env → R Bool
  | .nil, _ => .ok k
  | .cons t ts, ρ => (denT t ρ).bind fun c => if c = k then denTs k ts ρ else .ok c
def denI : I → Env → R (List D)
  | .val e, ρ => (denE e ρ).bind seqD
  | .own i, ρ => match ρ[i]? with | some (.own ds) => .ok ds | _ => .bad
  | .rng1 e, ρ => (denE e ρ).bind fun y => (ixOf y).bind fun j => rngD 0 j
  | .rng2 a b, ρ => (denE a ρ).bind fun x => (denE b ρ).bind fun y => (ixOf x).bind fun i => (ixOf y).bind fun j => rngD i j
  | .enum e, ρ => (denE e ρ).bind fun x => (ltD x).bind fun ds => .ok (ds.mapIdx fun i d => .tup [.int (i : Nat), d])
  | .zip a b, ρ => (denE a ρ).bind fun x => (denE b ρ).bind fun y => (ltD x).bind fun ds => (lstD y).bind fun es => .ok ((ds.zip es).map fun p => .tup [p.1, p.2])
end
end

/-! ### statements -/
def gMt : Mt → List D → List D → Option (List D)
  | .app, ds, [d] => if ds.length < big then some (ds ++ [d]) else none
  | .ins, ds, [.int k, d] => if decide (ds.length < big) && decide (0 ≤ k) && decide (k < 2 ^ 62) then some (ds.take k.toNat ++ [d] ++ ds.drop k.toNat) else none
  | .ext, ds, [.lst es] => if ds.length + es.length ≤ big then some (ds ++ es) else none
  | _, _, _ => none

inductive O where
  | nx (ρ : Env) | ret (d : D) | exc (c : Nat) (ρ : Env) | bad
def O.then : O → (Env → O) → O
  | .nx ρ, f => f ρ
  | o, _ => o
/-- an expression's end as a statement's -/
def R.out {α : Type} (r : R α) (ρ : Env) (f : α → O) : O :=
  match r with
  | .ok a => f a
  | .exc c => .exc c ρ
  | .bad => .bad
def whileD (c : Env → R Bool) (b : Env → O) : Nat → Env → O
  | 0, _ => .bad
  | n + 1, ρ => (c ρ).out ρ fun k => if k = true then (b ρ).then (whileD c b n) else .nx ρ
def forD (tg : Tg) (b : Env → O) : List D → Env → O
  | [], ρ => .nx ρ
  | d :: ds, ρ => (setT tg d ρ).out ρ fun ρ' => (b ρ').then (forD tg b ds)
def fuel : Nat := 1000000
/-- class c is class k or below it: all are below the first one -/
def subX (c k : Nat) : Bool := decide (c = k) || decide (k = 0)
def kitX (c : Nat) : Option Nat → Bool
  | none => true
  | some k => subX c k
def denH (c : Nat) : HE → Env → R D
  | .bl b, _ => .ok (.bl b)
  | .one k, _ => .ok (.bl (kitX c k))
  | .lst ks, _ => if ks.length ≤ big then .ok (.lst (ks.map fun k => .bl (kitX c k))) else .bad
  | .cat i ks, ρ => match ρ[i]? with
    | some (.val (.lst ds)) => if ds.length + ks.length ≤ big then .ok (.lst (ds ++ ks.map fun k => .bl (kitX c k))) else .bad
    | _ => .bad
def denHs (c : Nat) : List HS → Env → O
  | [], ρ => .nx ρ
  | .ret e :: _, ρ => (denH c e ρ).out ρ fun d => .ret d
  | .asg i e :: r, ρ => (denH c e ρ).out ρ fun d => denHs c r (ρ.set i (.val d))
def setN (nm : Option Nat) (ρ : Env) : Env := match nm with
  | some i => ρ.set i .un
  | none => ρ
def okN (nm : Option Nat) (ρ : Env) : Bool := match nm with
  | some i => decide (i < ρ.length)
  | none => true
def tryD (cl nx : Nat) (nm : Option Nat) (hs : List HS) : O → O
  | .exc c ρ => if (decide (c < nx) && okN nm ρ) = true then (if subX c cl = true then (denHs c hs (setN nm ρ)).then fun ρ' => .nx (setN nm ρ') else .exc c ρ) else .bad
  | o => o
def ownAt (ρ : Env) (i : Nat) (f : List D → O) : O :=
  match ρ[i]? with
  | some (.own ds) => f ds
  | _ => .bad
section
variable (φ : Nat → List D → R D) (gl : Nat → Option D)
mutual
def denS : S → Env → O
  | .expr e, ρ => (denE φ gl e ρ).out ρ fun _ => .nx ρ
  | .asg i e, ρ => (denE φ gl e ρ).out ρ fun d => .nx (ρ.set i (.val d))
  | .newl i, ρ => .nx (ρ.set i (.own []))
  | .par i j a b, ρ => (denE φ gl a ρ).out ρ fun x => (denE φ gl b ρ).out ρ fun y => .nx ((ρ.set i (.val x)).set j (.val y))
  | .unp i j e, ρ => (denE φ gl e ρ).out ρ fun x => (setT (.two i j) x ρ).out ρ fun ρ' => .nx ρ'
  | .aug i e, ρ => (denE φ gl (.bin .add (.var i) e) ρ).out ρ fun d => match d with | .int n => .nx (ρ.set i (.val (.int n))) | _ => .bad
  | .ret e, ρ => (denE φ gl e ρ).out ρ fun d => .ret d
  | .ite c a b, ρ => (denT φ gl c ρ).out ρ fun k => if k = true then denSs a ρ else denSs b ρ
  | .whl c b, ρ => whileD (denT φ gl c) (denSs b) fuel ρ
  | .for_ tg it b, ρ => (denI φ gl it ρ).out ρ fun ds => forD tg (denSs b) ds ρ
  | .mt m i es, ρ => ownAt ρ i fun ds => (denEs φ gl es ρ).out ρ fun xs => match gMt m ds xs with | some ds' => .nx (ρ.set i (.own ds')) | none => .bad
  | .seti i a e, ρ => (denE φ gl e ρ).out ρ fun d => ownAt ρ i fun ds => (denE φ gl a ρ).out ρ fun x => (ixOf x).out ρ fun k => match ixN ds.length k with | some j => .nx (ρ.set i (.own (ds.set j d))) | none => .bad
  | .rai c, ρ => .exc c ρ
  | .frz i, ρ => ownAt ρ i fun ds => .nx (ρ.set i (.val (.lst ds)))
  | .tryE cl nx nm b hs, ρ => tryD cl nx nm hs (denSs b ρ)
  | .par3 i j l a b c, ρ => (denE φ gl a ρ).out ρ fun x => (denE φ gl b ρ).out ρ fun y => (denE φ gl c ρ).out ρ fun z => .nx (((ρ.set i (.val x)).set j (.val y)).set l (.val z))
  | .junk, _ => .bad
  | .newll i e, ρ => (denE φ gl e ρ).out ρ fun x => (ltD x).out ρ fun ds => .nx (ρ.set i (.own ds))
  | .asgX i el j it, ρ => ((cmpX (denI φ gl it ρ) fun d => denE φ gl el ((wipeE ρ [j]).set j (.val d))).bind fun x => biD .tuple [x]).out ρ fun d => .nx (ρ.set i (.val d))
def denSs : Ss → Env → O
  | .nil, ρ => .nx ρ
  | .cons s ss, ρ => (denS s ρ).then (denSs ss)
end
end

structure Fn where
  name : Str
  ps : List Str
  N : List Str
  body : Ss
  kind : Nat
  qual : Str
  ini : Es
structure Pg where
  fns : List Fn
  globs : List (Str × D)
  excs : List Str
  ycls : Str
  flds : List Str
def O.fin : O → R D
  | .nx _ => .ok .non
  | .ret d => .ok d
  | .exc c _ => .exc c
  | .bad => .bad
def Pg.gl (P : Pg) (g : Nat) : Option D := P.globs[g]?.map (·.2)
def env0 (N : List Str) (ds : List D) : Env := ds.map PV.val ++ List.replicate (N.length - ds.length) .un
def envI (N : List Str) (ds : List D) : Env := .un :: (ds.map PV.val ++ List.replicate (N.length - (ds.length + 1)) .un)
def iniD (φ : Nat → List D → R D) (gl : Nat → Option D) (fn : Fn) (m : Nat) (ds : List D) : R D :=
  if ds.length + 1 = fn.ps.length then (noX (denEs φ gl fn.ini (envI fn.N ds))).bind fun fs => if fs.length = m then .ok (.ins fs) else .bad else .bad
def interp (P : Pg) : Nat → Nat → List D → R D
  | 0, _, _ => .bad
  | n + 1, f, ds => match P.fns[f]? with
    | none => .bad
    | some fn => if fn.kind = 2 then (match n with | 0 => .bad | m + 1 => iniD (interp P m) P.gl fn P.flds.length ds) else if ds.length = fn.ps.length then (denSs (interp P n) P.gl fn.body (env0 fn.N ds)).fin else .bad
def iniF (P : Pg) (fn : Fn) : Nat → List D → R D
  | 0, _ => .bad
  | m + 1, ds => iniD (interp P m) P.gl fn P.flds.length ds
theorem interp_ini {P : Pg} {f : Nat} {fn : Fn} (h : P.fns[f]? = some fn) (hk : fn.kind = 2) (n : Nat) (ds : List D) : interp P (n + 1) f ds = iniF P fn n ds := by
  cases n with
  | zero => simp only [interp, h, hk, if_true, iniF]
  | succ m => simp only [interp, h, hk, if_true, iniF]
end RS

namespace RS
open PySem PySem.Spec PyProof.Rows L2
section
variable {X : Cx} {B : Bk} {W : WX}

theorem big_line : big < sizeLine := by rw [sizeLine_eq]; decide
theorem le_line {n : Nat} (h : n ≤ big) : n ≤ sizeLine := Nat.le_of_lt (Nat.lt_of_le_of_lt h big_line)

/-! ### inversion -/
theorem Rep.int_inv {Z : Hp} {v : V} {i : Int} (r : Rep B Z v (.int i)) : v = .int i := by cases r; rfl
theorem Rep.bl_inv {Z : Hp} {v : V} {i : Bool} (r : Rep B Z v (.bl i)) : v = .bl i := by cases r; rfl
theorem Rep.str_inv {Z : Hp} {v : V} {i : Str} (r : Rep B Z v (.str i)) : v = .str i := by cases r; rfl
theorem Rep.non_inv {Z : Hp} {v : V} (r : Rep B Z v .non) : v = .non := by cases r; rfl

/-! ### names, constants -/
theorem g_const {e : Expr} {v : V} {d : D} (h : PE X e (tC v)) (r : ∀ Z, Rep B Z v d) : PE X e (tE B W fun _ => .ok d) :=
  PE.of h fun H0 Z H σ ρ Q zh e p => p v H Z (.refl zh) (r Z)
theorem g_var {e : Expr} {i : Nat} (h : PE X e (tVar i)) : PE X e (tE B W fun ρ => match ρ[i]? with | some (.val d) => .ok d | _ => .bad) :=
  PE.of h fun H0 Z H σ ρ Q zh e p => by
    cases q : ρ[i]? with
    | none => rw [q] at p; exact p.elim
    | some y =>
      rw [q] at p
      cases y with
      | un => exact p.elim
      | own ds => exact p.elim
      | val d =>
        obtain ⟨v, h1, h2⟩ := e.val i d q
        exact ⟨v, h1, p v H Z (.refl zh) h2⟩

/-! ### operators by values -/
/-- r serves f on data -/
def Op2 (B : Bk) (r : R2) (f : D → D → R D) : Prop :=
  ∀ {Z H : Hp} {x y : V} {d e : D} {Q : VK} {W : WX} {σ : L2.St}, Same Z H → Rep B Z x d → Rep B Z y e → Post B W σ (relE B) Z H Q (f d e) → r x y H Q
theorem g_op {a b : Expr} {op : Operator} {pos : Pos} {r : R2} {f : D → D → R D} {δa δb : Env → R D} (ho : OpR X (binaryOp op) r) (hf : Op2 B r f) (ha : PE X a (tE B W δa)) (hb : PE X b (tE B W δb)) :
    PE X (.BinOp a op b pos) (tE B W fun ρ => (δa ρ).bind fun x => (δb ρ).bind fun y => f x y) :=
  PE.of (pe_op ho ha hb) fun H0 Z H σ ρ Q zh e p =>
    Sok.self.bind zh e p fun x v H1 Z1 s1 e1 r1 p1 =>
      Sok.self.bind s1.zh e1 p1 fun y u H2 Z2 s2 e2 r2 p2 => hf s2.zh (r1.mono s2.zz) r2 p2
theorem g_cmp {a b : Expr} {op : CmpOp} {pos : Pos} {r : R2} {f : D → D → R Bool} {δa δb : Env → R D} (ho : OpR X (compareOp op) r) (hf : Op2 B r fun x y => (f x y).bind fun k => .ok (.bl k)) (ha : PE X a (tE B W δa)) (hb : PE X b (tE B W δb)) (hm : behindInMarks op b = false) :
    PE X (.Compare a [op] [b] pos) (tE B W fun ρ => (δa ρ).bind fun x => (δb ρ).bind fun y => (f x y).bind fun k => .ok (.bl k)) :=
  PE.of (pe_cmpR ho ha hb hm) fun H0 Z H σ ρ Q zh e p =>
    Sok.self.bind zh e p fun x v H1 Z1 s1 e1 r1 p1 =>
      Sok.self.bind s1.zh e1 p1 fun y u H2 Z2 s2 e2 r2 p2 => hf s2.zh (r1.mono s2.zz) r2 p2
/-- a Bool's post as a value's -/
theorem Post.toV {σ : L2.St} {Z H : Hp} {Q : Bool → Hp → Prop} {r : R Bool} (p : Post B W σ relT Z H Q r) : Post B W σ (relE B) Z H (fun x H' => ∃ k, x = .bl k ∧ Q k H') (r.bind fun k => .ok (.bl k)) := by
  cases r with
  | ok b => exact fun v H' Z' s rv => ⟨b, rv.bl_inv, p b H' Z' s rfl⟩
  | exc c => exact p
  | bad => exact p
theorem g_cmpT {a b : Expr} {op : CmpOp} {pos : Pos} {r : R2} {f : D → D → R Bool} {δa δb : Env → R D} (ho : OpR X (compareOp op) r) (hf : Op2 B r fun x y => (f x y).bind fun k => .ok (.bl k)) (ha : PE X a (tE B W δa)) (hb : PE X b (tE B W δb)) (hm : behindInMarks op b = false) :
    PT X (.Compare a [op] [b] pos) (tT B W fun ρ => (δa ρ).bind fun x => (δb ρ).bind fun y => f x y) :=
  PT.of (pt_cmpR ho ha hb hm) fun H0 Z H σ ρ Q zh e p =>
    Sok.self.bind zh e p fun x v H1 Z1 s1 e1 r1 p1 =>
      Sok.self.bind s1.zh e1 p1 fun y u H2 Z2 s2 e2 r2 p2 => hf s2.zh (r1.mono s2.zz) r2 p2.toV

theorem op2_add : Op2 B (fun x y H Q => (∃ i j, x = .int i ∧ y = .int j ∧ Q (.int (i + j)) H) ∨ rCatA B.K x y H Q ∨ rCat x y H Q ∨ (∃ i j, x = .str i ∧ y = .str j ∧ i.length + j.length ≤ sizeLine ∧ Q (.str (i ++ j)) H)) (binD .add) := by
  intro Z H x y d e Q W σ zh rx ry p
  cases d with
  | int i =>
    cases e with
    | int j => rw [rx.int_inv, ry.int_inv]; exact .inl ⟨i, j, rfl, rfl, p _ H Z (.refl zh) (.int _)⟩
    | _ => exact p.elim
  | tup a =>
    cases e with
    | tup b =>
      simp only [binD] at p
      split at p
      · rename_i hl
        cases rx with
        | @tup pa xs _ ea ra =>
          cases ry with
          | @tup pb ys _ eb rb =>
            refine .inr (.inl ⟨pa, pb, xs, ys, rfl, rfl, .of (zh _ _ ea), .of (zh _ _ eb), by rw [ra.length, rb.length]; exact le_line hl, fun h => ?_, fun h h' => ?_, fun h h' q hq => ?_⟩)
            · subst h; cases ra; exact p _ H Z (.refl zh) (.tup eb rb)
            · subst h'; cases rb; exact p _ H Z (.refl zh) (.tup ea (by simpa using ra))
            · exact p _ _ _ (.new zh hq) (.tup upd_same ((ra.append rb).mono (same_upd (zh.free hq))))
      · exact p.elim
    | _ => exact p.elim
  | lst a =>
    cases e with
    | lst b =>
      simp only [binD] at p
      split at p
      · rename_i hl
        cases rx with
        | @lst pa xs _ ea ra =>
          cases ry with
          | @lst pb ys _ eb rb =>
            refine .inr (.inr (.inl ⟨pa, pb, xs, ys, rfl, rfl, zh _ _ ea, zh _ _ eb, by rw [ra.length, rb.length]; exact le_line hl, fun q hq => ?_⟩))
            exact p _ _ _ (.new zh hq) (.lst upd_same ((ra.append rb).mono (same_upd (zh.free hq))))
      · exact p.elim
    | _ => exact p.elim
  | str a =>
    cases e with
    | str b =>
      simp only [binD] at p
      split at p
      · rename_i hl
        rw [rx.str_inv, ry.str_inv]
        exact .inr (.inr (.inr ⟨a, b, rfl, rfl, le_line hl, p _ H Z (.refl zh) (.str _)⟩))
      · exact p.elim
    | _ => exact p.elim
  | _ => exact p.elim
theorem op2_sub : Op2 B (rI0 fun i j => .int (i - j)) (binD .sub) := by
  intro Z H x y d e Q W σ zh rx ry p
  cases d with
  | int i =>
    cases e with
    | int j => rw [rx.int_inv, ry.int_inv]; exact ⟨i, j, rfl, rfl, p _ H Z (.refl zh) (.int _)⟩
    | _ => exact p.elim
  | _ => exact p.elim
theorem op2_mul : Op2 B (fun x y H Q => rI CMul (fun i j => .int (i * j)) x y H Q ∨ rI CMulW (fun i j => .int (i * j)) x y H Q ∨ rRepT B.K x y H Q) (binD .mul) := by
  intro Z H x y d e Q W σ zh rx ry p
  cases d with
  | int i =>
    cases e with
    | int j =>
      rw [rx.int_inv, ry.int_inv]
      simp only [binD] at p
      split at p
      · rename_i hl
        simp only [mulOk, Bool.or_eq_true, decide_eq_true_eq] at hl
        have q := p _ H Z (.refl zh) (.int _)
        rcases hl with (hl | hl) | hl
        · exact .inl ⟨i, j, rfl, rfl, .inl ⟨by omega, by omega⟩, q⟩
        · exact .inl ⟨i, j, rfl, rfl, .inr ⟨by omega, by omega⟩, q⟩
        · exact .inr (.inl ⟨i, j, rfl, rfl, hl, q⟩)
      · exact p.elim
    | _ => exact p.elim
  | tup a =>
    cases e with
    | int j =>
      simp only [binD] at p
      split at p
      · rename_i hl
        simp only [Bool.and_eq_true, decide_eq_true_eq, Bool.not_eq_true', List.isEmpty_eq_false_iff] at hl
        obtain ⟨⟨⟨h1, h2⟩, h3⟩, h4⟩ := hl
        rw [ry.int_inv]
        cases rx with
        | @tup pa xs _ ea ra =>
          refine .inr (.inr ⟨pa, j, xs, rfl, rfl, .of (zh _ _ ea), ?_, h2, h3, by rw [ra.length]; exact h4, fun q hq => ?_⟩)
          · rintro rfl; cases ra; exact h1 rfl
          · exact p _ _ _ (.new zh hq) (.tup upd_same ((ra.rep _).mono (same_upd (zh.free hq))))
      · exact p.elim
    | _ => exact p.elim
  | _ => exact p.elim
theorem op2_fdiv : Op2 B (rI CDivW fun i j => .int (i / j)) (binD .fdiv) := by
  intro Z H x y d e Q W σ zh rx ry p
  cases d with
  | int i =>
    cases e with
    | int j =>
      rw [rx.int_inv, ry.int_inv]
      simp only [binD] at p
      split at p
      · rename_i hl
        simp only [Bool.and_eq_true, decide_eq_true_eq] at hl
        exact ⟨i, j, rfl, rfl, hl, p _ H Z (.refl zh) (.int _)⟩
      · exact p.elim
    | _ => exact p.elim
  | _ => exact p.elim
theorem op2_mod : Op2 B (rI (fun _ j => 0 < j) fun i j => .int (i % j)) (binD .mod) := by
  intro Z H x y d e Q W σ zh rx ry p
  cases d with
  | int i =>
    cases e with
    | int j =>
      rw [rx.int_inv, ry.int_inv]
      simp only [binD] at p
      split at p
      · rename_i hl
        exact ⟨i, j, rfl, rfl, hl, p _ H Z (.refl zh) (.int _)⟩
      · exact p.elim
    | _ => exact p.elim
  | _ => exact p.elim
theorem op2_pow : Op2 B (rI CPow fun i j => .int (i ^ j.toNat)) (binD .pow) := by
  intro Z H x y d e Q W σ zh rx ry p
  cases d with
  | int i =>
    cases e with
    | int j =>
      rw [rx.int_inv, ry.int_inv]
      simp only [binD] at p
      split at p
      · rename_i hl
        simp only [Bool.and_eq_true, decide_eq_true_eq] at hl
        exact ⟨i, j, rfl, rfl, ⟨hl.1.1, hl.1.2, hl.2⟩, p _ H Z (.refl zh) (.int _)⟩
      · exact p.elim
    | _ => exact p.elim
  | _ => exact p.elim
def bopOp : Bop → Operator
  | .add => .Add | .sub => .Sub | .mul => .Mult | .fdiv => .FloorDiv | .mod => .Mod | .pow => .Pow
theorem g_bin (hK : X.K = B.K) {a b : Expr} {pos : Pos} {δa δb : Env → R D} (o : Bop) (ha : PE X a (tE B W δa)) (hb : PE X b (tE B W δb)) :
    PE X (.BinOp a (bopOp o) b pos) (tE B W fun ρ => (δa ρ).bind fun x => (δb ρ).bind fun y => binD o x y) := by
  cases o with
  | add => exact g_op (OpR.or op_add (OpR.or op_catA (OpR.or op_cat op_add_str))) (by rw [hK]; exact op2_add) ha hb
  | sub => exact g_op op_sub op2_sub ha hb
  | mul => exact g_op (OpR.or op_mul (OpR.or op_mulW op_repT)) (by rw [hK]; exact op2_mul) ha hb
  | fdiv => exact g_op op_fdivW op2_fdiv ha hb
  | mod => exact g_op op_mod op2_mod ha hb
  | pow => exact g_op op_pow op2_pow ha hb

/-! ### comparisons -/
mutual
theorem Rep.dp {Z : Hp} : ∀ (d : D) (v : V), Rep B Z v d → SeqAt.shaped (toP d) = true ∨ (toP d).canLay0 = true → Dp B.K Z v (toP d)
  | .non, _, r, _ => by cases r; exact .non
  | .bl b, _, r, _ => by cases r; exact .bl b
  | .int i, _, r, _ => by cases r; exact .int i
  | .str s, _, r, _ => by cases r; exact .str s
  | .lst ds, _, r, h => by
    cases r with
    | lst e r => exact .lst (.of e) (Reps.dp ds _ r (by
        have h' : (toP (.lst ds)).canLay0 = true := by rcases h with h | h; exact SeqAt.canLay_of_shaped h; exact h
        simpa [toP, PyData.canLay0] using h'))
  | .tup ds, _, r, h => by
    cases r with
    | tup e r => exact .tup (.of e) (Reps.dp ds _ r (by
        have h' : (toP (.tup ds)).canLay0 = true := by rcases h with h | h; exact SeqAt.canLay_of_shaped h; exact h
        simpa [toP, PyData.canLay0] using h'))
  | .ins ds, _, _, h => by
    have h' : (toP (.ins ds)).canLay0 = true := by rcases h with h | h; exact SeqAt.canLay_of_shaped h; exact h
    simp [toP, PyData.canLay0] at h'
  | .scr ds, _, _, h => by
    have h' : (toP (.scr ds)).canLay0 = true := by rcases h with h | h; exact SeqAt.canLay_of_shaped h; exact h
    simp [toP, PyData.canLay0] at h'
theorem Reps.dp {Z : Hp} : ∀ (ds : List D) (vs : List V), Reps B Z vs ds → PyData.canLayAll0 (toPs ds) = true → DpAll B.K Z vs (toPs ds)
  | [], _, r, _ => by cases r; exact .nil
  | d :: ds, _, r, h => by
    cases r with
    | cons r t =>
      have h' : (toP d).canLay0 = true ∧ PyData.canLayAll0 (toPs ds) = true := by simpa [toPs, PyData.canLayAll0] using h
      exact .cons (Rep.dp d _ r (.inr h'.1)) (Reps.dp ds _ t h'.2)
end
theorem flat_rep {Z : Hp} {v w : V} {d : D} (r : Rep B Z v d) (h : flatD d = some w) : v = w ∧ flatV w = true := by
  cases r <;> simp [flatD] at h <;> subst h <;> exact ⟨rfl, rfl⟩
theorem flats_rep {Z : Hp} : ∀ {ds : List D} {vs ws : List V}, Reps B Z vs ds → ds.mapM flatD = some ws → vs = ws ∧ ws.all flatV = true
  | [], _, _, .nil, h => by simp at h; subst h; exact ⟨rfl, rfl⟩
  | d :: ds, _, ws, .cons r t, h => by
    rw [List.mapM_cons] at h
    cases e1 : flatD d with
    | none => simp [e1] at h
    | some w =>
      cases e2 : ds.mapM flatD with
      | none => simp [e1, e2] at h
      | some ws' =>
        simp [e1, e2] at h
        subst h
        obtain ⟨a, b⟩ := flat_rep r e1
        obtain ⟨c, d'⟩ := flats_rep t e2
        subst a c
        exact ⟨rfl, by simpa [b] using d'⟩
theorem same_dp {K : PySem.W.Frag} {Z H : Hp} (h : Same Z H) : ∀ {v : V} {d : PyData}, Dp K Z v d → Dp K H v d := fun r => go h _ _ r
where
  seqT {K : PySem.W.Frag} {H H' : Hp} {a : Addr} {xs : List V} (e : Same H H') (h : SqT K H a xs) : SqT K H' a xs := by
    rcases h with (h | ⟨o, h⟩) | h
    · exact .inl (.inl (e _ _ h))
    · exact .inl (.inr ⟨o, e _ _ h⟩)
    · exact .inr h
  go {K : PySem.W.Frag} {Z H : Hp} (h : Same Z H) : ∀ (d : PyData) (v : V), Dp K Z v d → Dp K H v d
    | .none, _, r => by cases r; exact .non
    | .bool _, _, r => by cases r; exact .bl _
    | .int _, _, r => by cases r; exact .int _
    | .str _, _, r => by cases r; exact .str _
    | .list ds, _, r => by cases r with | lst e r => exact .lst (h.seq e) (goAll h ds _ r)
    | .tuple ds, _, r => by cases r with | tup e r => exact .tup (seqT h e) (goAll h ds _ r)
    | .dict _, _, r => by cases r
  goAll {K : PySem.W.Frag} {Z H : Hp} (h : Same Z H) : ∀ (ds : List PyData) (vs : List V), DpAll K Z vs ds → DpAll K H vs ds
    | [], _, r => by cases r; exact .nil
    | d :: ds, _, r => by cases r with | cons r t => exact .cons (go h d _ r) (goAll h ds _ t)
def copOp : Cop → CmpOp
  | .lt => .Lt | .le => .LtE | .gt => .Gt | .ge => .GtE | .eq => .Eq | .ne => .NotEq | .is => .Is | .isnot => .IsNot | .inn => .In | .notin => .NotIn
abbrev boolR (f : D → D → R Bool) : D → D → R D := fun x y => (f x y).bind fun k => .ok (.bl k)
theorem op2_cmpI {o : Cop} {p : Int → Int → Bool} (h : ∀ d e, cmpD o d e = match d, e with | .int i, .int j => .ok (p i j) | _, _ => .bad) : Op2 B (rI0 fun i j => .bl (p i j)) (boolR (cmpD o)) := by
  intro Z H x y d e Q W σ zh rx ry q
  simp only [boolR, h] at q
  cases d with
  | int i =>
    cases e with
    | int j => rw [rx.int_inv, ry.int_inv]; exact ⟨i, j, rfl, rfl, q _ H Z (.refl zh) (.bl _)⟩
    | _ => exact q.elim
  | _ => exact q.elim
theorem op2_eq : Op2 B (rEqD B.K) (boolR (cmpD .eq)) := by
  intro Z H x y d e Q W σ zh rx ry q
  have hq : Post B W σ (relE B) Z H Q ((if (shp d && shp e) = true then R.ok (PyData.eqv (toP d) (toP e)) else R.bad).bind fun k => .ok (.bl k)) := by
    revert q; cases d <;> cases e <;> exact fun q => q
  by_cases hs : (shp d && shp e) = true
  · rw [if_pos hs] at hq
    obtain ⟨h1, h2⟩ := Bool.and_eq_true_iff.mp hs
    exact ⟨toP d, toP e, same_dp zh (Rep.dp d x rx (.inl h1)), same_dp zh (Rep.dp e y ry (.inl h2)), h1, h2, hq _ H Z (.refl zh) (.bl _)⟩
  · rw [if_neg hs] at hq; exact hq.elim
theorem op2_ne : Op2 B (rNeD B.K) (boolR (cmpD .ne)) := by
  intro Z H x y d e Q W σ zh rx ry q
  have hq : Post B W σ (relE B) Z H Q ((if (shp d && shp e) = true then R.ok (!PyData.eqv (toP d) (toP e)) else R.bad).bind fun k => .ok (.bl k)) := by
    revert q; cases d <;> cases e <;> exact fun q => q
  by_cases hs : (shp d && shp e) = true
  · rw [if_pos hs] at hq
    obtain ⟨h1, h2⟩ := Bool.and_eq_true_iff.mp hs
    exact ⟨toP d, toP e, same_dp zh (Rep.dp d x rx (.inl h1)), same_dp zh (Rep.dp e y ry (.inl h2)), h1, h2, hq _ H Z (.refl zh) (.bl _)⟩
  · rw [if_neg hs] at hq; exact hq.elim
theorem op2_is : Op2 B (fun x y H Q => (y = .non ∧ Q (.bl (decide (x = .non))) H) ∨ rIsB x y H Q) (boolR (cmpD .is)) := by
  intro Z H x y d e Q W σ zh rx ry q
  cases e with
  | non =>
    refine .inl ⟨ry.non_inv, ?_⟩
    have := q (.bl (decide (x = .non))) H Z (.refl zh)
    refine this ?_
    cases rx <;> exact .bl _
  | bl b =>
    cases d with
    | bl a => exact .inr ⟨a, b, rx.bl_inv, ry.bl_inv, q _ H Z (.refl zh) (.bl _)⟩
    | _ => exact q.elim
  | _ => revert q; cases d <;> exact fun q => q.elim
theorem op2_isnot : Op2 B (fun x y H Q => (y = .non ∧ Q (.bl (!decide (x = .non))) H) ∨ rNotB x y H Q) (boolR (cmpD .isnot)) := by
  intro Z H x y d e Q W σ zh rx ry q
  cases e with
  | non =>
    refine .inl ⟨ry.non_inv, ?_⟩
    have := q (.bl (!decide (x = .non))) H Z (.refl zh)
    refine this ?_
    cases rx <;> exact .bl _
  | bl b =>
    cases d with
    | bl a => exact .inr ⟨a, b, rx.bl_inv, ry.bl_inv, q _ H Z (.refl zh) (.bl _)⟩
    | _ => exact q.elim
  | _ => revert q; cases d <;> exact fun q => q.elim
theorem in_deep {Z H : Hp} {x y : V} {d e : D} {ds : List D} {W : WX} {σ : L2.St} {Q : VK} {neg : Bool} (rx : Rep B Z x d) (ry : Rep B Z y e) (q : Post B W σ (relE B) Z H Q ((inD d e ds).bind fun b => .ok (.bl (if neg then !b else b)))) (zh : Same Z H) :
    Dp B.K H x (toP d) ∧ Dp B.K H y (toP e) ∧ SeqAt.shaped (toP d) = true ∧ SeqAt.shaped (toP e) = true ∧ Q (.bl (if neg then !((toPs ds).any fun z => PyData.eqv z (toP d)) else ((toPs ds).any fun z => PyData.eqv z (toP d)))) H := by
  unfold inD at q
  by_cases hs : (shp d && shp e) = true
  · rw [if_pos hs] at q
    obtain ⟨h1, h2⟩ := Bool.and_eq_true_iff.mp hs
    exact ⟨same_dp zh (Rep.dp d x rx (.inl h1)), same_dp zh (Rep.dp e y ry (.inl h2)), h1, h2, q _ H Z (.refl zh) (.bl _)⟩
  · rw [if_neg hs] at q; exact q.elim
theorem op2_in : Op2 B (fun x y H Q => rInD B.K x y H Q ∨ rInT B.K x y H Q ∨ (∃ i j, x = .str i ∧ y = .str j ∧ Q (.bl (!(Builtin.Str.occurrences j i 0 j.length 1).isEmpty)) H)) (boolR (cmpD .inn)) := by
  intro Z H x y d e Q W σ zh rx ry q
  cases e with
  | lst ds =>
    have q' : Post B W σ (relE B) Z H Q ((inD d (.lst ds) ds).bind fun b => .ok (.bl (if false = true then !b else b))) := by
      revert q; simp only [boolR]; cases d <;> exact fun q => q
    obtain ⟨h1, h2, h3, h4, h5⟩ := in_deep rx ry q' zh
    exact .inl ⟨_, _, h1, h2, h3, h4, h5⟩
  | tup ds =>
    have q' : Post B W σ (relE B) Z H Q ((inD d (.tup ds) ds).bind fun b => .ok (.bl (if false = true then !b else b))) := by
      revert q; simp only [boolR]; cases d <;> exact fun q => q
    obtain ⟨h1, h2, h3, h4, h5⟩ := in_deep rx ry q' zh
    exact .inr (.inl ⟨_, _, h1, h2, h3, h4, h5⟩)
  | str b =>
    cases d with
    | str a =>
      rw [rx.str_inv, ry.str_inv]
      exact .inr (.inr ⟨a, b, rfl, rfl, q _ H Z (.refl zh) (.bl _)⟩)
    | _ => exact q.elim
  | _ => revert q; cases d <;> exact fun q => q.elim
theorem op2_notin : Op2 B (fun x y H Q => rNotInD B.K x y H Q ∨ rNotInT B.K x y H Q ∨ (∃ i j, x = .str i ∧ y = .str j ∧ Q (.bl (!(!(Builtin.Str.occurrences j i 0 j.length 1).isEmpty))) H)) (boolR (cmpD .notin)) := by
  intro Z H x y d e Q W σ zh rx ry q
  cases e with
  | lst ds =>
    have q' : Post B W σ (relE B) Z H Q ((inD d (.lst ds) ds).bind fun b => .ok (.bl (if true = true then !b else b))) := by
      revert q; simp only [boolR]
      have : ∀ d, cmpD .notin d (.lst ds) = (inD d (.lst ds) ds).bind fun b => .ok (!b) := fun d => by cases d <;> rfl
      rw [this]
      cases inD d (.lst ds) ds <;> exact fun q => q
    obtain ⟨h1, h2, h3, h4, h5⟩ := in_deep rx ry q' zh
    exact .inl ⟨_, _, h1, h2, h3, h4, h5⟩
  | tup ds =>
    have q' : Post B W σ (relE B) Z H Q ((inD d (.tup ds) ds).bind fun b => .ok (.bl (if true = true then !b else b))) := by
      revert q; simp only [boolR]
      have : ∀ d, cmpD .notin d (.tup ds) = (inD d (.tup ds) ds).bind fun b => .ok (!b) := fun d => by cases d <;> rfl
      rw [this]
      cases inD d (.tup ds) ds <;> exact fun q => q
    obtain ⟨h1, h2, h3, h4, h5⟩ := in_deep rx ry q' zh
    exact .inr (.inl ⟨_, _, h1, h2, h3, h4, h5⟩)
  | str b =>
    cases d with
    | str a =>
      rw [rx.str_inv, ry.str_inv]
      exact .inr (.inr ⟨a, b, rfl, rfl, q _ H Z (.refl zh) (.bl _)⟩)
    | _ => exact q.elim
  | _ => revert q; cases d <;> exact fun q => q.elim
/-- each comparison has a rule that serves it -/
theorem op_cop (hK : X.K = B.K) (hu : X.A.units + 65 < cLine) (o : Cop) : ∃ r, OpR X (compareOp (copOp o)) r ∧ Op2 B r (boolR (cmpD o)) := by
  cases o with
  | lt => exact ⟨_, op_lt, op2_cmpI (p := fun i j => decide (i < j)) fun d e => by cases d <;> cases e <;> rfl⟩
  | le => exact ⟨_, op_le, op2_cmpI (p := fun i j => decide (i ≤ j)) fun d e => by cases d <;> cases e <;> rfl⟩
  | gt => exact ⟨_, op_gt, op2_cmpI (p := fun i j => decide (j < i)) fun d e => by cases d <;> cases e <;> rfl⟩
  | ge => exact ⟨_, op_ge, op2_cmpI (p := fun i j => decide (j ≤ i)) fun d e => by cases d <;> cases e <;> rfl⟩
  | eq => exact ⟨_, op_eqD (by omega), by rw [hK]; exact op2_eq⟩
  | ne => exact ⟨_, op_neD (by omega), by rw [hK]; exact op2_ne⟩
  | is => exact ⟨_, OpR.or op_isN op_isBl, op2_is⟩
  | isnot => exact ⟨_, OpR.or op_notN op_notBl, op2_isnot⟩
  | inn => exact ⟨_, OpR.or (op_inD hu) (OpR.or (op_inT hu) op_in_str), by rw [hK]; exact op2_in⟩
  | notin => exact ⟨_, OpR.or (op_notInD hu) (OpR.or (op_notInT hu) op_notIn_str), by rw [hK]; exact op2_notin⟩
end
end RS

namespace RS
open PySem PySem.Spec PyProof.Rows L2
section
variable {X : Cx} {B : Bk} {W : WX}

theorem isEmpty_len {α β : Type} {l : List α} {m : List β} (h : l.length = m.length) : l.isEmpty = m.isEmpty := by
  cases l <;> cases m <;> simp_all
/-! ### one operand -/
theorem g_un {a : Expr} {op : UnaryOp} {pos : Pos} {r : V → Hp → VK → Prop} {f : D → R D} {δ : Env → R D} (ho : UnR X (unaryOp op) r)
    (hf : ∀ {Z H : Hp} {x : V} {d : D} {Q : VK} {W : WX} {σ : L2.St}, Same Z H → Rep B Z x d → Post B W σ (relE B) Z H Q (f d) → r x H Q) (ha : PE X a (tE B W δ)) : PE X (.UnaryOp op a pos) (tE B W fun ρ => (δ ρ).bind f) :=
  PE.of (pe_un ho ha) fun H0 Z H σ ρ Q zh e p => Sok.self.bind zh e p fun x v H1 Z1 s1 e1 r1 p1 => hf s1.zh r1 p1
theorem g_neg {a : Expr} {pos : Pos} {δ : Env → R D} (ha : PE X a (tE B W δ)) : PE X (.UnaryOp .USub a pos) (tE B W fun ρ => (δ ρ).bind negD) :=
  g_un un_neg (fun {Z H x d Q W σ} zh r p => by
    cases d with
    | int i => rw [r.int_inv]; exact ⟨i, rfl, p _ H Z (.refl zh) (.int _)⟩
    | _ => exact p.elim) ha
/-! ### tests -/
theorem tru_rep (hK : X.K = B.K) {Z H : Hp} {x : V} {d : D} {σ : L2.St} {Q : Bool → Hp → Prop} (zh : Same Z H) (r : Rep B Z x d) (p : Post B W σ relT Z H Q (truD d)) : ∃ k, TruV X.K x H k ∧ Q k H := by
  cases r with
  | non => exact ⟨false, rfl, p _ H Z (.refl zh) rfl⟩
  | bl b => exact ⟨b, rfl, p _ H Z (.refl zh) rfl⟩
  | int i => exact ⟨_, rfl, p _ H Z (.refl zh) rfl⟩
  | str s =>
    simp only [truD] at p
    split at p
    · rename_i h; exact ⟨_, ⟨le_line h, rfl⟩, p _ H Z (.refl zh) rfl⟩
    · exact p.elim
  | @lst a xs ds e r =>
    refine ⟨!xs.isEmpty, .inl ⟨xs, .of (zh _ _ e), rfl⟩, ?_⟩
    have : xs.isEmpty = ds.isEmpty := isEmpty_len r.length
    rw [this]; exact p _ H Z (.refl zh) rfl
  | @tup a xs ds e r =>
    refine ⟨!xs.isEmpty, .inr (.inl ⟨xs, .of (zh _ _ e), rfl⟩), ?_⟩
    have : xs.isEmpty = ds.isEmpty := isEmpty_len r.length
    rw [this]; exact p _ H Z (.refl zh) rfl
  | ins e f r => exact p.elim
  | scr e => exact p.elim
theorem g_not (hK : X.K = B.K) {a : Expr} {pos : Pos} {δ : Env → R D} (ha : PE X a (tE B W δ)) : PE X (.UnaryOp .Not a pos) (tE B W fun ρ => (δ ρ).bind notD) :=
  PE.of (pe_notT ha) fun H0 Z H σ ρ Q zh e p => Sok.self.bind zh e p fun x v H1 Z1 s1 e1 r1 p1 => by
    refine tru_rep (W := W) (σ := σ) (Q := fun k H' => Q (.bl (!k)) H') hK s1.zh r1 ?_
    unfold notD at p1
    cases q : truD x with
    | bad => rw [q] at p1; exact p1.elim
    | exc c => rw [q] at p1; exact p1
    | ok k =>
      rw [q] at p1
      intro b H' Z' s' hb
      have hb : b = k := hb
      subst hb; exact p1 _ H' Z' s' (.bl _)
theorem g_tr (hK : X.K = B.K) {a : Expr} {δ : Env → R D} (ha : PE X a (tE B W δ)) (he : ∀ whole, isTrue a X.env whole = (do let v ← whole; standAt a.pos; holding [v] (truthy v))) : PT X a (tT B W fun ρ => (δ ρ).bind truD) :=
  PT.of (pt_truth ha he) fun H0 Z H σ ρ Q zh e p => Sok.self.bind zh e p fun x v H1 Z1 s1 e1 r1 p1 => tru_rep hK s1.zh r1 p1
theorem g_otr (hK : X.K = B.K) {a : Expr} {i : Nat} (ha : PE X a (tVar i)) (he : ∀ whole, isTrue a X.env whole = (do let v ← whole; standAt a.pos; holding [v] (truthy v))) :
    PT X a (tT B W fun ρ => match ρ[i]? with | some (.own ds) => .ok (!ds.isEmpty) | _ => .bad) :=
  PT.of (pt_truth ha he) fun H0 Z H σ ρ Q zh e p => by
    cases q : ρ[i]? with
    | none => rw [q] at p; exact p.elim
    | some y =>
      rw [q] at p
      cases y with
      | un => exact p.elim
      | val d => exact p.elim
      | own ds =>
        obtain ⟨a', xs, h1, h2, h3, h4, h5⟩ := e.own i ds q
        refine ⟨_, h1, !xs.isEmpty, .inl ⟨xs, .of h4, rfl⟩, ?_⟩
        have : xs.isEmpty = ds.isEmpty := isEmpty_len h5.length
        rw [this]; exact p _ H Z (.refl zh) rfl
theorem g_notT {a : Expr} {pos : Pos} {δ : Env → R Bool} (ha : PT X a (tT B W δ)) : PT X (.UnaryOp .Not a pos) (tT B W fun ρ => (δ ρ).bind fun b => .ok (!b)) :=
  PT.of (pt_not ha) fun H0 Z H σ ρ Q zh e p => Sok.self.bind zh e p fun x v H1 Z1 s1 e1 r1 p1 => by
    subst r1; exact p1 _ H1 Z1 (.refl s1.zh) rfl
theorem g_and1 {a : Expr} {pos : Pos} {k : Bool} {op : BoolOp} (ho : op = if k then .And else .Or) {δ : Env → R Bool} (ha : PT X a (tT B W δ)) : PW X (.BoolOp op [a] pos) (tT B W fun ρ => (δ ρ).bind fun c => if c = k then .ok k else .ok c) := by
  have key : Sok B W relT (tT B W δ) (fun ρ => (δ ρ).bind fun c => if c = k then .ok k else .ok c) := fun H0 Z H σ ρ Q zh e p =>
    Sok.self.bind zh e p fun x v H1 Z1 s1 e1 r1 p1 => by
      subst r1
      by_cases h : v = k
      · rw [if_pos h] at p1; exact p1 _ H1 Z1 (.refl s1.zh) h
      · rw [if_neg h] at p1; exact p1 _ H1 Z1 (.refl s1.zh) rfl
  subst ho
  cases k with
  | true => exact PW.of (pw_and1 ha) key
  | false => exact PW.of (pw_or1 ha) key
theorem g_andC {a b : Expr} {rest : List Expr} {pos : Pos} {k : Bool} {op : BoolOp} (ho : op = if k then .And else .Or) {δ δ' : Env → R Bool} (ha : PT X a (tT B W δ)) (hb : PW X (.BoolOp op (b :: rest) pos) (tT B W δ')) :
    PW X (.BoolOp op (a :: b :: rest) pos) (tT B W fun ρ => (δ ρ).bind fun c => if c = k then δ' ρ else .ok c) := by
  subst ho
  cases k with
  | true =>
    refine PW.of (pw_and ha hb) fun H0 Z H σ ρ Q zh e p => Sok.self.bind zh e p fun x v H1 Z1 s1 e1 r1 p1 => ?_
    subst r1
    by_cases h : v = true
    · rw [if_pos h] at p1 ⊢; exact ⟨H0, Z1, ρ, s1.zh, e1, p1⟩
    · rw [if_neg h] at p1 ⊢; exact p1 _ H1 Z1 (.refl s1.zh) (by simpa using h)
  | false =>
    refine PW.of (pw_or ha hb) fun H0 Z H σ ρ Q zh e p => Sok.self.bind zh e p fun x v H1 Z1 s1 e1 r1 p1 => ?_
    subst r1
    by_cases h : v = true
    · rw [if_neg (by simp [h])] at p1; rw [if_pos h]; exact p1 _ H1 Z1 (.refl s1.zh) (by simpa using h)
    · rw [if_pos (by simpa using h)] at p1; rw [if_neg h]; exact ⟨H0, Z1, ρ, s1.zh, e1, p1⟩
/-- as a value -/
theorem g_bopC {a b : Expr} {rest : List Expr} {pos : Pos} {k : Bool} {op : BoolOp} (ho : op = if k then .And else .Or) {δ δ' : Env → R D} (ha : PE X a (tE B W δ)) (hb : PE X (.BoolOp op (b :: rest) pos) (tE B W δ')) :
    PE X (.BoolOp op (a :: b :: rest) pos) (tE B W fun ρ => (δ ρ).bind fun x => match x with | .bl c => if c = k then δ' ρ else .ok (.bl c) | _ => .bad) := by
  subst ho
  cases k with
  | true =>
    refine PE.of (pe_and ha hb) fun H0 Z H σ ρ Q zh e p => Sok.self.bind zh e p fun x v H1 Z1 s1 e1 r1 p1 => ?_
    cases x with
    | bl c =>
      refine ⟨c, r1.bl_inv, ?_⟩
      by_cases h : c = true
      · rw [if_pos h]; simp only [if_pos h] at p1; exact ⟨H0, Z1, ρ, s1.zh, e1, p1⟩
      · rw [if_neg h]; simp only [if_neg h] at p1; exact p1 _ H1 Z1 (.refl s1.zh) (by cases c; exact .bl _; exact absurd rfl h)
    | _ => exact p1.elim
  | false =>
    refine PE.of (pe_or ha hb) fun H0 Z H σ ρ Q zh e p => Sok.self.bind zh e p fun x v H1 Z1 s1 e1 r1 p1 => ?_
    cases x with
    | bl c =>
      refine ⟨c, r1.bl_inv, ?_⟩
      by_cases h : c = true
      · rw [if_pos h]; simp only [h] at p1; exact p1 _ H1 Z1 (.refl s1.zh) (.bl _)
      · rw [if_neg h]; simp only [if_pos (show c = false by simpa using h)] at p1; exact ⟨H0, Z1, ρ, s1.zh, e1, p1⟩
    | _ => exact p1.elim
theorem g_ite {c a b : Expr} {pos : Pos} {δc : Env → R Bool} {δa δb : Env → R D} (hc : PT X c (tT B W δc)) (ha : PE X a (tE B W δa)) (hb : PE X b (tE B W δb)) :
    PE X (.IfExp c a b pos) (tE B W fun ρ => (δc ρ).bind fun k => if k = true then δa ρ else δb ρ) :=
  PE.of (pe_ifExp hc ha hb) fun H0 Z H σ ρ Q zh e p => Sok.self.bind zh e p fun x v H1 Z1 s1 e1 r1 p1 => by
    subst r1
    by_cases h : v = true
    · rw [if_pos h] at p1 ⊢; exact ⟨H0, Z1, ρ, s1.zh, e1, p1⟩
    · rw [if_neg h] at p1 ⊢; exact ⟨H0, Z1, ρ, s1.zh, e1, p1⟩
theorem g_chain (hK : X.K = B.K) (hu : X.A.units + 65 < cLine) {a b c : Expr} {pos : Pos} {o o2 : Cop} {δa δb δc : Env → R D} (ha : PE X a (tE B W δa)) (hb : PE X b (tE B W δb)) (hc : PE X c (tE B W δc))
    (rule : ∀ (r r' : R2), OpR X (compareOp (copOp o)) r → OpR X (compareOp (copOp o2)) r' → PE X (.Compare a [copOp o, copOp o2] [b, c] pos) (tChain r r' (tE B W δa) (tE B W δb) (tE B W δc))) :
    PE X (.Compare a [copOp o, copOp o2] [b, c] pos) (tE B W fun ρ => (δa ρ).bind fun x => (δb ρ).bind fun y => (cmpD o x y).bind fun k => if k = true then (δc ρ).bind fun z => (cmpD o2 y z).bind fun k => .ok (.bl k) else .ok (.bl false)) := by
  obtain ⟨r, h1, h2⟩ := op_cop (X := X) hK hu o
  obtain ⟨r', h3, h4⟩ := op_cop (X := X) hK hu o2
  refine PE.of (rule r r' h1 h3) fun H0 Z H σ ρ Q zh e p => Sok.self.bind zh e p fun x v H1 Z1 s1 e1 r1 p1 => Sok.self.bind s1.zh e1 p1 fun y u H2 Z2 s2 e2 r2 p2 => ?_
  refine h2 (W := W) (σ := σ) s2.zh (r1.mono s2.zz) r2 ?_
  cases q : cmpD o x y with
  | bad => rw [q] at p2; exact p2.elim
  | exc c => rw [q] at p2; simp only [boolR, q]; exact p2
  | ok k =>
    rw [q] at p2
    simp only [boolR, q]
    intro w H3 Z3 s3 r3
    refine ⟨k, r3.bl_inv, ?_⟩
    simp only [R.ok_bind] at p2
    by_cases hk : k = true
    · rw [if_pos hk] at p2 ⊢
      exact Sok.self.bind s3.zh (e2.step s3) (p2.step s3) fun z u' H4 Z4 s4 e4 r4 p4 => h4 s4.zh ((r2.mono s3.zz).mono s4.zz) r4 p4
    · rw [if_neg hk] at p2 ⊢
      exact p2 _ _ _ s3 (.bl _)

theorem g_chainT (hK : X.K = B.K) (hu : X.A.units + 65 < cLine) {a b c : Expr} {pos : Pos} {o o2 : Cop} {δa δb δc : Env → R D}
    (rule : ∀ (r r' : R2), OpR X (compareOp (copOp o)) r → OpR X (compareOp (copOp o2)) r' → PT X (.Compare a [copOp o, copOp o2] [b, c] pos) (tTest (tChain r r' (tE B W δa) (tE B W δb) (tE B W δc)))) :
    PT X (.Compare a [copOp o, copOp o2] [b, c] pos) (tT B W fun ρ => (δa ρ).bind fun x => (δb ρ).bind fun y => (cmpD o x y).bind fun k => if k = true then (δc ρ).bind fun z => cmpD o2 y z else .ok false) := by
  obtain ⟨r, h1, h2⟩ := op_cop (X := X) hK hu o
  obtain ⟨r', h3, h4⟩ := op_cop (X := X) hK hu o2
  refine PT.of (rule r r' h1 h3) fun H0 Z H σ ρ Q zh e p => Sok.self.bind zh e p fun x v H1 Z1 s1 e1 r1 p1 => Sok.self.bind s1.zh e1 p1 fun y u H2 Z2 s2 e2 r2 p2 => ?_
  refine h2 (W := W) (σ := σ) s2.zh (r1.mono s2.zz) r2 ?_
  cases q : cmpD o x y with
  | bad => rw [q] at p2; exact p2.elim
  | exc c => rw [q] at p2; simp only [boolR, q]; exact p2
  | ok k =>
    rw [q] at p2
    simp only [boolR, q]
    intro w H3 Z3 s3 r3
    refine ⟨k, r3.bl_inv, ?_⟩
    simp only [R.ok_bind] at p2
    by_cases hk : k = true
    · rw [if_pos hk] at p2 ⊢
      exact Sok.self.bind s3.zh (e2.step s3) (p2.step s3) fun z u' H4 Z4 s4 e4 r4 p4 => h4 s4.zh ((r2.mono s3.zz).mono s4.zz) r4 p4.toV
    · rw [if_neg hk] at p2 ⊢
      exact ⟨false, rfl, p2 _ _ _ s3 rfl⟩

theorem g_chain3T (hK : X.K = B.K) (hu : X.A.units + 65 < cLine) {a b c d : Expr} {pos : Pos} {o o2 o3 : Cop} {δa δb δc δd : Env → R D}
    (rule : ∀ (r r' r'' : R2), OpR X (compareOp (copOp o)) r → OpR X (compareOp (copOp o2)) r' → OpR X (compareOp (copOp o3)) r'' → PT X (.Compare a [copOp o, copOp o2, copOp o3] [b, c, d] pos) (tTest (tChain3 r r' r'' (tE B W δa) (tE B W δb) (tE B W δc) (tE B W δd)))) :
    PT X (.Compare a [copOp o, copOp o2, copOp o3] [b, c, d] pos) (tT B W fun ρ => (δa ρ).bind fun x => (δb ρ).bind fun y => (cmpD o x y).bind fun k => if k = true then (δc ρ).bind fun z => (cmpD o2 y z).bind fun k => if k = true then (δd ρ).bind fun u => cmpD o3 z u else .ok false else .ok false) := by
  obtain ⟨r, h1, h2⟩ := op_cop (X := X) hK hu o
  obtain ⟨r', h3, h4⟩ := op_cop (X := X) hK hu o2
  obtain ⟨r'', h5, h6⟩ := op_cop (X := X) hK hu o3
  refine PT.of (rule r r' r'' h1 h3 h5) fun H0 Z H σ ρ Q zh e p => Sok.self.bind zh e p fun x v H1 Z1 s1 e1 r1 p1 => Sok.self.bind s1.zh e1 p1 fun y u H2 Z2 s2 e2 r2 p2 => ?_
  refine h2 (W := W) (σ := σ) s2.zh (r1.mono s2.zz) r2 ?_
  cases q : cmpD o x y with
  | bad => rw [q] at p2; exact p2.elim
  | exc c => rw [q] at p2; simp only [boolR, q]; exact p2
  | ok k =>
    rw [q] at p2
    simp only [boolR, q]
    intro w H3 Z3 s3 r3
    refine ⟨k, r3.bl_inv, ?_⟩
    simp only [R.ok_bind] at p2
    by_cases hk : k = true
    · rw [if_pos hk] at p2 ⊢
      refine Sok.self.bind s3.zh (e2.step s3) (p2.step s3) fun z u' H4 Z4 s4 e4 r4 p4 => ?_
      refine h4 (W := W) (σ := σ) s4.zh ((r2.mono s3.zz).mono s4.zz) r4 ?_
      cases q2 : cmpD o2 y z with
      | bad => rw [q2] at p4; exact p4.elim
      | exc c => rw [q2] at p4; simp only [boolR, q2]; exact p4
      | ok k2 =>
        rw [q2] at p4
        simp only [boolR, q2]
        intro w5 H5 Z5 s5 r5
        refine ⟨k2, r5.bl_inv, ?_⟩
        simp only [R.ok_bind] at p4
        by_cases hk2 : k2 = true
        · rw [if_pos hk2] at p4 ⊢
          exact Sok.self.bind s5.zh (e4.step s5) (p4.step s5) fun z6 u6 H6 Z6 s6 e6 r6 p6 => h6 s6.zh ((r4.mono s5.zz).mono s6.zz) r6 p6.toV
        · rw [if_neg hk2] at p4 ⊢
          exact ⟨false, rfl, p4 _ _ _ s5 rfl⟩
    · rw [if_neg hk] at p2 ⊢
      exact ⟨false, rfl, p2 _ _ _ s3 rfl⟩

/-! ### arguments, displays -/
theorem g_nil : PA X [] (tA B W fun _ => .ok []) := PA.of pa_nil fun H0 Z H σ ρ Q zh e p => p _ H Z (.refl zh) .nil
theorem g_cons {e : Expr} {es : List Expr} {δ : Env → R D} {δ' : Env → R (List D)} (ha : PE X e (tE B W δ)) (hr : PA X es (tA B W δ')) (hs : starEach (e :: es) X.env = (false, eval e X.env) :: starEach es X.env) :
    PA X (e :: es) (tA B W fun ρ => (δ ρ).bind fun x => (δ' ρ).bind fun xs => .ok (x :: xs)) :=
  PA.of (pa_cons ha hr hs) fun H0 Z H σ ρ Q zh e p => Sok.self.bind zh e p fun x v H1 Z1 s1 e1 r1 p1 => Sok.self.bind s1.zh e1 p1 fun y u H2 Z2 s2 e2 r2 p2 =>
    p2 _ H2 Z2 (.refl s2.zh) (.cons (r1.mono s2.zz) r2)
theorem g_tup {es : List Expr} {k : Nat} {pos : Pos} {δ : Env → R (List D)} (ha : PA X es (tA B W δ)) : PE X (.Tuple es k pos) (tE B W fun ρ => (δ ρ).bind fun ds => if ds.length ≤ big then .ok (.tup ds) else .bad) :=
  PE.of (pe_tup ha) fun H0 Z H σ ρ Q zh e p => Sok.self.bind zh e p fun x v H1 Z1 s1 e1 r1 p1 => by
    by_cases h : x.length ≤ big
    · rw [if_pos h] at p1
      exact ⟨by rw [r1.length]; exact le_line h, fun q hq => p1 _ _ _ (.new s1.zh hq) (.tup upd_same (r1.mono (same_upd (s1.zh.free hq))))⟩
    · rw [if_neg h] at p1; exact p1.elim
theorem g_lst {es : List Expr} {pos : Pos} {δ : Env → R (List D)} (ha : PA X es (tA B W δ)) : PE X (.List es pos) (tE B W fun ρ => (δ ρ).bind fun ds => if ds.length ≤ big then .ok (.lst ds) else .bad) :=
  PE.of (pe_lst ha) fun H0 Z H σ ρ Q zh e p => Sok.self.bind zh e p fun x v H1 Z1 s1 e1 r1 p1 => by
    by_cases h : x.length ≤ big
    · rw [if_pos h] at p1
      exact ⟨by rw [r1.length]; exact le_line h, fun q hq => p1 _ _ _ (.new s1.zh hq) (.lst upd_same (r1.mono (same_upd (s1.zh.free hq))))⟩
    · rw [if_neg h] at p1; exact p1.elim

/-! ### calls -/
/-- a def's promise: what F says -/
def spOf (B : Bk) (k : Nat) (F : List D → R D) : Sp := fun vs H Q E =>
  vs.length = k ∧ ∃ Z ds, Same Z H ∧ Reps B Z vs ds ∧ Post B (fun c d _ H => E c d H) [] (relE B) Z H Q (F ds)
theorem Post.wish {α β : Type} {σ σ' : L2.St} {W W' : WX} {rel : Hp → β → α → Prop} {Z H : Hp} {Q : β → Hp → Prop} {r : R α} (p : Post B W σ rel Z H Q r) (h : ∀ c d H, W c d σ H → W' c d σ' H) : Post B W' σ' rel Z H Q r := by
  cases r with
  | ok a => exact p
  | exc c => exact fun H' s => h _ _ _ (p H' s)
  | bad => exact p
theorem g_call {x : Str} {p pos : Pos} {e : Expr} {es : List Expr} {n k : Nat} {f : Addr} {fd : FuncData} {ps : List Str} {F : List D → R D} {δ : Env → R (List D)} (hF : FnOk X.prog X.w X.K X.mg X.base (L2.CX X.prog X.w) n f fd ps (spOf B k F)) (hr : Room n X.A) (hg : Gl X x) (hm : X.mg x = some (.ref f))
    (hk : PySem.W.keepIn X.K (.ref f) = true) (hb : L2.Binds X.K fd ps []) (tk : Takes X W) (ha : PA X (e :: es) (tA B W δ)) (hl : ∀ ρ ds, δ ρ = .ok ds → ds.length = k ∨ F ds = .bad) (hd : (x == ("__debug__" : Str)) = false)
    (he : starEach (e :: es) X.env = (false, eval e X.env) :: starEach es X.env) (hpl : (backTo pos (starEach es X.env)).any (·.1) = false) :
    PE X (.Call (.Name x p) (e :: es) [] pos) (tE B W fun ρ => (δ ρ).bind F) := by
  refine PE.of (pe_callS hF hr hg hm hk hb (fun σ => passAt tk σ) ha hd he hpl) fun H0 Z H σ ρ Q zh en q => ?_
  cases qd : δ ρ with
  | bad => simp only [qd] at q; exact q.elim
  | exc c => simp only [qd] at q; exact ⟨H0, Z, ρ, zh, en, by rw [qd]; exact q⟩
  | ok ds =>
    refine ⟨H0, Z, ρ, zh, en, ?_⟩
    rw [qd] at q ⊢
    intro v H1 Z1 s1 r1
    have q1 : Post B W σ (relE B) Z1 H1 Q (F ds) := Post.step q s1
    rcases hl ρ ds qd with h | h
    · exact ⟨by rw [r1.length]; exact h, Z1, ds, s1.zh, r1, q1.wish fun _ _ _ w => w⟩
    · rw [h] at q1; exact q1.elim

/-! ### an own class -/
theorem lookup_names {fs : List (Str × V)} {m : Str} : fs.lookup m = none ↔ m ∉ fs.map (·.1) := by
  induction fs with
  | nil => simp
  | cons p fs ih =>
    obtain ⟨f, v⟩ := p
    rw [List.lookup_cons]
    by_cases h : m = f
    · subst h; simp
    · have : (m == f) = false := beq_eq_false_iff_ne.mpr h
      rw [this]; simp only [List.map_cons, List.mem_cons, h, false_or]; exact ih
theorem lookup_at : ∀ {fs : List (Str × V)} {k : Nat} {f : Str} {v : V}, (fs.map (·.1)).Nodup → (fs.map (·.1))[k]? = some f → (fs.map (·.2))[k]? = some v → fs.lookup f = some v
  | [], _, _, _, _, h, _ => by simp at h
  | (g, u) :: fs, 0, f, v, _, h1, h2 => by simp at h1 h2; subst h1 h2; simp
  | (g, u) :: fs, k + 1, f, v, nd, h1, h2 => by
    simp only [List.map_cons, List.getElem?_cons_succ] at h1 h2
    have nd' := List.nodup_cons.mp nd
    have ne : f ≠ g := fun e => nd'.1 (e ▸ List.mem_of_getElem? h1)
    rw [List.lookup_cons, beq_eq_false_iff_ne.mpr ne]
    exact lookup_at nd'.2 h1 h2
theorem g_fld (hK : X.K = B.K) {e : Expr} {f : Str} {k : Nat} {pos : Pos} {δ : Env → R D} (ha : PE X e (tE B W δ)) (hb : attributeBase e f X.env (eval e X.env) = eval e X.env) (c : Cls X.K B.yard) (na : NoAttr X.K B.yard f) (nd : B.flds.Nodup) (hf : B.flds[k]? = some f) :
    PE X (.Attribute e f pos) (tE B W fun ρ => (δ ρ).bind (fldD k)) :=
  PE.of (pe_fld ha hb) fun H0 Z H σ ρ Q zh e p => Sok.self.bind zh e p fun x v H1 Z1 s1 e1 r1 p1 => by
    cases r1 with
    | @ins a dx fs ds ea ef er =>
      simp only [fldD] at p1
      split at p1
      · rename_i d hd
        obtain ⟨v, h1, h2⟩ := er.get hd
        exact ⟨a, B.yard, dx, fs, v, rfl, s1.zh _ _ ea, c, na, lookup_at (by rw [ef]; exact nd) (by rw [ef]; exact hf) h1, p1 _ H1 Z1 (.refl s1.zh) h2⟩
      · exact p1.elim
    | _ => exact p1.elim
theorem eval_meth {o e : Expr} {m : Str} {es : List Expr} {apos pos : Pos} {env : PySem.Env} (hb : attributeBase o m env (eval o env) = eval o env) (hall : (backTo pos (starEach (e :: es) env)).all (fun x => !x.1) = true) (hl : (apos.endLine == pos.line) = true) (hfew : (e :: es).length < 30) :
    eval (.Call (.Attribute o m apos) (e :: es) [] pos) env = (do
      let ov ← eval o env
      standAt apos.atName
      let (f, first) ← holding [ov] (getMethod ov m (do return (← importBound o env).getD true))
      callWith pos f first (backTo pos (starEach (e :: es) env)) (backToKw pos (keywordEach [] env))) := by
  have hform : methodCallForm ((e :: es).length + ([] : List Keyword).length) (backTo pos (starEach (e :: es) env)) (backToKw pos (keywordEach [] env)) = true := by
    unfold methodCallForm
    rw [hall]
    simp only [Bool.true_and]
    have : (backToKw pos (keywordEach [] env)) = [] := rfl
    rw [this]
    simp only [List.all_nil, Bool.true_and, List.isEmpty_nil, if_true, Nat.add_zero, List.length_nil]
    exact decide_eq_true hfew
  show (do
    let ov ← attributeBase o m env (eval o env)
    standAt apos.atName
    methodCall o m apos pos env ov ((e :: es).length + ([] : List Keyword).length) (backTo pos (starEach (e :: es) env)) (backToKw pos (keywordEach [] env))) = _
  rw [hb]
  unfold methodCall calleeOf methodCallPos
  rw [hform, hl]
  simp
theorem passF {X : Cx} : Passes (L2.CX X.prog X.w) X (fun _ _ _ => False) := fun _ _ _ _ _ _ _ h => by
  obtain ⟨a, B, H', cls, d, _, _, _, _, _, _, _, z⟩ := h
  exact z.elim
theorem g_meth {o e : Expr} {m : Str} {es : List Expr} {apos pos : Pos} {n k : Nat} {f : Addr} {fd : FuncData} {ps : List Str} {F : List D → R D} {δa : Env → R D} {δ : Env → R (List D)} (ho : PE X o (tE B W δa)) (c : Cls X.K B.yard) (hm : Meth X.K B.yard m f) (hF : FnOk X.prog X.w X.K X.mg X.base (L2.CX X.prog X.w) n f fd ps (spOf B k F)) (hr : Room n X.A) (hb : L2.Binds X.K fd ps [])
    (tk : Takes X W) (ha : PA X (e :: es) (tA B W δ)) (hl : ∀ ds, ds.length = k ∨ F ds = .bad) (hmf : m ∉ B.flds) {pl : Sem Bool}
    (he : starEach (e :: es) X.env = (false, eval e X.env) :: starEach es X.env) (hpl : (backTo pos (starEach es X.env)).any (·.1) = false)
    (ht : eval (.Call (.Attribute o m apos) (e :: es) [] pos) X.env = (do
      let ov ← eval o X.env
      standAt apos.atName
      let (f, first) ← holding [ov] (getMethod ov m pl)
      callWith pos f first (backTo pos (starEach (e :: es) X.env)) (backToKw pos (keywordEach [] X.env)))) :
    PE X (.Call (.Attribute o m apos) (e :: es) [] pos) (tE B W fun ρ => (δa ρ).bind fun x => (insD x).bind fun _ => (δ ρ).bind fun xs => noX (F (x :: xs))) := by
  refine PE.of (pe_meth (E := fun _ _ _ => False) ho c hm hF hr hb .nil passF ha he hpl ht) fun H0 Z H σ ρ Q zh en p => ?_
  refine Sok.self.bind zh en p fun x v H1 Z1 s1 e1 r1 p1 => ?_
  cases x with
  | ins ds =>
    cases r1 with
    | @ins a dx fs _ ea ef er =>
      refine ⟨a, dx, fs, rfl, s1.zh _ _ ea, lookup_names.mpr (by rw [ef]; exact hmf), ?_⟩
      refine Sok.self.bind s1.zh e1 p1 fun xs vs H2 Z2 s2 e2 r2 p2 => ?_
      have rx : Rep B Z2 (.ref a) (.ins ds) := Rep.mono s2.zz (.ins ea ef er)
      have rs : Reps B Z2 (.ref a :: vs) (.ins ds :: xs) := .cons rx r2
      have hk : (V.ref a :: (vs ++ [])).length = k := by
        rcases hl (.ins ds :: xs) with h | h
        · rw [List.append_nil, rs.length]; exact h
        · rw [h] at p2; exact p2.elim
      refine ⟨hk, Z2, .ins ds :: xs, s2.zh, by rw [List.append_nil]; exact rs, ?_⟩
      cases qf : F (.ins ds :: xs) with
      | ok d => rw [qf] at p2; exact p2
      | exc c => rw [qf] at p2; exact p2.elim
      | bad => rw [qf] at p2; exact p2
  | _ => exact p1.elim
def spInit (B : Bk) (k : Nat) (F : List D → R D) : Sp := fun vs H Q E =>
  vs.length = k ∧ ∃ x dx vs' H1 Z ds, vs = .ref x :: vs' ∧ H1 x = none ∧ H1 dx = none ∧ dx ≠ x ∧ H = upd (upd H1 dx (.own x)) x (.ins B.yard dx []) ∧ Same Z H1 ∧ Reps B Z vs' ds ∧
    Post B (fun c d _ H => E c d H) [] (fun Z' (v : V) d => v = .non ∧ Rep B Z' (.ref x) d) Z H1 Q (F ds)

theorem g_new {x : Str} {p pos : Pos} {e : Expr} {es : List Expr} {n k : Nat} {f : Addr} {fd : FuncData} {ps : List Str} {F : List D → R D} {δ : Env → R (List D)} (M : Mk X.K B.yard f) (hF : FnOk X.prog X.w X.K X.mg X.base (L2.CX X.prog X.w) n f fd ps (spInit B k F)) (hr : Room (n + 1) X.A) (hg : Gl X x) (hm : X.mg x = some (.ref B.yard))
    (hb : L2.Binds X.K fd ps []) (ha : PA X (e :: es) (tA B W δ)) (hl : ∀ ds, ds.length + 1 = k ∨ F ds = .bad) (hd : (x == ("__debug__" : Str)) = false)
    (he : starEach (e :: es) X.env = (false, eval e X.env) :: starEach es X.env) (hpl : (backTo pos (starEach es X.env)).any (·.1) = false) :
    PE X (.Call (.Name x p) (e :: es) [] pos) (tE B W fun ρ => (noX (δ ρ)).bind fun ds => noX (F ds)) := by
  refine PE.of (pe_make (E := fun _ _ _ => False) M hF hr hg hm hb .nil passF ha hd he hpl) fun H0 Z H σ ρ Q zh en p => ?_
  have p : Post B W σ (relE B) Z H Q ((δ ρ).bind fun ds => noX (F ds)) := by
    revert p; cases δ ρ with
    | ok ds => exact fun p => p
    | exc c => exact fun p => p.elim
    | bad => exact fun p => p
  refine Sok.self.bind zh en p fun ds vs H1 Z1 s1 e1 r1 p1 => fun a dx ha hdx ne => ?_
  have hk : (V.ref a :: (vs ++ [])).length = k := by
    rcases hl ds with h | h
    · rw [List.append_nil, List.length_cons, r1.length]; exact h
    · rw [h] at p1; exact p1.elim
  refine ⟨hk, a, dx, vs, H1, Z1, ds, by rw [List.append_nil], ha, hdx, ne, rfl, s1.zh, r1, ?_⟩
  cases qf : F ds with
  | ok d => rw [qf] at p1; exact fun v H' Z' s' ⟨hv, r⟩ => ⟨hv, p1 _ H' Z' s' r⟩
  | exc c => rw [qf] at p1; exact p1.elim
  | bad => rw [qf] at p1; exact p1

/-! ### built-ins -/
theorem rep_ints : ∀ {ds : List D} {ns : List Int} {Z : Hp} {xs : List V}, Reps B Z xs ds → ints? ds = some ns → xs = ns.map V.int
  | [], ns, _, _, .nil, h => by simp [ints?] at h; subst h; rfl
  | .int i :: ds, ns, _, _, .cons r t, h => by
    simp only [ints?] at h
    cases e : ints? ds with
    | none => rw [e] at h; simp at h
    | some ms =>
      rw [e] at h; simp at h; subst h
      rw [rep_ints t e, r.int_inv]; rfl
  | .non :: _, _, _, _, _, h => by simp [ints?] at h
  | .bl _ :: _, _, _, _, _, h => by simp [ints?] at h
  | .str _ :: _, _, _, _, _, h => by simp [ints?] at h
  | .lst _ :: _, _, _, _, _, h => by simp [ints?] at h
  | .tup _ :: _, _, _, _, _, h => by simp [ints?] at h
  | .ins _ :: _, _, _, _, _, h => by simp [ints?] at h
  | .scr _ :: _, _, _, _, _, h => by simp [ints?] at h
theorem min_unique {n : Int} {ns : List Int} {m : Int} (h1 : m ∈ n :: ns) (h2 : ∀ y ∈ n :: ns, m ≤ y) : m = ns.foldl min n := by
  have a : ∀ (ns : List Int) (n : Int), (ns.foldl min n) ∈ n :: ns ∧ ∀ y ∈ n :: ns, ns.foldl min n ≤ y := by
    intro ns
    induction ns with
    | nil => intro n; simp
    | cons b t ih =>
      intro n
      simp only [List.foldl_cons]
      obtain ⟨i1, i2⟩ := ih (min n b)
      refine ⟨?_, fun y hy => ?_⟩
      · rcases List.mem_cons.mp i1 with h | h
        · rw [h]; rcases Int.le_total n b with q | q
          · rw [Int.min_eq_left q]; simp
          · rw [Int.min_eq_right q]; simp
        · simp [h]
      · rcases List.mem_cons.mp hy with h | h
        · subst h; exact Int.le_trans (i2 _ List.mem_cons_self) (Int.min_le_left _ _)
        · rcases List.mem_cons.mp h with h | h
          · subst h; exact Int.le_trans (i2 _ List.mem_cons_self) (Int.min_le_right _ _)
          · exact i2 y (List.mem_cons_of_mem _ h)
  obtain ⟨i1, i2⟩ := a ns n
  exact Int.le_antisymm (h2 _ i1) (i2 _ h1)
theorem max_unique {n : Int} {ns : List Int} {m : Int} (h1 : m ∈ n :: ns) (h2 : ∀ y ∈ n :: ns, y ≤ m) : m = ns.foldl max n := by
  have a : ∀ (ns : List Int) (n : Int), (ns.foldl max n) ∈ n :: ns ∧ ∀ y ∈ n :: ns, y ≤ ns.foldl max n := by
    intro ns
    induction ns with
    | nil => intro n; simp
    | cons b t ih =>
      intro n
      simp only [List.foldl_cons]
      obtain ⟨i1, i2⟩ := ih (max n b)
      refine ⟨?_, fun y hy => ?_⟩
      · rcases List.mem_cons.mp i1 with h | h
        · rw [h]; rcases Int.le_total n b with q | q
          · rw [Int.max_eq_right q]; simp
          · rw [Int.max_eq_left q]; simp
        · simp [h]
      · rcases List.mem_cons.mp hy with h | h
        · subst h; exact Int.le_trans (Int.le_max_left _ _) (i2 _ List.mem_cons_self)
        · rcases List.mem_cons.mp h with h | h
          · subst h; exact Int.le_trans (Int.le_max_right _ _) (i2 _ List.mem_cons_self)
          · exact i2 y (List.mem_cons_of_mem _ h)
  obtain ⟨i1, i2⟩ := a ns n
  exact Int.le_antisymm (i2 _ h1) (h2 _ i1)
/-- r serves f on argument lists -/
def OpN (B : Bk) (r : List V → Hp → VK → Prop) (f : List D → R D) : Prop :=
  ∀ ⦃Z H : Hp⦄ ⦃xs : List V⦄ ⦃ds : List D⦄ ⦃Q : VK⦄ ⦃W : WX⦄ ⦃σ : L2.St⦄, Same Z H → Reps B Z xs ds → Post B W σ (relE B) Z H Q (f ds) → r xs H Q
def biName : Bi → Str
  | .len => "len" | .abs => "abs" | .min2 => "min" | .max2 => "max" | .minL => "min" | .maxL => "max" | .tuple => "tuple" | .list => "list" | .str => "str" | .int => "int" | .sorted => "sorted"
theorem opN1 {r : List V → Hp → VK → Prop} {f : List D → R D} (h0 : f [] = .bad) (h2 : ∀ a b l, f (a :: b :: l) = .bad)
    (h1 : ∀ {Z H : Hp} {x : V} {d : D} {Q : VK} {W : WX} {σ : L2.St}, Same Z H → Rep B Z x d → Post B W σ (relE B) Z H Q (f [d]) → r [x] H Q) : OpN B r f := by
  intro Z H xs ds Q W σ zh rs p
  cases rs with
  | nil => rw [h0] at p; exact p.elim
  | cons r1 t =>
    cases t with
    | nil => exact h1 zh r1 p
    | cons r2 t => rw [h2] at p; exact p.elim
theorem opN2 {r : List V → Hp → VK → Prop} {f : List D → R D} (h0 : f [] = .bad) (h0' : ∀ a, f [a] = .bad) (h2 : ∀ a b c l, f (a :: b :: c :: l) = .bad)
    (h1 : ∀ {Z H : Hp} {x y : V} {d e : D} {Q : VK} {W : WX} {σ : L2.St}, Same Z H → Rep B Z x d → Rep B Z y e → Post B W σ (relE B) Z H Q (f [d, e]) → r [x, y] H Q) : OpN B r f := by
  intro Z H xs ds Q W σ zh rs p
  cases rs with
  | nil => rw [h0] at p; exact p.elim
  | cons r1 t =>
    cases t with
    | nil => rw [h0'] at p; exact p.elim
    | cons r2 t =>
      cases t with
      | nil => exact h1 zh r1 r2 p
      | cons r3 t => rw [h2] at p; exact p.elim
theorem bi_len : OpN B (fun xs H Q => ∃ x n, xs = [x] ∧ LenV B.K x H n ∧ Q (.int n) H) (biD .len) :=
  opN1 rfl (fun _ _ _ => by simp [biD]) fun {Z H x d Q W σ} zh r p => by
    cases r with
    | @lst a xs ds e r => exact ⟨_, ds.length, rfl, .inl ⟨xs, .of (zh _ _ e), r.length.symm⟩, p _ H Z (.refl zh) (.int _)⟩
    | @tup a xs ds e r => exact ⟨_, ds.length, rfl, .inr ⟨xs, .of (zh _ _ e), r.length.symm⟩, p _ H Z (.refl zh) (.int _)⟩
    | @scr a ns e => exact ⟨_, ns.length, rfl, .inl ⟨_, zh.seq e, by simp⟩, p _ H Z (.refl zh) (.int _)⟩
    | str s =>
      simp only [biD] at p
      split at p
      · rename_i h; exact ⟨_, s.length, rfl, ⟨le_line h, rfl⟩, p _ H Z (.refl zh) (.int _)⟩
      · exact p.elim
    | _ => exact p.elim
theorem bi_abs : OpN B (fun xs H Q => ∃ i, xs = [.int i] ∧ Q (.int (if i < 0 then -i else i)) H) (biD .abs) :=
  opN1 rfl (fun _ _ _ => by simp [biD]) fun {Z H x d Q W σ} zh r p => by
    cases r with
    | int i => exact ⟨i, rfl, p _ H Z (.refl zh) (.int _)⟩
    | _ => exact p.elim
theorem bi_min2 : OpN B (fun xs H Q => ∃ i j, xs = [.int i, .int j] ∧ Q (.int (if j < i then j else i)) H) (biD .min2) :=
  opN2 rfl (fun a => by cases a <;> rfl) (fun a b c l => by cases a <;> cases b <;> simp [biD]) fun {Z H x y d e Q W σ} zh r1 r2 p => by
    cases r1 with
    | int i =>
      cases r2 with
      | int j => exact ⟨i, j, rfl, p _ H Z (.refl zh) (.int _)⟩
      | _ => exact p.elim
    | _ => exact p.elim
theorem bi_max2 : OpN B (fun xs H Q => ∃ i j, xs = [.int i, .int j] ∧ Q (.int (if j > i then j else i)) H) (biD .max2) :=
  opN2 rfl (fun a => by cases a <;> rfl) (fun a b c l => by cases a <;> cases b <;> simp [biD]) fun {Z H x y d e Q W σ} zh r1 r2 p => by
    cases r1 with
    | int i =>
      cases r2 with
      | int j => exact ⟨i, j, rfl, p _ H Z (.refl zh) (.int _)⟩
      | _ => exact p.elim
    | _ => exact p.elim
theorem bi_minL : OpN B (rMin B.K) (biD .minL) :=
  opN1 rfl (fun a b l => by cases a <;> simp [biD]) fun {Z H x d Q W σ} zh r p => by
    cases r with
    | @lst a xs ds e r =>
      simp only [biD] at p
      split at p
      · rename_i n ns h
        have := rep_ints r h
        subst this
        exact ⟨a, n :: ns, rfl, .of (zh _ _ e), by simp, fun m h1 h2 => p _ H Z (.refl zh) (by rw [min_unique h1 h2]; exact .int _)⟩
      · exact p.elim
    | _ => exact p.elim
theorem bi_maxL : OpN B (fun xs H Q => rMax B.K xs H Q ∨ rMaxT B.K xs H Q) (biD .maxL) :=
  opN1 rfl (fun a b l => by cases a <;> simp [biD]) fun {Z H x d Q W σ} zh r p => by
    cases r with
    | @lst a xs ds e r =>
      simp only [biD] at p
      split at p
      · rename_i n ns h
        have := rep_ints r h
        subst this
        exact .inl ⟨a, n :: ns, rfl, .of (zh _ _ e), by simp, fun m h1 h2 => p _ H Z (.refl zh) (by rw [max_unique h1 h2]; exact .int _)⟩
      · exact p.elim
    | @tup a xs ds e r =>
      simp only [biD] at p
      split at p
      · rename_i n ns h
        have := rep_ints r h
        subst this
        exact .inr ⟨a, n :: ns, rfl, .of (zh _ _ e), by simp, fun m h1 h2 => p _ H Z (.refl zh) (by rw [max_unique h1 h2]; exact .int _)⟩
      · exact p.elim
    | _ => exact p.elim
theorem CallR.or' {f : Value} {r r' : List V → Hp → VK → Prop} (h : CallR X f r) (h' : CallR X f r') : CallR X f (fun xs H Q => r xs H Q ∨ r' xs H Q) :=
  fun pins s σ H xs us Q I rv hh => hh.elim (h pins s σ H xs us Q I rv) (h' pins s σ H xs us Q I rv)
/-! ### sorted pairs -/
theorem leP_iff {a b : Int × Int} : leP a b = true ↔ a.1 < b.1 ∨ (a.1 = b.1 ∧ a.2 ≤ b.2) := by simp [leP]
theorem leP_trans : ∀ a b c, leP a b = true → leP b c = true → leP a c = true := fun a b c h1 h2 => by
  rw [leP_iff] at *; omega
theorem leP_total : ∀ a b, (leP a b || leP b a) = true := fun a b => by
  rw [Bool.or_eq_true, leP_iff, leP_iff]; omega
theorem leP_anti {a b : Int × Int} (h1 : leP a b = true) (h2 : leP b a = true) : a = b := by
  rw [leP_iff] at *
  have : a.1 = b.1 ∧ a.2 = b.2 := by omega
  exact Prod.ext this.1 this.2
theorem sort_uniq : ∀ {l m : List (Int × Int)}, l.Perm m → l.Pairwise (fun a b => leP a b = true) → m.Pairwise (fun a b => leP a b = true) → l = m
  | [], m, p, _, _ => (List.Perm.eq_nil p.symm).symm
  | a :: l, [], p, _, _ => absurd p.length_eq (by simp)
  | a :: l, b :: m, p, h1, h2 => by
    have h1' := List.pairwise_cons.mp h1
    have h2' := List.pairwise_cons.mp h2
    have ab : a = b := by
      rcases List.mem_cons.mp (p.mem_iff.mp (List.mem_cons_self (a := a) (l := l))) with e | ha
      · exact e
      · rcases List.mem_cons.mp (p.symm.mem_iff.mp (List.mem_cons_self (a := b) (l := m))) with e | hb
        · exact e.symm
        · exact leP_anti (h1'.1 b hb) (h2'.1 a ha)
    subst ab
    rw [sort_uniq (List.Perm.cons_inv p) h1'.2 h2'.2]
theorem prs_inv {Z : Hp} : ∀ {ds : List D} {l : List (Int × Int)} {xs : List V}, Reps B Z xs ds → prs? ds = some l → ds = l.map prD ∧ ∀ x ∈ xs, ∃ t p, x = .ref t ∧ Z t = some (.tup [.int p.1, .int p.2]) ∧ p ∈ l
  | [], l, xs, r, h => by simp [prs?] at h; subst h; cases r; exact ⟨rfl, by simp⟩
  | d :: ds, l, xs, r, h => by
    cases r with
    | @cons v vs _ _ r t =>
      unfold prs? at h
      split at h
      · rename_i z; cases z
      · rename_i i j ds' z
        cases z
        cases e : prs? ds with
        | none => rw [e] at h; simp at h
        | some m =>
          rw [e] at h; simp at h; subst h
          obtain ⟨h1, h2⟩ := prs_inv t e
          refine ⟨by rw [h1]; rfl, fun x hx => ?_⟩
          rcases List.mem_cons.mp hx with rfl | hx
          · cases r with
            | @tup a ys _ ea ra =>
              cases ra with
              | cons r1 t1 =>
                cases t1 with
                | cons r2 t2 =>
                  cases t2
                  rw [r1.int_inv, r2.int_inv] at ea
                  exact ⟨a, (i, j), rfl, ea, by simp⟩
          · obtain ⟨t', p, q1, q2, q3⟩ := h2 x hx
            exact ⟨t', p, q1, q2, List.mem_cons_of_mem _ q3⟩
      · cases h
theorem reps_keys {Z : Hp} (k : V → Int × Int) : ∀ {ys : List V}, (∀ y ∈ ys, ∃ t, y = .ref t ∧ Z t = some (.tup [.int (k y).1, .int (k y).2])) → Reps B Z ys (ys.map fun y => prD (k y))
  | [], _ => .nil
  | y :: ys, h => by
    obtain ⟨t, e, hz⟩ := h y List.mem_cons_self
    refine .cons ?_ (reps_keys k fun z hz => h z (List.mem_cons_of_mem _ hz))
    conv => lhs; rw [e]
    exact .tup hz (.cons (.int _) (.cons (.int _) .nil))
theorem reps_uniq {Z : Hp} : ∀ {ds es : List D} {xs : List V}, Reps B Z xs ds → Reps B Z xs es → ∀ {l : List (Int × Int)}, ds = l.map prD → ∀ {m : List (Int × Int)}, es = m.map prD → l = m
  | ds, es, [], r1, r2, l, h1, m, h2 => by
    cases r1; cases r2
    rw [List.map_eq_nil_iff.mp h1.symm, List.map_eq_nil_iff.mp h2.symm]
  | ds, es, x :: xs, r1, r2, l, h1, m, h2 => by
    cases r1 with
    | cons a t =>
      cases r2 with
      | cons b u =>
        cases l with
        | nil => cases h1
        | cons p l =>
          cases m with
          | nil => cases h2
          | cons q m =>
            simp only [List.map_cons, List.cons.injEq] at h1 h2
            rw [reps_uniq t u h1.2 h2.2]
            congr 1
            rw [h1.1] at a; rw [h2.1] at b
            cases a with
            | tup ea ra =>
              cases b with
              | tup eb rb =>
                rw [ea] at eb
                cases eb
                cases ra with
                | cons r1 t1 => cases t1 with
                  | cons r2 t2 => cases rb with
                    | cons s1 u1 => cases u1 with
                      | cons s2 u2 =>
                        have z1 := r1.int_inv.symm.trans s1.int_inv
                        have z2 := r2.int_inv.symm.trans s2.int_inv
                        exact Prod.ext (V.int.inj z1) (V.int.inj z2)
noncomputable def keyOf (Z : Hp) (x : V) : Int × Int := by
  classical exact if h : ∃ t p, x = V.ref t ∧ Z t = some (.tup [.int (Prod.fst p), .int (Prod.snd p)]) then h.choose_spec.choose else (0, 0)
theorem keyOf_eq {Z : Hp} {x : V} {t : Addr} {p : Int × Int} (h1 : x = .ref t) (h2 : Z t = some (.tup [.int p.1, .int p.2])) : keyOf Z x = p := by
  have h : ∃ t p, x = V.ref t ∧ Z t = some (.tup [.int (Prod.fst p), .int (Prod.snd p)]) := ⟨t, p, h1, h2⟩
  unfold keyOf
  rw [dif_pos h]
  obtain ⟨e1, e2⟩ := h.choose_spec.choose_spec
  have et : t = h.choose := V.ref.inj (h1.symm.trans e1)
  have e2 := h2.symm.trans ((congrArg Z et).trans e2)
  injection e2 with e2
  injection e2 with e2
  injection e2 with a b
  injection b with b _
  injection a with a
  injection b with b
  exact Prod.ext a.symm b.symm
theorem bi_sorted : OpN B (rSortedPO B.K) (biD .sorted) :=
  opN1 rfl (fun a b l => by cases a <;> simp [biD]) fun {Z H x d Q W σ} zh r p => by
    cases r with
    | @lst a xs ds e r =>
      simp only [biD] at p
      split at p
      · rename_i l h
        obtain ⟨hd, hx⟩ := prs_inv r h
        have hk : ∀ y ∈ xs, ∃ t, y = .ref t ∧ Z t = some (.tup [.int (keyOf Z y).1, .int (keyOf Z y).2]) := fun y hy => by
          obtain ⟨t, p, q1, q2, _⟩ := hx y hy
          exact ⟨t, q1, by rw [keyOf_eq q1 q2]; exact q2⟩
        have hl : l = xs.map (keyOf Z) := by
          refine reps_uniq r (reps_keys (keyOf Z) hk) hd ?_
          rw [List.map_map]; rfl
        refine ⟨a, xs, keyOf Z, rfl, .of (zh _ _ e), fun y hy => ?_, fun ys q hs hst hq => ?_⟩
        · obtain ⟨t, q1, q2⟩ := hk y hy
          exact ⟨t, q1, zh _ _ q2⟩
        · have hp := hst.perm
          have rk : Reps B Z ys (ys.map fun y => prD (keyOf Z y)) := reps_keys (keyOf Z) fun y hy => hk y (hp.mem_iff.mp hy)
          have he : ys.map (keyOf Z) = l.mergeSort leP := by
            refine sort_uniq ?_ ?_ (List.pairwise_mergeSort leP_trans leP_total l)
            · rw [hl]; exact (hp.map _).trans (List.mergeSort_perm _ _).symm
            · refine List.pairwise_map.mpr (hs.imp fun {u v} huv => ?_)
              have hno := SrtO.lexB_no.mp huv
              rw [leP_iff]; omega
          have : (ys.map fun y => prD (keyOf Z y)) = (l.mergeSort leP).map prD := by rw [← he, List.map_map]; rfl
          rw [this] at rk
          exact p _ _ _ (.new zh hq) (.lst upd_same (rk.mono (same_upd (zh.free hq))))
      · exact p.elim
    | _ => exact p.elim
theorem bi_tuple : OpN B (fun xs H Q => ∃ p ys, xs = [.ref p] ∧ ((SqL B.K H p ys ∧ ∀ l, H l = none → Q (.ref l) (upd H l (.tup ys))) ∨ (SqT B.K H p ys ∧ Q (.ref p) H))) (biD .tuple) :=
  opN1 rfl (fun a b l => by cases a <;> simp [biD]) fun {Z H x d Q W σ} zh r p => by
    cases r with
    | @lst a xs ds e r => exact ⟨a, xs, rfl, .inl ⟨.of (zh _ _ e), fun l hl => p _ _ _ (.new zh hl) (.tup upd_same (r.mono (same_upd (zh.free hl))))⟩⟩
    | @tup a xs ds e r => exact ⟨a, xs, rfl, .inr ⟨.of (zh _ _ e), p _ H Z (.refl zh) (.tup e r)⟩⟩
    | _ => exact p.elim
theorem bi_list : OpN B (fun xs H Q => ∃ p ys, xs = [.ref p] ∧ (SqL B.K H p ys ∨ SqT B.K H p ys) ∧ ∀ l, H l = none → Q (.ref l) (upd H l (.lst ys))) (biD .list) :=
  opN1 rfl (fun a b l => by cases a <;> simp [biD]) fun {Z H x d Q W σ} zh r p => by
    cases r with
    | @lst a xs ds e r => exact ⟨a, xs, rfl, .inl (.of (zh _ _ e)), fun l hl => p _ _ _ (.new zh hl) (.lst upd_same (r.mono (same_upd (zh.free hl))))⟩
    | @tup a xs ds e r => exact ⟨a, xs, rfl, .inr (.of (zh _ _ e)), fun l hl => p _ _ _ (.new zh hl) (.lst upd_same (r.mono (same_upd (zh.free hl))))⟩
    | _ => exact p.elim
theorem bi_str : OpN B (fun xs H Q => ∃ i, xs = [.int i] ∧ i.natAbs.log2 < 1920 ∧ Q (.str (toString i)) H) (biD .str) :=
  opN1 rfl (fun a b l => by cases a <;> simp [biD]) fun {Z H x d Q W σ} zh r p => by
    cases r with
    | int i =>
      simp only [biD] at p
      split at p
      · rename_i h; exact ⟨i, rfl, h, p _ H Z (.refl zh) (.str _)⟩
      · exact p.elim
    | _ => exact p.elim
theorem bi_int : OpN B (fun xs H Q => ∃ a n, xs = [.str a] ∧ PySem.intText? a = some n ∧ a.length ≤ 640 ∧ Q (.int n) H) (biD .int) :=
  opN1 rfl (fun a b l => by cases a <;> simp [biD]) fun {Z H x d Q W σ} zh r p => by
    cases r with
    | str a =>
      simp only [biD] at p
      split at p
      · rename_i n hn
        split at p
        · rename_i h; exact ⟨a, n, rfl, hn, h, p _ H Z (.refl zh) (.int _)⟩
        · exact p.elim
      · exact p.elim
    | _ => exact p.elim
theorem g_bi (hK : X.K = B.K) (hc : X.calm = true) (b : Bi) {p pos : Pos} {e : Expr} {es : List Expr} {δ : Env → R (List D)} (hg : Gl X (biName b)) (hm : X.mg (biName b) = none) (ha : PA X (e :: es) (tA B W δ))
    (he : starEach (e :: es) X.env = (false, eval e X.env) :: starEach es X.env) (hpl : (backTo pos (starEach es X.env)).any (·.1) = false) :
    PE X (.Call (.Name (biName b) p) (e :: es) [] pos) (tE B W fun ρ => (δ ρ).bind (biD b)) := by
  have fin : ∀ {r : List V → Hp → VK → Prop}, OpN B r (biD b) → Sok B W (relE B) (tCB r (tA B W δ)) (fun ρ => (δ ρ).bind (biD b)) := fun {r} hN H0 Z H σ ρ Q zh en q =>
    Sok.self.bind zh en q fun x v H1 Z1 s1 e1 r1 p1 => hN s1.zh r1 p1
  cases b with
  | len => exact PE.of (pe_callB (by rw [← hK]; exact call_len) hg hm (by decide +kernel) ha (by decide) (by decide) he hpl) (fin bi_len)
  | abs => exact PE.of (pe_callB call_abs hg hm (by decide +kernel) ha (by decide) (by decide) he hpl) (fin bi_abs)
  | min2 => exact PE.of (pe_callB (call_min2 hc) hg hm (by decide +kernel) ha (by decide) (by decide) he hpl) (fin bi_min2)
  | max2 => exact PE.of (pe_callB (call_max2 hc) hg hm (by decide +kernel) ha (by decide) (by decide) he hpl) (fin bi_max2)
  | minL => exact PE.of (pe_callB (by rw [← hK]; exact cr_min hc) hg hm (by decide +kernel) ha (by decide) (by decide) he hpl) (fin bi_minL)
  | maxL => exact PE.of (pe_callB (by rw [← hK]; exact CallR.or' (cr_max hc) (cr_maxT hc)) hg hm (by decide +kernel) ha (by decide) (by decide) he hpl) (fin bi_maxL)
  | tuple => exact PE.of (pe_callTy (by rw [← hK]; exact call_tuple_of) hg hm (by decide +kernel) ha (by decide) (by decide) he hpl) (fin bi_tuple)
  | list => exact PE.of (pe_callTy (by rw [← hK]; exact call_list_of) hg hm (by decide +kernel) ha (by decide) (by decide) he hpl) (fin bi_list)
  | str => exact PE.of (pe_callTy call_str_int hg hm (by decide +kernel) ha (by decide) (by decide) he hpl) (fin bi_str)
  | int => exact PE.of (pe_callTy call_int_str hg hm (by decide +kernel) ha (by decide) (by decide) he hpl) (fin bi_int)
  | sorted => exact PE.of (pe_callB (by rw [← hK]; exact cr_sortedPO) hg hm (by decide +kernel) ha (by decide) (by decide) he hpl) (fin bi_sorted)
end
end RS

namespace RS
open PySem PySem.Spec PyProof.Rows L2
section
variable {X : Cx} {B : Bk} {W : WX}

/-! ### isinstance -/
def tyStr : Ty → String
  | .int => "int" | .bool => "bool" | .tuple => "tuple" | .list => "list" | .str => "str"
theorem boot_ty (t : Ty) : bootBuiltins (Str.ofString (tyStr t)) = some (.type (tyStr t)) := by cases t <;> decide +kernel
theorem isi_ok (hK : X.K = B.K) {Z H : Hp} {x : V} {d : D} {t : Ty} {σ : L2.St} {Q : VK} (zh : Same Z H) (r : Rep B Z x d) (p : Post B W σ (relE B) Z H Q ((isiD d t).bind fun k => .ok (.bl k))) : rIsi X.K [x, .ty (tyStr t)] H Q := by
  cases r with
  | non => cases t <;> exact ⟨_, _, _, _, false, rfl, .ty _, .base .non, kit_ty (by decide +kernel), p _ H Z (.refl zh) (.bl _)⟩
  | bl b => cases t <;> exact ⟨_, _, _, _, _, rfl, .ty _, .base (.bl b), kit_ty (by decide +kernel), p _ H Z (.refl zh) (.bl _)⟩
  | int i => cases t <;> exact ⟨_, _, _, _, _, rfl, .ty _, .base (.int i), kit_ty (by decide +kernel), p _ H Z (.refl zh) (.bl _)⟩
  | str s => cases t <;> exact ⟨_, _, _, _, _, rfl, .ty _, .base (.str s), kit_ty (by decide +kernel), p _ H Z (.refl zh) (.bl _)⟩
  | lst e r => cases t <;> exact ⟨_, _, _, _, _, rfl, .ty _, .base (.lst (zh _ _ e)), kit_ty (by decide +kernel), p _ H Z (.refl zh) (.bl _)⟩
  | tup e r => cases t <;> exact ⟨_, _, _, _, _, rfl, .ty _, .base (.tup (zh _ _ e)), kit_ty (by decide +kernel), p _ H Z (.refl zh) (.bl _)⟩
  | ins e f r => cases t <;> exact p.elim
  | scr e => cases t <;> exact p.elim
theorem g_isi (hK : X.K = B.K) {a : Expr} {t : Ty} {δ : Env → R D} {p p2 pos : Pos} (ha : PE X a (tE B W δ)) (hg : Gl X "isinstance") (hm : X.mg "isinstance" = none) (hg2 : Gl X (Str.ofString (tyStr t))) (hm2 : X.mg (Str.ofString (tyStr t)) = none)
    (hs : starEach [a, .Name (Str.ofString (tyStr t)) p2] X.env = (false, eval a X.env) :: starEach [.Name (Str.ofString (tyStr t)) p2] X.env) : PE X (.Call (.Name "isinstance" p) [a, .Name (Str.ofString (tyStr t)) p2] [] pos) (tE B W fun ρ => (δ ρ).bind fun x => (isiD x t).bind fun k => .ok (.bl k)) := by
  have h2 : PE X (.Name (Str.ofString (tyStr t)) p2) (tC (.ty (tyStr t))) := pe_bltn hg2 hm2 (boot_ty t) rfl (by cases t <;> decide) (by cases t <;> decide)
  refine PE.of (pe_callB call_isi hg hm (by decide +kernel) (pa_cons ha (pa_cons h2 pa_nil) hs) (by decide) (by decide) hs (by rfl)) fun H0 Z H σ ρ Q zh e q => ?_
  exact Sok.self.bind zh e q fun x v H1 Z1 s1 e1 r1 p1 => isi_ok hK s1.zh r1 p1

/-! ### subscripts -/
theorem Reps.atI {Z : Hp} {vs : List V} {ds : List D} {i : Int} {d : D} (r : Reps B Z vs ds) (h : L2.atI ds i = some d) : ∃ v, L2.atI vs i = some v ∧ Rep B Z v d := by
  unfold L2.atI at h ⊢
  rw [r.length]
  cases e : ixN ds.length i with
  | none => rw [e] at h; simp at h
  | some j =>
    rw [e] at h
    exact r.get h
theorem ix_ok (hK : X.K = B.K) : Op2 B (rIx X.K) ixD := by
  rw [hK]
  intro Z H x y d e Q W σ zh rx ry p
  cases e with
  | int i =>
    rw [ry.int_inv]
    cases rx with
    | @lst a xs ds ea ra =>
      simp only [ixD] at p
      split at p
      · rename_i d' h
        obtain ⟨v, h1, h2⟩ := ra.atI h
        exact .inl ⟨a, xs, i, v, rfl, rfl, .of (zh _ _ ea), h1, p _ H Z (.refl zh) h2⟩
      · exact p.elim
    | @tup a xs ds ea ra =>
      simp only [ixD] at p
      split at p
      · rename_i d' h
        obtain ⟨v, h1, h2⟩ := ra.atI h
        exact .inr (.inl ⟨a, xs, i, v, rfl, rfl, .of (zh _ _ ea), h1, p _ H Z (.refl zh) h2⟩)
      · exact p.elim
    | @scr a ns ea =>
      simp only [ixD] at p
      split at p
      · rename_i n h
        refine .inl ⟨a, _, i, .int n, rfl, rfl, zh.seq ea, ?_, p _ H Z (.refl zh) (.int _)⟩
        unfold L2.atI at h ⊢
        rw [List.length_map]
        cases e : ixN ns.length i with
        | none => rw [e] at h; simp at h
        | some j =>
          rw [e] at h
          simp only [Option.bind_some] at h ⊢
          rw [List.getElem?_map, h]; rfl
      · exact p.elim
    | str z =>
      simp only [ixD] at p
      split at p
      · rename_i hz
        split at p
        · rename_i c h
          exact .inr (.inr ⟨z, i, c, rfl, rfl, le_line hz, h, p _ H Z (.refl zh) (.str _)⟩)
        · exact p.elim
      · exact p.elim
    | _ => exact p.elim
  | _ => revert p; cases d <;> exact fun p => p.elim
theorem g_ix (hK : X.K = B.K) {a b : Expr} {pos : Pos} {δa δb : Env → R D} (ha : PE X a (tE B W δa)) (hb : PE X b (tE B W δb)) (hs : PlainIx b) : PE X (.Subscript a b pos) (tE B W fun ρ => (δa ρ).bind fun x => (δb ρ).bind fun y => ixD x y) :=
  PE.of (pe_ix ix_seq ha hb hs) fun H0 Z H σ ρ Q zh e p =>
    Sok.self.bind zh e p fun x v H1 Z1 s1 e1 r1 p1 =>
      Sok.self.bind s1.zh e1 p1 fun y u H2 Z2 s2 e2 r2 p2 => ix_ok hK s2.zh (r1.mono s2.zz) r2 p2
theorem cut_rep {Z : Hp} {vs : List V} {ds : List D} {lo hi : Option Int} (r : Reps B Z vs ds) : Reps B Z (cutV vs lo hi) (cutD ds lo hi) := by
  unfold cutV cutD
  rw [r.length]
  exact (r.drop _).take _
def rSlAll (K : PySem.W.Frag) : V → Option Int → Option Int → Hp → VK → Prop := fun x lo hi H Q => rSlL K x lo hi H Q ∨ rSlA K x lo hi H Q ∨ rSlS x lo hi H Q
theorem sl_all : SlR X (rSlAll X.K) := SlR.or sl_list (SlR.or sl_tupA sl_str)
theorem cutD_whole {ds : List D} {lo hi : Option Int} (h : HT.sIx ds.length 0 lo = 0 ∧ HT.sIx ds.length ds.length hi = ds.length) : cutD ds lo hi = ds := by
  unfold cutD; rw [h.1, h.2]; simp
theorem sl_ok (hK : X.K = B.K) {Z H : Hp} {x : V} {d : D} {lo hi : Option Int} {σ : L2.St} {Q : VK} (zh : Same Z H) (r : Rep B Z x d) (p : Post B W σ (relE B) Z H Q (slD d lo hi)) : rSlAll X.K x lo hi H Q := by
  rw [hK]
  cases r with
  | @lst a xs ds e r => exact .inl ⟨a, xs, rfl, .of (zh _ _ e), fun q hq => p _ _ _ (.new zh hq) (.lst upd_same ((cut_rep r).mono (same_upd (zh.free hq))))⟩
  | @tup a xs ds e r =>
    refine .inr (.inl ⟨a, xs, rfl, .of (zh _ _ e), fun h => ?_, fun h q hq => ?_⟩)
    · refine p _ H Z (.refl zh) ?_
      rw [cutD_whole (by rw [← r.length]; exact h)]
      exact .tup e r
    · exact p _ _ _ (.new zh hq) (.tup upd_same ((cut_rep r).mono (same_upd (zh.free hq))))
  | str z =>
    simp only [slD] at p
    split at p
    · rename_i hz; exact .inr (.inr ⟨z, rfl, le_line hz, p _ H Z (.refl zh) (.str _)⟩)
    · exact p.elim
  | _ => exact p.elim
theorem ix_part {σ : L2.St} {Z H : Hp} {v : V} {y : D} {Q' : VK} {f : Int → R D} (r : Rep B Z v y) (p : Post B W σ (relE B) Z H Q' ((ixOf y).bind f)) : ∃ i, v = .int i ∧ Post B W σ (relE B) Z H Q' (f i) := by
  cases y with
  | int i => exact ⟨i, r.int_inv, p⟩
  | _ => exact p.elim
theorem g_slU (hK : X.K = B.K) {a b : Expr} {pos p2 : Pos} {δa δb : Env → R D} (ha : PE X a (tE B W δa)) (hb : PE X b (tE B W δb)) : PE X (.Subscript a (.Slice none (some b) none p2) pos) (tE B W fun ρ => (δa ρ).bind fun x => (δb ρ).bind fun y => (ixOf y).bind fun j => slD x none (some j)) :=
  PE.of (pe_slice sl_all ha po_none (po_some hb)) fun H0 Z H σ ρ Q zh e p =>
    Sok.self.bind zh e p fun x v H1 Z1 s1 e1 r1 p1 =>
      Sok.self.bind s1.zh e1 p1 fun y u H2 Z2 s2 e2 r2 p2 => by
        obtain ⟨i, hi, p3⟩ := ix_part r2 p2
        exact ⟨i, hi, sl_ok hK s2.zh (r1.mono s2.zz) p3⟩
theorem g_slL (hK : X.K = B.K) {a b : Expr} {pos p2 : Pos} {δa δb : Env → R D} (ha : PE X a (tE B W δa)) (hb : PE X b (tE B W δb)) : PE X (.Subscript a (.Slice (some b) none none p2) pos) (tE B W fun ρ => (δa ρ).bind fun x => (δb ρ).bind fun y => (ixOf y).bind fun j => slD x (some j) none) :=
  PE.of (pe_slice sl_all ha (po_some hb) po_none) fun H0 Z H σ ρ Q zh e p =>
    Sok.self.bind zh e p fun x v H1 Z1 s1 e1 r1 p1 =>
      Sok.self.bind s1.zh e1 p1 fun y u H2 Z2 s2 e2 r2 p2 => by
        obtain ⟨i, hi, p3⟩ := ix_part r2 p2
        exact ⟨i, hi, sl_ok hK s2.zh (r1.mono s2.zz) p3⟩
theorem g_slB (hK : X.K = B.K) {a b c : Expr} {pos p2 : Pos} {δa δb δc : Env → R D} (ha : PE X a (tE B W δa)) (hb : PE X b (tE B W δb)) (hc : PE X c (tE B W δc)) :
    PE X (.Subscript a (.Slice (some b) (some c) none p2) pos) (tE B W fun ρ => (δa ρ).bind fun x => (δb ρ).bind fun y => (ixOf y).bind fun i => (δc ρ).bind fun y => (ixOf y).bind fun j => slD x (some i) (some j)) :=
  PE.of (pe_slice sl_all ha (po_some hb) (po_some hc)) fun H0 Z H σ ρ Q zh e p =>
    Sok.self.bind zh e p fun x v H1 Z1 s1 e1 r1 p1 =>
      Sok.self.bind s1.zh e1 p1 fun y u H2 Z2 s2 e2 r2 p2 => by
        obtain ⟨i, hi, p3⟩ := ix_part r2 p2
        refine ⟨i, hi, Sok.self.bind s2.zh e2 p3 fun z w H3 Z3 s3 e3 r3 p4 => ?_⟩
        obtain ⟨j, hj, p5⟩ := ix_part r3 p4
        exact ⟨j, hj, sl_ok hK s3.zh ((r1.mono s2.zz).mono s3.zz) p5⟩

/-! ### list.index -/
theorem toPs_get : ∀ {ds : List D} {i : Nat} {z : PyData}, (toPs ds)[i]? = some z → ∃ d, ds[i]? = some d ∧ z = toP d
  | [], _, _, h => by simp [toPs] at h
  | d :: ds, 0, z, h => by simp [toPs] at h; exact ⟨d, rfl, h.symm⟩
  | d :: ds, i + 1, z, h => by simp only [toPs, List.getElem?_cons_succ] at h; simpa using toPs_get h
theorem idx_ok (hK : X.K = B.K) : Op2 B (fun x y H Q => rIndexD X.K x [y] H Q) idxD := by
  rw [hK]
  intro Z H x y d e Q W σ zh rx ry p
  cases d with
  | lst ds =>
    simp only [idxD] at p
    by_cases hs : (shp (.lst ds) && shp e) = true
    · rw [if_pos hs] at p
      obtain ⟨h1, h2⟩ := Bool.and_eq_true_iff.mp hs
      cases q : (toPs ds).findIdx? fun z => PyData.eqv z (toP e) with
      | none => rw [q] at p; exact p.elim
      | some j =>
        rw [q] at p
        obtain ⟨hj, hjt, hjn⟩ := List.findIdx?_eq_some_iff_getElem.mp q
        have dl : Dp B.K H x (.list (toPs ds)) := same_dp zh (Rep.dp (.lst ds) x rx (.inl h1))
        have dy : Dp B.K H y (toP e) := same_dp zh (Rep.dp e y ry (.inl h2))
        cases rx with
        | @lst a xs _ ea ra =>
          refine ⟨a, y, toP e, toPs ds, j, (toPs ds)[j], rfl, rfl, dl, dy, h1, h2, List.getElem?_eq_getElem hj, hjt, fun m z' hm hz => ?_, p _ H Z (.refl zh) (.int _)⟩
          have hml : m < (toPs ds).length := (List.getElem?_eq_some_iff.mp hz).1
          have := hjn m hm
          rw [List.getElem?_eq_getElem hml] at hz
          cases hz
          simpa using this
    · rw [if_neg hs] at p; exact p.elim
  | _ => exact p.elim
theorem g_index (hK : X.K = B.K) (hu : X.A.units + 65 < cLine) {a b : Expr} {apos cpos : Pos} {δa δb : Env → R D} (ha : PE X a (tE B W δa)) (hb : PE X b (tE B W δb))
    (hbase : attributeBase a "index" X.env (eval a X.env) = eval a X.env) (hl : (apos.endLine == cpos.line) = true) (hs : starEach [b] X.env = (false, eval b X.env) :: starEach [] X.env) (hall : (backTo cpos (starEach [b] X.env)).all (fun x => !x.1) = true) :
    PE X (.Call (.Attribute a "index" apos) [b] [] cpos) (tE B W fun ρ => (δa ρ).bind fun x => (lstD x).bind fun _ => (δb ρ).bind fun y => idxD x y) := by
  refine PE.of (pe_bm PySem.F.plainAttrs_list PySem.F.slot_list_index PySem.F.type_list_index (mt_indexD hu) ha (pa_cons hb pa_nil hs) hbase (Bool.and_eq_true_iff.mpr ⟨Bool.and_eq_true_iff.mpr ⟨hall, rfl⟩, by simp⟩) hl hs (by rfl)) fun H0 Z H σ ρ Q zh e p => ?_
  refine Sok.self.bind zh e p fun x v H1 Z1 s1 e1 r1 p1 => ?_
  cases x with
  | lst ds =>
    cases r1 with
    | @lst a xs _ ea ra => exact ⟨.inl ⟨rfl, xs, .of (s1.zh _ _ ea)⟩, Sok.self.bind s1.zh e1 p1 fun y u H2 Z2 s2 e2 r2 p2 => idx_ok hK s2.zh (Rep.mono s2.zz (.lst ea ra)) r2 p2⟩
  | _ => exact p1.elim

/-! ### texts -/
theorem Reps.strs {Z : Hp} : ∀ (xs : List Str), Reps B Z (xs.map V.str) (xs.map D.str)
  | [] => .nil
  | x :: xs => .cons (.str x) (Reps.strs xs)
theorem strs_inv {Z : Hp} : ∀ {vs : List V} {ds : List D} {ys : List Str}, Reps B Z vs ds → strs? ds = some ys → vs = ys.map V.str
  | _, _, ys, .nil, h => by simp [strs?] at h; subst h; rfl
  | _, _, ys, .cons (d := d) (ds := ds) r t, h => by
    cases d with
    | str s =>
      cases r
      simp only [strs?] at h
      cases q : strs? ds with
      | none => rw [q] at h; simp at h
      | some zs =>
        rw [q] at h; simp at h; subst h
        rw [strs_inv t q]; rfl
    | _ => simp [strs?] at h
theorem split_line {n : Nat} (h : n ≤ big) : n + 2 ≤ sizeLine := by
  have h3 : big = 1000000 := rfl
  rw [sizeLine_eq]; omega
theorem g_split {a b : Expr} {apos cpos : Pos} {δa δb : Env → R D} (ha : PE X a (tE B W δa)) (hb : PE X b (tE B W δb))
    (hbase : attributeBase a "split" X.env (eval a X.env) = eval a X.env) (hl : (apos.endLine == cpos.line) = true) (hs : starEach [b] X.env = [(false, eval b X.env)]) :
    PE X (.Call (.Attribute a "split" apos) [b] [] cpos) (tE B W fun ρ => (δa ρ).bind fun x => (strD x).bind fun s => (δb ρ).bind (splitD s)) := by
  refine PE.of (pe_split ha hb hs hbase hl) fun H0 Z H σ ρ Q zh e p => Sok.self.bind zh e p fun x v H1 Z1 s1 e1 r1 p1 => ?_
  cases r1 with
  | str s =>
    refine ⟨⟨s, rfl⟩, Sok.self.bind s1.zh e1 p1 fun y u H2 Z2 s2 e2 r2 p2 => ?_⟩
    cases r2 with
    | str z =>
      simp only [splitD] at p2
      split at p2
      · rename_i h
        obtain ⟨h1, h2⟩ := Bool.and_eq_true_iff.mp h
        have h2 := of_decide_eq_true h2
        exact ⟨s, z, rfl, rfl, by simpa using h1, (split_line h2), fun q hq => p2 _ _ (upd Z2 q (.lst ((Txt.split s z).map V.str))) (Step.new s2.zh hq) (.lst upd_same (Reps.strs _))⟩
      · exact p2.elim
    | _ => exact p2.elim
  | _ => exact p1.elim
theorem g_join (hK : X.K = B.K) {a b : Expr} {apos cpos : Pos} {δa δb : Env → R D} (ha : PE X a (tE B W δa)) (hb : PE X b (tE B W δb))
    (hbase : attributeBase a "join" X.env (eval a X.env) = eval a X.env) (hl : (apos.endLine == cpos.line) = true) (hs : starEach [b] X.env = [(false, eval b X.env)]) :
    PE X (.Call (.Attribute a "join" apos) [b] [] cpos) (tE B W fun ρ => (δa ρ).bind fun x => (strD x).bind fun s => (δb ρ).bind (joinD s)) := by
  refine PE.of (pe_join ha hb hs hbase hl) fun H0 Z H σ ρ Q zh e p => Sok.self.bind zh e p fun x v H1 Z1 s1 e1 r1 p1 => ?_
  cases r1 with
  | str s =>
    refine ⟨⟨s, rfl⟩, Sok.self.bind s1.zh e1 p1 fun y u H2 Z2 s2 e2 r2 p2 => ?_⟩
    cases r2 with
    | @lst q xs ds eq rq =>
      simp only [joinD] at p2
      split at p2
      · rename_i ys hy
        split at p2
        · rename_i h
          have ex := strs_inv rq hy
          subst ex
          exact ⟨s, q, ys, rfl, rfl, .inl (.of (s2.zh _ _ eq)), by have : big = 1000000 := rfl; omega, p2 _ H2 Z2 (.refl s2.zh) (.str _)⟩
        · exact p2.elim
      · exact p2.elim
    | _ => exact p2.elim
  | _ => exact p1.elim
theorem g_trng (hc : X.calm = true) {a : Expr} {p p2 pos pos2 : Pos} {δ : Env → R D} (hg : Gl X "tuple") (hm : X.mg "tuple" = none) (hg2 : Gl X "range") (hm2 : X.mg "range" = none) (ha : PE X a (tE B W δ)) (hs : starEach [a] X.env = (false, eval a X.env) :: starEach [] X.env)
    (hs2 : starEach [.Call (.Name "range" p2) [a] [] pos2] X.env = (false, eval (.Call (.Name "range" p2) [a] [] pos2) X.env) :: starEach [] X.env) :
    PE X (.Call (.Name "tuple" p) [.Call (.Name "range" p2) [a] [] pos2] [] pos) (tE B W fun ρ => (δ ρ).bind fun x => (ixOf x).bind trngD) := by
  refine PE.of (pe_tupRg hc hg hm (prg_1 hg2 hm2 ha hs) hs2) fun H0 Z H σ ρ Q zh e q => Sok.self.bind zh e q fun x v H1 Z1 s1 e1 r1 p1 => ?_
  cases r1 with
  | int n =>
    simp only [ixOf, R.ok_bind, trngD] at p1
    split at p1
    · rename_i h
      simp only [Bool.and_eq_true, decide_eq_true_eq] at h
      refine ⟨n, rfl, RgOk.of_le (Int.le_refl _) (by omega) (by omega) h.1, fun q hq => p1 _ _ (upd Z1 q (.tup (rgV 0 n))) (Step.new s1.zh hq) (.tup upd_same ?_)⟩
      unfold rgV
      have e1 : (n - 0).toNat = n.toNat := by rw [Int.sub_zero]
      rw [e1]
      have : ∀ (l : List Nat), Reps B (upd Z1 q (.tup ((List.range n.toNat).map fun i => V.int (0 + (i : Nat))))) (l.map fun i => V.int (0 + (i : Nat))) (l.map fun k => D.int (k : Nat)) := by
        intro l
        induction l with
        | nil => exact .nil
        | cons k l ih => exact .cons (by show Rep B _ (V.int (0 + (k : Nat))) _; rw [Int.zero_add]; exact .int _) ih
      exact this _
    · exact p1.elim
  | _ => exact p1.elim
/-! ### owned lists, read -/
theorem g_olen (hK : X.K = B.K) {i : Nat} {x : Expr} {p pos : Pos} (hv : PE X x (tVar i)) (hg : Gl X "len") (hm : X.mg "len" = none) (hs : starEach [x] X.env = (false, eval x X.env) :: starEach [] X.env) :
    PE X (.Call (.Name "len" p) [x] [] pos) (tE B W fun ρ => match ρ[i]? with | some (.own ds) => .ok (.int ds.length) | _ => .bad) :=
  PE.of (pe_callB call_len hg hm (by decide +kernel) (pa_cons hv pa_nil hs) (by decide) (by decide) hs (by rfl)) fun H0 Z H σ ρ Q zh e q => by
    cases qi : ρ[i]? with
    | none => simp only [qi] at q; exact q.elim
    | some y =>
      simp only [qi] at q
      cases y with
      | un => exact q.elim
      | val d => exact q.elim
      | own ds =>
        obtain ⟨a, xs, h1, h2, h3, h4, h5⟩ := e.own i ds qi
        exact ⟨_, h1, _, ds.length, rfl, .inl ⟨xs, .of h4, h5.length.symm⟩, q _ H Z (.refl zh) (.int _)⟩
theorem g_oix (hK : X.K = B.K) {i : Nat} {x b : Expr} {pos : Pos} {δ : Env → R D} (hv : PE X x (tVar i)) (hb : PE X b (tE B W δ)) (hs : PlainIx b) : PE X (.Subscript x b pos) (tE B W fun ρ => match ρ[i]? with | some (.own ds) => (δ ρ).bind fun y => ixD (.lst ds) y | _ => .bad) :=
  PE.of (pe_ix ix_list hv hb hs) fun H0 Z H σ ρ Q zh e q => by
    cases qi : ρ[i]? with
    | none => simp only [qi] at q; exact q.elim
    | some y =>
      simp only [qi] at q
      cases y with
      | un => exact q.elim
      | val d => exact q.elim
      | own ds =>
        obtain ⟨a, xs, h1, h2, h3, h4, h5⟩ := e.own i ds qi
        refine ⟨_, h1, Sok.self.bind zh e q fun y v H1 Z1 s1 e1 r1 p1 => ?_⟩
        cases y with
        | int k =>
          rw [r1.int_inv]
          simp only [ixD] at p1
          split at p1
          · rename_i d' h
            obtain ⟨w, g1, g2⟩ := (h5.mono s1.zz).atI h
            exact ⟨a, xs, k, w, rfl, rfl, .of (s1.hh _ _ h4), g1, p1 _ H1 Z1 (.refl s1.zh) g2⟩
          · exact p1.elim
        | _ => exact p1.elim

/-! ### what is walked -/
structure WalkD (B : Bk) (J : It) (A : Hp → Hp → Prop) (ds : List D) : Prop where
  stop : ∀ Z H, A Z H → J.stop ds.length H
  go : ∀ i Z H, i < ds.length → A Z H → J.go i H
  yld : ∀ i d Z H x H', ds[i]? = some d → A Z H → J.yld i H x H' → ∃ Z', Step Z H Z' H' ∧ Rep B Z' x d
/-- what stands while it is walked: the frozen part; in a comprehension (fz = false) all that was tracked -/
def AI (fz : Bool) (Z1 H1 Z H : Hp) : Prop := Same Z1 Z ∧ Same Z H ∧ (fz = false → Same H1 H)
def PostI (B : Bk) (W : WX) (σ : L2.St) (fz : Bool) (Z H : Hp) (Rw : It → Hp → Prop) : R (List D) → Prop
  | .ok ds => ∀ J H' Z', Step Z H Z' H' → WalkD B J (AI fz Z' H') ds → Rw J H'
  | .exc c => ∀ H', Same H H' → W (.ref (B.exc c)) none σ H'
  | .bad => False
def tI (B : Bk) (W : WX) (fz : Bool) (δ : Env → R (List D)) : TI := fun σ H Rw => ∃ H0 Z ρ, Same Z H ∧ EnvOk B H0 Z H σ ρ ∧ PostI B W σ fz Z H Rw (δ ρ)
theorem PostI.step {σ : L2.St} {fz : Bool} {Z H Z' H' : Hp} {Rw : It → Hp → Prop} {r : R (List D)} (h : PostI B W σ fz Z H Rw r) (s : Step Z H Z' H') : PostI B W σ fz Z' H' Rw r := by
  cases r with
  | ok a => exact fun J H'' Z'' s' w => h J H'' Z'' (s.trans s') w
  | exc c => exact fun H'' s' => h H'' (s.hh.trans s')
  | bad => exact h
theorem PI.of {tg it : Expr} {wi : TI} {fz : Bool} {δ : Env → R (List D)} (h : PI X tg it wi) (s : ∀ H0 Z H σ ρ Rw, Same Z H → EnvOk B H0 Z H σ ρ → PostI B W σ fz Z H Rw (δ ρ) → wi σ H Rw) : PI X tg it (tI B W fz δ) :=
  ⟨fun pins st σ H Q I ⟨H0, Z, ρ, zh, e, p⟩ => h.run pins st σ H Q I (s H0 Z H σ ρ Q zh e p)⟩
theorem Sok.bindI {α β : Type} {rel : Hp → β → α → Prop} {t : L2.St → Hp → (β → Hp → Prop) → Prop} {δ : Env → R α} (hs : Sok B W rel t δ)
    {H0 Z H : Hp} {σ : L2.St} {ρ : Env} {fz : Bool} {Rw : It → Hp → Prop} {f : α → R (List D)} (zh : Same Z H) (e : EnvOk B H0 Z H σ ρ) (h : PostI B W σ fz Z H Rw ((δ ρ).bind f)) {Q' : β → Hp → Prop}
    (k : ∀ a v H' Z', Step Z H Z' H' → EnvOk B H0 Z' H' σ ρ → rel Z' v a → PostI B W σ fz Z' H' Rw (f a) → Q' v H') : t σ H Q' := by
  refine hs H0 Z H σ ρ Q' zh e ?_
  cases q : δ ρ with
  | ok a =>
    rw [q] at h
    exact fun v H' Z' s r => k a v H' Z' s (e.step s) r (PostI.step h s)
  | exc c => rw [q] at h; exact h
  | bad => rw [q] at h; exact h
theorem walkD_list {K : PySem.W.Frag} {a : Addr} {xs : List V} {ds : List D} {fz : Bool} {Z1 H1 : Hp} (e : Z1 a = some (.lst xs)) (r : Reps B Z1 xs ds) : WalkD B (Itl K a) (AI fz Z1 H1) ds := by
  have sq : ∀ Z H, AI fz Z1 H1 Z H → SqL K H a xs := fun Z H h => .of (h.2.1 _ _ (h.1 _ _ e))
  refine ⟨fun Z H h => ⟨xs, sq Z H h, by rw [r.length]; exact Nat.le_refl _⟩, fun i Z H hi h => ⟨xs, xs[i]'(by rw [r.length]; exact hi), sq Z H h, by simp⟩, fun i d Z H x H' hd h y => ?_⟩
  obtain ⟨rfl, y⟩ := y
  obtain ⟨v, h1, h2⟩ := r.get hd
  have := y xs (sq Z _ h)
  rw [h1] at this; cases this
  exact ⟨Z, .refl h.2.1, h2.mono h.1⟩
theorem walkD_tup {K : PySem.W.Frag} {a : Addr} {xs : List V} {ds : List D} {fz : Bool} {Z1 H1 : Hp} (e : Z1 a = some (.tup xs)) (r : Reps B Z1 xs ds) : WalkD B (Itt K a) (AI fz Z1 H1) ds := by
  have sq : ∀ Z H, AI fz Z1 H1 Z H → SqT K H a xs := fun Z H h => .of (h.2.1 _ _ (h.1 _ _ e))
  refine ⟨fun Z H h => ⟨xs, sq Z H h, by rw [r.length]; exact Nat.le_refl _⟩, fun i Z H hi h => ⟨xs, xs[i]'(by rw [r.length]; exact hi), sq Z H h, by simp⟩, fun i d Z H x H' hd h y => ?_⟩
  obtain ⟨rfl, y⟩ := y
  obtain ⟨v, h1, h2⟩ := r.get hd
  have := y xs (sq Z _ h)
  rw [h1] at this; cases this
  exact ⟨Z, .refl h.2.1, h2.mono h.1⟩
theorem walkD_own {K : PySem.W.Frag} {a : Addr} {xs : List V} {ds : List D} {Z1 H1 : Hp} (e : H1 a = some (.lst xs)) (r : Reps B Z1 xs ds) : WalkD B (Itl K a) (AI false Z1 H1) ds := by
  have sq : ∀ Z H, AI false Z1 H1 Z H → SqL K H a xs := fun Z H h => .of (h.2.2 rfl _ _ e)
  refine ⟨fun Z H h => ⟨xs, sq Z H h, by rw [r.length]; exact Nat.le_refl _⟩, fun i Z H hi h => ⟨xs, xs[i]'(by rw [r.length]; exact hi), sq Z H h, by simp⟩, fun i d Z H x H' hd h y => ?_⟩
  obtain ⟨rfl, y⟩ := y
  obtain ⟨v, h1, h2⟩ := r.get hd
  have := y xs (sq Z _ h)
  rw [h1] at this; cases this
  exact ⟨Z, .refl h.2.1, h2.mono h.1⟩
theorem walkD_rng {lo : Int} {n : Nat} {fz : Bool} {Z1 H1 : Hp} : WalkD B (Itr lo n) (AI fz Z1 H1) ((List.range n).map fun k => .int (lo + (k : Nat))) := by
  refine ⟨fun Z H h => by simp [Itr], fun i Z H hi h => by simpa [Itr] using hi, fun i d Z H x H' hd h y => ?_⟩
  obtain ⟨rfl, rfl⟩ := y
  rw [List.getElem?_map] at hd
  cases q : (List.range n)[i]? with
  | none => rw [q] at hd; simp at hd
  | some k =>
    rw [q] at hd
    have hk : k = i := by
      have := List.getElem?_eq_some_iff.mp q
      obtain ⟨h1, h2⟩ := this
      simpa using h2.symm
    subst hk
    simp at hd; subst hd
    exact ⟨Z, .refl h.2.1, .int _⟩
theorem walkD_str {z : Str} {fz : Bool} {Z1 H1 : Hp} : WalkD B (Its z) (AI fz Z1 H1) (z.cps.toList.map fun c => .str ⟨#[c]⟩) := by
  have w := walk_str (z := z)
  refine ⟨fun Z H h => ?_, fun i Z H hi h => w.goes i H (by simpa using hi) trivial, fun i d Z H x H' hd h y => ?_⟩
  · have := w.stops H trivial; simpa using this
  · have hi : i < z.cps.size := by
      have := (List.getElem?_eq_some_iff.mp hd).1
      simpa using this
    obtain ⟨rfl, c, hc, rfl⟩ := w.yields i H x H' hi trivial y
    rw [List.getElem?_map] at hd
    simp [hc] at hd
    subst hd
    exact ⟨Z, .refl h.2.1, .str _⟩
theorem pair_new {Z H : Hp} {T : Addr} {x y : V} {d e : D} (zh : Same Z H) (hT : H T = none) (r1 : Rep B Z x d) (r2 : Rep B Z y e) : ∃ Z', Step Z H Z' (upd H T (.tup [x, y])) ∧ Rep B Z' (.ref T) (.tup [d, e]) :=
  ⟨_, .new zh hT, .tup upd_same (.cons (r1.mono (same_upd (zh.free hT))) (.cons (r2.mono (same_upd (zh.free hT))) .nil))⟩
theorem walkD_enum {K : PySem.W.Frag} {a : Addr} {xs : List V} {ds : List D} {fz : Bool} {Z1 H1 : Hp} (e : Z1 a = some (.lst xs)) (r : Reps B Z1 xs ds) : WalkD B (Ite K a) (AI fz Z1 H1) (ds.mapIdx fun i d => .tup [.int (i : Nat), d]) := by
  have w := walk_enum (K := K) (a := a) (xs := xs)
  have sq : ∀ Z H, AI fz Z1 H1 Z H → SqL K H a xs := fun Z H h => .of (h.2.1 _ _ (h.1 _ _ e))
  refine ⟨fun Z H h => ?_, fun i Z H hi h => w.goes i H (by rw [r.length]; simpa using hi) (sq Z H h), fun i d Z H x H' hd h y => ?_⟩
  · have := w.stops H (sq Z H h); rw [r.length] at this; simpa using this
  · have hi : i < xs.length := by
      have := (List.getElem?_eq_some_iff.mp hd).1
      rw [r.length]; simpa using this
    obtain ⟨T, v, u, rfl, hT, rfl, h1, h2⟩ := w.yields i H x H' hi (sq Z H h) y
    simp only [Option.some.injEq] at h1; subst h1
    rw [List.getElem?_mapIdx] at hd
    cases q : ds[i]? with
    | none => rw [q] at hd; simp at hd
    | some d' =>
      rw [q] at hd; simp at hd; subst hd
      obtain ⟨v', g1, g2⟩ := r.get q
      have h2 : xs[i]? = some u := h2
      rw [h2] at g1; cases g1
      exact pair_new h.2.1 hT (.int _) (g2.mono h.1)
theorem walkD_enumT {K : PySem.W.Frag} {a : Addr} {xs : List V} {ds : List D} {fz : Bool} {Z1 H1 : Hp} (e : Z1 a = some (.tup xs)) (r : Reps B Z1 xs ds) : WalkD B (IteT K a) (AI fz Z1 H1) (ds.mapIdx fun i d => .tup [.int (i : Nat), d]) := by
  have sq : ∀ Z H, AI fz Z1 H1 Z H → SqT K H a xs := fun Z H h => .of (h.2.1 _ _ (h.1 _ _ e))
  refine ⟨fun Z H h => ?_, fun i Z H hi h => ?_, fun i d Z H x H' hd h y => ?_⟩
  · exact ⟨xs, sq Z H h, by rw [r.length]; simp⟩
  · have hi : i < xs.length := by rw [r.length]; simpa using hi
    exact ⟨xs, xs[i], sq Z H h, by simp [hi]⟩
  · obtain ⟨T, u, rfl, hT, rfl, h2⟩ := y
    have h2 := h2 xs (sq Z H h)
    rw [List.getElem?_mapIdx] at hd
    cases q : ds[i]? with
    | none => rw [q] at hd; simp at hd
    | some d' =>
      rw [q] at hd; simp at hd; subst hd
      obtain ⟨v', g1, g2⟩ := r.get q
      rw [h2] at g1; cases g1
      exact pair_new h.2.1 hT (.int _) (g2.mono h.1)
theorem walkD_zip {K : PySem.W.Frag} {a b : Addr} {xs ys : List V} {ds es : List D} {fz : Bool} {Z1 H1 : Hp} (e : Z1 a = some (.lst xs)) (r : Reps B Z1 xs ds) (e' : Z1 b = some (.lst ys)) (r' : Reps B Z1 ys es) :
    WalkD B (Itz K a b) (AI fz Z1 H1) ((ds.zip es).map fun p => .tup [p.1, p.2]) := by
  have hl : ((ds.zip es).map fun p => D.tup [p.1, p.2]).length = min xs.length ys.length := by simp [r.length, r'.length]
  have w := walk_zip (K := K) (a := a) (b := b) (xs := xs) (ys := ys) hl
  have sq : ∀ Z H, AI fz Z1 H1 Z H → SqL K H a xs ∧ SqL K H b ys := fun Z H h => ⟨.of (h.2.1 _ _ (h.1 _ _ e)), .of (h.2.1 _ _ (h.1 _ _ e'))⟩
  refine ⟨fun Z H h => w.stops H (sq Z H h), fun i Z H hi h => w.goes i H hi (sq Z H h), fun i d Z H x H' hd h y => ?_⟩
  have hi := (List.getElem?_eq_some_iff.mp hd).1
  obtain ⟨T, v, u, rfl, hT, rfl, h1, h2⟩ := w.yields i H x H' hi (sq Z H h) y
  rw [List.getElem?_map] at hd
  cases q : (ds.zip es)[i]? with
  | none => rw [q] at hd; simp at hd
  | some p =>
    rw [q] at hd; simp at hd; subst hd
    rw [List.getElem?_zip_eq_some] at q
    obtain ⟨v', g1, g2⟩ := r.get q.1
    obtain ⟨u', g3, g4⟩ := r'.get q.2
    have h1 : xs[i]? = some v := h1
    have h2 : ys[i]? = some u := h2
    rw [h1] at g1; cases g1
    rw [h2] at g3; cases g3
    exact pair_new h.2.1 hT (g2.mono h.1) (g4.mono h.1)

section
variable {tg : Expr} {fz : Bool}
/-- over a list or a tuple or a text -/
theorem PI.or {it : Expr} {w1 w2 : TI} (h1 : PI X tg it w1) (h2 : PI X tg it w2) : PI X tg it (fun σ H Rw => w1 σ H Rw ∨ w2 σ H Rw) :=
  ⟨fun pins s σ H Rw I h => h.elim (h1.run pins s σ H Rw I) (h2.run pins s σ H Rw I)⟩
theorem pi_any {l : Expr} {t : TE} (h : PE X l t) : PI X tg l (fun σ H Rw => t σ H fun x H1 => (∃ a, x = .ref a ∧ (∃ xs, SqL X.K H1 a xs) ∧ Rw (Itl X.K a) H1) ∨ (∃ a, x = .ref a ∧ (∃ xs, SqT X.K H1 a xs) ∧ Rw (Itt X.K a) H1) ∨ ∃ z, x = .str z ∧ Rw (Its z) H1) := by
  refine ⟨fun pins s σ H Rw I hh => ?_⟩
  refine thn (h.run pins s σ H _ I hh) fun v s1 ⟨x, H1, I1, r1, q1⟩ => ?_
  rcases q1 with ⟨a, e, ⟨xs, hq⟩, q⟩ | ⟨a, e, ⟨xs, hq⟩, q⟩ | ⟨z, e, q⟩
  · subst e; cases r1
    obtain ⟨its, rv, p, hz⟩ := I1.list hq
    refine wpAny_pyIter_list p.isList ?_
    refine ⟨s1.heap.objs.size, [s1.heap.objs.size], _, _, H1, rfl, I1.kept (t' := s1.toks) fun b o e => Heap.get?_push_of_some _ e, turn_list a _, ⟨_, Heap.get?_push_size _ rfl, rfl, rfl⟩, fun b hb => ?_, q⟩
    have e : b = s1.heap.objs.size := by simpa using hb
    subst e
    exact I1.fpOk (Nat.le_refl _) (I1.hok.fresh (Nat.le_refl _))
  · subst e; cases r1
    obtain ⟨its, rv, p, hz⟩ := I1.tuple hq
    refine wpAny_pyIter_tuple (show s1.heap.IsTuple a its.toArray from p) ?_
    refine ⟨s1.heap.objs.size, [s1.heap.objs.size], _, _, H1, rfl, I1.kept (t' := s1.toks) fun b o e => Heap.get?_push_of_some _ e, turn_tuple a _, ⟨_, Heap.get?_push_size _ rfl, rfl, rfl⟩, fun b hb => ?_, q⟩
    have e : b = s1.heap.objs.size := by simpa using hb
    subst e
    exact I1.fpOk (Nat.le_refl _) (I1.hok.fresh (Nat.le_refl _))
  · subst e
    obtain ⟨t, rfl⟩ := r1
    cases ha : z.cps.all (· < 128)
    · exact wpAny_pyIter_wide ha (pi_one (tk := s1.toks) I1 _ (turn_str _ z t "str_iterator" (.inr rfl)) ⟨_, Heap.get?_push_size _ rfl, rfl, rfl⟩ q)
    · exact wpAny_pyIter_ascii ha (pi_one (tk := s1.toks) I1 _ (turn_str _ z t "str_ascii_iterator" (.inl rfl)) ⟨_, Heap.get?_push_size _ rfl, rfl, rfl⟩ q)
theorem gi_val {l : Expr} {δ : Env → R D} (h : PE X l (tE B W δ)) : PI X tg l (tI B W fz fun ρ => (δ ρ).bind seqD) :=
  PI.of (pi_any h) fun H0 Z H σ ρ Rw zh e p => Sok.self.bindI zh e p fun x v H1 Z1 s1 e1 r1 p1 => by
    cases r1 with
    | @lst a xs ds ea ra => exact .inl ⟨a, rfl, ⟨xs, .of (s1.zh _ _ ea)⟩, p1 _ H1 Z1 (.refl s1.zh) (walkD_list ea ra)⟩
    | @tup a xs ds ea ra => exact .inr (.inl ⟨a, rfl, ⟨xs, .of (s1.zh _ _ ea)⟩, p1 _ H1 Z1 (.refl s1.zh) (walkD_tup ea ra)⟩)
    | str z => exact .inr (.inr ⟨z, rfl, p1 _ H1 Z1 (.refl s1.zh) walkD_str⟩)
    | _ => exact p1.elim
theorem gi_own {l : Expr} {i : Nat} (h : PE X l (tVar i)) : PI X tg l (tI B W false fun ρ => match ρ[i]? with | some (.own ds) => .ok ds | _ => .bad) :=
  PI.of (pi_list h) fun H0 Z H σ ρ Rw zh e p => by
    cases qi : ρ[i]? with
    | none => simp only [qi] at p; exact p.elim
    | some y =>
      simp only [qi] at p
      cases y with
      | un => exact p.elim
      | val d => exact p.elim
      | own ds =>
        obtain ⟨a, xs, h1, h2, h3, h4, h5⟩ := e.own i ds qi
        exact ⟨_, h1, a, rfl, ⟨xs, .of h4⟩, p _ H Z (.refl zh) (walkD_own h4 h5)⟩
theorem ix_partI {σ : L2.St} {Z H : Hp} {v : V} {y : D} {Rw : It → Hp → Prop} {f : Int → R (List D)} (r : Rep B Z v y) (p : PostI B W σ fz Z H Rw ((ixOf y).bind f)) : ∃ i, v = .int i ∧ PostI B W σ fz Z H Rw (f i) := by
  cases y with
  | int i => exact ⟨i, r.int_inv, p⟩
  | _ => exact p.elim
theorem rng_ok {σ : L2.St} {Z H : Hp} {Rw : It → Hp → Prop} {i j : Int} (zh : Same Z H) (p : PostI B W σ fz Z H Rw (rngD i j)) : (-(2 ^ 62) ≤ i ∧ i < 2 ^ 62 ∧ -(2 ^ 62) ≤ j ∧ j < 2 ^ 62) ∧ Rw (Itr i (j - i).toNat) H := by
  unfold rngD at p
  split at p
  · rename_i h
    simp only [Bool.and_eq_true, decide_eq_true_eq] at h
    exact ⟨⟨h.1.1.1, h.1.1.2, h.1.2, h.2⟩, p _ H Z (.refl zh) walkD_rng⟩
  · exact p.elim
theorem gi_rng1 {a : Expr} {p pos : Pos} {δ : Env → R D} (h : PE X a (tE B W δ)) (hg : Gl X "range") (hm : X.mg "range" = none) (hs : starEach [a] X.env = [(false, eval a X.env)]) :
    PI X tg (.Call (.Name "range" p) [a] [] pos) (tI B W fz fun ρ => (δ ρ).bind fun y => (ixOf y).bind fun j => rngD 0 j) :=
  PI.of (pi_range1 hg hm (pa_cons h pa_nil hs) hs) fun H0 Z H σ ρ Rw zh e p => Sok.self.bindI zh e p fun x v H1 Z1 s1 e1 r1 p1 => by
    obtain ⟨j, rfl, p2⟩ := ix_partI r1 p1
    obtain ⟨h1, h2⟩ := rng_ok s1.zh p2
    exact ⟨j, rfl, h1.2.2.1, h1.2.2.2, by simpa using h2⟩
theorem gi_rng2 {a b : Expr} {p pos : Pos} {δ δ' : Env → R D} (h : PE X a (tE B W δ)) (h' : PE X b (tE B W δ')) (hg : Gl X "range") (hm : X.mg "range" = none)
    (hs : starEach [a, b] X.env = [(false, eval a X.env), (false, eval b X.env)]) (hs2 : starEach [b] X.env = [(false, eval b X.env)]) :
    PI X tg (.Call (.Name "range" p) [a, b] [] pos) (tI B W fz fun ρ => (δ ρ).bind fun x => (δ' ρ).bind fun y => (ixOf x).bind fun i => (ixOf y).bind fun j => rngD i j) :=
  PI.of (pi_range2 hg hm (pa_cons h (pa_cons h' pa_nil hs2) (by rw [hs, hs2])) hs hs2) fun H0 Z H σ ρ Rw zh e p => Sok.self.bindI zh e p fun x v H1 Z1 s1 e1 r1 p1 =>
    Sok.self.bindI s1.zh e1 p1 fun y u H2 Z2 s2 e2 r2 p2 => by
      obtain ⟨i, rfl, p3⟩ := ix_partI (r1.mono s2.zz) p2
      obtain ⟨j, rfl, p4⟩ := ix_partI r2 p3
      obtain ⟨h1, h2⟩ := rng_ok s2.zh p4
      exact ⟨i, j, rfl, h1, h2⟩
theorem gi_enum {a : Expr} {p pos tpos : Pos} {elts : List Expr} {kk : Nat} {δ : Env → R D} (h : PE X a (tE B W δ)) (hg : Gl X "enumerate") (hm : X.mg "enumerate" = none) (hs : starEach [a] X.env = [(false, eval a X.env)]) :
    PI X (.Tuple elts kk tpos) (.Call (.Name "enumerate" p) [a] [] pos) (tI B W fz fun ρ => (δ ρ).bind fun x => (ltD x).bind fun ds => .ok (ds.mapIdx fun i d => .tup [.int (i : Nat), d])) := by
  have h1 := pi_enum (p := p) (pos := pos) (tpos := tpos) (elts := elts) (kk := kk) hg hm (pa_cons h pa_nil hs) hs
  have h2 := pi_enumT (p := p) (pos := pos) (tpos := tpos) (elts := elts) (kk := kk) hg hm (pa_cons h pa_nil hs) hs
  refine PI.of (PI.or h1 h2) fun H0 Z H σ ρ Rw zh e p => ?_
  have go : ∀ {Q : VK}, (Post B W σ (relE B) Z H Q (δ ρ)) → tE B W δ σ H Q := fun h => Sok.self H0 Z H σ ρ _ zh e h
  cases qd : δ ρ with
  | bad => rw [qd] at p; exact p.elim
  | exc c =>
    rw [qd] at p go
    exact .inl (go p)
  | ok x =>
    rw [qd] at p go
    simp only [R.ok_bind] at p
    cases x with
    | lst ds =>
      refine .inl (go fun v H1 Z1 s1 r1 => ?_)
      have p1 := PostI.step p s1
      cases r1 with
      | @lst a xs ds ea ra => exact ⟨a, xs, rfl, .of (s1.zh _ _ ea), p1 _ H1 Z1 (.refl s1.zh) (walkD_enum ea ra)⟩
    | tup ds =>
      refine .inr (go fun v H1 Z1 s1 r1 => ?_)
      have p1 := PostI.step p s1
      cases r1 with
      | @tup a xs ds ea ra => exact ⟨a, xs, rfl, .of (s1.zh _ _ ea), p1 _ H1 Z1 (.refl s1.zh) (walkD_enumT ea ra)⟩
    | _ => exact p.elim
theorem walkD_zipM {K : PySem.W.Frag} {a b : Addr} {xs ys : List V} {ds es : List D} {fz : Bool} {Z1 H1 : Hp} (e : Z1 a = some (.tup xs)) (r : Reps B Z1 xs ds) (e' : Z1 b = some (.lst ys)) (r' : Reps B Z1 ys es) :
    WalkD B (ItzM K a b) (AI fz Z1 H1) ((ds.zip es).map fun p => .tup [p.1, p.2]) := by
  have l1 := r.length
  have l2 := r'.length
  have hl : ((ds.zip es).map fun p => D.tup [p.1, p.2]).length = min xs.length ys.length := by simp [l1, l2]
  have sq : ∀ Z H, AI fz Z1 H1 Z H → SqT K H a xs ∧ SqL K H b ys := fun Z H h => ⟨.of (h.2.1 _ _ (h.1 _ _ e)), .of (h.2.1 _ _ (h.1 _ _ e'))⟩
  refine ⟨fun Z H h => ⟨xs, ys, (sq Z H h).1, (sq Z H h).2, by omega, by omega, by omega⟩, fun i Z H hi h => ?_, fun i d Z H x H' hd h y => ?_⟩
  · have h1 : i < xs.length := by omega
    have h2 : i < ys.length := by omega
    exact ⟨xs, ys, xs[i], ys[i], (sq Z H h).1, (sq Z H h).2, List.getElem?_eq_getElem h1, List.getElem?_eq_getElem h2⟩
  · obtain ⟨T, v, u, rfl, hT, rfl, h1, h2⟩ := y
    have h1 := h1 xs (sq Z H h).1
    have h2 := h2 ys (sq Z H h).2
    rw [List.getElem?_map] at hd
    cases q : (ds.zip es)[i]? with
    | none => rw [q] at hd; simp at hd
    | some p =>
      rw [q] at hd; simp at hd; subst hd
      rw [List.getElem?_zip_eq_some] at q
      obtain ⟨v', g1, g2⟩ := r.get q.1
      obtain ⟨u', g3, g4⟩ := r'.get q.2
      rw [h1] at g1; cases g1
      rw [h2] at g3; cases g3
      exact pair_new h.2.1 hT (g2.mono h.1) (g4.mono h.1)
theorem gi_zip {a b : Expr} {p pos tpos : Pos} {elts : List Expr} {kk : Nat} {δ δ' : Env → R D} (h : PE X a (tE B W δ)) (h' : PE X b (tE B W δ')) (hg : Gl X "zip") (hm : X.mg "zip" = none)
    (hs : starEach [a, b] X.env = (false, eval a X.env) :: starEach [b] X.env) (hs2 : starEach [b] X.env = [(false, eval b X.env)]) :
    PI X (.Tuple elts kk tpos) (.Call (.Name "zip" p) [a, b] [] pos) (tI B W fz fun ρ => (δ ρ).bind fun x => (δ' ρ).bind fun y => (ltD x).bind fun ds => (lstD y).bind fun es => .ok ((ds.zip es).map fun p => .tup [p.1, p.2])) := by
  have h1 := pi_zip (p := p) (pos := pos) (tpos := tpos) (elts := elts) (kk := kk) hg hm (pa_cons h (pa_cons h' pa_nil hs2) hs) hs (by rw [hs2]; rfl)
  have h2 := pi_zipM (p := p) (pos := pos) (tpos := tpos) (elts := elts) (kk := kk) hg hm (pa_cons h (pa_cons h' pa_nil hs2) hs) hs (by rw [hs2]; rfl)
  refine PI.of (PI.or h1 h2) fun H0 Z H σ ρ Rw zh e p => ?_
  have go : ∀ {Q : VK}, (Post B W σ (relE B) Z H Q (δ ρ)) → tE B W δ σ H Q := fun h => Sok.self H0 Z H σ ρ _ zh e h
  cases qd : δ ρ with
  | bad => rw [qd] at p; exact p.elim
  | exc c =>
    rw [qd] at p go
    exact .inl (go p)
  | ok x =>
    rw [qd] at p go
    simp only [R.ok_bind] at p
    cases x with
    | tup ds =>
      refine .inr (go fun v H1 Z1 s1 r1 => ?_)
      have p1 := PostI.step p s1
      refine Sok.self.bindI s1.zh (e.step s1) p1 fun y u H2 Z2 s2 e2 r2 p2 => ?_
      have r1' := Rep.mono s2.zz r1
      cases r1' with
      | @tup a xs ds ea ra =>
        cases r2 with
        | @lst b ys es eb rb => exact ⟨a, b, xs, ys, rfl, .of (s2.zh _ _ ea), .of (s2.zh _ _ eb), p2 _ H2 Z2 (.refl s2.zh) (walkD_zipM ea ra eb rb)⟩
        | _ => exact p2.elim
    | lst ds =>
      refine .inl (go fun v H1 Z1 s1 r1 => ?_)
      have p1 := PostI.step p s1
      refine Sok.self.bindI s1.zh (e.step s1) p1 fun y u H2 Z2 s2 e2 r2 p2 => ?_
      have r1' := Rep.mono s2.zz r1
      cases r1' with
      | @lst a xs ds ea ra =>
        cases r2 with
        | @lst b ys es eb rb => exact ⟨a, b, xs, ys, rfl, .of (s2.zh _ _ ea), .of (s2.zh _ _ eb), p2 _ H2 Z2 (.refl s2.zh) (walkD_zip ea ra eb rb)⟩
        | _ => exact p2.elim
    | _ =>
      refine .inl (go fun v H1 Z1 s1 r1 => ?_)
      have p1 := PostI.step p s1
      exact Sok.self.bindI s1.zh (e.step s1) p1 fun y u H2 Z2 s2 e2 r2 p2 => p2.elim
end

/-! ### comprehensions -/
def W0 : WX := fun _ _ _ _ => False
def gT (K : PySem.W.Frag) : Tg → TG
  | .one i => gName i
  | .two i j => gTup K 2 (gCons (gName i) (gCons (gName j) gNil))
theorem gT_ok {H0 Z H : Hp} {σ : L2.St} {ρ ρ' : Env} {tg : Tg} {d : D} {x : V} {Q : L2.St → Hp → Prop} {K : PySem.W.Frag} (zh : Same Z H) (e : EnvOk B H0 Z H σ ρ) (r : Rep B Z x d) (h : setT tg d ρ = .ok ρ')
    (k : ∀ σ', EnvOk B H0 Z H σ' ρ' → wipe σ' tg.ixs = wipe σ tg.ixs → Q σ' H) : gT K tg x σ H Q := by
  cases tg with
  | one i =>
    simp only [setT, R.ok.injEq] at h; subst h
    exact k _ (e.set i r) (by simp [Tg.ixs, wipe])
  | two i j =>
    cases r with
    | @tup a xs ds ea ra =>
      cases ra with
      | nil => simp [setT] at h
      | cons r1 t =>
        cases t with
        | nil => simp [setT] at h
        | cons r2 t =>
          cases t with
          | cons r3 t => simp [setT] at h
          | nil =>
            simp only [setT, R.ok.injEq] at h; subst h
            refine ⟨a, _, rfl, .of (zh _ _ ea), rfl, _, _, rfl, _, _, rfl, rfl, k _ ((e.set i r1).set j r2) ?_⟩
            simp only [Tg.ixs, wipe]
            by_cases hij : i = j
            · subst hij; simp
            · rw [List.set_set, List.set_comm _ _ hij, List.set_set]
    | _ => simp [setT] at h
theorem wipe_ok {H0 Z H : Hp} {σ : L2.St} {ρ : Env} (e : EnvOk B H0 Z H σ ρ) : ∀ vs : List Nat, EnvOk B H0 Z H (wipe σ vs) (wipeE ρ vs)
  | [] => e
  | v :: vs => (wipe_ok e vs).forget v none
theorem wipe_wipe (σ : L2.St) (t : Tg) : wipe (wipe σ t.ixs) t.ixs = wipe σ t.ixs := by
  cases t with
  | one i => simp [wipe, Tg.ixs]
  | two i j =>
    simp only [wipe, Tg.ixs]
    by_cases h : i = j
    · subst h; simp
    · rw [List.set_comm _ _ h, List.set_set, List.set_set, List.set_comm _ _ (Ne.symm h)]
/-- one turn's value -/
def turnD (tg : Tg) (δt : Env → R Bool) (δe : Env → R D) (ρ : Env) (d : D) : R (Option D) :=
  (setT tg d (wipeE ρ tg.ixs)).bind fun ρ' => (δt ρ').bind fun k => if k = true then (δe ρ').bind fun y => .ok (some y) else .ok none
theorem g_comp {elt tg iter : Expr} {ifs : List Expr} {scope : Scope} {own : List (Str × Nat)} {fz : Bool} {t : Tg} {δi : Env → R (List D)} {δt : Env → R Bool} {δe : Env → R D}
    (hown : own.map (·.2) = t.ixs) : ∀ H0 Z H σ ρ Q, Same Z H → EnvOk B H0 Z H σ ρ →
      Post B W σ (relE B) Z H Q ((δi ρ).bind fun ds => if ds.length ≤ big then (compR (turnD t δt δe ρ) ds).bind fun l => .ok (.lst l) else .bad) →
      tLc (tI B W fz δi) (gT X.K t) (tT B W0 δt) (tE B W0 δe) (own.map (·.2)) σ H Q := by
  intro H0 Z H σ ρ Q zh e p
  refine ⟨H0, Z, ρ, zh, e, ?_⟩
  cases qi : δi ρ with
  | bad => rw [qi] at p; exact p.elim
  | exc c => rw [qi] at p; exact p
  | ok ds =>
    rw [qi] at p
    simp only [R.ok_bind] at p
    by_cases hl : ds.length ≤ big
    · rw [if_pos hl] at p
      intro J H1 Z1 s1 w D hD
      have p1 := Post.step p s1
      have e1 := e.step s1
      rw [hown]
      let Pv : Nat → Hp → Prop := fun i H => ∃ Z vs es, Step Z1 H1 Z H ∧ H D = some (.lst vs) ∧ Z D = none ∧ Reps B Z vs es ∧ es.length ≤ i ∧ Post B W σ (relE B) Z1 H1 Q ((compR (turnD t δt δe ρ) (ds.drop i)).bind fun l => .ok (.lst (es ++ l)))
      have wk : Walk J ds.length (fun H => ∃ Z, AI fz Z1 H1 Z H) (fun i H x H' => J.yld i H x H') := ⟨fun i H hi ⟨Z, h⟩ => w.go i Z H hi h, fun H ⟨Z, h⟩ => w.stop Z H h, fun _ _ _ _ _ _ y => y⟩
      have ai : ∀ {Z H}, Step Z1 H1 Z H → AI fz Z1 H1 Z H := fun s => ⟨s.zz, s.zh, fun _ => s.hh⟩
      refine lc_it wk Pv ?_ (fun i H hi ⟨Z, vs, es, s, _⟩ => ⟨Z, ai s⟩) ?_ ?_
      · refine ⟨Z1, [], [], ?_, upd_same, s1.zh.free hD, .nil, Nat.le_refl _, by simpa using p1⟩
        exact Step.own (.refl s1.zh) hD (s1.zh.free hD)
      · rintro i x H2 H3 hi ⟨Z2, vs, es, s2, hD2, zD2, rs, hes, p2⟩ y
        obtain ⟨d, hd⟩ : ∃ d, ds[i]? = some d := ⟨ds[i], by simp [hi]⟩
        obtain ⟨Z3, s3, rx⟩ := w.yld i d Z2 H2 x H3 hd (ai s2) y
        have hdr : ds.drop i = d :: ds.drop (i + 1) := by
          rw [List.drop_eq_getElem_cons hi]
          congr 1
          have := List.getElem?_eq_some_iff.mp hd
          exact this.2
        rw [hdr] at p2
        simp only [compR] at p2
        cases qf : turnD t δt δe ρ d with
        | bad => rw [qf] at p2; exact p2.elim
        | exc c => rw [qf] at p2; exact p2.elim
        | ok o =>
          rw [qf] at p2
          simp only [noX, R.ok_bind] at p2
          have hD3 : H3 D = some (.lst vs) := s3.hh _ _ hD2
          have zD3 : Z3 D = none := by rw [s3.fr D (by rw [hD2]; simp)]; exact zD2
          have e3 : EnvOk B H0 Z3 H3 (wipe σ t.ixs) (wipeE ρ t.ixs) := wipe_ok ((e1.step s2).step s3) _
          unfold turnD at qf
          cases qs : setT t d (wipeE ρ t.ixs) with
          | bad => rw [qs] at qf; simp at qf
          | exc c => rw [qs] at qf; simp at qf
          | ok ρ' =>
            rw [qs] at qf
            simp only [R.ok_bind] at qf
            refine gT_ok s3.zh e3 rx qs fun σ' e4 hw => ⟨by rw [hw]; exact wipe_wipe σ t, ?_⟩
            refine ⟨H0, Z3, ρ', s3.zh, e4, ?_⟩
            cases qt : δt ρ' with
            | bad => rw [qt] at qf; simp at qf
            | exc c => rw [qt] at qf; simp at qf
            | ok k =>
              rw [qt] at qf
              simp only [R.ok_bind] at qf
              intro b H4 Z4 s4 hb
              have hb : b = k := hb
              subst hb
              have hD4 : H4 D = some (.lst vs) := s4.hh _ _ hD3
              have zD4 : Z4 D = none := by rw [s4.fr D (by rw [hD3]; simp)]; exact zD3
              by_cases hk : b = true
              · rw [if_pos hk] at qf ⊢
                refine ⟨H0, Z4, ρ', s4.zh, e4.step s4, ?_⟩
                cases qe : δe ρ' with
                | bad => rw [qe] at qf; simp at qf
                | exc c => rw [qe] at qf; simp at qf
                | ok yd =>
                  rw [qe] at qf
                  simp only [R.ok_bind, R.ok.injEq] at qf
                  subst qf
                  intro v H5 Z5 s5 rv
                  have hD5 : H5 D = some (.lst vs) := s5.hh _ _ hD4
                  have zD5 : Z5 D = none := by rw [s5.fr D (by rw [hD4]; simp)]; exact zD4
                  have st := ((s2.trans s3).trans s4).trans s5
                  refine ⟨vs, hD5, ?_, Z5, vs ++ [v], es ++ [yd], Step.own st hD zD5, upd_same, zD5, ?_, ?_, ?_⟩
                  · rw [rs.length]; exact Nat.lt_of_le_of_lt (Nat.le_trans hes (Nat.le_of_lt (Nat.lt_of_lt_of_le hi hl))) big_line
                  · exact (rs.mono ((s3.zz.trans s4.zz).trans s5.zz)).append (.cons rv .nil)
                  · simp; omega
                  · revert p2
                    cases compR (turnD t δt δe ρ) (ds.drop (i + 1)) with
                    | bad => exact fun p => p
                    | exc c => exact fun p => p
                    | ok l => simp
              · rw [if_neg hk] at qf ⊢
                simp only [R.ok.injEq] at qf
                subst qf
                have st := (s2.trans s3).trans s4
                refine ⟨Z4, vs, es, st, hD4, zD4, rs.mono (s3.zz.trans s4.zz), by omega, ?_⟩
                revert p2
                cases compR (turnD t δt δe ρ) (ds.drop (i + 1)) with
                | bad => exact fun p => p
                | exc c => exact fun p => p
                | ok l => simp
      · rintro H2 ⟨Z2, vs, es, s2, hD2, zD2, rs, hes, p2⟩
        simp only [List.drop_length, compR, R.ok_bind, List.append_nil] at p2
        have hz : Same Z2 (upd Z2 D (.lst vs)) := same_upd zD2
        refine p2 _ H2 (upd Z2 D (.lst vs)) ⟨s2.hh, s2.zz.trans hz, fun b u q => ?_, fun a ha => ?_⟩ (.lst upd_same (rs.mono hz))
        · by_cases hb : b = D
          · subst hb; rw [upd_same] at q; cases q; exact hD2
          · rw [upd_ne hb] at q; exact s2.zh b u q
        · rw [upd_ne, s2.fr a ha]
          rintro rfl; exact ha hD
    · rw [if_neg hl] at p; exact p.elim
end
end RS

namespace RS
open PySem PySem.Spec PyProof.Rows L2
section
variable {X : Cx} {B : Bk} {W : WX}
def PostS (B : Bk) (W : WX) (Z0 H0 : Hp) (Dn : Ends) : O → Prop
  | .nx ρ' => ∀ σ' H' Z', Step Z0 H0 Z' H' → EnvOk B H0 Z' H' σ' ρ' → Dn.nx σ' H'
  | .ret d => ∀ v H' Z', Step Z0 H0 Z' H' → Rep B Z' v d → Dn.rt v H'
  | .exc c ρ' => ∀ σ' H' Z', Step Z0 H0 Z' H' → EnvOk B H0 Z' H' σ' ρ' → W (.ref (B.exc c)) none σ' H'
  | .bad => False
def tS (B : Bk) (W : WX) (δ : Env → O) : TS := fun Dn σ H => ∃ Z0 H0 Z ρ, Step Z0 H0 Z H ∧ EnvOk B H0 Z H σ ρ ∧ PostS B W Z0 H0 Dn (δ ρ)
theorem PS.of {st : Stmt} {t : TS} {δ : Env → O} (h : PS X st t) (s : ∀ Z0 H0 Z H σ ρ Dn, Step Z0 H0 Z H → EnvOk B H0 Z H σ ρ → PostS B W Z0 H0 Dn (δ ρ) → t Dn σ H) : PS X st (tS B W δ) :=
  ⟨fun pins s0 σ H Dn I ⟨Z0, H0, Z, ρ, st, e, p⟩ => h.run pins s0 σ H Dn I (s Z0 H0 Z H σ ρ Dn st e p)⟩
theorem PSs.of {st : List Stmt} {t : TS} {δ : Env → O} (h : PSs X st t) (s : ∀ Z0 H0 Z H σ ρ Dn, Step Z0 H0 Z H → EnvOk B H0 Z H σ ρ → PostS B W Z0 H0 Dn (δ ρ) → t Dn σ H) : PSs X st (tS B W δ) :=
  ⟨fun pins s0 σ H Dn I ⟨Z0, H0, Z, ρ, st, e, p⟩ => h.run pins s0 σ H Dn I (s Z0 H0 Z H σ ρ Dn st e p)⟩
theorem Sok.out {α β : Type} {rel : Hp → β → α → Prop} {t : L2.St → Hp → (β → Hp → Prop) → Prop} {δ : Env → R α} (hs : Sok B W rel t δ) {Z0 H0 Z H : Hp} {σ : L2.St} {ρ : Env} {Dn : Ends} {f : α → O}
    (st : Step Z0 H0 Z H) (e : EnvOk B H0 Z H σ ρ) (h : PostS B W Z0 H0 Dn ((δ ρ).out ρ f)) {Q' : β → Hp → Prop}
    (k : ∀ a v H' Z', Step Z H Z' H' → Step Z0 H0 Z' H' → EnvOk B H0 Z' H' σ ρ → rel Z' v a → PostS B W Z0 H0 Dn (f a) → Q' v H') : t σ H Q' := by
  refine hs H0 Z H σ ρ Q' st.zh e ?_
  cases q : δ ρ with
  | ok a => rw [q] at h; exact fun v H' Z' s r => k a v H' Z' s (st.trans s) (e.step s) r h
  | exc c =>
    rw [q] at h
    exact fun H' s => h σ H' Z (st.trans (.grow st.zh s)) (e.step (.grow st.zh s))
  | bad => rw [q] at h; exact h
/-! ### blocks -/
theorem gs_nil : PSs X [] (tS B W fun ρ => .nx ρ) := PSs.of pss_nil fun Z0 H0 Z H σ ρ Dn st e p => p σ H Z st e
theorem gs_cons {st : Stmt} {rest : List Stmt} {δ δ' : Env → O} (h1 : PS X st (tS B W δ)) (h2 : PSs X rest (tS B W δ')) : PSs X (st :: rest) (tS B W fun ρ => (δ ρ).then δ') :=
  PSs.of (pss_cons h1 h2) fun Z0 H0 Z H σ ρ Dn s e p => by
    refine ⟨Z0, H0, Z, ρ, s, e, ?_⟩
    cases q : δ ρ with
    | nx ρ' => simp only [q, O.then] at p; exact fun σ' H' Z' s' e' => ⟨Z0, H0, Z', ρ', s', e', p⟩
    | ret d => simp only [q, O.then] at p; exact p
    | exc c ρ' => simp only [q, O.then] at p; exact p
    | bad => simp only [q, O.then] at p; exact p
/-- an owned list becomes plain: no statement -/
theorem gs_frz {rest : List Stmt} {i : Nat} {δ' : Env → O} (h2 : PSs X rest (tS B W δ')) : PSs X rest (tS B W fun ρ => (ownAt ρ i fun ds => .nx (ρ.set i (.val (.lst ds)))).then δ') :=
  PSs.of h2 fun Z0 H0 Z H σ ρ Dn s e p => by
    unfold ownAt at p
    cases q : ρ[i]? with
    | none => simp only [q, O.then] at p; exact p.elim
    | some y =>
      simp only [q] at p
      cases y with
      | un => exact p.elim
      | val d => exact p.elim
      | own ds =>
        obtain ⟨Z', s', e'⟩ := e.freeze q s
        exact ⟨Z0, H0, Z', _, s', e', p⟩
/-! ### small statements -/
theorem gs_expr {e : Expr} {pos : Pos} {δ : Env → R D} (he : PE X e (tE B W δ)) (hs : swapsWith e none pos.line X.env = pure false) : PS X (.Expr e pos) (tS B W fun ρ => (δ ρ).out ρ fun _ => .nx ρ) :=
  PS.of (ps_expr he hs) fun Z0 H0 Z H σ ρ Dn s e p => Sok.self.out s e p fun a v H' Z' s1 s2 e' r p' => p' σ H' Z' s2 e'
theorem gs_ret {e : Expr} {pos : Pos} {δ : Env → R D} (he : PE X e (tE B W δ)) : PS X (.Return (some e) pos) (tS B W fun ρ => (δ ρ).out ρ fun d => .ret d) :=
  PS.of (ps_ret he) fun Z0 H0 Z H σ ρ Dn s e p => Sok.self.out s e p fun a v H' Z' s1 s2 e' r p' => p' v H' Z' s2 r
theorem gs_asg' {e : Expr} {x : Str} {i : Nat} {pos pos' : Pos} {δ : Env → R D} {t : TE} (h : PS X (.Assign [.Name x pos'] e pos) (tAsg t (gName i))) (ht : Sok B W (relE B) t δ) :
    PS X (.Assign [.Name x pos'] e pos) (tS B W fun ρ => (δ ρ).out ρ fun d => .nx (ρ.set i (.val d))) :=
  PS.of h fun Z0 H0 Z H σ ρ Dn s e p => ht.out s e p fun a v H' Z' s1 s2 e' r p' => p' _ H' Z' s2 (e'.set i r)
theorem gs_newl {x : Str} {i : Nat} {pos pos' lp : Pos} (hN : X.N.Nodup) (hi : X.N[i]? = some x) (hx : Loc X.env.scope x) (hf : X.fn x = true ∨ X.env.scope.names.lookup x = some .local) :
    PS X (.Assign [.Name x pos'] (.List [] lp) pos) (tS B W fun ρ => .nx (ρ.set i (.own []))) :=
  PS.of (ps_set hN hi hx (pe_lst pa_nil) (by rfl) hf) fun Z0 H0 Z H σ ρ Dn s e p => by
    refine ⟨Nat.zero_le _, fun q hq => ?_⟩
    have e' := e.own_new (i := i) (vs := []) (ds := []) s.zh s.hh hq .nil
    exact p _ _ Z (s.own (s.hh.free hq) (s.zh.free hq)) e'
theorem gs_par {a b : Expr} {x y : Str} {i j : Nat} {px py pt pt2 pos : Pos} {kt k2 : Nat} {δa δb : Env → R D} (hc : X.calm = true) (hN : X.N.Nodup) (hi : X.N[i]? = some x) (hj : X.N[j]? = some y) (hij : i ≠ j)
    (hx : X.env.scope.names.lookup x = some .local) (hy : X.env.scope.names.lookup y = some .local) (ha : PE X a (tE B W δa)) (hb : PE X b (tE B W δb)) (hsa : starEach [a, b] X.env = (false, eval a X.env) :: starEach [b] X.env) (hsb : starEach [b] X.env = (false, eval b X.env) :: starEach [] X.env)
    (hw : swappedStores [.Tuple [.Name x px, .Name y py] kt pt] (.Tuple [a, b] k2 pt2) X.env = pure (some [x, y])) :
    PS X (.Assign [.Tuple [.Name x px, .Name y py] kt pt] (.Tuple [a, b] k2 pt2) pos) (tS B W fun ρ => (δa ρ).out ρ fun x => (δb ρ).out ρ fun y => .nx ((ρ.set i (.val x)).set j (.val y))) :=
  PS.of (ps_par hc hN hi hj hij hx hy (pa_cons ha (pa_cons hb pa_nil hsb) hsa) hw (by rfl)) fun Z0 H0 Z H σ ρ Dn s e p =>
    Sok.self.out s e p fun a v H1 Z1 s1 s1' e1 r1 p1 => Sok.self.out s1' e1 p1 fun b u H2 Z2 s2 s2' e2 r2 p2 =>
      ⟨v, u, rfl, p2 _ H2 Z2 s2' ((e2.set i (r1.mono s2.zz)).set j r2)⟩
theorem gs_par3 {a b c : Expr} {x y z : Str} {i j l : Nat} {px py pz pt pt2 pos : Pos} {kt k2 : Nat} {δa δb δc : Env → R D} (hc : X.calm = true) (hN : X.N.Nodup) (hi : X.N[i]? = some x) (hj : X.N[j]? = some y) (hl : X.N[l]? = some z) (hij : i ≠ j) (hil : i ≠ l) (hjl : j ≠ l)
    (hx : X.env.scope.names.lookup x = some .local) (hy : X.env.scope.names.lookup y = some .local) (hz : X.env.scope.names.lookup z = some .local) (ha : PE X a (tE B W δa)) (hb : PE X b (tE B W δb)) (hcc : PE X c (tE B W δc)) (hsa : starEach [a, b, c] X.env = (false, eval a X.env) :: starEach [b, c] X.env) (hsb : starEach [b, c] X.env = (false, eval b X.env) :: starEach [c] X.env) (hsc : starEach [c] X.env = (false, eval c X.env) :: starEach [] X.env)
    (hw : swappedStores [.Tuple [.Name x px, .Name y py, .Name z pz] kt pt] (.Tuple [a, b, c] k2 pt2) X.env = pure (some [x, y, z])) :
    PS X (.Assign [.Tuple [.Name x px, .Name y py, .Name z pz] kt pt] (.Tuple [a, b, c] k2 pt2) pos) (tS B W fun ρ => (δa ρ).out ρ fun x => (δb ρ).out ρ fun y => (δc ρ).out ρ fun z => .nx (((ρ.set i (.val x)).set j (.val y)).set l (.val z))) :=
  PS.of (ps_par3 hc hN hi hj hl hij hil hjl hx hy hz (pa_cons ha (pa_cons hb (pa_cons hcc pa_nil hsc) hsb) hsa) hw (by rfl)) fun Z0 H0 Z H σ ρ Dn s e p =>
    Sok.self.out s e p fun a v H1 Z1 s1 s1' e1 r1 p1 => Sok.self.out s1' e1 p1 fun b u H2 Z2 s2 s2' e2 r2 p2 => Sok.self.out s2' e2 p2 fun c t H3 Z3 s3 s3' e3 r3 p3 =>
      ⟨v, u, t, rfl, p3 _ H3 Z3 s3' (((e3.set i ((r1.mono s2.zz).mono s3.zz)).set j (r2.mono s3.zz)).set l r3)⟩
theorem gs_newll {e : Expr} {x : Str} {i : Nat} {p pos pos' cp : Pos} {δ : Env → R D} (hN : X.N.Nodup) (hi : X.N[i]? = some x) (hx : Loc X.env.scope x) (hf : X.fn x = true ∨ X.env.scope.names.lookup x = some .local) (he : PE X e (tE B W δ)) (hg : Gl X "list") (hm : X.mg "list" = none) (hs : starEach [e] X.env = (false, eval e X.env) :: starEach [] X.env) :
    PS X (.Assign [.Name x pos'] (.Call (.Name "list" p) [e] [] cp) pos) (tS B W fun ρ => (δ ρ).out ρ fun x => (ltD x).out ρ fun ds => .nx (ρ.set i (.own ds))) :=
  PS.of (ps_set hN hi hx (pe_callTy call_list_of hg hm (by decide +kernel) (pa_cons he pa_nil hs) (by decide) (by decide) hs (by rfl)) (by rfl) hf) fun Z0 H0 Z H σ ρ Dn s e p => by
    refine Sok.self.out s e p fun x v H1 Z1 s1 s1' e1 r1 p1 => ?_
    cases r1 with
    | @lst a xs ds ea ra =>
      refine ⟨a, xs, rfl, .inl (.of (s1'.zh _ _ ea)), fun q hq => ?_⟩
      have e' := e1.own_new (i := i) (vs := xs) (ds := ds) s1'.zh s1'.hh hq ra
      exact p1 _ _ Z1 (s1'.own (s1'.hh.free hq) (s1'.zh.free hq)) e'
    | @tup a xs ds ea ra =>
      refine ⟨a, xs, rfl, .inr (.of (s1'.zh _ _ ea)), fun q hq => ?_⟩
      have e' := e1.own_new (i := i) (vs := xs) (ds := ds) s1'.zh s1'.hh hq ra
      exact p1 _ _ Z1 (s1'.own (s1'.hh.free hq) (s1'.zh.free hq)) e'
    | _ => exact p1.elim
theorem gs_junk {st : Stmt} : PS X st (tS B W fun _ => .bad) := ⟨fun _ _ _ _ _ _ ⟨_, _, _, _, _, _, p⟩ => p.elim⟩
theorem gs_unp {e tg : Expr} {i j : Nat} {pos : Pos} {δ : Env → R D} (he : PE X e (tE B W δ)) (hg : PG X tg (gT X.K (.two i j))) (hs : swapsWithSole [tg] e pos.line X.env = pure false) (hw : swappedStores [tg] e X.env = pure none)
    (h1 : (assignEach [tg] X.env).map (·.2) = [assign tg X.env]) : PS X (.Assign [tg] e pos) (tS B W fun ρ => (δ ρ).out ρ fun x => (setT (.two i j) x ρ).out ρ fun ρ' => .nx ρ') :=
  PS.of (ps_asg he hg hs hw h1) fun Z0 H0 Z H σ ρ Dn s e p =>
    Sok.self.out s e p fun a v H1 Z1 s1 s1' e1 r1 p1 => by
      cases q : setT (.two i j) a ρ with
      | bad => rw [q] at p1; exact p1.elim
      | exc c => exfalso; revert q; unfold setT; split <;> simp
      | ok ρ' =>
        rw [q] at p1
        exact gT_ok s1'.zh e1 r1 q fun σ' e' _ => p1 _ _ _ s1' e'
theorem aug_bad {d b : D} {ρ : Env} {i : Nat} (h : ∀ n, d ≠ .int n) : ((binD .add d b).out ρ fun d => match d with | .int n => O.nx (ρ.set i (.val (.int n))) | _ => O.bad) = O.bad := by
  cases d <;> cases b <;> simp only [binD] <;> first | rfl | exact absurd rfl (h _) | (split <;> rfl)
theorem gs_aug {e : Expr} {x : Str} {i : Nat} {pos pos' : Pos} {δ : Env → R D} (hN : X.N.Nodup) (hi : X.N[i]? = some x) (hx : Loc X.env.scope x) (hf : X.fn x = true ∨ X.env.scope.names.lookup x = some .local) (he : PE X e (tE B W δ)) :
    PS X (.AugAssign (.Name x pos') .Add e pos) (tS B W fun ρ => ((match ρ[i]? with | some (.val d) => R.ok d | _ => .bad).bind fun a => (δ ρ).bind fun b => binD .add a b).out ρ fun d => match d with | .int n => .nx (ρ.set i (.val (.int n))) | _ => .bad) :=
  PS.of (ps_aug hN hi hx he ip_add hf) fun Z0 H0 Z H σ ρ Dn s e p => by
    cases q : ρ[i]? with
    | none => simp only [q] at p; exact p.elim
    | some y =>
      simp only [q] at p
      cases y with
      | un => exact p.elim
      | own ds => exact p.elim
      | val d =>
        simp only [R.ok_bind] at p
        obtain ⟨v, h1, h2⟩ := e.val i d q
        refine ⟨v, h1, ?_⟩
        have p' : PostS B W Z0 H0 Dn ((δ ρ).out ρ fun b => (binD .add d b).out ρ fun d => match d with | .int n => .nx (ρ.set i (.val (.int n))) | _ => .bad) := by
          revert p; cases δ ρ <;> exact fun p => p
        refine Sok.self.out s e p' fun b u H1 Z1 s1 s1' e1 r1 p1 => ?_
        have h2' := h2.mono s1.zz
        cases h2' with
        | int n =>
          cases r1 with
          | int m => exact ⟨n, m, rfl, rfl, p1 _ H1 Z1 s1' (e1.set i (.int _))⟩
          | _ => exact p1.elim
        | tup ea ra => rw [aug_bad (by simp)] at p1; exact p1.elim
        | lst ea ra => rw [aug_bad (by simp)] at p1; exact p1.elim
        | str z => rw [aug_bad (by simp)] at p1; exact p1.elim
        | _ => exact p1.elim
theorem gs_ite {c : Expr} {a b : List Stmt} {pos : Pos} {δc : Env → R Bool} {δa δb : Env → O} (hc : PT X c (tT B W δc)) (ha : PSs X a (tS B W δa)) (hb : PSs X b (tS B W δb)) :
    PS X (.If c a b pos) (tS B W fun ρ => (δc ρ).out ρ fun k => if k = true then δa ρ else δb ρ) :=
  PS.of (ps_if hc ha hb) fun Z0 H0 Z H σ ρ Dn s e p => Sok.self.out s e p fun k v H1 Z1 s1 s1' e1 r1 p1 => by
    have r1 : v = k := r1
    subst r1
    by_cases h : v = true
    · rw [if_pos h] at p1 ⊢; exact ⟨Z0, H0, Z1, ρ, s1', e1, p1⟩
    · rw [if_neg h] at p1 ⊢; exact ⟨Z0, H0, Z1, ρ, s1', e1, p1⟩
theorem gs_whl {c : Expr} {b : List Stmt} {pos : Pos} {δc : Env → R Bool} {δb : Env → O} (n : Nat) (hp : PassesOwn (model X.prog X.w) X.A X.env X.xe) (hc : PT X c (tT B W δc)) (hb : PSs X b (tS B W δb)) :
    PS X (.While c b [] pos) (tS B W (whileD δc δb n)) :=
  PS.of (ps_while hp hc hb) fun Z0 H0 Z H σ ρ Dn s e p => by
    refine ⟨fun m σ H => ∃ Z ρ, Step Z0 H0 Z H ∧ EnvOk B H0 Z H σ ρ ∧ PostS B W Z0 H0 Dn (whileD δc δb m ρ), ⟨n, Z, ρ, s, e, p⟩, ?_⟩
    rintro m σ H ⟨Z, ρ, s, e, p⟩
    cases m with
    | zero => exact p.elim
    | succ m =>
      simp only [whileD] at p
      refine Sok.self.out s e p fun k v H1 Z1 s1 s1' e1 r1 p1 => ?_
      have r1 : v = k := r1
      subst r1
      by_cases h : v = true
      · rw [if_pos h] at p1 ⊢
        refine ⟨fun σ' H' => ∃ Z ρ, Step Z0 H0 Z H' ∧ EnvOk B H0 Z H' σ' ρ ∧ PostS B W Z0 H0 Dn (whileD δc δb m ρ), fun σ' H' h => ⟨m, Nat.lt_succ_self _, h⟩, Z0, H0, Z1, ρ, s1', e1, ?_⟩
        cases q : δb ρ with
        | nx ρ' => simp only [q, O.then] at p1; exact fun σ' H' Z' s' e' => ⟨Z', ρ', s', e', p1⟩
        | ret d => simp only [q, O.then] at p1; exact p1
        | exc c ρ' => simp only [q, O.then] at p1; exact p1
        | bad => simp only [q, O.then] at p1; exact p1
      · rw [if_neg h] at p1 ⊢; exact p1 σ H1 Z1 s1' e1
theorem Step.rebase {Z0 H0 Z1 H1 Z' H' : Hp} (a : Step Z0 H0 Z1 H1) (b : Step Z1 H0 Z' H') : Step Z0 H0 Z' H' := ⟨b.hh, a.zz.trans b.zz, b.zh, fun x hx => by rw [b.fr x hx, a.fr x hx]⟩
theorem Step.base {Z0 H0 Z1 H1 : Hp} (a : Step Z0 H0 Z1 H1) : Step Z1 H0 Z1 H1 := ⟨a.hh, .refl _, a.zh, fun _ _ => rfl⟩
theorem PostS.rebase {Z0 H0 Z1 H1 : Hp} {Dn : Ends} {o : O} (p : PostS B W Z0 H0 Dn o) (a : Step Z0 H0 Z1 H1) : PostS B W Z1 H0 Dn o := by
  cases o with
  | nx ρ => exact fun σ' H' Z' s e => p σ' H' Z' (a.rebase s) e
  | ret d => exact fun v H' Z' s r => p v H' Z' (a.rebase s) r
  | exc c ρ => exact fun σ' H' Z' s e => p σ' H' Z' (a.rebase s) e
  | bad => exact p
theorem setT_noexc {t : Tg} {d : D} {ρ : Env} {c : Nat} : setT t d ρ ≠ .exc c := by
  unfold setT; split <;> simp
theorem gs_for {tg iter : Expr} {body : List Stmt} {pos : Pos} {t : Tg} {δi : Env → R (List D)} {δb : Env → O} (hp : PassesOwn (model X.prog X.w) X.A X.env X.xe) (hc : X.calm = true) (hi : PI X tg iter (tI B W true δi)) (hg : PG X tg (gT X.K t)) (hb : PSs X body (tS B W δb))
    (hs : ∀ x, foldedSetIterable iter X.env x = pure x) : PS X (.For tg iter body [] pos) (tS B W fun ρ => (δi ρ).out ρ fun ds => forD t δb ds ρ) := by
  refine PS.of (ps_for hp hc hi hg hb hs) fun Z0 H0 Z H σ ρ Dn s e p => ?_
  refine ⟨H0, Z, ρ, s.zh, e, ?_⟩
  cases qi : δi ρ with
  | bad => rw [qi] at p; exact p.elim
  | exc c => rw [qi] at p; exact fun H' s' => p σ H' Z (s.trans (.grow s.zh s')) (e.step (.grow s.zh s'))
  | ok ds =>
    rw [qi] at p
    have p : PostS B W Z0 H0 Dn (forD t δb ds ρ) := p
    intro J H1 Z1 s1 w
    have sb := s.trans s1
    let Pv : Nat → L2.St → Hp → Prop := fun i σ H => ∃ Z ρ, Step Z1 H0 Z H ∧ EnvOk B H0 Z H σ ρ ∧ PostS B W Z1 H0 Dn (forD t δb (ds.drop i) ρ)
    have wk : Walk J ds.length (fun H => ∃ Z, AI true Z1 H1 Z H) (fun i H x H' => J.yld i H x H') := ⟨fun i H hi ⟨Z, h⟩ => w.go i Z H hi h, fun H ⟨Z, h⟩ => w.stop Z H h, fun _ _ _ _ _ _ y => y⟩
    refine for_it wk Pv ⟨Z1, ρ, sb.base, e.step s1, by simpa using p.rebase sb⟩ (fun i σ H hi ⟨Z, ρ, s', _⟩ => ⟨Z, s'.zz, s'.zh, fun h => by cases h⟩) ?_ ?_
    · rintro i x σ2 H2 H3 hi ⟨Z2, ρ2, s2, e2, p2⟩ y
      obtain ⟨d, hd⟩ : ∃ d, ds[i]? = some d := ⟨ds[i], by simp [hi]⟩
      obtain ⟨Z3, s3, rx⟩ := w.yld i d Z2 H2 x H3 hd ⟨s2.zz, s2.zh, fun h => by cases h⟩ y
      have hdr : ds.drop i = d :: ds.drop (i + 1) := by
        rw [List.drop_eq_getElem_cons hi]
        congr 1
        exact (List.getElem?_eq_some_iff.mp hd).2
      rw [hdr] at p2
      simp only [forD] at p2
      cases qs : setT t d ρ2 with
      | bad => rw [qs] at p2; exact p2.elim
      | exc c => exact absurd qs setT_noexc
      | ok ρ3 =>
        rw [qs] at p2
        have p2 : PostS B W Z1 H0 Dn ((δb ρ3).then (forD t δb (ds.drop (i + 1)))) := p2
        refine gT_ok s3.zh (e2.step s3) rx qs fun σ' e3 _ => ⟨Z1, H0, Z3, ρ3, s2.trans s3, e3, ?_⟩
        cases q : δb ρ3 with
        | nx ρ' => rw [q] at p2; exact fun σ'' H' Z' s' e' => ⟨Z', ρ', s', e', p2⟩
        | ret d => rw [q] at p2; exact p2
        | exc c ρ' => rw [q] at p2; exact p2
        | bad => rw [q] at p2; exact p2
    · rintro σ2 H2 ⟨Z2, ρ2, s2, e2, p2⟩
      simp only [List.drop_length, forD] at p2
      exact p2 σ2 H2 Z2 s2 e2

/-! ### owned lists, changed -/
theorem own_split {Z0 H0 : Hp} {Dn : Ends} {ρ : Env} {i : Nat} {f : List D → O} (p : PostS B W Z0 H0 Dn (ownAt ρ i f)) : ∃ ds, ρ[i]? = some (.own ds) ∧ PostS B W Z0 H0 Dn (f ds) := by
  unfold ownAt at p
  cases q : ρ[i]? with
  | none => simp only [q] at p; exact p.elim
  | some y =>
    simp only [q] at p
    cases y with
    | un => exact p.elim
    | val d => exact p.elim
    | own ds => exact ⟨ds, rfl, p⟩
/-- a method of an owned list -/
theorem gs_meth {x : Expr} {name : Str} {id : String} {i : Nat} {e : Expr} {es : List Expr} {apos cpos pos : Pos} {r : V → List V → Hp → VK → Prop} {δ : Env → R (List D)} {g : List D → List D → Option (List D)}
    (slot : Slot "list" name id) (hty : typeOf (.builtin id) = pure (.type "method_descriptor")) (hm : MtR X id r) (hv : PE X x (tVar i)) (ha : PA X (e :: es) (tA B W δ))
    (hb : attributeBase x name X.env (eval x X.env) = eval x X.env) (hl : (apos.endLine == cpos.line) = true) (hs : starEach (e :: es) X.env = (false, eval e X.env) :: starEach es X.env) (hpl : (backTo cpos (starEach es X.env)).any (·.1) = false) (hfew : (e :: es).length < 30)
    (hall : (backTo cpos (starEach (e :: es) X.env)).all (fun x => !x.1) = true)
    (hr : ∀ {Z H : Hp} {p : Addr} {vs : List V} {ds ds' es : List D} {us : List V} {Q : VK}, Same Z H → H p = some (.lst vs) → Reps B Z vs ds → Reps B Z us es → g ds es = some ds' → (∀ vs', Reps B Z vs' ds' → Q .non (upd H p (.lst vs'))) → r (.ref p) us H Q) :
    PS X (.Expr (.Call (.Attribute x name apos) (e :: es) [] cpos) pos) (tS B W fun ρ => ownAt ρ i fun ds => (δ ρ).out ρ fun es => match g ds es with | some ds' => .nx (ρ.set i (.own ds')) | none => .bad) := by
  refine PS.of (ps_expr (pe_bm PySem.F.plainAttrs_list slot hty hm hv ha hb (Bool.and_eq_true_iff.mpr ⟨Bool.and_eq_true_iff.mpr ⟨hall, rfl⟩, decide_eq_true (by simpa using hfew)⟩) hl hs hpl) (by rfl)) fun Z0 H0 Z H σ ρ Dn s e p => ?_
  obtain ⟨ds0, qi, p⟩ := own_split p
  obtain ⟨a, xs, h1, h2, h3, h4, h5⟩ := e.own i ds0 qi
  refine ⟨_, h1, .inl ⟨rfl, xs, .of h4⟩, ?_⟩
  refine Sok.self.out s e p fun es us H1 Z1 s1 s1' e1 r1 p2 => ?_
  obtain ⟨a', xs', g1, g2, g3, g4, g5⟩ := e1.own i ds0 qi
  rw [h1] at g1; cases g1
  cases qg : g ds0 es with
  | none => simp only [qg] at p2; exact p2.elim
  | some ds' =>
    simp only [qg] at p2
    exact hr s1.zh g4 g5 r1 qg fun vs' r' => p2 _ _ Z1 (s1'.own g2 g3) (e1.own_set qi h1 r')
theorem mt_app_ok {Z H : Hp} {p : Addr} {vs : List V} {ds ds' es : List D} {us : List V} {Q : VK} (zh : Same Z H) (h : H p = some (.lst vs)) (r : Reps B Z vs ds) (ru : Reps B Z us es) (g : gMt .app ds es = some ds') (k : ∀ vs', Reps B Z vs' ds' → Q .non (upd H p (.lst vs'))) : rAppend (.ref p) us H Q := by
  cases ru with
  | nil => simp [gMt] at g
  | cons r1 t =>
    cases t with
    | cons r2 t => simp [gMt] at g
    | nil =>
      simp only [gMt] at g
      split at g
      · rename_i hl
        simp only [Option.some.injEq] at g; subst g
        exact ⟨p, vs, _, rfl, rfl, h, by rw [r.length]; exact Nat.lt_trans hl big_line, k _ (r.append (.cons r1 .nil))⟩
      · cases g
theorem mt_ins_ok {Z H : Hp} {p : Addr} {vs : List V} {ds ds' es : List D} {us : List V} {Q : VK} (zh : Same Z H) (h : H p = some (.lst vs)) (r : Reps B Z vs ds) (ru : Reps B Z us es) (g : gMt .ins ds es = some ds') (k : ∀ vs', Reps B Z vs' ds' → Q .non (upd H p (.lst vs'))) :
    ∃ (l : Addr) (xs : List V) (i : Int) (y : V), V.ref p = .ref l ∧ us = [.int i, y] ∧ H l = some (.lst xs) ∧ xs.length < sizeLine ∧ 0 ≤ i ∧ i < 2 ^ 63 ∧ Q .non (upd H l (.lst (xs.take i.toNat ++ [y] ++ xs.drop i.toNat))) := by
  cases ru with
  | nil => simp [gMt] at g
  | cons r1 t =>
    cases t with
    | nil => cases r1 <;> simp [gMt] at g
    | cons r2 t =>
      cases t with
      | cons r3 t => cases r1 <;> simp [gMt] at g
      | nil =>
        cases r1 with
        | int i =>
          simp only [gMt] at g
          split at g
          · rename_i hl
            simp only [Bool.and_eq_true, decide_eq_true_eq] at hl
            simp only [Option.some.injEq] at g; subst g
            exact ⟨p, vs, i, _, rfl, rfl, h, by rw [r.length]; exact Nat.lt_trans hl.1.1 big_line, hl.1.2, by omega, k _ (((r.take _).append (.cons r2 .nil)).append (r.drop _))⟩
          · cases g
        | _ => simp [gMt] at g
theorem mt_ext_ok {Z H : Hp} {p : Addr} {vs : List V} {ds ds' es : List D} {us : List V} {Q : VK} (zh : Same Z H) (h : H p = some (.lst vs)) (r : Reps B Z vs ds) (ru : Reps B Z us es) (g : gMt .ext ds es = some ds') (k : ∀ vs', Reps B Z vs' ds' → Q .non (upd H p (.lst vs'))) : rExtend (.ref p) us H Q := by
  cases ru with
  | nil => simp [gMt] at g
  | cons r1 t =>
    cases t with
    | cons r2 t => cases r1 <;> simp [gMt] at g
    | nil =>
      cases r1 with
      | @lst b zs es eb rb =>
        simp only [gMt] at g
        split at g
        · rename_i hl
          simp only [Option.some.injEq] at g; subst g
          exact ⟨p, b, vs, zs, rfl, rfl, h, zh _ _ eb, by rw [r.length, rb.length]; exact le_line hl, k _ (r.append rb)⟩
        · cases g
      | _ => simp [gMt] at g
theorem gs_seti {x b e : Expr} {i : Nat} {tp pos : Pos} {δb δe : Env → R D} (hv : PE X x (tVar i)) (hb : PE X b (tE B W δb)) (he : PE X e (tE B W δe))
    (ha : ∀ v, assign (.Subscript x b tp) X.env v = (do
      let ov ← holding [v] (eval x X.env)
      let iv ← holding [v, ov] (eval b X.env)
      standAt tp
      holding [v, ov, iv] (setItem ov iv v)
      release [v, ov, iv] []))
    (hs : swapsWithSole [.Subscript x b tp] e pos.line X.env = pure false) (hw : swappedStores [.Subscript x b tp] e X.env = pure none) (h1 : (assignEach [.Subscript x b tp] X.env).map (·.2) = [assign (.Subscript x b tp) X.env]) :
    PS X (.Assign [.Subscript x b tp] e pos) (tS B W fun ρ => (δe ρ).out ρ fun d => ownAt ρ i fun ds => (δb ρ).out ρ fun x => (ixOf x).out ρ fun k => match ixN ds.length k with | some j => .nx (ρ.set i (.own (ds.set j d))) | none => .bad) := by
  refine PS.of (ps_asg he (pg_sub hv hb set_list ha) hs hw h1) fun Z0 H0 Z H σ ρ Dn s e p => ?_
  refine Sok.self.out s e p fun d v H1 Z1 s1 s1' e1 r1 p1 => ?_
  obtain ⟨ds0, qi, p1⟩ := own_split p1
  obtain ⟨a, xs, h1, h2, h3, h4, h5⟩ := e1.own i ds0 qi
  refine ⟨_, h1, Sok.self.out s1' e1 p1 fun y u H2 Z2 s2 s2' e2 r2 p2 => ?_⟩
  obtain ⟨a', xs', g1, g2, g3, g4, g5⟩ := e2.own i ds0 qi
  rw [h1] at g1; cases g1
  cases y with
  | int k =>
    rw [r2.int_inv]
    simp only [ixOf, R.out] at p2
    cases qj : ixN ds0.length k with
    | none => simp only [qj] at p2; exact p2.elim
    | some j =>
      simp only [qj] at p2
      exact ⟨a, xs', k, j, rfl, rfl, g4, by rw [g5.length]; exact qj, p2 _ _ Z2 (s2'.own g2 g3) (e2.own_set qi h1 (g5.set j (r1.mono s2.zz)))⟩
  | _ => exact p2.elim
/-! ### raise -/
theorem gs_raise {x m : Str} {j : Nat} {p p2 p3 pos : Pos} {c : Nat} (hc : X.calm = true) (tk : Takes X W) (he : PMk X (.Call (.Name x p) [.Constant (.str m) j p2] [] p3) (fun _ H Q => Q (.ref (B.exc c)) none H)) :
    PS X (.Raise (some (.Call (.Name x p) [.Constant (.str m) j p2] [] p3)) none pos) (tS B W fun ρ => .exc c ρ) :=
  PS.of (ps_raise hc tk he) fun Z0 H0 Z H σ ρ Dn s e q => q σ H Z s e
end
end RS

namespace RS
open PySem PySem.Spec PyProof.Rows L2 HT
theorem rev_pick (xs : List Value) : ((List.range xs.length).filterMap fun (k : Nat) => xs.toArray[(((xs.length : Int) - 1) + (k : Int) * (-1)).toNat]?).toArray = xs.reverse.toArray := by
  congr 1
  apply List.ext_getElem?
  intro i
  have hall : ∀ k ∈ List.range xs.length, (fun (k : Nat) => xs.toArray[(((xs.length : Int) - 1) + (k : Int) * (-1)).toNat]?) k = some (xs.reverse.getD k .none) := by
    intro k hk
    have hk := List.mem_range.mp hk
    have e : (((xs.length : Int) - 1) + (k : Int) * (-1)).toNat = xs.length - 1 - k := by omega
    simp only [e]
    have h2 : k < xs.reverse.length := by simpa using hk
    rw [List.getD_eq_getElem?_getD, List.getElem?_reverse hk]
    simp [show xs.length - 1 - k < xs.length by omega]
  have e2 : (List.range xs.length).filterMap (fun (k : Nat) => xs.toArray[(((xs.length : Int) - 1) + (k : Int) * (-1)).toNat]?) = (List.range xs.length).map (fun k => xs.reverse.getD k .none) := by
    have : ∀ (l : List Nat) (f : Nat → Option Value) (g : Nat → Value), (∀ k ∈ l, f k = some (g k)) → l.filterMap f = l.map g := by
      intro l f g h
      induction l with
      | nil => rfl
      | cons a t ih => rw [List.filterMap_cons, h a List.mem_cons_self, List.map_cons, ih fun k hk => h k (List.mem_cons_of_mem _ hk)]
    exact this _ _ _ hall
  rw [e2, List.getElem?_map]
  by_cases hi : i < xs.length
  · rw [List.getElem?_range hi]
    simp only [Option.map_some]
    rw [List.getD_eq_getElem?_getD]
    have : i < xs.reverse.length := by simpa using hi
    rw [List.getElem?_eq_getElem this]; rfl
  · rw [List.getElem?_eq_none (by simpa using hi), List.getElem?_eq_none (by simpa using hi)]; rfl
section
variable {prog : Program} {w : World} {A : Around} {E : Value → Shared → Prop} {s : Shared}
theorem sliceApplied_rev {sl : Addr} {vl vu vs : Value} {n : Nat} {Q : Int × Int × Nat → Shared → Prop} (hs : s.heap.IsSliceOf sl vl vu vs) (pl : IsPart vl none) (pu : IsPart vu none) (ps : IsPart vs (some (-1)))
    (h : Q ((n : Int) - 1, -1, n) s) : wpAny (model prog w) A (Builtin.Slice.sliceApplied (.ref sl) (pure (n : Int))) Q E s := by
  obtain ⟨os, hos, hcs, hds⟩ := id hs
  unfold Builtin.Slice.sliceApplied Builtin.Slice.sliceFields
  refine wpAny_bind (wpAny_bind (wpAny_field hos hds (x := vl) rfl (wpAny_bind (wpAny_field hos hds (x := vu) rfl (wpAny_bind (wpAny_field hos hds (x := vs) rfl (wpAny_pure ?_)))))))
  refine wpAny_bind (slicePart_ ps ?_)
  show wpAny _ _ (if ((-1 : Int) == 0) = true then _ else _) _ _ s
  rw [if_neg (by decide)]
  refine wpAny_bind (slicePart_ pl (wpAny_bind (slicePart_ pu (wpAny_bind (wpAny_pure ?_)))))
  show wpAny _ _ (match Builtin.Slice.sliceAdjust none none (-1) (n : Int) with | (lo, hi) => pure (lo, (-1 : Int), Builtin.Slice.slicePlaces lo hi (-1))) _ _ s
  have e : Builtin.Slice.sliceAdjust none none (-1) (n : Int) = ((n : Int) - 1, -1) := by
    unfold Builtin.Slice.sliceAdjust; rfl
  rw [e]
  show wpAny _ _ (pure ((n : Int) - 1, (-1 : Int), Builtin.Slice.slicePlaces ((n : Int) - 1) (-1) (-1))) _ _ s
  have e2 : Builtin.Slice.slicePlaces ((n : Int) - 1) (-1) (-1) = n := by
    unfold Builtin.Slice.slicePlaces
    have h1 : ¬ ((-1 : Int) > 0) := by omega
    have h2 : (- (-1 : Int)) = 1 := by decide
    simp only [h1, if_false, h2, Int.ediv_one]
    split <;> omega
  rw [e2]
  exact wpAny_pure h
theorem getItem_tuple_rev {t sl : Addr} {items : List Value} {vl vu vs : Value} {Q : Value → Shared → Prop} (ht : IsTup s.heap t items.toArray) (hs : s.heap.IsSliceOf sl vl vu vs) (pl : IsPart vl none) (pu : IsPart vu none) (ps : IsPart vs (some (-1)))
    (h : Q (.ref s.heap.objs.size) { s with heap := s.heap.push { cls := .type "tuple", data := .seq items.reverse.toArray } })
    (hsz : items.length ≤ sizeLine) : wpAny (model prog w) A (getItem (.ref t) (.ref sl)) Q E s := by
  have htake : sizeOk (.seq items.reverse.toArray) := by
    show items.reverse.toArray.size ≤ sizeLine
    rw [List.size_toArray, List.length_reverse]; exact hsz
  obtain ⟨os, hos, hcs, hds⟩ := id hs
  have hTs : s.TypeIs (.ref sl) "slice" := ⟨os, hos, hcs⟩
  unfold getItem
  try with_reducible refine wpAny_holding ?_
  first | refine wpAny_bind (wpAny_pure ?_) | skip
  refine wpAny_bind (wpAny_sequenceKey ht.typeIs (by decide) ?_)
  refine wpAny_bind (wpAny_callSpecial?_slot (name := Str.ofString "__getitem__") ht.typeIs PyProof.Rows.slot_tuple_getitem
    (wpAny_call_entry PyProof.Rows.slot_tuple_getitem ht.typeIs entry_tuple_getitem ?_ (args_tuple_getitem _ _)))
  show wpAny _ _ (Builtin.Tuple.tupleItemsOf (.ref t) >>= _) _ _ s
  refine wpAny_bind (tupleItemsOf_ ht ?_)
  refine wpAny_bind (wpAny_typeOf hTs ?_)
  rw [if_pos (by decide)]
  refine wpAny_bind (sliceApplied_rev (n := items.toArray.size) hs pl pu ps ?_)
  show wpAny _ _ (if (((items.toArray.size : Int) - 1) == 0 && (-1 : Int) == 1 && items.toArray.size == items.toArray.size) = true then _ else _) _ _ s
  have hno : ¬ ((((items.toArray.size : Int) - 1) == 0 && (-1 : Int) == 1 && items.toArray.size == items.toArray.size) = true) := by
    intro q
    rw [Bool.and_eq_true, Bool.and_eq_true] at q
    exact absurd (eq_of_beq q.1.2) (by decide)
  rw [if_neg hno]
  rw [show items.toArray.size = items.length from List.size_toArray, rev_pick]
  first
    | exact wpAny_bind (m := Builtin.Tuple.tupleExact _) (wpAny_newObj_type (wpAny_pure ⟨_, rfl, wpAny_pure h⟩) htake)
    | exact wpAny_bind (m := Builtin.Tuple.tupleExact _) (wpAny_newObj_type (wpAny_bind (wpAny_pure (wpAny_pure ⟨_, rfl, wpAny_pure h⟩))) htake)
    | exact wpAny_bind (wpAny_bind (m := Builtin.Tuple.tupleExact _) (wpAny_newObj_type (wpAny_pure (wpAny_pure ⟨_, rfl, wpAny_pure h⟩)) htake))
    | exact wpAny_bind (wpAny_bind (m := Builtin.Tuple.tupleExact _) (wpAny_newObj_type (wpAny_pure ⟨_, rfl, wpAny_pure h⟩) htake))
end
section
variable {X : Cx} {B : Bk} {W : WX}
/-- x[::-1] of a list or a tuple -/
def tRevA (K : PySem.W.Frag) (te : TE) : TE := fun σ H Q => te σ H fun x H1 => (∃ a xs, x = .ref a ∧ SqL K H1 a xs ∧ ∀ p, H1 p = none → Q (.ref p) (upd H1 p (.lst xs.reverse))) ∨ (∃ a xs, x = .ref a ∧ SqT K H1 a xs ∧ ∀ p, H1 p = none → Q (.ref p) (upd H1 p (.tup xs.reverse)))
theorem pe_revA {e : Expr} {te : TE} {k : Nat} {p1 p2 p3 pos : Pos} (he : PE X e te) : PE X (.Subscript e (.Slice none none (some (.UnaryOp .USub (.Constant (.int 1) k p1) p2)) p3) pos) (tRevA X.K te) := by
  refine ⟨fun pins s σ H Q I h => ?_⟩
  refine Subscript_ (thn (he.run pins s σ H _ I h) fun v s1 ⟨x, H1, I1, r1, q1⟩ => ?_)
  have hst : PO X (some (.UnaryOp .USub (.Constant (.int 1) k p1) p2)) (tPart (tUn (rU fun i => .int (-i)) (tC (.int 1)))) := po_some (pe_un un_neg pe_int)
  refine wpAny_Slice (thn (po_none.run pins s1 σ H1 (fun o H2 => o = none ∧ H2 = H1) I1 ⟨rfl, rfl⟩) fun vl s2 ⟨l, H2, I2, pl, el, e2⟩ => ?_)
  subst el e2
  refine thn (po_none.run pins s2 σ H2 (fun o H3 => o = none ∧ H3 = H2) I2 ⟨rfl, rfl⟩) fun vu s3 ⟨u, H3, I3, pu, eu, e3⟩ => ?_
  subst eu e3
  refine thn (hst.run pins s3 σ H3 (fun o H4 => o = some (-1) ∧ H4 = H3) I3 ⟨1, rfl, -1, rfl, rfl, rfl⟩) fun vs s4 ⟨o, H4, I4, ps, eo, e4⟩ => ?_
  subst eo e4
  have I5 : Inv X pins σ H4 { s4 with heap := s4.heap.push { cls := .type "slice", data := .fields #[vl, vu, vs] } } := I4.kept (t' := s4.toks) fun b ob q => Heap.get?_push_of_some _ q
  rcases q1 with ⟨a, xs, ex, hx, q⟩ | ⟨a, xs, ex, hx, q⟩
  · subst ex
    cases r1
    obtain ⟨its, r, ht, hz⟩ := I5.list hx
    have hlen := r.length
    show wpAny (model X.prog X.w) X.A (subscriptTail e (.Slice none none (some (.UnaryOp .USub (.Constant (.int 1) k p1) p2)) p3) (.ref a) (.ref s4.heap.objs.size)) (EP X pins σ Q) X.xe { s4 with heap := s4.heap.push { cls := .type "slice", data := .fields #[vl, vu, vs] } }
    refine tail_any (ops := [.ref a, .ref s4.heap.objs.size]) ht.isList.typeIs (PySem.slot_list_getitem.lookup) ?_ (by with_unfolding_all rfl)
    refine wpAny_getItem_list_slice ht.isList (Heap.IsSliceOf.new _ vl vu vs) pl pu ps (by decide) ?_ (by rw [List.size_toArray]; omega)
    rw [PySem.W.krv_pick]
    refine ⟨.ref _, _, I5.laid (t' := s4.toks) (o := .lst xs.reverse) (fun b ob q => Heap.get?_push_of_some _ q) (Nat.le_refl _) ?_, rfl, q _ (I5.hok.fresh (Nat.le_refl _))⟩
    exact ⟨by rw [List.length_reverse]; exact hz, _, 0, r.reverse, Heap.get?_push_size _ rfl⟩
  · subst ex
    cases r1
    obtain ⟨its, r, ht, hz⟩ := I5.tuple hx
    have hlen := r.length
    show wpAny (model X.prog X.w) X.A (subscriptTail e (.Slice none none (some (.UnaryOp .USub (.Constant (.int 1) k p1) p2)) p3) (.ref a) (.ref s4.heap.objs.size)) (EP X pins σ Q) X.xe { s4 with heap := s4.heap.push { cls := .type "slice", data := .fields #[vl, vu, vs] } }
    refine tail_any (ops := [.ref a, .ref s4.heap.objs.size]) ht.typeIs (PyProof.Rows.slot_tuple_getitem.lookup) ?_ (by with_unfolding_all rfl)
    refine getItem_tuple_rev ht (Heap.IsSliceOf.new _ vl vu vs) pl pu ps ?_ (by omega)
    refine ⟨.ref _, _, I5.laid (t' := s4.toks) (o := .tup xs.reverse) (fun b ob q => Heap.get?_push_of_some _ q) (Nat.le_refl _) ?_, rfl, q _ (I5.hok.fresh (Nat.le_refl _))⟩
    exact ⟨by rw [List.length_reverse]; exact hz, _, r.reverse, IsTup.new _ _⟩
theorem g_rev (hK : X.K = B.K) {a : Expr} {k : Nat} {p1 p2 p3 pos : Pos} {δ : Env → R D} (ha : PE X a (tE B W δ)) : PE X (.Subscript a (.Slice none none (some (.UnaryOp .USub (.Constant (.int 1) k p1) p2)) p3) pos) (tE B W fun ρ => (δ ρ).bind revD) :=
  PE.of (pe_revA ha) fun H0 Z H σ ρ Q zh e p => Sok.self.bind zh e p fun x v H1 Z1 s1 e1 r1 p1 => by
    cases r1 with
    | @lst a xs ds ea ra => exact .inl ⟨a, xs, rfl, .of (s1.zh _ _ ea), fun q hq => p1 _ _ _ (.new s1.zh hq) (.lst upd_same (ra.reverse.mono (same_upd (s1.zh.free hq))))⟩
    | @tup a xs ds ea ra => exact .inr ⟨a, xs, rfl, .of (s1.zh _ _ ea), fun q hq => p1 _ _ _ (.new s1.zh hq) (.tup upd_same (ra.reverse.mono (same_upd (s1.zh.free hq))))⟩
    | _ => exact p1.elim
end
end RS

/-! list comprehensions whose element may raise -/
namespace RS
open PySem PySem.Spec PyProof.Rows L2
section
variable {M : Model} {A : Around} {E : Value → Shared → Prop} {s : Shared} {env : PySem.Env}
/-- what is asked behind the block -/
def cpX (M : Model) (A : Around) (E : Value → Shared → Prop) (Q : Value → Shared → Prop) (acc : Value) (ce : PySem.Env) (r : Result) (s' : Shared) : Prop :=
  match r with
  | .ok _ => ∃ m, s'.heap.Ns ce.locals m ∧ ∀ h', Heap.SameBut ce.locals s'.heap h' → Q acc { s' with heap := h' }
  | .error x => ∃ m, s'.heap.Ns ce.locals m ∧ ∀ h', Heap.SameBut ce.locals s'.heap h' → wpAny M A (PySem.passOn "comprehension.variables-let-go" x ce : Sem Value) (fun _ _ => False) E { s' with heap := h' }
theorem comp_freeX {e : Expr} {scope : Scope} {pos : Pos} {newAcc first : Sem Value} {g : Comprehension} {gs : List Comprehension} {cl : List (Str × Addr)} {Q : Value → Shared → Prop}
    (hcl : clausesOf e = g :: gs) (hs : ∀ x, foldedSetIterable g.iter env x = pure x) (hclos : closureFor scope env = pure cl)
    (hkind : scope.kind = .function) (hnames : ∀ x ∈ scope.names, x.2 = .local → scope.names.lookup x.1 = some .local)
    (h : wpAny M A first (fun x s₁ => wpAny M A (pyIter x) (fun it s₂ => wpAny M A newAcc (fun acc s₃ =>
      wpAny M A (newFunctionEnv scope env.globals cl [] env.qual none .none (some env)) (fun cenv s₄ =>
        codeAny M A (.compStart e 0 it acc { cenv with scope := relabel scope env }) (cpX M A E Q acc { cenv with scope := relabel scope env }) s₄) E s₃) E s₂) E s₁) E s) :
    wpAny M A (comprehension e scope env pos newAcc false first none) Q E s := by
  unfold comprehension
  rw [hclos, hcl]
  refine wpAny_bind (wpAny_mono h (fun x s₁ h₁ => wpAny_bind (wpAny_standAt (wpAny_bind (wpAny_of_eq (hs x) (wpAny_bind (wpAny_holding (wpAny_mono h₁ (fun it s₂ h₂ =>
    wpAny_standIf (wpAny_bind (wpAny_mono h₂ (fun acc s₃ h₃ => wpAny_bind (wpAny_pure (wpAny_bind (wpAny_mono h₃ (fun cenv s₄ h₄ => ?_) fun _ _ h' => h')))) fun _ _ h' => h')))
      fun _ _ h' => h'))))))) fun _ _ h' => h')
  dsimp only
  have hv : ∀ x ∈ (scope.names.filter fun x => (x.2 == .local || x.2 == .cell) && x.1 != (".0" : Str)).reverse, x.2 = .local →
      Env.kindOf { cenv with scope := relabel scope env } x.1 = some .local := fun x hx hl => lookup_relabel_local (hnames x (List.mem_filter.mp (List.mem_reverse.mp hx)).1 hl)
  refine wpAny_holding (wpAny_bind (wpAny_attempt (wpAny_holding (wpAny_run (codeAny_mono h₄ fun r s' hr => ?_)))))
  cases r with
  | ok f =>
    obtain ⟨m, hn, hr⟩ := hr
    exact wpAny_bind (wpAny_holding (wpAny_comp_letGo (cenv := { cenv with scope := relabel scope env }) hkind _ s' m hv hn fun h' m' _ hs' => wpAny_pure (hr h' hs')))
  | error x =>
    obtain ⟨m, hn, hr⟩ := hr
    exact wpAny_bind (wpAny_holding (wpAny_comp_letGo (cenv := { cenv with scope := relabel scope env }) hkind _ s' m hv hn fun h' m' _ hs' => wpAny_mono (hr h' hs') (fun _ _ f => f.elim) fun _ _ y => y))
/-- the def's frame is noted, whatever was noted ahead of it -/
theorem looks_otherZ {base : Heap} {outer : List PySem.Env} {e L : Addr} {Z : Obj → Prop} {fl : Value} {Q : Unit → Shared → Prop} (hZ : HandSPX.Steady Z) (hfr : A.frames = some (env :: outer)) (hf : env.frame = some L)
    (hkb : base.StaysIn s.heap) (hen : base.get? e = none) (hl : s.heap.FunFrames base (env :: outer)) (ht : HandSPX.TracedZ s.heap base e Z fl) (hne : ¬ ((fl == rawInt L) = true))
    (hQ : ∀ h', HandSPX.HeldZ base (env :: outer) e Z L h' → s.heap.UpToSlots h' → Q () { s with heap := h' }) : wpAny M A (noteFrame (.ref e) env) Q E s := by
  obtain ⟨oe, vs, T, oT, ts, he, hz, hd, h1, hnT, hTe, hT, hdT, h3⟩ := ht
  unfold noteFrame
  simp only [hf]
  refine wpAny_bind (wpAny_field he hd h1 ?_)
  rw [if_pos (show (Value.ref T != Value.none) = true from by simp)]
  refine wpAny_bind (wpAny_field hT hdT h3 ?_)
  rw [if_neg hne]
  refine wpAny_bind (wpAny_setField hT hdT (Array.getElem?_eq_some_iff.mp h3).1 ?_)
  have other : ∀ b, b ≠ T → (s.heap.update T (Obj.mapFields (·.setIfInBounds 3 Value.none))).get? b = s.heap.get? b := fun b hb => Heap.get?_update_other _ _ (Ne.symm hb)
  have noRecord : ∀ b o, s.heap.get? b = some o → (∀ vs, o.data ≠ .fields vs) → b ≠ T := fun b o hb hnf q => by
    rw [q, hT] at hb; injection hb with hb; subst hb; exact hnf ts hdT
  refine HandSPX.wpAny_entryZ hZ hfr (hl.of_keeps fun b o hb hnf => ⟨o, (other b (noRecord b o hb hnf)).trans hb, rfl⟩) hf ((other e (Ne.symm hTe)).trans he)
    (fun b o hbo => (other b fun q => by rw [q, hnT] at hbo; cases hbo).trans (hkb b o hbo)) hen hd (Array.getElem?_eq_some_iff.mp h1).1 hz fun h' hN => ?_
  obtain ⟨x1, x2, x3, x4⟩ := hN
  exact hQ h' ⟨x1, hen, x2, x3⟩ fun b o hb hnf => x4 b o ((other b (noRecord b o hb hnf)).trans hb) hnf
theorem rawInt_ne {a b : Addr} (h : a ≠ b) : ¬ ((rawInt a == rawInt b) = true) := by
  intro q
  apply h
  have := eq_of_beq q
  simp [rawInt] at this
  exact Int.ofNat_inj.mp this
theorem sky_noted {B : Heap} {outer : List PySem.Env} {C L a : Addr} {Z : Obj → Prop} {Q : Unit → Shared → Prop} (hZ : HandSPX.Steady Z) (hfr : A.frames = some (env :: outer)) (hf : env.frame = some L) (hC : C ≠ L)
    (x : Sky B (env :: outer) a Z C s.heap) (hQ : ∀ h', HandSPX.HeldZ B (env :: outer) a Z L h' → s.heap.UpToSlots h' → Q () { s with heap := h' }) : wpAny M A (noteFrame (.ref a) env) Q E s := by
  rcases x with ⟨hB, hn, hl, oe, vs, he, hz, hd, h1⟩ | fl | ⟨hB, hn, hl, ht⟩
  · exact HandSPX.look_newZ hZ hfr hl hf he hB hn hd h1 hz hQ
  · exact HandSPX.looks_onZ hZ hfr hf fl hQ
  · exact looks_otherZ hZ hfr hf hB hn hl ht (rawInt_ne hC) hQ
/-- it goes on, the block's own names let go of -/
theorem pass_held {B : Heap} {l : List PySem.Env} {L a : Addr} {Z : Obj → Prop} {what : String} (hf : env.frame = some L) (hh : HandSPX.HeldZ B l a Z L s.heap)
    (hE : ∀ h', HandSPX.HeldZ B l a Z L h' → s.heap.UpToSlots h' → E (.ref a) { s with heap := h' }) : wpAny M A (PySem.passOn what (.ref a) env : Sem Value) (fun _ _ => False) E s := by
  have hh' := hh
  obtain ⟨_, _, _, oe, vs, T, oT, ts, he, hz, hd, h1, hnT, hTe, hT, hdT, h3⟩ := hh'
  unfold PySem.passOn
  refine wpAny_bind (wpAny_field he hd h1 ?_)
  rw [if_neg (show ¬ ((Value.ref T == Value.none) = true) from by simp), hf]
  refine wpAny_bind (HandSPX.setFlight_onZ hh fun h' hh' up => ?_)
  exact wpAny_throw (hE h' hh' up)
/-- the ground without one place -/
theorem held_hide {B h1 h2 : Heap} {l : List PySem.Env} {a L C : Addr} {Z : Obj → Prop} (hh : HandSPX.HeldZ B l a Z L h1) (sb : Heap.SameBut C h1 h2) {oC : Obj} (hC : B.get? C = some oC) : HandSPX.HeldZ (PySem.W.hideAll B [C]) l a Z L h2 := by
  obtain ⟨hB, hn, hl, oe, vs, T, oT, ts, he, hz, hd, h1', hnT, hTe, hT, hdT, h3⟩ := hh
  have none' : ∀ b, B.get? b = none → (PySem.W.hideAll B [C]).get? b = none := fun b hb => by
    cases q : (PySem.W.hideAll B [C]).get? b with
    | none => rfl
    | some o => rw [PySem.W.of_hideAll _ q] at hb; cases hb
  have neC : ∀ b, B.get? b = none → b ≠ C := fun b hb z => by rw [z, hC] at hb; cases hb
  refine ⟨fun b o e => ?_, none' _ hn, ?_, oe, vs, T, oT, ts, (sb.2 _ (neC _ hn)).trans he, hz, hd, h1', none' _ hnT, hTe, (sb.2 _ (neC _ hnT)).trans hT, hdT, h3⟩
  · have e' := PySem.W.of_hideAll _ e
    have : b ≠ C := fun z => by
      have q := PySem.W.hideAll_none (h := B) [C] (b := C) List.mem_cons_self
      rw [z, q] at e; cases e
    exact (sb.2 b this).trans (hB b o e')
  · clear hB hn he hz hd h1' hnT hTe hT hdT h3
    induction l with
    | nil => trivial
    | cons env rest ih =>
      obtain ⟨hk, ⟨L', o, hf, hn, ho, hd⟩, hr⟩ := hl
      exact ⟨hk, ⟨L', o, hf, none' _ hn, (sb.2 _ (neC _ hn)).trans ho, hd⟩, ih hr⟩
end
section
variable {X : Cx}
theorem pe_lcX {elt tg iter : Expr} {scope : Scope} {own : List (Str × Nat)} {pos : Pos} {wi : TI} {g : TG} {te : L2.St → TE} {W : WX}
    (hst : X.stack = X.env :: X.outer) (hf : X.env.frame = some X.env.locals) (tk : Takes X W)
    (hc : X.calm = true) (hN : X.N.Nodup) (hi : PI X tg iter wi) (ok : BlkOk X.N X.env.scope scope own)
    (hg : ∀ (s : Shared) (H : Hp) (C : Addr) (cl : List (Str × Addr)) (fp : List Addr) (E : Value → Shared → Prop), PG ((X.blk s H scope (compEnvC scope cl C X.env) fp).wish E) tg g)
    (he : ∀ (σ : L2.St) (s : Shared) (H : Hp) (C : Addr) (cl : List (Str × Addr)) (fp : List Addr) (E : Value → Shared → Prop), Takes ((X.blk s H scope (compEnvC scope cl C X.env) fp).wish E) (fun c d _ H => W c d σ H) → PE ((X.blk s H scope (compEnvC scope cl C X.env) fp).wish E) elt (te σ))
    (hs : ∀ x, foldedSetIterable iter X.env x = pure x) :
    PE X (.ListComp elt [⟨tg, iter, [], 0⟩] scope pos) (fun σ H Q => tLc wi g tYes (te σ) (own.map (·.2)) σ H Q) := by
  refine ⟨fun pins s σ H Q I h => ?_⟩
  rw [eval_ListComp]
  have hfree : ∀ y ∈ scope.names, y.2 = .free → ∃ c, X.env.cells.lookup y.1 = some c := fun y hy e => by
    rcases ok.free y hy e with k | k
    · exact I.ok.has _ (.inl k)
    · exact I.ok.has _ (.inr k)
  refine comp_freeX rfl hs (closure_ok hfree) ok.kind (fun y hy e => by rw [ok.uniq y hy, e])
    (thn (hi.run pins s σ H _ I h) fun xv s1 hx => thn hx fun itv s2 h2 => ?_)
  obtain ⟨it, fp, tn, J, H2, e, I2, T, st2, f2, q⟩ := h2
  subst e
  refine wpAny_newObj_type (newEnv_comp ?_) (by show 0 ≤ sizeLine; decide)
  generalize hD : s2.heap.objs.size = D
  have hDn : H2 D = none := I2.hok.fresh (Nat.le_of_eq hD)
  obtain ⟨Wt, ⟨m0, w0⟩, turn⟩ := q D hDn
  generalize hs3 : ({ s2 with heap := s2.heap.push { cls := .type "list", data := .seq ([] : List Value).toArray } } : Shared) = s3
  have I3 : Inv X pins σ (upd H2 D (.lst [])) s3 := by
    rw [← hs3]
    refine I2.laid (t' := s2.toks) (fun b o e => Heap.get?_push_of_some _ e) (Nat.le_of_eq hD) ⟨Nat.zero_le _, [], 0, .nil, ?_⟩
    rw [← hD]
    exact Heap.get?_push_size _ rfl
  have h3 : s3.heap = s2.heap.push { cls := .type "list", data := .seq ([] : List Value).toArray } := by rw [← hs3]
  have sz : ∀ b ∈ fp, b < s2.heap.objs.size := fun b hb => by
    obtain ⟨o, e, _⟩ := T.obj _ _ st2 b hb
    exact Heap.lt_size e
  have f3 : ∀ b ∈ fp, FpOk X pins (upd H2 D (.lst [])) b ∧ b < s3.heap.objs.size := fun b hb => by
    have hlt := sz b hb
    refine ⟨⟨?_, (f2 b hb).2⟩, by rw [h3, Heap.size_push]; exact Nat.lt_succ_of_lt hlt⟩
    rw [upd_ne (by rw [← hD]; exact Nat.ne_of_lt hlt)]
    exact (f2 b hb).1
  have st3 : tn 0 s3.heap := T.keep _ _ _ st2 fun b _ o e => by rw [h3]; exact Heap.get?_push_of_some _ e
  have I4 := block_start I3 ok hN f3
  have pg := hg s3 (upd H2 D (.lst [])) s3.heap.objs.size (cellsFrom (s3.heap.objs.size + 1) scope.names (cloFrom X.env.cells scope.names [])) fp
  have pe := he σ s3 (upd H2 D (.lst [])) s3.heap.objs.size (cellsFrom (s3.heap.objs.size + 1) scope.names (cloFrom X.env.cells scope.names [])) fp
  show codeAny _ _ (.compStart (.ListComp elt [⟨tg, iter, [], 0⟩] scope pos) 0 (.ref it) (.ref D) (compEnvC scope (cellsFrom (s3.heap.objs.size + 1) scope.names (cloFrom X.env.cells scope.names [])) s3.heap.objs.size X.env)) (cpX (model X.prog X.w) X.A X.xe (EP X pins σ Q) (.ref D) (compEnvC scope (cellsFrom (s3.heap.objs.size + 1) scope.names (cloFrom X.env.cells scope.names [])) s3.heap.objs.size X.env)) { s3 with heap := pushCells (s3.heap.push { cls := .type "dict", data := .dict #[] }) scope.names }
  have nfp : ∀ b ∈ fp, (upd H2 D (.lst [])) b = none := fun b hb => (f3 b hb).1.1
  generalize hce : compEnvC scope (cellsFrom (s3.heap.objs.size + 1) scope.names (cloFrom X.env.cells scope.names [])) s3.heap.objs.size X.env = ce at I4 pg pe ⊢
  have cL : ce.locals = s3.heap.objs.size := by subst hce; rfl
  have cF : ce.frame = some X.env.locals := by subst hce; exact hf
  have cN : ∀ u : Value, noteFrame u ce = noteFrame u X.env := fun u => by subst hce; rfl
  generalize hH3 : upd H2 D (.lst []) = H3 at I3 I4 pg pe w0 nfp f3
  generalize hs4 : ({ s3 with heap := pushCells (s3.heap.push { cls := .type "dict", data := .dict #[] }) scope.names } : Shared) = s4 at I4 ⊢
  have st4 : tn 0 s4.heap := T.keep _ _ _ st3 fun b _ o e => by rw [← hs4]; exact pushCells_keeps _ _ _ _ (Heap.get?_push_of_some _ e)
  have stat : ∀ {σ' : L2.St} {H' : Hp} {s' : Shared}, Inv (X.blk s3 H3 scope ce fp) [] σ' H' s' → (∀ b ∈ fp, H' b = none) → ∀ b ∈ fp, FpOk (X.blk s3 H3 scope ce fp) [] H' b := fun {σ' H' s'} I' hn b hb =>
    ⟨hn b hb, (I'.ok.exf b hb).1, I'.ok.exfs b hb, .inl hb, fun x c e => (I'.ok.exf b hb).2 x c e, fun p hp => absurd (show p ∈ ([] : List (Addr × Obj)) ++ [] from hp) (by simp)⟩
  -- back in the def's context
  have back : ∀ {pins' : List (Addr × Obj)} {σ' : L2.St} {H' : Hp} {s' : Shared}, Inv (X.blk s3 H3 scope ce fp) pins' σ' H' s' → Inv X pins σ H' s' ∧ H' s3.heap.objs.size = none := fun {pins' σ' H' s'} I6 => by
    refine ⟨I3.call' (ch := fp) I6.os I6.base I6.hok I6.bare fun b hb => ⟨(f3 b hb).1.2.2.2.1, (f3 b hb).1.2.1, (f3 b hb).1.2.2.2.2.1, (f3 b hb).1.2.2.2.2.2⟩, ?_⟩
    have z : H' ce.locals = none := I6.free
    rw [cL] at z
    exact z
  have cne : s3.heap.objs.size ≠ X.env.locals := Nat.ne_of_gt I3.lt
  have cst : s3.heap.objs.size ∉ frs X.stack := fun hb => by
    obtain ⟨_, o, e, _⟩ := I3.stack.mem hb
    exact absurd (Heap.lt_size e) (Nat.lt_irrefl _)
  -- what is raised goes on
  have tkb : Takes ((X.blk s3 H3 scope ce fp).wish (notedBy (model X.prog X.w) X.A ce fun e s' => cpX (model X.prog X.w) X.A X.xe (EP X pins σ Q) (.ref D) ce (.error e) s')) (fun c d _ H => W c d σ H) := by
    rintro u s' ⟨a, Bh, sI, pins', σ', H', cls, d, rfl, Jw, nb, up, sky, na, os, ag, w⟩
    have Jb := Jw.unwish
    obtain ⟨J7, nC⟩ := back Jb
    have hfr : X.A.frames = some (X.env :: X.outer) := by rw [I3.ok.frames, hst]
    have sky : Sky Bh X.stack a (Zc cls d) ce.locals s'.heap := sky
    rw [cL, hst] at sky
    have nb : ∀ b o, sI.heap.get? b = some o → b ∉ frs X.stack → Bh.get? b = some o := nb
    obtain ⟨m, ⟨oC, es, ep, eC, dC, kC, fC⟩, _⟩ := Jb.loc
    have eC : sI.heap.get? ce.locals = some oC := eC
    rw [cL] at eC
    show wpAny (model X.prog X.w) X.A (noteFrame (.ref a) ce) _ _ s'
    rw [cN]
    refine sky_noted Zc.steady hfr hf cne sky fun h1 hh up1 => ?_
    obtain ⟨sl, e1⟩ := (up.trans up1) _ _ eC (by intro vs; rw [dC]; simp)
    refine ⟨m, ⟨{ oC with slots := sl }, es, ep, by rw [cL]; exact e1, dC, kC, fC⟩, fun h2 sb => ?_⟩
    rw [cL] at sb
    have hh2 := held_hide hh sb (nb _ _ eC cst)
    refine pass_held cF hh2 fun h3 hh3 up3 => ?_
    rw [← hst] at hh3
    obtain ⟨f0, f1, f2', f3', f4, f5⟩ := I3.fpOk (Nat.le_refl _) nC
    refine tk _ _ ⟨a, PySem.W.hideAll Bh [s3.heap.objs.size], { sI with heap := PySem.W.hideAll sI.heap [s3.heap.objs.size] }, pins, σ, H', cls, d, rfl,
      J7.turned (t' := sI.toks) (fun b o hb e => PySem.W.hideAll_get _ e (by simpa using hb)) f0 f1 f3' f4 f5, fun b o e hb => ?_, fun b o e hnf => ?_, .inr (.inr hh3), na, os, ag, w⟩
    · have ne : b ∉ [s3.heap.objs.size] := fun z => by
        have q := PySem.W.hideAll_none (h := sI.heap) _ z
        have e : (PySem.W.hideAll sI.heap [s3.heap.objs.size]).get? b = some o := e
        rw [q] at e; cases e
      exact PySem.W.hideAll_get _ (nb b o (PySem.W.of_hideAll _ e) hb) ne
    · have e : (PySem.W.hideAll sI.heap [s3.heap.objs.size]).get? b = some o := e
      have ne : b ≠ s3.heap.objs.size := fun z => by
        have q := PySem.W.hideAll_none (h := sI.heap) (b := b) [s3.heap.objs.size] (by rw [z]; exact List.mem_cons_self)
        rw [q] at e; cases e
      obtain ⟨sl1, q1⟩ := (up.trans up1) b o (PySem.W.of_hideAll _ e) hnf
      have q2 : h2.get? b = _ := (sb.2 b ne).trans q1
      obtain ⟨sl3, q3⟩ := up3 b _ q2 hnf
      exact ⟨sl3, q3⟩
  have pg := pg (notedBy (model X.prog X.w) X.A ce fun e s' => cpX (model X.prog X.w) X.A X.xe (EP X pins σ Q) (.ref D) ce (.error e) s')
  have pe := pe _ tkb
  have loop : codeAny (model X.prog X.w) X.A (.compLoop (.ListComp elt [⟨tg, iter, [], 0⟩] scope pos) 0 (.ref it) (.ref D) ce) (cpX (model X.prog X.w) X.A X.xe (EP X pins σ Q) (.ref D) ce) s4 := by
    refine compLoop_any (fun n s' => ∃ i H', Inv (X.blk s3 H3 scope ce fp) [] (wipe σ (own.map (·.2))) H' s' ∧ tn i s'.heap ∧ (∀ b ∈ fp, H' b = none) ∧ Wt i n H') ?_ m0 ⟨0, H3, I4, st4, nfp, w0⟩
    rintro n s5 ⟨i, H5, I5, st5, n5, w5⟩
    rcases turn i n H5 w5 with ⟨stop, qq⟩ | ⟨go, Nx, hNx, step⟩
    · have td := T.done (X.blk s3 H3 scope ce fp) rfl rfl rfl hc i [] s5 _ H5 (fun _ _ => False) I5 (stat I5 n5) st5 stop
      refine thnF td fun r s6 ⟨hr, I6⟩ => ?_
      subst hr
      obtain ⟨I7, nC⟩ := back I6
      obtain ⟨m, hn, _⟩ := I6.loc
      obtain ⟨f0, f1, f2', f3', f4, f5⟩ := I3.fpOk (Nat.le_refl _) nC
      refine ⟨m, hn, fun h'' sb => ?_⟩
      rw [cL] at sb
      exact ⟨.ref D, H5, I7.turned (t' := s6.toks) (fun b o hb e => (sb.2 b hb).trans e) f0 f1 f3' f4 f5, rfl, qq⟩
    · have ti := T.item (X.blk s3 H3 scope ce fp) rfl rfl rfl hc i [] s5 _ H5 (fun _ _ => False) I5 (stat I5 n5) st5 go
      refine thnF ti fun r s6 ⟨u, hr, h6⟩ => ?_
      subst hr
      refine thnF h6 fun _ s7 ⟨x, H7, I7, r7, y7, st7, n7⟩ => ?_
      have I7' := I7.pinned (stat I7 n7) (T.obj _ _ st7)
      refine thn (pg.run _ s7 _ H7 x u _ (I7'.wish _) r7 (step x H7 y7)) fun _ s8 ⟨σ8, H8, I8, hw8, q8⟩ => ?_
      refine wpAny_tests_nil ?_
      have fin : ∀ {s' : Shared} {H' : Hp}, Inv (X.blk s3 H3 scope ce fp) ([] ++ pinsAt fp s7.heap) σ8 H' s' → Nx H' → ∃ m, m < n ∧ ∃ i H', Inv (X.blk s3 H3 scope ce fp) [] (wipe σ (own.map (·.2))) H' s' ∧ tn i s'.heap ∧ (∀ b ∈ fp, H' b = none) ∧ Wt i m H' := fun {s' H'} I' nx => by
        obtain ⟨m', hm, w'⟩ := hNx H' nx
        have pin' : ∀ b ∈ fp, ∀ o, s7.heap.get? b = some o → s'.heap.get? b = some o ∧ H' b = none := fun b hb o e =>
          let z := I'.pin (b, o) (List.mem_append_right _ (List.mem_append_right _ (mem_pinsAt hb e)))
          ⟨z.1, z.2.1⟩
        have hl : (wipe σ (own.map (·.2))).length = σ8.length := by rw [← hw8, wipe_length]
        refine ⟨m', hm, i + 1, H', (I'.unpinned (pins := [])).weak hl (fun j v e => ?_), T.keep _ _ _ st7 fun b hb o e => (pin' b hb o e).1, fun b hb => ?_, w'⟩
        · rw [← hw8] at e
          exact (wipe_some e).1
        · obtain ⟨o, e, _⟩ := T.obj _ _ st7 b hb
          exact (pin' b hb o e).2
      unfold tYes at q8
      simp only [if_true] at q8 ⊢
      refine thn (pe.run _ s8 σ8 H8 _ I8 q8) fun z s10 ⟨yv, H10, I10, r10, acc, hD10, hz10, nx⟩ => ?_
      exact app_ok (X := X.blk s3 H3 scope ce fp) I10.unwish hD10 hz10 r10 fun s11 I11 => fin I11 nx
  exact codeAny_compStart_list loop (T.self X.A 0 _ _ _ st4 loop)
variable {B : Bk} {W : WX}
theorem g_compX {fz : Bool} {j : Nat} {δi : Env → R (List D)} {δe : Env → R D} :
    Sok B W (relE B) (fun σ H Q => tLc (tI B W fz δi) (gT X.K (.one j)) tYes (tE B (fun c d _ H => W c d σ H) δe) [j] σ H Q) (fun ρ => cmpX (δi ρ) fun d => δe ((wipeE ρ [j]).set j (.val d))) := by
  intro H0 Z H σ ρ Q zh e p
  refine ⟨H0, Z, ρ, zh, e, ?_⟩
  have p : Post B W σ (relE B) Z H Q ((δi ρ).bind fun ds => if ds.length ≤ big then (mapX (fun d => δe ((wipeE ρ [j]).set j (.val d))) ds).bind fun l => .ok (.lst l) else .bad) := p
  cases qi : δi ρ with
  | bad => rw [qi] at p; exact p.elim
  | exc c => rw [qi] at p; exact p
  | ok ds =>
    rw [qi] at p
    simp only [R.ok_bind] at p
    by_cases hl : ds.length ≤ big
    · rw [if_pos hl] at p
      intro J H1 Z1 s1 w D hD
      have p1 := Post.step p s1
      have e1 := e.step s1
      let Pv : Nat → Hp → Prop := fun i H => ∃ Z vs es, Step Z1 H1 Z H ∧ H D = some (.lst vs) ∧ Z D = none ∧ Reps B Z vs es ∧ es.length ≤ i ∧ Post B W σ (relE B) Z1 H1 Q ((mapX (fun d => δe ((wipeE ρ [j]).set j (.val d))) (ds.drop i)).bind fun l => .ok (.lst (es ++ l)))
      have wk : Walk J ds.length (fun H => ∃ Z, AI fz Z1 H1 Z H) (fun i H x H' => J.yld i H x H') := ⟨fun i H hi ⟨Z, h⟩ => w.go i Z H hi h, fun H ⟨Z, h⟩ => w.stop Z H h, fun _ _ _ _ _ _ y => y⟩
      have ai : ∀ {Z H}, Step Z1 H1 Z H → AI fz Z1 H1 Z H := fun s => ⟨s.zz, s.zh, fun _ => s.hh⟩
      refine lc_it wk Pv ?_ (fun i H hi ⟨Z, vs, es, s, _⟩ => ⟨Z, ai s⟩) ?_ ?_
      · refine ⟨Z1, [], [], ?_, upd_same, s1.zh.free hD, .nil, Nat.le_refl _, by simpa using p1⟩
        exact Step.own (.refl s1.zh) hD (s1.zh.free hD)
      · rintro i x H2 H3 hi ⟨Z2, vs, es, s2, hD2, zD2, rs, hes, p2⟩ y
        obtain ⟨d, hd⟩ : ∃ d, ds[i]? = some d := ⟨ds[i], by simp [hi]⟩
        obtain ⟨Z3, s3, rx⟩ := w.yld i d Z2 H2 x H3 hd (ai s2) y
        have hdr : ds.drop i = d :: ds.drop (i + 1) := by
          rw [List.drop_eq_getElem_cons hi]
          congr 1
          have := List.getElem?_eq_some_iff.mp hd
          exact this.2
        rw [hdr] at p2
        simp only [mapX] at p2
        have hD3 : H3 D = some (.lst vs) := s3.hh _ _ hD2
        have zD3 : Z3 D = none := by rw [s3.fr D (by rw [hD2]; simp)]; exact zD2
        have e3 : EnvOk B H0 Z3 H3 (wipe σ [j]) (wipeE ρ [j]) := wipe_ok ((e1.step s2).step s3) _
        have qs : setT (.one j) d (wipeE ρ [j]) = .ok ((wipeE ρ [j]).set j (.val d)) := rfl
        refine gT_ok (tg := .one j) s3.zh e3 rx qs fun σ' e4 hw => ⟨by rw [show [j] = (Tg.one j).ixs from rfl, hw]; exact wipe_wipe σ (.one j), ?_⟩
        unfold tYes
        show if true = true then tE B (fun c d x H => W c d σ H) δe σ' H3 fun y H4 => ∃ acc, H4 D = some (HO.lst acc) ∧ acc.length < sizeLine ∧ Pv (i + 1) (upd H4 D (HO.lst (acc ++ [y]))) else Pv (i + 1) H3
        rw [if_pos rfl]
        refine ⟨H0, Z3, _, s3.zh, e4, ?_⟩
        cases qe : δe ((wipeE ρ [j]).set j (.val d)) with
        | bad => rw [qe] at p2; exact p2.elim
        | exc c =>
          rw [qe] at p2
          intro H' sm
          exact p2 H' ((s2.trans s3).hh.trans sm)
        | ok yd =>
          rw [qe] at p2
          simp only [R.ok_bind] at p2
          intro v H5 Z5 s5 rv
          have hD5 : H5 D = some (.lst vs) := s5.hh _ _ hD3
          have zD5 : Z5 D = none := by rw [s5.fr D (by rw [hD3]; simp)]; exact zD3
          have st := (s2.trans s3).trans s5
          refine ⟨vs, hD5, ?_, Z5, vs ++ [v], es ++ [yd], Step.own st hD zD5, upd_same, zD5, ?_, ?_, ?_⟩
          · rw [rs.length]; exact Nat.lt_of_le_of_lt (Nat.le_trans hes (Nat.le_of_lt (Nat.lt_of_lt_of_le hi hl))) big_line
          · exact (rs.mono (s3.zz.trans s5.zz)).append (.cons rv .nil)
          · simp; omega
          · revert p2
            cases mapX (fun d => δe ((wipeE ρ [j]).set j (.val d))) (ds.drop (i + 1)) with
            | bad => exact fun p => p
            | exc c => exact fun p => p
            | ok l => simp
      · rintro H2 ⟨Z2, vs, es, s2, hD2, zD2, rs, hes, p2⟩
        simp only [List.drop_length, mapX, R.ok_bind, List.append_nil] at p2
        have hz : Same Z2 (upd Z2 D (.lst vs)) := same_upd zD2
        refine p2 _ H2 (upd Z2 D (.lst vs)) ⟨s2.hh, s2.zz.trans hz, fun b u q => ?_, fun a ha => ?_⟩ (.lst upd_same (rs.mono hz))
        · by_cases hb : b = D
          · subst hb; rw [upd_same] at q; cases q; exact hD2
          · rw [upd_ne hb] at q; exact s2.zh b u q
        · rw [upd_ne, s2.fr a ha]
          rintro rfl; exact ha hD
    · rw [if_neg hl] at p; exact p.elim
end
end RS

namespace RS
open PySem PySem.Spec PyProof.Rows L2

/-! ### the matcher -/
def visB (sc : Scope) (x : Str) : Bool := match sc.names.lookup x with | some .local => true | some .cell => true | some .free => true | _ => false
def locB (sc : Scope) (x : Str) : Bool := match sc.names.lookup x with | some .local => true | some .cell => true | _ => false
def lclB (sc : Scope) (x : Str) : Bool := match sc.names.lookup x with | some .local => true | _ => false
def glB (sc : Scope) (x : Str) : Bool := match sc.names.lookup x with | some .globalImplicit => true | _ => false
theorem vis_of {sc : Scope} {x : Str} (h : visB sc x = true) : Vis sc x := by
  unfold visB at h; split at h <;> first | exact .inl (by assumption) | exact .inr (.inl (by assumption)) | exact .inr (.inr (by assumption)) | cases h
theorem loc_of {sc : Scope} {x : Str} (h : locB sc x = true) : Loc sc x := by
  unfold locB at h; split at h <;> first | exact .inl (by assumption) | exact .inr (by assumption) | cases h
theorem lcl_of {sc : Scope} {x : Str} (h : lclB sc x = true) : sc.names.lookup x = some .local := by
  unfold lclB at h; split at h <;> first | assumption | cases h
theorem gl_of {sc : Scope} {x : Str} (h : glB sc x = true) : sc.names.lookup x = some .globalImplicit := by
  unfold glB at h; split at h <;> first | assumption | cases h
def isBop : Bop → Operator → Bool
  | .add, .Add => true | .sub, .Sub => true | .mul, .Mult => true | .fdiv, .FloorDiv => true | .mod, .Mod => true | .pow, .Pow => true | _, _ => false
theorem isBop_of {o : Bop} {op : Operator} (h : isBop o op = true) : op = bopOp o := by cases o <;> cases op <;> first | rfl | cases h
def isCop : Cop → CmpOp → Bool
  | .lt, .Lt => true | .le, .LtE => true | .gt, .Gt => true | .ge, .GtE => true | .eq, .Eq => true | .ne, .NotEq => true | .is, .Is => true | .isnot, .IsNot => true | .inn, .In => true | .notin, .NotIn => true | _, _ => false
theorem isCop_of {o : Cop} {op : CmpOp} (h : isCop o op = true) : op = copOp o := by cases o <;> cases op <;> first | rfl | cases h
def isAO : Bool → BoolOp → Bool
  | true, .And => true | false, .Or => true | _, _ => false
theorem isAO_of {k : Bool} {op : BoolOp} (h : isAO k op = true) : op = if k then .And else .Or := by cases k <;> cases op <;> first | rfl | cases h
def plainT : Expr → Bool
  | .UnaryOp .Not _ _ => false | .BoolOp _ _ _ => false | .IfExp _ _ _ _ => false | .Compare _ _ _ _ => false | _ => true
theorem plainT_of {e : Expr} {env : PySem.Env} (h : plainT e = true) : ∀ whole, isTrue e env whole = (do let v ← whole; standAt e.pos; holding [v] (truthy v)) := by
  intro whole
  cases e with
  | UnaryOp op a p => cases op <;> first | rfl | cases h
  | _ => first | rfl | cases h
def notSet : Expr → Bool
  | .Set _ _ _ => false | _ => true
theorem notSet_of {e : Expr} {env : PySem.Env} (h : notSet e = true) : ∀ x, foldedSetIterable e env x = pure x := by
  intro x; cases e <;> first | rfl | cases h
theorem notSet_in {e : Expr} {op : CmpOp} (h : notSet e = true) : behindInMarks op e = false := by
  cases e <;> first | rfl | cases h
def notStar : Expr → Bool
  | .Starred _ _ => false | _ => true
theorem notStar_of {e : Expr} {es : List Expr} {env : PySem.Env} (h : notStar e = true) : starEach (e :: es) env = (false, eval e env) :: starEach es env := by
  cases e <;> first | rfl | cases h
def notSlice : Expr → Bool
  | .Slice _ _ _ _ => false | _ => true
theorem notSlice_of {e : Expr} (h : notSlice e = true) : PlainIx e := by
  intro o i; cases e <;> first | rfl | cases h
def notComp : Expr → Bool
  | .ListComp _ _ _ _ => false | .SetComp _ _ _ _ => false | .DictComp _ _ _ _ _ => false | _ => true
theorem notComp_of {e : Expr} {t : Option Expr} {l : Nat} {env : PySem.Env} (h : notComp e = true) : swapsWith e t l env = pure false := by
  cases e <;> first | rfl | cases h
def notTuple : Expr → Bool
  | .Tuple _ _ _ => false | _ => true
def tgOwn : Tg → Expr → Option (List (Str × Nat))
  | .one i, .Name x _ => some [(x, i)]
  | .two i j, .Tuple [.Name x _, .Name y _] _ _ => some [(x, i), (y, j)]
  | _, _ => none
def isTupE : Expr → Bool
  | .Tuple _ _ _ => true | _ => false
def isTy (t : Ty) (x : Str) : Bool := decide (x = Str.ofString (tyStr t))
def plainB : Expr → Bool
  | .Name _ _ => true | .Constant _ _ _ => true | _ => false
theorem plainB_of {e : Expr} {name : Str} {env : PySem.Env} (h : plainB e = true) : attributeBase e name env (eval e env) = eval e env := by
  unfold plainB at h
  split at h
  · rfl
  · rfl
  · cases h
def recvB : Expr → Bool
  | .Name _ _ => true | .Call (.Name _ _) (_ :: _) [] _ => true | _ => false
theorem recvB_of {e : Expr} {name : Str} {env : PySem.Env} (h : recvB e = true) : attributeBase e name env (eval e env) = eval e env := by
  unfold recvB at h
  split at h
  · rfl
  · rfl
  · cases h
def isNeg1 : Expr → Bool
  | .UnaryOp .USub (.Constant (.int 1) _ _) _ => true | _ => false

section
variable (P : Pg) (N : List Str)
mutual
def mE : E → Scope → Expr → Bool
  | .var i, sc, pe => match pe with | .Name x _ => decide (N[i]? = some x) && visB sc x | _ => false
  | .int n, _, pe => match pe with | .Constant (.int m) _ _ => decide (n = m) | _ => false
  | .bl n, _, pe => match pe with | .Constant (.bool m) _ _ => decide (n = m) | _ => false
  | .non, _, pe => match pe with | .Constant .none _ _ => true | _ => false
  | .str n, _, pe => match pe with | .Constant (.str m) _ _ => decide (n = m) | _ => false
  | .glob g, sc, pe => match pe with | .Name x _ => decide (P.globs[g]?.map (·.1) = some x) && glB sc x | _ => false
  | .neg a, sc, pe => match pe with | .UnaryOp .USub x _ => mE a sc x | _ => false
  | .not a, sc, pe => match pe with | .UnaryOp .Not x _ => mE a sc x | _ => false
  | .bin o a b, sc, pe => match pe with | .BinOp x op y _ => isBop o op && mE a sc x && mE b sc y | _ => false
  | .cmp o a b, sc, pe => match pe with | .Compare x [op] [y] _ => isCop o op && notSet y && mE a sc x && mE b sc y | _ => false
  | .chain o o2 a b c, sc, pe => match pe with | .Compare x [op, op2] [y, z] _ => isCop o op && isCop o2 op2 && notSet z && mE a sc x && mE b sc y && mE c sc z | _ => false
  | .bop k es, sc, pe => match pe with | .BoolOp op xs _ => isAO k op && mB es sc xs | _ => false
  | .ite c a b, sc, pe => match pe with | .IfExp x y z _ => mT c sc x && mE a sc y && mE b sc z | _ => false
  | .tup es, sc, pe => match pe with | .Tuple xs _ _ => mEs es sc xs | _ => false
  | .lst es, sc, pe => match pe with | .List xs _ => mEs es sc xs | _ => false
  | .call f es, sc, pe => match pe with | .Call (.Name x _) xs [] _ => decide (P.fns[f]?.map (fun fn => (fn.name, fn.kind)) = some (x, 0)) && glB sc x && mEs es sc xs && !xs.isEmpty | _ => false
  | .bi b es, sc, pe => match pe with | .Call (.Name x _) xs [] _ => decide (x = biName b) && glB sc x && mEs es sc xs && !xs.isEmpty | _ => false
  | .isi a t, sc, pe => match pe with | .Call (.Name x _) [e, .Name y _] [] _ => decide (x = "isinstance") && glB sc x && isTy t y && glB sc y && mE a sc e | _ => false
  | .ix a i, sc, pe => match pe with | .Subscript x y _ => notSlice y && mE a sc x && mE i sc y | _ => false
  | .slU a b, sc, pe => match pe with | .Subscript x (.Slice none (some y) none _) _ => mE a sc x && mE b sc y | _ => false
  | .slL a b, sc, pe => match pe with | .Subscript x (.Slice (some y) none none _) _ => mE a sc x && mE b sc y | _ => false
  | .slB a b c, sc, pe => match pe with | .Subscript x (.Slice (some y) (some z) none _) _ => mE a sc x && mE b sc y && mE c sc z | _ => false
  | .rev a, sc, pe => match pe with | .Subscript x (.Slice none none (some s) _) _ => isNeg1 s && mE a sc x | _ => false
  | .olen i, sc, pe => match pe with | .Call (.Name x _) [.Name y _] [] _ => decide (x = "len") && glB sc x && decide (N[i]? = some y) && visB sc y | _ => false
  | .oix i e, sc, pe => match pe with | .Subscript (.Name x _) y _ => notSlice y && decide (N[i]? = some x) && visB sc x && mE e sc y | _ => false
  | .comp el tg it cs, sc, pe => match pe with
    | .ListComp pel [⟨ptg, pit, pifs, as⟩] scope _ => match tgOwn tg ptg with
      | some own => decide (as = 0) && blkC N sc scope own && (own.all fun p => locB scope p.1) && notSet pit && mI it sc ptg pit && mTs cs (relS scope sc) pifs && decide (pifs.length ≤ 1) && mE el (relS scope sc) pel
      | none => false
    | _ => false
  | .fld a k, sc, pe => match pe with | .Attribute x f _ => decide (P.ycls ≠ "") && decide (P.flds[k]? = some f) && plainB x && mE a sc x | _ => false
  | .new f es, sc, pe => match pe with | .Call (.Name x _) xs [] _ => decide (P.ycls ≠ "") && decide (P.fns[f]?.map (fun fn => fn.kind) = some 2) && decide (x = P.ycls) && glB sc x && mEs es sc xs && !xs.isEmpty | _ => false
  | .meth f a es, sc, pe => match pe with | .Call (.Attribute o m apos) xs [] cpos => (apos.endLine == cpos.line) && decide (xs.length < 30) && decide (P.ycls ≠ "") && decide (P.fns[f]?.map (fun fn => (fn.name, fn.kind)) = some (m, 1)) && recvB o && mE a sc o && mEs es sc xs && !xs.isEmpty | _ => false
  | .split a b, sc, pe => match pe with | .Call (.Attribute x name apos) [y] [] cpos => decide (name = "split") && plainB x && (apos.endLine == cpos.line) && mE a sc x && mE b sc y | _ => false
  | .join a b, sc, pe => match pe with | .Call (.Attribute x name apos) [y] [] cpos => decide (name = "join") && plainB x && (apos.endLine == cpos.line) && mE a sc x && mE b sc y | _ => false
  | .trng a, sc, pe => match pe with | .Call (.Name x _) [.Call (.Name y _) [z] [] _] [] _ => decide (x = "tuple") && glB sc x && decide (y = "range") && glB sc y && mE a sc z | _ => false
  | .index a b, sc, pe => match pe with | .Call (.Attribute x name apos) [y] [] cpos => decide (name = "index") && plainB x && (apos.endLine == cpos.line) && mE a sc x && mE b sc y | _ => false
def mEs : Es → Scope → List Expr → Bool
  | .nil, _, xs => match xs with | [] => true | _ => false
  | .cons e es, sc, xs => match xs with | x :: xs => mE e sc x && mEs es sc xs | _ => false
def mB : Es → Scope → List Expr → Bool
  | .nil, _, _ => false
  | .cons e es, sc, xs => match es with
    | .nil => match xs with | [x] => mE e sc x | _ => false
    | .cons e2 es2 => match xs with | x :: y :: xs => mE e sc x && mB (.cons e2 es2) sc (y :: xs) | _ => false
def mT : T → Scope → Expr → Bool
  | .tr e, sc, pe => plainT pe && mE e sc pe
  | .otr i, sc, pe => match pe with | .Name x _ => decide (N[i]? = some x) && visB sc x | _ => false
  | .cmp o a b, sc, pe => match pe with | .Compare x [op] [y] _ => isCop o op && notSet y && mE a sc x && mE b sc y | _ => false
  | .chain o o2 a b c, sc, pe => match pe with | .Compare x [op, op2] [y, z] _ => isCop o op && isCop o2 op2 && notSet z && mE a sc x && mE b sc y && mE c sc z | _ => false
  | .bop k ts, sc, pe => match pe with | .BoolOp op xs _ => isAO k op && !xs.isEmpty && mTs ts sc xs | _ => false
  | .not t, sc, pe => match pe with | .UnaryOp .Not x _ => mT t sc x | _ => false
  | .chain3 o o2 o3 a b c d, sc, pe => match pe with | .Compare x [op, op2, op3] [y, z, u] _ => isCop o op && isCop o2 op2 && isCop o3 op3 && notSet u && mE a sc x && mE b sc y && mE c sc z && mE d sc u | _ => false
def mTs : Ts → Scope → List Expr → Bool
  | .nil, _, xs => match xs with | [] => true | _ => false
  | .cons t ts, sc, xs => match xs with | x :: xs => mT t sc x && mTs ts sc xs | _ => false
def mI : I → Scope → Expr → Expr → Bool
  | .val e, sc, _, pe => mE e sc pe
  | .own i, sc, _, pe => match pe with | .Name x _ => decide (N[i]? = some x) && visB sc x | _ => false
  | .rng1 e, sc, _, pe => match pe with | .Call (.Name x _) [y] [] _ => decide (x = "range") && glB sc x && mE e sc y | _ => false
  | .rng2 a b, sc, _, pe => match pe with | .Call (.Name x _) [y, z] [] _ => decide (x = "range") && glB sc x && mE a sc y && mE b sc z | _ => false
  | .enum e, sc, tg, pe => match pe with | .Call (.Name x _) [y] [] _ => isTupE tg && decide (x = "enumerate") && glB sc x && mE e sc y | _ => false
  | .zip a b, sc, tg, pe => match pe with | .Call (.Name x _) [y, z] [] _ => isTupE tg && decide (x = "zip") && glB sc x && mE a sc y && mE b sc z | _ => false
end
def mIni (sc : Scope) : List Str → Es → List Stmt → Bool
  | [], es, l => (match es, l with | .nil, [] => true | _, _ => false)
  | f :: fs, es, l => (match es, l with
    | .cons e es, .Assign [.Attribute (.Name s _) g _] pe _ :: l => decide (g = f) && decide (N[0]? = some s) && visB sc s && mE P N e sc pe && mIni sc fs es l
    | _, _ => false)
def notOwn : I → Bool
  | .own _ => false | _ => true
def mtName : Mt → Str
  | .app => "append" | .ins => "insert" | .ext => "extend"
def mK (sc : Scope) (y : Str) : Option Nat → Bool
  | none => decide (y = "ValueError") && glB sc y
  | some k => decide (P.excs[k]? = some y) && glB sc y
def mIs (i : Nat) (sc : Scope) (k : Option Nat) (pe : Expr) : Bool := match pe with
  | .Call (.Name x _) [.Name m _, .Name y _] [] _ => decide (x = "isinstance") && glB sc x && decide (N[i]? = some m) && visB sc m && mK P sc y k
  | _ => false
def mIsL (i : Nat) (sc : Scope) : List (Option Nat) → List Expr → Bool
  | [], [] => true
  | k :: ks, e :: es => mIs P N i sc k e && mIsL i sc ks es
  | _, _ => false
def mHE (io : Option Nat) (sc : Scope) : HE → Expr → Bool
  | .bl b, pe => (match pe with | .Constant (.bool m) _ _ => decide (b = m) | _ => false)
  | .one k, pe => (match io with | some i => mIs P N i sc k pe | none => false)
  | .lst ks, pe => (match io, pe with | some i, .List es _ => mIsL P N i sc ks es | _, _ => false)
  | .cat j ks, pe => (match io, pe with | some i, .BinOp (.Name x _) .Add (.List es _) _ => decide (N[j]? = some x) && visB sc x && mIsL P N i sc ks es | _, _ => false)
def mHs (io : Option Nat) (sc : Scope) : List HS → List Stmt → Bool
  | [], [] => true
  | [], _ :: _ => false
  | .ret e :: r, l => (match l with | .Return (some pe) _ :: l => mHE P N io sc e pe && mHs io sc r l | _ => false)
  | .asg j e :: r, l => (match l with | .Assign [.Name x _] pe _ :: l => decide (some j ≠ io) && decide (N[j]? = some x) && locB sc x && notComp pe && mHE P N io sc e pe && mHs io sc r l | _ => false)
def mS0 : S → Scope → Stmt → Bool := fun _ _ _ => false
def mCX (el : E) (j : Nat) (it : I) (sc : Scope) (pe : Expr) : Bool := match pe with
  | .ListComp pel [⟨ptg, pit, pifs, as⟩] scope _ => match tgOwn (.one j) ptg with
    | some own => decide (as = 0) && blkC N sc scope own && (own.all fun p => locB scope p.1) && notSet pit && mI P N it sc ptg pit && pifs.isEmpty && mE P N el (relS scope sc) pel
    | none => false
  | _ => false
mutual
def mS : S → Scope → Stmt → Bool
  | .expr e, sc, st => match st with | .Expr pe _ => notComp pe && mE P N e sc pe | _ => false
  | .asg i e, sc, st => match st with | .Assign [.Name x _] pe _ => decide (N[i]? = some x) && locB sc x && mE P N e sc pe | _ => false
  | .newl i, sc, st => match st with | .Assign [.Name x _] (.List [] _) _ => decide (N[i]? = some x) && locB sc x | _ => false
  | .par i j a b, sc, st => match st with
    | .Assign [.Tuple [.Name x px, .Name y py] _ _] (.Tuple [pa, pb] _ _) _ => decide (i ≠ j) && decide (x ≠ y) && decide (N[i]? = some x) && decide (N[j]? = some y) && lclB sc x && lclB sc y && mE P N a sc pa && mE P N b sc pb && (py.line == px.line) && !([pa, pb].all (foldedForSure 8)) && !([pa, pb].all (constantsAlone 8))
    | _ => false
  | .unp i j e, sc, st => match st with
    | .Assign [.Tuple [.Name x px, .Name y py] _ _] pe _ => decide (N[i]? = some x) && decide (N[j]? = some y) && locB sc x && locB sc y && (notTuple pe || !lclB sc x || !lclB sc y) && notComp pe && mE P N e sc pe
    | _ => false
  | .aug i e, sc, st => match st with | .AugAssign (.Name x _) .Add pe _ => decide (N[i]? = some x) && locB sc x && visB sc x && mE P N e sc pe | _ => false
  | .ret e, sc, st => match st with | .Return (some pe) _ => mE P N e sc pe | _ => false
  | .ite c a b, sc, st => match st with | .If pc pa pb _ => mT P N c sc pc && mSs a sc pa && mSs b sc pb | _ => false
  | .whl c b, sc, st => match st with | .While pc pb [] _ => mT P N c sc pc && mSs b sc pb | _ => false
  | .for_ tg it b, sc, st => match st with
    | .For ptg pit pb [] _ => match tgOwn tg ptg with
      | some own => (own.all fun p => decide (N[p.2]? = some p.1) && locB sc p.1) && notSet pit && notOwn it && mI P N it sc ptg pit && mSs b sc pb
      | none => false
    | _ => false
  | .mt m i es, sc, st => match st with
    | .Expr (.Call (.Attribute (.Name x _) name apos) pes [] cpos) _ => decide (name = mtName m) && decide (N[i]? = some x) && visB sc x && mEs P N es sc pes && !pes.isEmpty && decide (pes.length < 30) && (apos.endLine == cpos.line)
    | _ => false
  | .seti i a e, sc, st => match st with
    | .Assign [.Subscript (.Name x _) pb _] pe _ => notSlice pb && notComp pe && decide (N[i]? = some x) && visB sc x && mE P N a sc pb && mE P N e sc pe
    | _ => false
  | .rai c, sc, st => match st with | .Raise (some (.Call (.Name x _) [.Constant (.str _) _ _] [] _)) none _ => decide (P.excs[c]? = some x) && glB sc x | _ => false
  | .frz _, _, _ => false
  | .tryE cl nx nm b hs, sc, st => match st with
    | .Try body [.ExceptHandler (some (.Name x _)) n (b0 :: suite) _] [] [] _ => decide (P.excs[cl]? = some x) && glB sc x && decide (nx = P.excs.length) && (match nm, n with | some i, some m => decide (N[i]? = some m) && lclB sc m | none, none => true | _, _ => false) && mSs b sc body && mHs P N nm sc hs (b0 :: suite)
    | _ => false
  | .par3 i j l a b c, sc, st => match st with
    | .Assign [.Tuple [.Name x px, .Name y py, .Name z pz] _ _] (.Tuple [pa, pb, pc] _ _) _ => decide (i ≠ j) && decide (i ≠ l) && decide (j ≠ l) && decide (x ≠ y) && decide (x ≠ z) && decide (y ≠ z) && decide (N[i]? = some x) && decide (N[j]? = some y) && decide (N[l]? = some z) && lclB sc x && lclB sc y && lclB sc z && mE P N a sc pa && mE P N b sc pb && mE P N c sc pc && (py.line == px.line) && (pz.line == px.line) && !([pa, pb, pc].all (foldedForSure 8)) && !([pa, pb, pc].all (constantsAlone 8))
    | _ => false
  | .junk, _, _ => true
  | .newll i e, sc, st => match st with | .Assign [.Name x _] (.Call (.Name l _) [pe] [] _) _ => decide (N[i]? = some x) && locB sc x && decide (l = "list") && glB sc l && mE P N e sc pe | _ => false
  | .asgX i el j it, sc, st => match st with | .Assign [.Name x _] (.Call (.Name l _) [pe] [] _) _ => decide (N[i]? = some x) && locB sc x && decide (l = "tuple") && glB sc l && mCX P N el j it sc pe | _ => false
def mSs : Ss → Scope → List Stmt → Bool
  | .nil, _, l => match l with | [] => true | _ => false
  | .cons s ss, sc, l => match s with
    | .frz _ => mSs ss sc l
    | s => match l with | st :: l => mS s sc st && mSs ss sc l | [] => false
end
end
end RS

namespace RS
open PySem PySem.Spec PyProof.Rows L2

def bltNames : List Str := ["len", "abs", "min", "max", "tuple", "list", "str", "int", "sorted", "isinstance", "bool", "range", "enumerate", "zip", "ValueError"]
structure YardOk (P : Pg) (B : Bk) (K : PySem.W.Frag) (mg : Str → Option Value) : Prop where
  c : Cls K B.yard
  g : mg P.ycls = some (.ref B.yard)
  na : ∀ f ∈ P.flds, NoAttr K B.yard f
  fl : B.flds = P.flds
  nd : P.flds.Nodup
  db : (P.ycls == ("__debug__" : Str)) = false
structure Good (P : Pg) (B : Bk) (n : Nat) (X : Cx) (W : WX) : Prop where
  K : X.K = B.K
  calm : X.calm = true
  nd : X.N.Nodup
  nm : ∀ x ∈ X.N, (x == ("__debug__" : Str)) = false ∧ (x == ("__classdict__" : Str)) = false
  room : Room n X.A
  tk : Takes X W
  fn : ∀ (f : Nat) (fn : Fn), P.fns[f]? = some fn → fn.kind = 0 → ∃ a fd, FnOk X.prog X.w X.K X.mg X.base (L2.CX X.prog X.w) n a fd fn.ps (spOf B fn.ps.length (interp P n f)) ∧ X.mg fn.name = some (.ref a) ∧ PySem.W.keepIn X.K (.ref a) = true ∧ L2.Binds X.K fd fn.ps [] ∧ (fn.name == ("__debug__" : Str)) = false
  mt : ∀ (f : Nat) (fn : Fn), P.fns[f]? = some fn → fn.kind = 1 → ∃ a fd, FnOk X.prog X.w X.K X.mg X.base (L2.CX X.prog X.w) n a fd fn.ps (spOf B fn.ps.length (interp P n f)) ∧ Meth X.K B.yard fn.name a ∧ L2.Binds X.K fd fn.ps [] ∧ fn.name ∉ P.flds
  ini : ∀ (f : Nat) (fn : Fn), P.fns[f]? = some fn → fn.kind = 2 → ∃ a fd, Mk X.K B.yard a ∧ L2.Binds X.K fd fn.ps [] ∧ ∀ m, n = m + 1 → FnOk X.prog X.w X.K X.mg X.base (L2.CX X.prog X.w) m a fd fn.ps (spInit B fn.ps.length (iniF P fn m))
  yd : P.ycls ≠ "" → YardOk P B X.K X.mg
  bl : ∀ x ∈ bltNames, X.mg x = none
  gl : ∀ (g : Nat) (x : Str) (d : D), P.globs[g]? = some (x, d) → ∃ u v, X.mg x = some u ∧ RelV v u ∧ (∀ Z, Rep B Z v d) ∧ (x == ("__debug__" : Str)) = false
section
variable {P : Pg} {B : Bk} {n : Nat} {X : Cx} {W : WX}
theorem Good.blk (G : Good P B n X W) (s : Shared) (H : Hp) (scope : Scope) (cenv : PySem.Env) (fp : List Addr) : Good P B n (X.blk s H scope cenv fp) W0 :=
  ⟨G.K, G.calm, G.nd, G.nm, G.room, takes0, G.fn, G.mt, G.ini, G.yd, G.bl, G.gl⟩
theorem Good.hu (G : Good P B n X W) : X.A.units + 65 < cLine := by have := G.room.un; omega
theorem Good.var (G : Good P B n X W) {i : Nat} {x : Str} {pos : Pos} (h1 : X.N[i]? = some x) (h2 : visB X.env.scope x = true) : PE X (.Name x pos) (tVar i) :=
  let z := G.nm x (List.mem_of_getElem? h1)
  pe_var h1 (vis_of h2) z.1 z.2
theorem interp_len {f : Nat} {fn : Fn} (h : P.fns[f]? = some fn) (hk : fn.kind ≠ 2) (ds : List D) : ds.length = fn.ps.length ∨ interp P n f ds = .bad := by
  by_cases hl : ds.length = fn.ps.length
  · exact .inl hl
  · refine .inr ?_
    cases n with
    | zero => rfl
    | succ n => simp only [interp, h, if_neg hk, if_neg hl]
theorem iniF_len {fn : Fn} (m : Nat) (ds : List D) : ds.length + 1 = fn.ps.length ∨ iniF P fn m ds = .bad := by
  by_cases hl : ds.length + 1 = fn.ps.length
  · exact .inl hl
  · refine .inr ?_
    cases m with
    | zero => rfl
    | succ m => simp only [iniF, iniD, if_neg hl]
theorem mE_star {N : List Str} {e : E} {sc : Scope} {pe : Expr} (h : mE P N e sc pe = true) : notStar pe = true := by
  cases e <;> simp only [mE] at h <;> cases pe <;> first | rfl | cases h
theorem mEs_star {N : List Str} {env : PySem.Env} {pos : Pos} : ∀ {es : Es} {sc : Scope} {xs : List Expr}, mEs P N es sc xs = true → (backTo pos (starEach xs env)).any (·.1) = false ∧ (backTo pos (starEach xs env)).all (fun x => !x.1) = true
  | .nil, sc, [], h => ⟨rfl, rfl⟩
  | .nil, sc, x :: xs, h => by simp [mEs] at h
  | .cons e es, sc, [], h => by simp [mEs] at h
  | .cons e es, sc, x :: xs, h => by
    simp only [mEs, Bool.and_eq_true] at h
    rw [notStar_of (mE_star h.1)]
    obtain ⟨h1, h2⟩ := mEs_star (pos := pos) (env := env) h.2
    constructor
    · show (false || (backTo pos (starEach xs env)).any (·.1)) = false
      rw [h1]; rfl
    · show (!false && (backTo pos (starEach xs env)).all (fun x => !x.1)) = true
      rw [h2]; rfl
theorem relS_loc {scope sc : Scope} {x : Str} (h : locB scope x = true) : Loc (relS scope sc) x ∧ (∀ (s : Shared) (H : Hp) (cenv : PySem.Env) (fp : List Addr), (X.blk s H scope cenv fp).fn x = true ∨ (relS scope sc).names.lookup x = some .local) := by
  rcases loc_of h with h | h
  · have := lookup_relS_keep (sc := sc) (by decide) h
    exact ⟨.inl this, fun _ _ _ _ => .inr this⟩
  · have := lookup_relS_keep (sc := sc) (by decide) h
    exact ⟨.inr this, fun _ _ _ _ => .inl (by show (scope.names.lookup x == some NameKind.cell) = true; rw [h]; rfl)⟩
theorem pg_tg (hc : X.calm = true) (hN : X.N.Nodup) {tg : Tg} {ptg : Expr} {own : List (Str × Nat)} (h : tgOwn tg ptg = some own) (h1 : ∀ p ∈ own, X.N[p.2]? = some p.1 ∧ Loc X.env.scope p.1 ∧ (X.fn p.1 = true ∨ X.env.scope.names.lookup p.1 = some .local)) : PG X ptg (gT X.K tg) := by
  unfold tgOwn at h
  split at h
  · simp only [Option.some.injEq] at h; subst h
    obtain ⟨a, b, c⟩ := h1 _ List.mem_cons_self
    exact pg_name hN a b c
  · simp only [Option.some.injEq] at h; subst h
    obtain ⟨a, b, c⟩ := h1 _ List.mem_cons_self
    obtain ⟨a', b', c'⟩ := h1 _ (List.mem_cons_of_mem _ List.mem_cons_self)
    exact pg_tup hc (pgs_cons (pg_name hN a b c) (pgs_cons (pg_name hN a' b' c') pgs_nil (by rfl)) (by rfl)) (by rfl) (by rfl)
  · cases h
theorem tgOwn_ix {tg : Tg} {ptg : Expr} {own : List (Str × Nat)} (h : tgOwn tg ptg = some own) : own.map (·.2) = tg.ixs := by
  unfold tgOwn at h
  split at h <;> first | (simp only [Option.some.injEq] at h; subst h; rfl) | cases h
/-- what a matched comprehension brings -/
structure CompOk (P : Pg) (B : Bk) (n : Nat) (X : Cx) (W : WX) (el : E) (tg : Tg) (it : I) (cs : Ts) (pel ptg pit : Expr) (pifs : List Expr) (scope : Scope) (own : List (Str × Nat)) (fz : Bool) : Prop where
  hi : PI X ptg pit (tI B W fz (denI (interp P n) P.gl it))
  ok : BlkOk X.N X.env.scope scope own
  hg : ∀ (s : Shared) (H : Hp) (C : Addr) (cl : List (Str × Addr)) (fp : List Addr), PG (X.blk s H scope (compEnvC scope cl C X.env) fp) ptg (gT X.K tg)
  ht : ∀ (s : Shared) (H : Hp) (C : Addr) (cl : List (Str × Addr)) (fp : List Addr), PTs (X.blk s H scope (compEnvC scope cl C X.env) fp) pifs (tT B W0 (denTs (interp P n) P.gl true cs))
  he : ∀ (s : Shared) (H : Hp) (C : Addr) (cl : List (Str × Addr)) (fp : List Addr), PE (X.blk s H scope (compEnvC scope cl C X.env) fp) pel (tE B W0 (denE (interp P n) P.gl el))
  hs : ∀ x, foldedSetIterable pit X.env x = pure x
  hown : own.map (·.2) = tg.ixs
theorem CompOk.sok {el : E} {tg : Tg} {it : I} {cs : Ts} {pel ptg pit : Expr} {pifs : List Expr} {scope : Scope} {own : List (Str × Nat)} {fz : Bool} (c : CompOk P B n X W el tg it cs pel ptg pit pifs scope own fz) :
    Sok B W (relE B) (tLc (tI B W fz (denI (interp P n) P.gl it)) (gT X.K tg) (tT B W0 (denTs (interp P n) P.gl true cs)) (tE B W0 (denE (interp P n) P.gl el)) (own.map (·.2))) (denE (interp P n) P.gl (.comp el tg it cs)) :=
  g_comp (elt := pel) (tg := ptg) (iter := pit) (ifs := pifs) (scope := scope) c.hown
theorem CompOk.pe (G : Good P B n X W) {el : E} {tg : Tg} {it : I} {cs : Ts} {pel ptg pit : Expr} {pifs : List Expr} {scope : Scope} {own : List (Str × Nat)} {fz : Bool} {pos : Pos} (c : CompOk P B n X W el tg it cs pel ptg pit pifs scope own fz) :
    PE X (.ListComp pel [⟨ptg, pit, pifs, 0⟩] scope pos) (tE B W (denE (interp P n) P.gl (.comp el tg it cs))) :=
  PE.of (pe_lc G.calm G.nd c.hi c.ok c.hg c.ht c.he c.hs) c.sok
theorem mEs_len {N : List Str} : ∀ {es : Es} {sc : Scope} {xs : List Expr}, mEs P N es sc xs = true → True := fun _ => trivial

variable (P B n)
mutual
theorem sE : ∀ (e : E) (X : Cx) (W : WX) (G : Good P B n X W) (pe : Expr), mE P X.N e X.env.scope pe = true → PE X pe (tE B W (denE (interp P n) P.gl e))
  | .var i, X, W, G, pe, h => by
    cases pe <;> simp only [mE] at h <;> try cases h
    simp only [Bool.and_eq_true, decide_eq_true_eq] at h
    exact g_var (G.var h.1 h.2)
  | .int m, X, W, G, pe, h => by
    cases pe <;> simp only [mE] at h <;> try cases h
    rename_i c k p
    cases c <;> first | cases h | skip
    rw [decide_eq_true_eq] at h; subst h
    exact g_const pe_int fun _ => .int _
  | .bl m, X, W, G, pe, h => by
    cases pe <;> simp only [mE] at h <;> try cases h
    rename_i c k p
    cases c <;> first | cases h | skip
    rw [decide_eq_true_eq] at h; subst h
    exact g_const pe_bl fun _ => .bl _
  | .non, X, W, G, pe, h => by
    cases pe <;> simp only [mE] at h <;> try cases h
    rename_i c k p
    cases c <;> first | cases h | skip
    exact g_const pe_non fun _ => .non
  | .str m, X, W, G, pe, h => by
    cases pe <;> simp only [mE] at h <;> try cases h
    rename_i c k p
    cases c <;> first | cases h | skip
    rw [decide_eq_true_eq] at h; subst h
    exact g_const pe_str fun _ => .str _
  | .glob g, X, W, G, pe, h => by
    cases pe <;> simp only [mE] at h <;> try cases h
    rename_i x p
    simp only [Bool.and_eq_true, decide_eq_true_eq] at h
    obtain ⟨h1, h2⟩ := h
    cases q : P.globs[g]? with
    | none => rw [q] at h1; simp at h1
    | some xd =>
      obtain ⟨x', d⟩ := xd
      rw [q] at h1; simp at h1; subst h1
      obtain ⟨u, v, a1, a2, a3, a4⟩ := G.gl g x' d q
      have e : denE (interp P n) P.gl (.glob g) = fun _ => .ok d := by
        funext ρ; simp only [denE, Pg.gl, q, Option.map_some]
      rw [e]
      exact g_const (pe_glob (gl_of h2) a1 a2 a4) a3
  | .neg a, X, W, G, pe, h => by
    cases pe <;> simp only [mE] at h <;> try cases h
    rename_i op x p
    cases op <;> first | cases h | skip
    exact g_neg (sE a X W G x h)
  | .not a, X, W, G, pe, h => by
    cases pe <;> simp only [mE] at h <;> try cases h
    rename_i op x p
    cases op <;> first | cases h | skip
    exact g_not G.K (sE a X W G x h)
  | .bin o a b, X, W, G, pe, h => by
    cases pe <;> simp only [mE] at h <;> try cases h
    simp only [Bool.and_eq_true] at h
    rw [isBop_of h.1.1]
    exact g_bin G.K o (sE a X W G _ h.1.2) (sE b X W G _ h.2)
  | .cmp o a b, X, W, G, pe, h => by
    cases pe <;> simp only [mE] at h <;> try cases h
    split at h
    · rename_i q; cases q
      simp only [Bool.and_eq_true] at h
      obtain ⟨⟨⟨h1, h2⟩, h3⟩, h4⟩ := h
      rw [isCop_of h1]
      obtain ⟨r, r1, r2⟩ := op_cop (X := X) G.K G.hu o
      exact g_cmp r1 r2 (sE a X W G _ h3) (sE b X W G _ h4) (notSet_in h2)
    · cases h
  | .chain o o2 a b c, X, W, G, pe, h => by
    cases pe <;> simp only [mE] at h <;> try cases h
    split at h
    · rename_i q; cases q
      simp only [Bool.and_eq_true] at h
      obtain ⟨⟨⟨⟨⟨h1, h2⟩, h3⟩, h4⟩, h5⟩, h6⟩ := h
      rw [isCop_of h1, isCop_of h2]
      exact g_chain G.K G.hu (sE a X W G _ h4) (sE b X W G _ h5) (sE c X W G _ h6) fun r r' ho ho' => pe_chain ho ho' (sE a X W G _ h4) (sE b X W G _ h5) (sE c X W G _ h6) (by simp [lastMarks, notSet_in h3])
    · cases h
  | .bop k es, X, W, G, pe, h => by
    cases pe <;> simp only [mE] at h <;> try cases h
    simp only [Bool.and_eq_true] at h
    exact sB es X W G k _ (isAO_of h.1) _ _ h.2
  | .ite c a b, X, W, G, pe, h => by
    cases pe <;> simp only [mE] at h <;> try cases h
    simp only [Bool.and_eq_true] at h
    exact g_ite (sT c X W G _ h.1.1) (sE a X W G _ h.1.2) (sE b X W G _ h.2)
  | .tup es, X, W, G, pe, h => by
    cases pe <;> simp only [mE] at h <;> try cases h
    exact g_tup (sEs es X W G _ h)
  | .lst es, X, W, G, pe, h => by
    cases pe <;> simp only [mE] at h <;> try cases h
    exact g_lst (sEs es X W G _ h)
  | .call f es, X, W, G, pe, h => by
    cases pe <;> simp only [mE] at h <;> try cases h
    rename_i fe xs kw cpos
    split at h
    · rename_i q; cases q
      simp only [Bool.and_eq_true, decide_eq_true_eq] at h
      obtain ⟨⟨⟨h1, h2⟩, h3⟩, h4⟩ := h
      cases q : P.fns[f]? with
      | none => rw [q] at h1; simp at h1
      | some fn =>
        rw [q] at h1; simp at h1; obtain ⟨h1, hk0⟩ := h1; subst h1
        obtain ⟨a, fd, a1, a2, a3, a4, a5⟩ := G.fn f fn q hk0
        cases xs with
        | nil => simp at h4
        | cons x xs =>
          cases es with
          | nil => simp [mEs] at h3
          | cons e es =>
            have h3' := h3
            simp only [mEs, Bool.and_eq_true] at h3'
            exact g_call a1 G.room (gl_of h2) a2 a3 a4 G.tk (sEs _ X W G _ h3) (fun ρ ds _ => interp_len q (by omega) ds) a5 (notStar_of (mE_star h3'.1)) (mEs_star h3'.2).1
    · cases h
  | .bi b es, X, W, G, pe, h => by
    cases pe <;> simp only [mE] at h <;> try cases h
    rename_i fe xs kw cpos
    split at h
    · rename_i q; cases q
      simp only [Bool.and_eq_true, decide_eq_true_eq] at h
      obtain ⟨⟨⟨h1, h2⟩, h3⟩, h4⟩ := h
      subst h1
      cases xs with
      | nil => simp at h4
      | cons x xs =>
        cases es with
        | nil => simp [mEs] at h3
        | cons e es =>
          have h3' := h3
          simp only [mEs, Bool.and_eq_true] at h3'
          exact g_bi G.K G.calm b (gl_of h2) (G.bl _ (by cases b <;> decide +kernel)) (sEs _ X W G _ h3) (notStar_of (mE_star h3'.1)) (mEs_star h3'.2).1
    · cases h
  | .isi a t, X, W, G, pe, h => by
    cases pe <;> simp only [mE] at h <;> try cases h
    split at h
    · rename_i x p e y p2 pos q; cases q
      simp only [Bool.and_eq_true, decide_eq_true_eq, isTy] at h
      obtain ⟨⟨⟨⟨h1, h2⟩, h3⟩, h4⟩, h5⟩ := h
      subst h1 h3
      exact g_isi G.K (sE a X W G _ h5) (gl_of h2) (G.bl _ (by decide +kernel)) (gl_of h4) (G.bl _ (by cases t <;> decide +kernel)) (notStar_of (mE_star h5))
    · cases h
  | .ix a i, X, W, G, pe, h => by
    cases pe <;> simp only [mE] at h <;> try cases h
    simp only [Bool.and_eq_true] at h
    exact g_ix G.K (sE a X W G _ h.1.2) (sE i X W G _ h.2) (notSlice_of h.1.1)
  | .slU a b, X, W, G, pe, h => by
    cases pe <;> simp only [mE] at h <;> try cases h
    split at h
    · rename_i q; cases q
      simp only [Bool.and_eq_true] at h
      exact g_slU G.K (sE a X W G _ h.1) (sE b X W G _ h.2)
    · cases h
  | .slL a b, X, W, G, pe, h => by
    cases pe <;> simp only [mE] at h <;> try cases h
    split at h
    · rename_i q; cases q
      simp only [Bool.and_eq_true] at h
      exact g_slL G.K (sE a X W G _ h.1) (sE b X W G _ h.2)
    · cases h
  | .slB a b c, X, W, G, pe, h => by
    cases pe <;> simp only [mE] at h <;> try cases h
    split at h
    · rename_i q; cases q
      simp only [Bool.and_eq_true] at h
      exact g_slB G.K (sE a X W G _ h.1.1) (sE b X W G _ h.1.2) (sE c X W G _ h.2)
    · cases h
  | .rev a, X, W, G, pe, h => by
    cases pe <;> simp only [mE] at h <;> try cases h
    split at h
    · rename_i q; cases q
      simp only [Bool.and_eq_true] at h
      obtain ⟨h1, h2⟩ := h
      unfold isNeg1 at h1
      split at h1
      · exact g_rev G.K (sE a X W G _ h2)
      · cases h1
    · cases h
  | .olen i, X, W, G, pe, h => by
    cases pe <;> simp only [mE] at h <;> try cases h
    split at h
    · rename_i q; cases q
      simp only [Bool.and_eq_true, decide_eq_true_eq] at h
      obtain ⟨⟨⟨h1, h2⟩, h3⟩, h4⟩ := h
      subst h1
      exact g_olen G.K (G.var h3 h4) (gl_of h2) (G.bl _ (by decide +kernel)) (by rfl)
    · cases h
  | .oix i e, X, W, G, pe, h => by
    cases pe <;> simp only [mE] at h <;> try cases h
    split at h
    · rename_i q; cases q
      simp only [Bool.and_eq_true, decide_eq_true_eq] at h
      obtain ⟨⟨⟨h1, h2⟩, h3⟩, h4⟩ := h
      exact g_oix G.K (G.var h2 h3) (sE e X W G _ h4) (notSlice_of h1)
    · cases h
  | .comp el tg it cs, X, W, G, pe, h => by
    cases pe <;> simp only [mE] at h <;> try cases h
    rename_i pel gens scope cpos
    split at h
    · rename_i ptg pit pifs as _ _ q; cases q
      split at h
      · rename_i own ho
        simp only [Bool.and_eq_true, decide_eq_true_eq, List.all_eq_true] at h
        obtain ⟨⟨⟨⟨⟨⟨⟨h1, h2⟩, h3⟩, h4⟩, h5⟩, h6⟩, h7⟩, h8⟩ := h
        subst h1
        have ok := blkOk_by h2
        have c : CompOk P B n X W el tg it cs pel ptg pit pifs scope own false := by
          refine ⟨sI it X W G false (fun z => by cases z) ptg pit h5, ok, fun s H C cl fp => ?_, fun s H C cl fp => ?_, fun s H C cl fp => ?_, notSet_of h4, tgOwn_ix ho⟩
          · refine pg_tg (X := X.blk s H scope (compEnvC scope cl C X.env) fp) G.calm G.nd ho fun p hp => ⟨ok.ix p hp, ?_⟩
            obtain ⟨a, b⟩ := relS_loc (X := X) (sc := X.env.scope) (h3 p hp)
            exact ⟨a, b s H _ fp⟩
          · cases pifs with
            | nil =>
              cases cs with
              | nil => exact ⟨fun pins s0 σ H Q I ⟨H0, Z, ρ, zh, e, p⟩ => pts_nil.run pins s0 σ H Q I (p _ H Z (.refl zh) rfl)⟩
              | cons t ts => simp [mTs] at h6
            | cons x xs =>
              cases xs with
              | cons y ys => simp at h7
              | nil =>
                cases cs with
                | nil => simp [mTs] at h6
                | cons t ts =>
                  cases ts with
                  | cons t2 ts => simp [mTs] at h6
                  | nil =>
                    simp only [mTs, Bool.and_true] at h6
                    have r := sT t _ W0 (G.blk s H scope (compEnvC scope cl C X.env) fp) x h6
                    have k := pts_one r
                    exact ⟨fun pins s0 σ H Q I ⟨H0, Z, ρ, zh, e, p⟩ => k.run pins s0 σ H Q I (Sok.self.bind zh e p fun b v H1 Z1 s1 e1 r1 p1 => by
                      have r1 : v = b := r1
                      subst r1
                      by_cases hb : v = true
                      · rw [if_pos hb] at p1; exact p1 _ H1 Z1 (.refl s1.zh) hb
                      · rw [if_neg hb] at p1; exact p1 _ H1 Z1 (.refl s1.zh) rfl)⟩
          · exact sE el _ W0 (G.blk s H scope (compEnvC scope cl C X.env) fp) pel h8
        exact c.pe G
      · cases h
    · cases h
  | .fld a k, X, W, G, pe, h => by
    cases pe <;> simp only [mE] at h <;> try cases h
    simp only [Bool.and_eq_true, decide_eq_true_eq] at h
    obtain ⟨⟨⟨h0, h1⟩, h2⟩, h3⟩ := h
    · have Y := G.yd h0
      exact g_fld G.K (sE a X W G _ h3) (plainB_of h2) Y.c (Y.na _ (List.mem_of_getElem? h1)) (by rw [Y.fl]; exact Y.nd) (by rw [Y.fl]; exact h1)
  | .new f es, X, W, G, pe, h => by
    cases pe <;> simp only [mE] at h <;> try cases h
    rename_i fe xs kw cpos
    split at h
    · rename_i q; cases q
      simp only [Bool.and_eq_true, decide_eq_true_eq] at h
      obtain ⟨⟨⟨⟨⟨h0, h1⟩, h2⟩, h3⟩, h4⟩, h5⟩ := h
      subst h2
      cases q : P.fns[f]? with
      | none => rw [q] at h1; simp at h1
      | some fn =>
        rw [q] at h1; simp at h1
        obtain ⟨a, fd, a1, a2, a3⟩ := G.ini f fn q h1
        cases xs with
        | nil => simp at h5
        | cons x xs =>
          cases es with
          | nil => simp [mEs] at h4
          | cons e es =>
            have h4' := h4
            simp only [mEs, Bool.and_eq_true] at h4'
            have Y := G.yd h0
            have hE : denE (interp P n) P.gl (.new f (.cons e es)) = fun ρ => (noX (denEs (interp P n) P.gl (.cons e es) ρ)).bind fun ds => noX (interp P n f ds) := by funext ρ; simp only [denE]
            rw [hE]
            rcases Nat.eq_zero_or_pos n with hn | hn
            · refine ⟨fun pins s0 σ H Q I ⟨H0, Z, ρ, zh, en, p⟩ => ?_⟩
              have hb : ∀ ds, interp P n f ds = .bad := fun ds => by rw [hn]; rfl
              have p : Post B W σ (relE B) Z H Q ((noX (denEs (interp P n) P.gl (.cons e es) ρ)).bind fun ds => noX (interp P n f ds)) := p
              have e0 : ((noX (denEs (interp P n) P.gl (.cons e es) ρ)).bind fun ds => noX (interp P n f ds)) = (R.bad : R D) := by
                cases denEs (interp P n) P.gl (.cons e es) ρ with
                | ok ds => simp only [noX, R.ok_bind, hb]
                | exc c => rfl
                | bad => rfl
              rw [e0] at p
              exact p.elim
            · obtain ⟨m, hm⟩ : ∃ m, n = m + 1 := ⟨n - 1, by omega⟩
              have e2 : interp P n f = iniF P fn m := by funext ds; rw [hm]; exact interp_ini q h1 m ds
              rw [e2]
              exact g_new a1 (a3 m hm) (hm ▸ G.room) (gl_of h3) Y.g a2 (sEs _ X W G _ h4) (fun ds => iniF_len m ds) Y.db (notStar_of (mE_star h4'.1)) (mEs_star h4'.2).1
    · cases h
  | .meth f a es, X, W, G, pe, h => by
    cases pe <;> simp only [mE] at h <;> try cases h
    rename_i fe xs kw cpos
    split at h
    · rename_i q; cases q
      simp only [Bool.and_eq_true, decide_eq_true_eq] at h
      obtain ⟨⟨⟨⟨⟨⟨⟨hl, hw⟩, h0⟩, h1⟩, h2⟩, h3⟩, h4⟩, h5⟩ := h
      cases q : P.fns[f]? with
      | none => rw [q] at h1; simp at h1
      | some fn =>
        rw [q] at h1; simp at h1
        obtain ⟨h1, hk1⟩ := h1
        subst h1
        obtain ⟨a', fd, a1, a2, a3, a4⟩ := G.mt f fn q hk1
        have Y := G.yd h0
        cases xs with
        | nil => simp at h5
        | cons x xs =>
          cases es with
          | nil => simp [mEs] at h4
          | cons e es =>
            have h4' := h4
            simp only [mEs, Bool.and_eq_true] at h4'
            have hE : denE (interp P n) P.gl (.meth f a (.cons e es)) = fun ρ => (denE (interp P n) P.gl a ρ).bind fun x => (insD x).bind fun _ => (denEs (interp P n) P.gl (.cons e es) ρ).bind fun xs => noX (interp P n f (x :: xs)) := by funext ρ; simp only [denE]
            rw [hE]
            exact g_meth (sE a X W G _ h3) Y.c a2 a1 G.room a3 G.tk (sEs _ X W G _ h4) (fun ds => interp_len q (by omega) ds) (by rw [Y.fl]; exact a4) (notStar_of (mE_star h4'.1)) (mEs_star h4'.2).1 (eval_meth (recvB_of h2) (mEs_star h4).2 hl hw)
    · cases h
  | .split a b, X, W, G, pe, h => by
    cases pe <;> simp only [mE] at h <;> try cases h
    split at h
    · rename_i q; cases q
      simp only [Bool.and_eq_true, decide_eq_true_eq] at h
      obtain ⟨⟨⟨⟨h1, h2⟩, h3⟩, h4⟩, h5⟩ := h
      subst h1
      exact g_split (sE a X W G _ h4) (sE b X W G _ h5) (plainB_of h2) h3 (notStar_of (mE_star h5))
    · cases h
  | .join a b, X, W, G, pe, h => by
    cases pe <;> simp only [mE] at h <;> try cases h
    split at h
    · rename_i q; cases q
      simp only [Bool.and_eq_true, decide_eq_true_eq] at h
      obtain ⟨⟨⟨⟨h1, h2⟩, h3⟩, h4⟩, h5⟩ := h
      subst h1
      exact g_join G.K (sE a X W G _ h4) (sE b X W G _ h5) (plainB_of h2) h3 (notStar_of (mE_star h5))
    · cases h
  | .trng a, X, W, G, pe, h => by
    cases pe <;> simp only [mE] at h <;> try cases h
    split at h
    · rename_i q; cases q
      simp only [Bool.and_eq_true, decide_eq_true_eq] at h
      obtain ⟨⟨⟨⟨h1, h2⟩, h3⟩, h4⟩, h5⟩ := h
      subst h1
      subst h3
      exact g_trng G.calm (gl_of h2) (G.bl _ (by decide +kernel)) (gl_of h4) (G.bl _ (by decide +kernel)) (sE a X W G _ h5) (notStar_of (mE_star h5)) (by rfl)
    · cases h
  | .index a b, X, W, G, pe, h => by
    cases pe <;> simp only [mE] at h <;> try cases h
    split at h
    · rename_i q; cases q
      simp only [Bool.and_eq_true, decide_eq_true_eq] at h
      obtain ⟨⟨⟨⟨h1, h2⟩, h3⟩, h4⟩, h5⟩ := h
      subst h1
      exact g_index G.K G.hu (sE a X W G _ h4) (sE b X W G _ h5) (plainB_of h2) h3 (notStar_of (mE_star h5)) (by rw [notStar_of (mE_star h5)]; rfl)
    · cases h
theorem sEs : ∀ (es : Es) (X : Cx) (W : WX) (G : Good P B n X W) (xs : List Expr), mEs P X.N es X.env.scope xs = true → PA X xs (tA B W (denEs (interp P n) P.gl es))
  | .nil, X, W, G, xs, h => by
    cases xs with
    | nil => exact g_nil
    | cons x xs => simp [mEs] at h
  | .cons e es, X, W, G, xs, h => by
    cases xs with
    | nil => simp [mEs] at h
    | cons x xs =>
      simp only [mEs, Bool.and_eq_true] at h
      exact g_cons (sE e X W G _ h.1) (sEs es X W G _ h.2) (notStar_of (mE_star h.1))
theorem sB : ∀ (es : Es) (X : Cx) (W : WX) (G : Good P B n X W) (k : Bool) (op : BoolOp), op = (if k then .And else .Or) → ∀ (xs : List Expr) (pos : Pos), mB P X.N es X.env.scope xs = true → PE X (.BoolOp op xs pos) (tE B W (denB (interp P n) P.gl k es))
  | .nil, X, W, G, k, op, ho, xs, pos, h => by simp [mB] at h
  | .cons e es, X, W, G, k, op, ho, xs, pos, h => by
    cases es with
    | nil =>
      simp only [mB] at h
      split at h
      · exact pe_one (sE e X W G _ h)
      · cases h
    | cons e2 es2 =>
      simp only [mB] at h
      split at h
      · simp only [Bool.and_eq_true] at h
        exact g_bopC ho (sE e X W G _ h.1) (sB (.cons e2 es2) X W G k op ho _ pos (by simpa only [mB] using h.2))
      · cases h
theorem sT : ∀ (t : T) (X : Cx) (W : WX) (G : Good P B n X W) (pe : Expr), mT P X.N t X.env.scope pe = true → PT X pe (tT B W (denT (interp P n) P.gl t))
  | .tr e, X, W, G, pe, h => by
    simp only [mT, Bool.and_eq_true] at h
    exact g_tr G.K (sE e X W G _ h.2) (plainT_of h.1)
  | .otr i, X, W, G, pe, h => by
    cases pe <;> simp only [mT] at h <;> try cases h
    simp only [Bool.and_eq_true, decide_eq_true_eq] at h
    exact g_otr G.K (G.var h.1 h.2) (by intro _; rfl)
  | .cmp o a b, X, W, G, pe, h => by
    cases pe <;> simp only [mT] at h <;> try cases h
    split at h
    · rename_i q; cases q
      simp only [Bool.and_eq_true] at h
      obtain ⟨⟨⟨h1, h2⟩, h3⟩, h4⟩ := h
      rw [isCop_of h1]
      obtain ⟨r, r1, r2⟩ := op_cop (X := X) G.K G.hu o
      exact g_cmpT r1 r2 (sE a X W G _ h3) (sE b X W G _ h4) (notSet_in h2)
    · cases h
  | .chain o o2 a b c, X, W, G, pe, h => by
    cases pe <;> simp only [mT] at h <;> try cases h
    split at h
    · rename_i q; cases q
      simp only [Bool.and_eq_true] at h
      obtain ⟨⟨⟨⟨⟨h1, h2⟩, h3⟩, h4⟩, h5⟩, h6⟩ := h
      rw [isCop_of h1, isCop_of h2]
      exact g_chainT G.K G.hu (fun r r' ho ho' => pt_chain ho ho' (sE a X W G _ h4) (sE b X W G _ h5) (sE c X W G _ h6) (by simp [lastMarks, notSet_in h3]))
    · cases h
  | .bop k ts, X, W, G, pe, h => by
    cases pe <;> simp only [mT] at h <;> try cases h
    simp only [Bool.and_eq_true] at h
    exact (sTs ts X W G k _ (isAO_of h.1.1) _ _ (by simpa using h.1.2) h.2).pt
  | .not t, X, W, G, pe, h => by
    cases pe <;> simp only [mT] at h <;> try cases h
    rename_i op x p
    cases op <;> first | cases h | skip
    exact g_notT (sT t X W G _ h)
  | .chain3 o o2 o3 a b c d, X, W, G, pe, h => by
    cases pe <;> simp only [mT] at h <;> try cases h
    split at h
    · rename_i q; cases q
      simp only [Bool.and_eq_true] at h
      obtain ⟨⟨⟨⟨⟨⟨⟨h1, h2⟩, h2'⟩, h3⟩, h4⟩, h5⟩, h6⟩, h7⟩ := h
      rw [isCop_of h1, isCop_of h2, isCop_of h2']
      exact g_chain3T G.K G.hu (fun r r' r'' ho ho' ho'' => pt_chain3 ho ho' ho'' (sE a X W G _ h4) (sE b X W G _ h5) (sE c X W G _ h6) (sE d X W G _ h7) (by simp [lastMarks, notSet_in h3]))
    · cases h
theorem sTs : ∀ (ts : Ts) (X : Cx) (W : WX) (G : Good P B n X W) (k : Bool) (op : BoolOp), op = (if k then .And else .Or) → ∀ (xs : List Expr) (pos : Pos), xs ≠ [] → mTs P X.N ts X.env.scope xs = true → PW X (.BoolOp op xs pos) (tT B W (denTs (interp P n) P.gl k ts))
  | .nil, X, W, G, k, op, ho, xs, pos, hx, h => by
    cases xs with
    | nil => exact absurd rfl hx
    | cons x xs => simp [mTs] at h
  | .cons t ts, X, W, G, k, op, ho, xs, pos, hx, h => by
    cases xs with
    | nil => simp [mTs] at h
    | cons x xs =>
      simp only [mTs, Bool.and_eq_true] at h
      cases xs with
      | nil =>
        cases ts with
        | nil => exact g_and1 ho (sT t X W G _ h.1)
        | cons t2 ts => simp [mTs] at h
      | cons y ys => exact g_andC ho (sT t X W G _ h.1) (sTs ts X W G k op ho (y :: ys) pos (by simp) h.2)
theorem sI : ∀ (it : I) (X : Cx) (W : WX) (G : Good P B n X W) (fz : Bool), (fz = true → notOwn it = true) → ∀ (tg pe : Expr), mI P X.N it X.env.scope tg pe = true → PI X tg pe (tI B W fz (denI (interp P n) P.gl it))
  | .val e, X, W, G, fz, hf, tg, pe, h => gi_val (sE e X W G _ h)
  | .own i, X, W, G, fz, hf, tg, pe, h => by
    cases fz with
    | true => exact absurd (hf rfl) (by simp [notOwn])
    | false =>
      cases pe <;> simp only [mI] at h <;> try cases h
      simp only [Bool.and_eq_true, decide_eq_true_eq] at h
      exact gi_own (G.var h.1 h.2)
  | .rng1 e, X, W, G, fz, hf, tg, pe, h => by
    cases pe <;> simp only [mI] at h <;> try cases h
    split at h
    · rename_i q; cases q
      simp only [Bool.and_eq_true, decide_eq_true_eq] at h
      obtain ⟨⟨h1, h2⟩, h3⟩ := h
      subst h1
      exact gi_rng1 (sE e X W G _ h3) (gl_of h2) (G.bl _ (by decide +kernel)) (notStar_of (mE_star h3))
    · cases h
  | .rng2 a b, X, W, G, fz, hf, tg, pe, h => by
    cases pe <;> simp only [mI] at h <;> try cases h
    split at h
    · rename_i q; cases q
      simp only [Bool.and_eq_true, decide_eq_true_eq] at h
      obtain ⟨⟨⟨h1, h2⟩, h3⟩, h4⟩ := h
      subst h1
      exact gi_rng2 (sE a X W G _ h3) (sE b X W G _ h4) (gl_of h2) (G.bl _ (by decide +kernel)) (by rw [notStar_of (mE_star h3), notStar_of (mE_star h4)]; rfl) (by rw [notStar_of (mE_star h4)]; rfl)
    · cases h
  | .enum e, X, W, G, fz, hf, tg, pe, h => by
    cases pe <;> simp only [mI] at h <;> try cases h
    split at h
    · rename_i q; cases q
      simp only [Bool.and_eq_true, decide_eq_true_eq] at h
      obtain ⟨⟨⟨h0, h1⟩, h2⟩, h3⟩ := h
      subst h1
      cases tg <;> simp only [isTupE] at h0 <;> try cases h0
      exact gi_enum (sE e X W G _ h3) (gl_of h2) (G.bl _ (by decide +kernel)) (by rw [notStar_of (mE_star h3)]; rfl)
    · cases h
  | .zip a b, X, W, G, fz, hf, tg, pe, h => by
    cases pe <;> simp only [mI] at h <;> try cases h
    split at h
    · rename_i q; cases q
      simp only [Bool.and_eq_true, decide_eq_true_eq] at h
      obtain ⟨⟨⟨⟨h0, h1⟩, h2⟩, h3⟩, h4⟩ := h
      subst h1
      cases tg <;> simp only [isTupE] at h0 <;> try cases h0
      exact gi_zip (sE a X W G _ h3) (sE b X W G _ h4) (gl_of h2) (G.bl _ (by decide +kernel)) (notStar_of (mE_star h3)) (by rw [notStar_of (mE_star h4)]; rfl)
    · cases h
end
end
end RS

namespace RS
open PySem PySem.Spec PyProof.Rows L2

structure ExcFact (K : PySem.W.Frag) (mg : Str → Option Value) (x : Str) (C : Addr) : Prop where
  gC : mg x = some (.ref C)
  xC : PySem.W.excIn K C [.type "ValueError", .type "Exception", .type "BaseException", .type "object"] "ValueError.__new__" = true
  kC : PySem.W.keepIn K (.ref C) = true
  bC : PySem.W.subIn K (.ref C) (.type "BaseException") = some true
  tC : PySem.W.typeIn K (.ref C) = some (.type "type")
  dC : (x == ("__debug__" : Str)) = false
/-- what an except clause and isinstance may ask of the classes -/
structure ExcKit (K : PySem.W.Frag) (n : Nat) (ex : Nat → Addr) (c : Nat) : Prop where
  C : ExcC K (ex c)
  v : PySem.W.kitOne K (.ref (ex c)) (.type "ValueError") = some true
  k : ∀ k, k < n → PySem.W.kitOne K (.ref (ex c)) (.ref (ex k)) = some (subX c k)
  m : ∀ k, k < n → PySem.W.exmOne K (.ref (ex c)) (.ref (ex k)) = some (subX c k)
structure GoodS (P : Pg) (B : Bk) (n : Nat) (X : Cx) (W : WX) : Prop extends Good P B n X W where
  own : PassesOwn (model X.prog X.w) X.A X.env X.xe
  fnT : ∀ x, X.fn x = true
  kind : X.env.scope.kind = .function
  ex : ∀ (c : Nat) (x : Str), P.excs[c]? = some x → ExcFact X.K X.mg x (B.exc c)
  kit : ∀ c, c < P.excs.length → ExcKit X.K P.excs.length B.exc c
  stk : X.stack = X.env :: X.outer
  frm : X.env.frame = some X.env.locals
section
variable {P : Pg} {B : Bk} {n : Nat} {X : Cx} {W : WX}
theorem swaps_lc {env : PySem.Env} {elt : Expr} {gs : List Comprehension} {scope : Scope} {pos py : Pos} {y : Str} {l : Nat} (hk : env.scope.kind = .function) :
    swapsWith (.ListComp elt gs scope pos) (some (.Name y py)) l env = pure ((lclB env.scope y) && (py.line == pos.line) && !(scope.names.any fun (n, k) => n == y && (k == .local || k == .cell))) := by
  have hb : env.blockKind = .function := by unfold Env.blockKind; rw [hk]; rfl
  have hl : (env.kindOf y == some .local) = lclB env.scope y := by
    unfold Env.kindOf lclB
    cases env.scope.names.lookup y with
    | none => rfl
    | some k => cases k <;> rfl
  unfold swapsWith
  simp only [hb, hl, Expr.pos]
  rfl
theorem swapped_par {env : PySem.Env} {x y : Str} {px py pt pt2 : Pos} {kt k2 : Nat} {a b : Expr} (hk : env.scope.kind = .function) (hx : env.scope.names.lookup x = some .local) (hy : env.scope.names.lookup y = some .local) (hxy : x ≠ y) (hl : (py.line == px.line) = true)
    (ha : notStar a = true) (hb : notStar b = true) (h1 : ([a, b].all (foldedForSure 8)) = false) (h2 : ([a, b].all (constantsAlone 8)) = false) :
    swappedStores [.Tuple [.Name x px, .Name y py] kt pt] (.Tuple [a, b] k2 pt2) env = pure (some [x, y]) := by
  have hbk : env.blockKind = .function := by unfold Env.blockKind; rw [hk]; rfl
  have kx : env.kindOf x = some .local := hx
  have ky : env.kindOf y = some .local := hy
  have hst : ([a, b].any fun | .Starred .. => true | _ => false) = false := by
    have f : ∀ e : Expr, notStar e = true → (match e with | .Starred .. => true | _ => false) = false := by intro e h; cases e <;> first | rfl | cases h
    simp only [List.any_cons, List.any_nil, Bool.or_false]
    rw [f a ha, f b hb]; rfl
  have hl2 : py.line = px.line := by simpa using hl
  have hd : [x, y].eraseDups.length = 2 := by
    have : (y == x) = false := beq_eq_false_iff_ne.mpr (Ne.symm hxy)
    simp [List.eraseDups_cons, this]
  unfold swappedStores
  simp only [hbk, h1, h2, List.filterMap_cons, List.filterMap_nil, kx, ky, List.head?_cons, Option.map_some, Option.getD_some, Expr.pos, hl2]
  simp [hd]
  clear hst h1 h2
  intro hh
  exfalso
  rcases hh with hh | hh
  · revert hh ha; cases a <;> simp [notStar]
  · revert hh hb; cases b <;> simp [notStar]
theorem swapped_par3 {env : PySem.Env} {x y z : Str} {px py pz pt pt2 : Pos} {kt k2 : Nat} {a b c : Expr} (hk : env.scope.kind = .function) (hx : env.scope.names.lookup x = some .local) (hy : env.scope.names.lookup y = some .local) (hz : env.scope.names.lookup z = some .local) (hxy : x ≠ y) (hxz : x ≠ z) (hyz : y ≠ z) (hl : (py.line == px.line) = true) (hl' : (pz.line == px.line) = true)
    (ha : notStar a = true) (hb : notStar b = true) (hc : notStar c = true) (h1 : ([a, b, c].all (foldedForSure 8)) = false) (h2 : ([a, b, c].all (constantsAlone 8)) = false) :
    swappedStores [.Tuple [.Name x px, .Name y py, .Name z pz] kt pt] (.Tuple [a, b, c] k2 pt2) env = pure (some [x, y, z]) := by
  have hbk : env.blockKind = .function := by unfold Env.blockKind; rw [hk]; rfl
  have kx : env.kindOf x = some .local := hx
  have ky : env.kindOf y = some .local := hy
  have kz : env.kindOf z = some .local := hz
  have hl2 : py.line = px.line := by simpa using hl
  have hl3 : pz.line = px.line := by simpa using hl'
  have hd : [x, y, z].eraseDups.length = 3 := by
    have e1 : (y == x) = false := beq_eq_false_iff_ne.mpr (Ne.symm hxy)
    have e2 : (z == x) = false := beq_eq_false_iff_ne.mpr (Ne.symm hxz)
    have e3 : (z == y) = false := beq_eq_false_iff_ne.mpr (Ne.symm hyz)
    simp [List.eraseDups_cons, e1, e2, e3]
  unfold swappedStores
  simp only [hbk, h1, h2, List.filterMap_cons, List.filterMap_nil, kx, ky, kz, List.head?_cons, Option.map_some, Option.getD_some, Expr.pos, hl2, hl3]
  simp [hd]
  clear h1 h2
  intro hh
  exfalso
  rcases hh with hh | hh | hh
  · revert hh ha; cases a <;> simp [notStar]
  · revert hh hb; cases b <;> simp [notStar]
  · revert hh hc; cases c <;> simp [notStar]
theorem mE_comp {N : List Str} {e : E} {sc : Scope} {pe : Expr} (h : mE P N e sc pe = true) (hc : ¬ notComp pe = true) : ∃ el tg it cs, e = .comp el tg it cs := by
  cases e <;> first | exact ⟨_, _, _, _, rfl⟩ | skip
  all_goals (simp only [mE] at h; cases pe <;> first | (exact absurd rfl hc) | cases h)
theorem compOk_of (G : Good P B n X W) {el : E} {tg : Tg} {it : I} {cs : Ts} {pe : Expr} (h : mE P X.N (.comp el tg it cs) X.env.scope pe = true) :
    ∃ pel ptg pit pifs scope pos own, pe = .ListComp pel [⟨ptg, pit, pifs, 0⟩] scope pos ∧ CompOk P B n X W el tg it cs pel ptg pit pifs scope own false := by
  cases pe <;> simp only [mE] at h <;> try cases h
  rename_i pel gens scope cpos
  split at h
  · rename_i ptg pit pifs as _ _ q; cases q
    split at h
    · rename_i own ho
      simp only [Bool.and_eq_true, decide_eq_true_eq, List.all_eq_true] at h
      obtain ⟨⟨⟨⟨⟨⟨⟨h1, h2⟩, h3⟩, h4⟩, h5⟩, h6⟩, h7⟩, h8⟩ := h
      subst h1
      have ok := blkOk_by h2
      refine ⟨_, _, _, _, _, _, own, rfl, sI P B n it X W G false (fun z => by cases z) ptg pit h5, ok, fun s H C cl fp => ?_, fun s H C cl fp => ?_, fun s H C cl fp => ?_, notSet_of h4, tgOwn_ix ho⟩
      · refine pg_tg (X := X.blk s H scope (compEnvC scope cl C X.env) fp) G.calm G.nd ho fun p hp => ⟨ok.ix p hp, ?_⟩
        obtain ⟨a, b⟩ := relS_loc (X := X) (sc := X.env.scope) (h3 p hp)
        exact ⟨a, b s H _ fp⟩
      · cases pifs with
        | nil =>
          cases cs with
          | nil => exact ⟨fun pins s0 σ H Q I ⟨H0, Z, ρ, zh, e, p⟩ => pts_nil.run pins s0 σ H Q I (p _ H Z (.refl zh) rfl)⟩
          | cons t ts => simp [mTs] at h6
        | cons x xs =>
          cases xs with
          | cons y ys => simp at h7
          | nil =>
            cases cs with
            | nil => simp [mTs] at h6
            | cons t ts =>
              cases ts with
              | cons t2 ts => simp [mTs] at h6
              | nil =>
                simp only [mTs, Bool.and_true] at h6
                have r := sT P B n t _ W0 (G.blk s H scope (compEnvC scope cl C X.env) fp) x h6
                have k := pts_one r
                exact ⟨fun pins s0 σ H Q I ⟨H0, Z, ρ, zh, e, p⟩ => k.run pins s0 σ H Q I (Sok.self.bind zh e p fun b v H1 Z1 s1 e1 r1 p1 => by
                  have r1 : v = b := r1
                  subst r1
                  by_cases hb : v = true
                  · rw [if_pos hb] at p1; exact p1 _ H1 Z1 (.refl s1.zh) hb
                  · rw [if_neg hb] at p1; exact p1 _ H1 Z1 (.refl s1.zh) rfl)⟩
      · exact sE P B n el _ W0 (G.blk s H scope (compEnvC scope cl C X.env) fp) pel h8
    · cases h
  · cases h
variable (P B n)
def MS (s : S) : Prop := ∀ (X : Cx) (W : WX) (G : GoodS P B n X W) (st : Stmt), mS P X.N s X.env.scope st = true → PS X st (tS B W (denS (interp P n) P.gl s))
def MSs (ss : Ss) : Prop := ∀ (X : Cx) (W : WX) (G : GoodS P B n X W) (l : List Stmt), mSs P X.N ss X.env.scope l = true → PSs X l (tS B W (denSs (interp P n) P.gl ss))
theorem ms_expr (e : E) : MS P B n (.expr e) := by
  intro X W G st h
  cases st <;> simp only [mS] at h <;> try cases h
  simp only [Bool.and_eq_true] at h
  exact gs_expr (sE P B n e X W G.toGood _ h.2) (notComp_of h.1)
theorem ms_asg (i : Nat) (e : E) : MS P B n (.asg i e) := by
  intro X W G st h
  cases st <;> simp only [mS] at h <;> try cases h
  rename_i tgs pe pos
  split at h
  · rename_i x p' _ _ q; cases q
    simp only [Bool.and_eq_true, decide_eq_true_eq] at h
    obtain ⟨⟨h1, h2⟩, h3⟩ := h
    have hl := loc_of h2
    by_cases hc : notComp pe = true
    · exact gs_asg' (ps_set G.nd h1 hl (sE P B n e X W G.toGood _ h3) (notComp_of hc) (.inl (G.fnT _))) Sok.self
    · obtain ⟨el, tg, it, cs, rfl⟩ := mE_comp h3 hc
      · obtain ⟨pel, ptg, pit, pifs, scope, cpos, own, rfl, c⟩ := compOk_of G.toGood h3
        by_cases hsw : ((lclB X.env.scope x) && (p'.line == cpos.line) && !(scope.names.any fun (n, k) => n == x && (k == .local || k == .cell))) = true
        · have hy : lclB X.env.scope x = true := by simp only [Bool.and_eq_true] at hsw; exact hsw.1.1
          exact gs_asg' (ps_setLc G.calm G.nd h1 (lcl_of hy) (by rw [swaps_lc G.kind, hsw]) c.hi c.ok c.hg c.ht c.he c.hs) c.sok
        · exact gs_asg' (ps_set G.nd h1 hl (c.pe G.toGood) (by rw [swaps_lc G.kind]; simp only [Bool.not_eq_true] at hsw; rw [hsw]) (.inl (G.fnT _))) Sok.self
  · cases h
theorem ms_newl (i : Nat) : MS P B n (.newl i) := by
  intro X W G st h
  cases st <;> simp only [mS] at h <;> try cases h
  split at h
  · rename_i q; cases q
    simp only [Bool.and_eq_true, decide_eq_true_eq] at h
    exact gs_newl G.nd h.1 (loc_of h.2) (.inl (G.fnT _))
  · cases h
theorem ms_par (i j : Nat) (a b : E) : MS P B n (.par i j a b) := by
  intro X W G st h
  cases st <;> simp only [mS] at h <;> try cases h
  split at h
  · rename_i q; cases q
    simp only [Bool.and_eq_true, decide_eq_true_eq, Bool.not_eq_true'] at h
    obtain ⟨⟨⟨⟨⟨⟨⟨⟨⟨⟨h1, h2⟩, h3⟩, h4⟩, h5⟩, h6⟩, h7⟩, h8⟩, h9⟩, h10⟩, h11⟩ := h
    exact gs_par G.calm G.nd h3 h4 h1 (lcl_of h5) (lcl_of h6) (sE P B n a X W G.toGood _ h7) (sE P B n b X W G.toGood _ h8) (notStar_of (mE_star h7)) (notStar_of (mE_star h8))
      (swapped_par G.kind (lcl_of h5) (lcl_of h6) h2 h9 (mE_star h7) (mE_star h8) h10 h11)
  · cases h
theorem ms_par3 (i j l : Nat) (a b c : E) : MS P B n (.par3 i j l a b c) := by
  intro X W G st h
  cases st <;> simp only [mS] at h <;> try cases h
  split at h
  · rename_i q; cases q
    simp only [Bool.and_eq_true, decide_eq_true_eq, Bool.not_eq_true'] at h
    obtain ⟨⟨⟨⟨⟨⟨⟨⟨⟨⟨⟨⟨⟨⟨⟨⟨⟨⟨h1, h2⟩, h3⟩, h4⟩, h5⟩, h6⟩, h7⟩, h8⟩, h9⟩, h10⟩, h11⟩, h12⟩, h13⟩, h14⟩, h15⟩, h16⟩, h17⟩, h18⟩, h19⟩ := h
    exact gs_par3 G.calm G.nd h7 h8 h9 h1 h2 h3 (lcl_of h10) (lcl_of h11) (lcl_of h12) (sE P B n a X W G.toGood _ h13) (sE P B n b X W G.toGood _ h14) (sE P B n c X W G.toGood _ h15) (notStar_of (mE_star h13)) (notStar_of (mE_star h14)) (notStar_of (mE_star h15))
      (swapped_par3 G.kind (lcl_of h10) (lcl_of h11) (lcl_of h12) h4 h5 h6 h16 h17 (mE_star h13) (mE_star h14) (mE_star h15) h18 h19)
  · cases h
theorem ms_junk : MS P B n .junk := fun _ _ _ _ _ => gs_junk
theorem swapped_none {env : PySem.Env} {x y : Str} {px py pt : Pos} {kt : Nat} {pe : Expr} (h : (notTuple pe || !lclB env.scope x || !lclB env.scope y) = true) : swappedStores [.Tuple [.Name x px, .Name y py] kt pt] pe env = pure none := by
  cases pe with
  | Tuple vs k p =>
    have h : lclB env.scope x = false ∨ lclB env.scope y = false := by simpa [notTuple] using h
    have nl : ∀ z : Str, lclB env.scope z = false → (env.kindOf z == some NameKind.local) = false := fun z hz => by
      unfold Env.kindOf
      unfold lclB at hz
      split at hz
      · cases hz
      · rename_i q
        cases r : env.scope.names.lookup z with
        | none => rfl
        | some k => cases k <;> first | rfl | exact absurd r q
    have key : ∀ l : Nat, ([Expr.Name x px, .Name y py].filterMap fun e => match e with | .Name id pos => if (env.kindOf id == some NameKind.local && pos.line == l) = true then some id else none | _ => none).length ≠ 2 := fun l => by
      rcases h with h | h
      · simp only [List.filterMap_cons, List.filterMap_nil, nl x h, Bool.false_and, Bool.false_eq_true, if_false]
        split <;> simp
      · simp only [List.filterMap_cons, List.filterMap_nil, nl y h, Bool.false_and, Bool.false_eq_true, if_false]
        split <;> simp
    unfold swappedStores
    simp only
    by_cases h1 : (!([Expr.Name x px, .Name y py].length == 2 || [Expr.Name x px, .Name y py].length == 3) || vs.length != [Expr.Name x px, .Name y py].length || env.blockKind != .function) = true
    · rw [if_pos h1]
    · rw [if_neg h1]
      split
      · rfl
      · rw [if_pos]
        rw [Bool.or_eq_true]
        left
        rw [bne_iff_ne]
        exact key _
  | _ => rfl
theorem ms_unp (i j : Nat) (e : E) : MS P B n (.unp i j e) := by
  intro X W G st h
  cases st <;> simp only [mS] at h <;> try cases h
  rename_i tgs pe pos
  split at h
  · rename_i q; cases q
    simp only [Bool.and_eq_true, decide_eq_true_eq] at h
    obtain ⟨⟨⟨⟨⟨⟨h1, h2⟩, h3⟩, h4⟩, h5⟩, h6⟩, h7⟩ := h
    refine gs_unp (sE P B n e X W G.toGood _ h7) (pg_tg G.calm G.nd (tg := .two i j) rfl ?_) (by unfold swapsWithSole; exact notComp_of h6) ?_ (by rfl)
    · intro p hp
      simp only [List.mem_cons, List.not_mem_nil, or_false] at hp
      rcases hp with rfl | rfl
      · exact ⟨h1, loc_of h3, .inl (G.fnT _)⟩
      · exact ⟨h2, loc_of h4, .inl (G.fnT _)⟩
    · exact swapped_none h5
  · cases h
theorem ms_aug (i : Nat) (e : E) : MS P B n (.aug i e) := by
  intro X W G st h
  cases st <;> simp only [mS] at h <;> try cases h
  split at h
  · rename_i q; cases q
    simp only [Bool.and_eq_true, decide_eq_true_eq] at h
    exact gs_aug G.nd h.1.1.1 (loc_of h.1.1.2) (.inl (G.fnT _)) (sE P B n e X W G.toGood _ h.2)
  · cases h
theorem ms_ret (e : E) : MS P B n (.ret e) := by
  intro X W G st h
  cases st <;> simp only [mS] at h <;> try cases h
  split at h
  · rename_i q; cases q
    exact gs_ret (sE P B n e X W G.toGood _ h)
  · cases h
theorem ms_ite (c : T) (a b : Ss) (ha : MSs P B n a) (hb : MSs P B n b) : MS P B n (.ite c a b) := by
  intro X W G st h
  cases st <;> simp only [mS] at h <;> try cases h
  simp only [Bool.and_eq_true] at h
  exact gs_ite (sT P B n c X W G.toGood _ h.1.1) (ha X W G _ h.1.2) (hb X W G _ h.2)
theorem ms_whl (c : T) (b : Ss) (hb : MSs P B n b) : MS P B n (.whl c b) := by
  intro X W G st h
  cases st <;> simp only [mS] at h <;> try cases h
  split at h
  · rename_i q; cases q
    simp only [Bool.and_eq_true] at h
    have ed : denS (interp P n) P.gl (.whl c b) = whileD (denT (interp P n) P.gl c) (denSs (interp P n) P.gl b) fuel := by funext ρ; simp only [denS]
    rw [ed]
    exact gs_whl fuel G.own (sT P B n c X W G.toGood _ h.1) (hb X W G _ h.2)
  · cases h
theorem ms_for_ (tg : Tg) (it : I) (b : Ss) (hb : MSs P B n b) : MS P B n (.for_ tg it b) := by
  intro X W G st h
  cases st <;> simp only [mS] at h <;> try cases h
  split at h
  · rename_i q; cases q
    split at h
    · rename_i own ho
      simp only [Bool.and_eq_true, List.all_eq_true, decide_eq_true_eq] at h
      obtain ⟨⟨⟨⟨h1, h2⟩, h3⟩, h4⟩, h5⟩ := h
      exact gs_for G.own G.calm (sI P B n it X W G.toGood true (fun _ => h3) _ _ h4) (pg_tg G.calm G.nd ho fun p hp => ⟨(h1 p hp).1, loc_of (h1 p hp).2, .inl (G.fnT _)⟩) (hb X W G _ h5) (notSet_of h2)
    · cases h
  · cases h
theorem ms_mt (m : Mt) (i : Nat) (es : Es) : MS P B n (.mt m i es) := by
  intro X W G st h
  cases st <;> simp only [mS] at h <;> try cases h
  split at h
  · rename_i x px name apos pes cpos _ q; cases q
    simp only [Bool.and_eq_true, decide_eq_true_eq] at h
    obtain ⟨⟨⟨⟨⟨⟨h1, h2⟩, h3⟩, h4⟩, h5⟩, h6⟩, h7⟩ := h
    cases pes with
    | nil => simp at h5
    | cons y ys =>
      cases es with
      | nil => simp [mEs] at h4
      | cons e es =>
        have h4' := h4
        simp only [mEs, Bool.and_eq_true] at h4'
        subst h1
        have hA := sEs P B n _ X W G.toGood _ h4
        have sa := notStar_of (es := ys) (env := X.env) (mE_star h4'.1)
        cases m with
        | app => exact gs_meth PySem.F.slot_list_append PySem.F.type_list_append mt_append (G.var h2 h3) hA (by rfl) h7 sa (mEs_star h4'.2).1 h6 (mEs_star h4).2 mt_app_ok
        | ins => exact gs_meth PySem.F.slot_list_insert PySem.F.type_list_insert mt_insert (G.var h2 h3) hA (by rfl) h7 sa (mEs_star h4'.2).1 h6 (mEs_star h4).2 mt_ins_ok
        | ext => exact gs_meth PySem.F.slot_list_extend PySem.F.type_list_extend mt_extend (G.var h2 h3) hA (by rfl) h7 sa (mEs_star h4'.2).1 h6 (mEs_star h4).2 mt_ext_ok
  · cases h
theorem ms_seti (i : Nat) (a e : E) : MS P B n (.seti i a e) := by
  intro X W G st h
  cases st <;> simp only [mS] at h <;> try cases h
  rename_i tgs pe pos
  split at h
  · rename_i x px pb tp _ _ q; cases q
    simp only [Bool.and_eq_true, decide_eq_true_eq] at h
    obtain ⟨⟨⟨⟨⟨h1, h2⟩, h3⟩, h4⟩, h5⟩, h6⟩ := h
    refine gs_seti (G.var h3 h4) (sE P B n a X W G.toGood _ h5) (sE P B n e X W G.toGood _ h6) ?_ (by unfold swapsWithSole; exact notComp_of h2) ?_ (by rfl)
    · intro v; cases pb <;> first | rfl | cases h1
    · rfl
  · cases h
theorem ms_rai (c : Nat) : MS P B n (.rai c) := by
  intro X W G st h
  cases st <;> simp only [mS] at h <;> try cases h
  split at h
  · rename_i q; cases q
    simp only [Bool.and_eq_true, decide_eq_true_eq] at h
    have f := G.ex c _ h.1
    exact gs_raise G.calm G.tk (pmk_own PySem.F.excBase_ValueError f.xC f.gC f.kC (raises_own f.bC f.tC) (gl_of h.2) f.dC)
  · cases h
theorem ms_frz (i : Nat) : MS P B n (.frz i) := by
  intro X W G st h
  simp [mS] at h
section
variable {X : Cx} {W : WX} {P B n}
theorem h_is {i k' : Nat} {a : Addr} {c : Nat} {oe : Obj} {pn : List (Addr × Obj)} (G : GoodS P B n X W) (hc : c < P.excs.length) (hz : Zc (.ref (B.exc c)) none oe) (hf : ∃ vs, oe.data = .fields vs) {k : Option Nat} {pe : Expr} (h : mIs P X.N i X.env.scope k pe = true) :
    PE (X.suite a ((a, oe) :: pn)) pe (fun σ H Q => σ[i]? = some (some (.ref a)) ∧ Q (.bl (kitX c k)) H) := by
  unfold mIs at h
  split at h
  · rename_i x p m p2 y p3 pos
    simp only [Bool.and_eq_true, decide_eq_true_eq] at h
    obtain ⟨⟨⟨⟨h1, h2⟩, h3⟩, h4⟩, h5⟩ := h
    subst h1
    have kt := G.kit c hc
    have z := G.nm m (List.mem_of_getElem? h3)
    have hv : PE (X.suite a ((a, oe) :: pn)) (.Name m p2) (tVar i) := pe_var h3 (vis_of h4) z.1 z.2
    have key : ∀ (cv : V) (u : Value), PE (X.suite a ((a, oe) :: pn)) (.Name y p3) (tC cv) → (∀ w, RelV cv w → w = u) → PySem.W.kitOne X.K (.ref (B.exc c)) u = some (kitX c k) → PE (X.suite a ((a, oe) :: pn)) (.Call (.Name "isinstance" p) [.Name m p2, .Name y p3] [] pos) (fun σ H Q => σ[i]? = some (some (.ref a)) ∧ Q (.bl (kitX c k)) H) := fun cv u hy hu hk => by
      have r := pe_callB (p := p) (pos := pos) (call_isE kt.C hz hf) (gl_of h2) (G.bl _ (by decide +kernel)) (by decide +kernel) (pa_cons hv (pa_cons hy pa_nil (by rfl)) (by rfl)) (by decide) (by decide) (by rfl) (by rfl)
      exact ⟨fun pins s0 σ H Q I ⟨q1, q2⟩ => r.run pins s0 σ H Q I ⟨_, q1, cv, u, _, rfl, hu, hk, q2⟩⟩
    cases k with
    | none =>
      simp only [mK, Bool.and_eq_true, decide_eq_true_eq] at h5
      obtain ⟨h5, h6⟩ := h5
      subst h5
      exact key (.ty "ValueError") (.type "ValueError") (pe_bltn (gl_of h6) (G.bl _ (by decide +kernel)) (by decide +kernel) rfl (by decide) (by decide)) (fun w r => r) kt.v
    | some k =>
      simp only [mK, Bool.and_eq_true, decide_eq_true_eq] at h5
      obtain ⟨h5, h6⟩ := h5
      have f := G.ex k y h5
      exact key (.ref (B.exc k)) (.ref (B.exc k)) (pe_glob (gl_of h6) f.gC rfl f.dC) (fun w r => r) (kt.k k (List.getElem?_eq_some_iff.mp h5).1)
  · cases h
theorem mIs_star {i : Nat} {sc : Scope} {k : Option Nat} {pe : Expr} {N : List Str} (h : mIs P N i sc k pe = true) : notStar pe = true := by
  unfold mIs at h
  split at h
  · rfl
  · cases h
theorem h_isL {i : Nat} {a : Addr} {c : Nat} {oe : Obj} {pn : List (Addr × Obj)} (G : GoodS P B n X W) (hc : c < P.excs.length) (hz : Zc (.ref (B.exc c)) none oe) (hf : ∃ vs, oe.data = .fields vs) : ∀ {ks : List (Option Nat)} {es : List Expr}, mIsL P X.N i X.env.scope ks es = true →
    PA (X.suite a ((a, oe) :: pn)) es (fun σ H Q => σ[i]? = some (some (.ref a)) ∧ Q (ks.map fun k => .bl (kitX c k)) H)
  | [], [], _ => ⟨fun pos pins s0 σ H Q I ⟨_, q⟩ => pa_nil.run pos pins s0 σ H Q I q⟩
  | [], _ :: _, h => by simp [mIsL] at h
  | _ :: _, [], h => by simp [mIsL] at h
  | k :: ks, e :: es, h => by
    simp only [mIsL, Bool.and_eq_true] at h
    have r := pa_cons (h_is (a := a) (oe := oe) (pn := pn) (k' := 0) G hc hz hf h.1) (h_isL (a := a) (oe := oe) (pn := pn) G hc hz hf h.2) (notStar_of (mIs_star h.1))
    exact ⟨fun pos pins s0 σ H Q I ⟨q1, q2⟩ => r.run pos pins s0 σ H Q I ⟨q1, q1, q2⟩⟩
theorem reps_bl {Z : Hp} (c : Nat) : ∀ ks : List (Option Nat), Reps B Z (ks.map fun k => .bl (kitX c k)) (ks.map fun k => .bl (kitX c k))
  | [] => .nil
  | k :: ks => .cons (.bl _) (reps_bl c ks)
/-- what a suite's expression is worth -/
theorem h_exp {io : Option Nat} {a : Addr} {c : Nat} {oe : Obj} {pn : List (Addr × Obj)} (G : GoodS P B n X W) (hc : c < P.excs.length) (hz : Zc (.ref (B.exc c)) none oe) (hf : ∃ vs, oe.data = .fields vs) {he : HE} {pe : Expr} (h : mHE P X.N io X.env.scope he pe = true) :
    PE (X.suite a ((a, oe) :: pn)) pe (fun σ H Q => ∃ H0 Z ρ, (∀ i, io = some i → σ[i]? = some (some (.ref a))) ∧ Same Z H ∧ EnvOk B H0 Z H σ ρ ∧ Post B W σ (relE B) Z H Q (denH c he ρ)) := by
  cases he with
  | bl b =>
    simp only [mHE] at h
    split at h
    · rw [decide_eq_true_eq] at h; subst h
      exact ⟨fun pins s0 σ H Q I ⟨H0, Z, ρ, _, zh, e, p⟩ => pe_bl.run pins s0 σ H Q I (p _ H Z (.refl zh) (.bl _))⟩
    · cases h
  | one k =>
    cases io with
    | none => simp [mHE] at h
    | some i =>
      have r := h_is (a := a) (oe := oe) (pn := pn) (k' := 0) G hc hz hf (show mIs P X.N i X.env.scope k pe = true by simpa [mHE] using h)
      exact ⟨fun pins s0 σ H Q I ⟨H0, Z, ρ, q, zh, e, p⟩ => r.run pins s0 σ H Q I ⟨q i rfl, p _ H Z (.refl zh) (.bl _)⟩⟩
  | lst ks =>
    simp only [mHE] at h
    split at h
    · rename_i i es lp
      have r := pe_lst (pos := lp) (h_isL (a := a) (oe := oe) (pn := pn) G hc hz hf h)
      refine ⟨fun pins s0 σ H Q I ⟨H0, Z, ρ, q, zh, e, p⟩ => r.run pins s0 σ H Q I ⟨q i rfl, ?_, fun l hl => ?_⟩⟩
      · simp only [denH] at p
        split at p
        · rename_i hk; rw [List.length_map]; exact le_line hk
        · exact p.elim
      · simp only [denH] at p
        split at p
        · exact p _ _ _ (.new zh hl) (.lst upd_same (reps_bl c ks))
        · exact p.elim
    · cases h
  | cat j ks =>
    simp only [mHE] at h
    split at h
    · rename_i i x xp es lp pos
      simp only [Bool.and_eq_true, decide_eq_true_eq] at h
      obtain ⟨⟨h1, h2⟩, h3⟩ := h
      have z := G.nm x (List.mem_of_getElem? h1)
      have hv : PE (X.suite a ((a, oe) :: pn)) (.Name x xp) (tVar j) := pe_var h1 (vis_of h2) z.1 z.2
      have r := pe_op (pos := pos) op_cat hv (pe_lst (pos := lp) (h_isL (a := a) (oe := oe) (pn := pn) G hc hz hf h3))
      refine ⟨fun pins s0 σ H Q I ⟨H0, Z, ρ, q, zh, e, p⟩ => ?_⟩
      simp only [denH] at p
      cases qj : ρ[j]? with
      | none => rw [qj] at p; exact p.elim
      | some w =>
        rw [qj] at p
        cases w with
        | un => exact p.elim
        | own ds => exact p.elim
        | val d =>
          cases d with
          | lst ds =>
            simp only at p
            split at p
            · rename_i hk
              obtain ⟨v, v1, v2⟩ := e.val j _ qj
              cases v2 with
              | @lst b xs _ eb rb =>
                refine r.run pins s0 σ H Q I ⟨_, v1, q i rfl, ?_, fun l hl => ?_⟩
                · rw [List.length_map]; exact le_line (by omega)
                · have hn : upd H l (.lst (ks.map fun k => .bl (kitX c k))) b = some (.lst xs) := by rw [upd_ne (ne_of_none (zh _ _ eb) hl)]; exact zh _ _ eb
                  refine ⟨b, l, xs, _, rfl, rfl, hn, upd_same, by rw [rb.length, List.length_map]; exact le_line hk, fun m hm => ?_⟩
                  have s1 : Step Z H (upd Z l (.lst (ks.map fun k => .bl (kitX c k)))) (upd H l (.lst (ks.map fun k => .bl (kitX c k)))) := .new zh hl
                  refine p _ _ _ (s1.trans (.new s1.zh hm)) (.lst upd_same ?_)
                  exact ((rb.mono s1.zz).append (reps_bl c ks)).mono (same_upd (s1.zh.free hm))
            · exact p.elim
          | _ => exact p.elim
    · cases h
/-- what a suite's end must be -/
def tH (B : Bk) (W : WX) (io : Option Nat) (a : Addr) (δ : Env → O) : TS := fun Dn σ H => ∃ Z0 H0 Z ρ, (∀ i, io = some i → σ[i]? = some (some (.ref a))) ∧ Step Z0 H0 Z H ∧ EnvOk B H0 Z H σ ρ ∧ PostS B W Z0 H0 Dn (δ ρ)
theorem denH_noexc {c : Nat} {he : HE} {ρ : Env} {x : Nat} : denH c he ρ ≠ .exc x := by
  cases he <;> simp only [denH] <;> (try split) <;> (try split) <;> simp
theorem h_suite {io : Option Nat} {a : Addr} {c : Nat} {oe : Obj} {pn : List (Addr × Obj)} (G : GoodS P B n X W) (hc : c < P.excs.length) (hz : Zc (.ref (B.exc c)) none oe) (hf : ∃ vs, oe.data = .fields vs) : ∀ {hs : List HS} {l : List Stmt}, mHs P X.N io X.env.scope hs l = true → PSs (X.suite a ((a, oe) :: pn)) l (tH B W io a (denHs c hs))
  | [], [], _ => ⟨fun pins s0 σ H Dn I ⟨Z0, H0, Z, ρ, _, st, e, p⟩ => pss_nil.run pins s0 σ H Dn I (p σ H Z st e)⟩
  | [], _ :: _, h => by simp [mHs] at h
  | .ret _ :: _, [], h => by simp [mHs] at h
  | .asg _ _ :: _, [], h => by simp [mHs] at h
  | .ret he :: r, st :: l, h => by
    simp only [mHs] at h
    split at h
    · rename_i pe pos l' q
      cases q
      simp only [Bool.and_eq_true] at h
      have r1 := ps_ret (pos := pos) (h_exp (a := a) (oe := oe) (pn := pn) (io := io) G hc hz hf h.1)
      have r2 := pss_cons r1 (h_suite (a := a) (oe := oe) (pn := pn) (io := io) G hc hz hf h.2)
      refine ⟨fun pins s0 σ H Dn I ⟨Z0, H0, Z, ρ, q, s, e, p⟩ => r2.run pins s0 σ H Dn I ⟨H0, Z, ρ, q, s.zh, e, ?_⟩⟩
      simp only [denHs] at p
      cases qd : denH c he ρ with
      | ok d => rw [qd] at p; exact fun v H' Z' s' rv => p v H' Z' (s.trans s') rv
      | exc x => exact absurd qd denH_noexc
      | bad => rw [qd] at p; exact p
    · cases h
  | .asg j he :: r, st :: l, h => by
    simp only [mHs] at h
    split at h
    · rename_i x p' pe pos l' q
      cases q
      simp only [Bool.and_eq_true, decide_eq_true_eq] at h
      obtain ⟨⟨⟨⟨⟨h1, h2⟩, h3⟩, h4⟩, h5⟩, h6⟩ := h
      have r1 := ps_set (X := X.suite a ((a, oe) :: pn)) (pos := pos) (pos' := p') G.nd h2 (loc_of h3) (h_exp (a := a) (oe := oe) (pn := pn) (io := io) G hc hz hf h5) (notComp_of h4) (.inl (G.fnT _))
      have r2 := pss_cons r1 (h_suite (a := a) (oe := oe) (pn := pn) (io := io) G hc hz hf h6)
      refine ⟨fun pins s0 σ H Dn I ⟨Z0, H0, Z, ρ, q, s, e, p⟩ => r2.run pins s0 σ H Dn I ⟨H0, Z, ρ, q, s.zh, e, ?_⟩⟩
      simp only [denHs] at p
      cases qd : denH c he ρ with
      | ok d =>
        rw [qd] at p
        exact fun v H' Z' s' rv => ⟨Z0, H0, Z', ρ.set j (.val d), fun i hi => by
          have ne : j ≠ i := fun z => h1 (by rw [z, hi])
          rw [List.getElem?_set_ne ne]; exact q i hi, s.trans s', (e.step s').set j rv, p⟩
      | exc x => exact absurd qd denH_noexc
      | bad => rw [qd] at p; exact p
    · cases h
end
theorem GoodS.tr {W' : WX} (G : GoodS P B n X W) (pn : List (Addr × Obj)) (xe : Value → Shared → Prop) (tk : Takes (X.tr pn xe) W') (hp : PassesOwn (model X.prog X.w) X.A X.env xe) : GoodS P B n (X.tr pn xe) W' :=
  { K := G.K, calm := G.calm, nd := G.nd, nm := G.nm, room := G.room, tk := tk, fn := G.fn, mt := G.mt, ini := G.ini, yd := G.yd, bl := G.bl, gl := G.gl, own := hp, fnT := G.fnT, kind := G.kind, ex := G.ex, kit := G.kit, stk := G.stk, frm := G.frm }
theorem ms_tryE (cl nx : Nat) (nm : Option Nat) (b : Ss) (hs : List HS) (hb : MSs P B n b) : MS P B n (.tryE cl nx nm b hs) := by
  intro X W G st h
  cases st <;> simp only [mS] at h <;> try cases h
  rename_i body hds orelse fin pos
  split at h
  · rename_i body2 x np nn b0 suite hp' pos2 q
    cases q
    simp only [Bool.and_eq_true, decide_eq_true_eq] at h
    obtain ⟨⟨⟨⟨⟨h1, h2⟩, h3⟩, h4⟩, h5⟩, h6⟩ := h
    subst h3
    have f := G.ex cl x h1
    have hcl := (List.getElem?_eq_some_iff.mp h1).1
    have nms : Names X x (.ref (B.exc cl)) := ⟨gl_of h2, f.dC, .inl f.gC⟩
    have hbd : ∀ (W' : WX) (pn : List (Addr × Obj)) (xe : Value → Shared → Prop), Takes (X.tr pn xe) W' → PassesOwn (model X.prog X.w) X.A X.env xe → PSs (X.tr pn xe) body (tS B W' (denSs (interp P n) P.gl b)) := fun W' pn xe tk po => hb _ W' (G.tr P B n pn xe tk po) body h5
    have suit : ∀ (a : Addr) (oe : Obj) (cls : Value) (d : Option Addr) (pn : List (Addr × Obj)), Zc cls d oe → (∃ vs, oe.data = .fields vs) → PSs (X.suite a ((a, oe) :: pn)) (b0 :: suite) (fun Dn σ H => ∃ c, cls = .ref (B.exc c) ∧ d = none ∧ c < P.excs.length ∧ tH B W nm a (denHs c hs) Dn σ H) := fun a oe cls d pn hz hf => by
      refine ⟨fun pins s0 σ H Dn I ⟨c, e1, e2, e3, t⟩ => ?_⟩
      subst e1 e2
      exact (h_suite (a := a) (oe := oe) (pn := pn) (io := nm) G e3 hz hf h6).run pins s0 σ H Dn I t
    cases nm with
    | none =>
      cases nn with
      | some m => cases h4
      | none =>
        refine PS.of (ps_try_only G.stk G.frm nms G.tk hbd suit) fun Z0 H0 Z H σ ρ Dn s e p => ?_
        refine ⟨Z0, H0, Z, ρ, s, e, ?_⟩
        simp only [denS] at p
        cases qd : denSs (interp P n) P.gl b ρ with
        | nx ρ' => rw [qd] at p; exact p
        | ret d => rw [qd] at p; exact p
        | bad => rw [qd] at p; exact p
        | exc c ρ' =>
          rw [qd] at p
          simp only [tryD] at p
          by_cases hcn : (decide (c < P.excs.length) && okN none ρ') = true
          · rw [if_pos hcn] at p
            obtain ⟨hc, hok⟩ := Bool.and_eq_true_iff.mp hcn
            rw [decide_eq_true_eq] at hc
            intro σ' H' Z' s' e'
            refine ⟨subX c cl, (G.kit c hc).m cl hcl, fun hs' a ha => ?_, fun hs' => ?_⟩
            · rw [if_pos hs'] at p
              refine ⟨c, rfl, rfl, hc, Z0, H0, Z', ρ', fun i hi => (by cases hi), s', e', ?_⟩
              simp only [setN] at p
              cases qh : denHs c hs ρ' with
              | nx ρ2 => rw [qh] at p; exact p
              | ret d => rw [qh] at p; exact p
              | exc x ρ2 => rw [qh] at p; exact p
              | bad => rw [qh] at p; exact p
            · rw [if_neg (by rw [hs']; decide)] at p
              exact p σ' H' Z' s' e'
          · rw [if_neg hcn] at p; exact p.elim
    | some i =>
      cases nn with
      | none => cases h4
      | some m =>
        simp only [Bool.and_eq_true, decide_eq_true_eq] at h4
        refine PS.of (ps_try_as G.stk G.frm G.nd h4.1 (lcl_of h4.2) nms G.tk hbd suit) fun Z0 H0 Z H σ ρ Dn s e p => ?_
        refine ⟨Z0, H0, Z, ρ, s, e, ?_⟩
        simp only [denS] at p
        cases qd : denSs (interp P n) P.gl b ρ with
        | nx ρ' => rw [qd] at p; exact p
        | ret d => rw [qd] at p; exact p
        | bad => rw [qd] at p; exact p
        | exc c ρ' =>
          rw [qd] at p
          simp only [tryD] at p
          by_cases hcn : (decide (c < P.excs.length) && okN (some i) ρ') = true
          · rw [if_pos hcn] at p
            obtain ⟨hc, hok⟩ := Bool.and_eq_true_iff.mp hcn
            rw [decide_eq_true_eq] at hc
            intro σ' H' Z' s' e'
            refine ⟨subX c cl, (G.kit c hc).m cl hcl, fun hs' a ha => ?_, fun hs' => ?_⟩
            · rw [if_pos hs'] at p
              have hil : i < σ'.length := by
                rw [e'.len]; simpa [okN] using hok
              refine ⟨c, rfl, rfl, hc, Z0, H0, Z', ρ'.set i .un, fun j hj => (by cases hj; rw [List.getElem?_set_self hil]), s', e'.forget i _, ?_⟩
              simp only [setN] at p
              cases qh : denHs c hs (ρ'.set i .un) with
              | nx ρ2 => rw [qh] at p; exact fun σ2 H2 Z2 s2 e2 => p _ H2 Z2 s2 (e2.forget i none)
              | ret d => rw [qh] at p; exact p
              | exc x ρ2 => rw [qh] at p; exact p
              | bad => rw [qh] at p; exact p
            · rw [if_neg (by rw [hs']; decide)] at p
              exact p σ' H' Z' s' e'
          · rw [if_neg hcn] at p; exact p.elim
  · cases h
theorem ms_newll (i : Nat) (e : E) : MS P B n (.newll i e) := by
  intro X W G st h
  cases st <;> simp only [mS] at h <;> try cases h
  split at h
  · rename_i q; cases q
    simp only [Bool.and_eq_true, decide_eq_true_eq] at h
    obtain ⟨⟨⟨⟨h1, h2⟩, h3⟩, h4⟩, h5⟩ := h
    subst h3
    exact gs_newll G.nd h1 (loc_of h2) (.inl (G.fnT _)) (sE P B n e X W G.toGood _ h5) (gl_of h4) (G.bl _ (by decide +kernel)) (notStar_of (mE_star h5))
  · cases h
theorem ms_asgX (i : Nat) (el : E) (j : Nat) (it : I) : MS P B n (.asgX i el j it) := by
  intro X W G st h
  cases st <;> simp only [mS] at h <;> try cases h
  split at h
  · rename_i q; cases q
    simp only [Bool.and_eq_true, decide_eq_true_eq] at h
    obtain ⟨⟨⟨⟨h1, h2⟩, h3⟩, h4⟩, h5⟩ := h
    subst h3
    unfold mCX at h5
    split at h5
    · rename_i pel ptg pit pifs as scope cpos
      split at h5
      · rename_i own ho
        simp only [Bool.and_eq_true, decide_eq_true_eq, List.all_eq_true, List.isEmpty_iff] at h5
        obtain ⟨⟨⟨⟨⟨⟨k1, k2⟩, k3⟩, k4⟩, k5⟩, k6⟩, k7⟩ := h5
        subst k1 k6
        have ok := blkOk_by k2
        have hx := tgOwn_ix ho
        have pe := pe_lcX (pos := cpos) (te := fun σ => tE B (fun c d _ H => W c d σ H) (denE (interp P n) P.gl el)) G.stk G.frm G.tk G.calm G.nd (sI P B n it X W G.toGood false (fun z => by cases z) ptg pit k5) ok
          (fun s H C cl fp E => pg_tg (X := (X.blk s H scope (compEnvC scope cl C X.env) fp).wish E) G.calm G.nd ho fun p hp => ⟨ok.ix p hp, (relS_loc (X := X) (sc := X.env.scope) (k3 p hp)).1, (relS_loc (X := X) (sc := X.env.scope) (k3 p hp)).2 s H (compEnvC scope cl C X.env) fp⟩)
          (fun σ s H C cl fp E tk => sE P B n el _ _ (Good.mk (X := (X.blk s H scope (compEnvC scope cl C X.env) fp).wish E) G.K G.calm G.nd G.nm G.room tk G.fn G.mt G.ini G.yd G.bl G.gl) pel k7)
          (notSet_of k4)
        have pe' := PE.of (B := B) (W := W) (δ := fun ρ => cmpX (denI (interp P n) P.gl it ρ) fun d => denE (interp P n) P.gl el ((wipeE ρ [j]).set j (.val d))) pe (by
          have hx' : own.map (·.2) = [j] := hx
          rw [hx']
          exact g_compX (X := X))
        have pt := fun p pos => g_bi (p := p) (pos := pos) G.K G.calm .tuple (gl_of h4) (G.bl _ (by decide +kernel)) (g_cons pe' g_nil (by rfl)) (by rfl) (by rfl)
        refine gs_asg' (ps_set G.nd h1 (loc_of h2) (pt _ _) (by rfl) (.inl (G.fnT _))) ?_
        intro H0 Z H σ ρ Q zh e p
        refine ⟨H0, Z, ρ, zh, e, ?_⟩
        have e2 : ∀ r : R D, ((r.bind fun x => (R.ok []).bind fun xs => R.ok (x :: xs)).bind (biD .tuple)) = r.bind fun x => biD .tuple [x] := fun r => by cases r <;> rfl
        show Post B W σ (relE B) Z H Q (((cmpX (denI (interp P n) P.gl it ρ) fun d => denE (interp P n) P.gl el ((wipeE ρ [j]).set j (.val d))).bind fun x => (R.ok []).bind fun xs => R.ok (x :: xs)).bind (biD .tuple))
        rw [e2]
        exact p
      · cases h5
    · cases h5
  · cases h
theorem ms_nil : MSs P B n .nil := by
  intro X W G l h
  cases l with
  | nil => exact gs_nil
  | cons a b => simp [mSs] at h
theorem ms_cons (s : S) (ss : Ss) (h1 : MS P B n s) (h2 : MSs P B n ss) : MSs P B n (.cons s ss) := by
  intro X W G l h
  cases s with
  | frz i => exact gs_frz (h2 X W G l (by simpa [mSs] using h))
  | _ =>
    simp only [mSs] at h
    cases l with
    | nil => cases h
    | cons st l =>
      simp only [Bool.and_eq_true] at h
      exact gs_cons (h1 X W G st h.1) (h2 X W G l h.2)
theorem sSs (ss : Ss) : MSs P B n ss :=
  Ss.rec (motive_1 := MS P B n) (motive_2 := MSs P B n) (ms_expr P B n) (ms_asg P B n) (ms_newl P B n) (ms_par P B n) (ms_unp P B n) (ms_aug P B n) (ms_ret P B n) (ms_ite P B n) (ms_whl P B n) (ms_for_ P B n) (ms_mt P B n) (ms_seti P B n) (ms_rai P B n) (ms_frz P B n) (ms_tryE P B n) (ms_par3 P B n) (ms_junk P B n) (ms_newll P B n) (ms_asgX P B n) (ms_nil P B n) (ms_cons P B n) ss
end
/-! ### the fields of a new instance -/
section
variable {P : Pg} {B : Bk} {n : Nat} {X : Cx} {W : WX}
theorem EnvOk.updI {H0 Z H : Hp} {σ : L2.St} {ρ : Env} {x C dx : Addr} {fs : List (Str × V)} {o : HO} (h : EnvOk B H0 Z H σ ρ) (hx : H x = some (.ins C dx fs)) : EnvOk B H0 Z (upd H x o) σ ρ := by
  refine ⟨h.val, fun i ds e => ?_, h.sep, h.len⟩
  obtain ⟨p, vs, h1, h2, h3, h4, h5⟩ := h.own i ds e
  refine ⟨p, vs, h1, h2, h3, ?_, h5⟩
  rw [upd_ne]; exact h4
  rintro rfl
  rw [h4] at hx; cases hx
theorem putF_new {f : Str} {y : V} : ∀ {fs : List (Str × V)}, f ∉ fs.map (·.1) → putF f y fs = fs ++ [(f, y)]
  | [], _ => rfl
  | (g, x) :: r, h => by
    simp only [List.map_cons, List.mem_cons, not_or] at h
    simp only [putF, if_neg (Ne.symm h.1), putF_new h.2, List.cons_append]
def tIni (B : Bk) (k : Nat) (δ : Env → R (List D)) : TS := fun Dn σ H => ∃ Z0 H0 Z ρ x dx fs ds, Step Z0 H0 Z H ∧ EnvOk B H0 Z H σ ρ ∧ σ[0]? = some (some (.ref x)) ∧ H0 x = none ∧ Z x = none ∧ H x = some (.ins B.yard dx fs) ∧ fs.map (·.1) = B.flds.take k ∧ Reps B Z (fs.map (·.2)) ds ∧
  ∃ es, δ ρ = .ok es ∧ ∀ H' Z' fs', Step Z0 H0 Z' H' → Z' x = none → H' x = some (.ins B.yard dx fs') → fs'.map (·.1) = B.flds → Reps B Z' (fs'.map (·.2)) (ds ++ es) → Dn.nx σ H'
theorem ini_ok (G : GoodS P B n X W) (Y : YardOk P B X.K X.mg) (hlen : B.flds.length ≤ 900) : ∀ (fl : List Str) (es : Es) (l : List Stmt) (k : Nat), B.flds.drop k = fl → mIni P X.N X.env.scope fl es l = true → PSs X l (tIni B k (denEs (interp P n) P.gl es))
  | [], es, l, k, hk, h => by
    simp only [mIni] at h
    split at h
    · refine ⟨fun pins s0 σ H Dn I ⟨Z0, H0, Z, ρ, x, dx, fs, ds, st, e, q1, q2, q3, q4, q5, q6, es, q7, q8⟩ => pss_nil.run pins s0 σ H Dn I ?_⟩
      simp only [denEs, R.ok.injEq] at q7
      subst q7
      have hl : B.flds.length ≤ k := by simpa using hk
      exact q8 H Z fs st q3 q4 (by rw [q5, List.take_of_length_le hl]) (by rw [List.append_nil]; exact q6)
    · cases h
  | f :: fl, es, l, k, hk, h => by
    simp only [mIni] at h
    split at h
    · rename_i e es sx p1 g p2 pe pos l'
      simp only [Bool.and_eq_true, decide_eq_true_eq] at h
      obtain ⟨⟨⟨⟨h1, h2⟩, h3⟩, h4⟩, h5⟩ := h
      subst h1
      have hkl : k < B.flds.length := by
        rcases Nat.lt_or_ge k B.flds.length with z | z
        · exact z
        · rw [List.drop_eq_nil_of_le z] at hk; cases hk
      have hkf : B.flds[k]? = some g := by
        have := congrArg (fun l => l[0]?) hk
        simpa using this
      have hd1 : B.flds.drop (k + 1) = fl := by rw [← List.drop_drop, hk]; rfl
      have ndf : B.flds.Nodup := by rw [Y.fl]; exact Y.nd
      have hgm : g ∈ P.flds := by rw [← Y.fl]; exact List.mem_of_getElem? hkf
      have hgt : g ∉ B.flds.take k := fun z => by
        have nd2 := ndf
        rw [← List.take_append_drop k B.flds, hk] at nd2
        exact (List.nodup_append.mp nd2).2.2 g z g List.mem_cons_self rfl
      have hsw : swapsWith pe (some (.Attribute (.Name sx p1) g p2)) pos.line X.env = pure false := by
        cases pe <;> rfl
      have r1 := ps_fld (X := X) (pos := pos) (pos' := p2) (f := g) (G.toGood.var (pos := p1) h2 h3) (sE P B n e X W G.toGood _ h4) hsw
      have r2 := pss_cons r1 (ini_ok G Y hlen fl es l' (k + 1) hd1 h5)
      refine ⟨fun pins s0 σ H Dn I ⟨Z0, H0, Z, ρ, x, dx, fs, ds, st, en, q1, q2, q3, q4, q5, q6, es', q7, q8⟩ => r2.run pins s0 σ H Dn I ?_⟩
      simp only [denEs] at q7
      cases qe : denE (interp P n) P.gl e ρ with
      | bad => rw [qe] at q7; cases q7
      | exc c => rw [qe] at q7; cases q7
      | ok d =>
        rw [qe] at q7
        simp only [R.ok_bind] at q7
        cases qs : denEs (interp P n) P.gl es ρ with
        | bad => rw [qs] at q7; cases q7
        | exc c => rw [qs] at q7; cases q7
        | ok ds' =>
          rw [qs] at q7
          simp only [R.ok_bind, R.ok.injEq] at q7
          subst q7
          refine ⟨H0, Z, ρ, st.zh, en, ?_⟩
          rw [qe]
          intro y H1 Z1 s1 ry
          have st1 := st.trans s1
          have hx1 : H1 x = some (.ins B.yard dx fs) := s1.hh _ _ q4
          have zx1 : Z1 x = none := by rw [s1.fr x (by rw [q4]; simp)]; exact q3
          have lf : fs.length ≤ 900 := by
            have := congrArg List.length q5
            rw [List.length_map, List.length_take] at this; omega
          refine ⟨_, q1, x, B.yard, dx, fs, rfl, hx1, Y.c, Y.na g hgm, by omega, ?_⟩
          rw [putF_new (by rw [q5]; exact hgt)]
          refine ⟨Z0, H0, Z1, ρ, x, dx, fs ++ [(g, y)], ds ++ [d], st1.own q2 zx1, (en.step s1).updI hx1, q1, q2, zx1, upd_same, ?_, ?_, ds', qs, fun H' Z' fs' a1 a2 a3 a4 a5 => q8 H' Z' fs' a1 a2 a3 a4 (by simpa using a5)⟩
          · rw [List.map_append, q5, List.take_succ, hkf]; rfl
          · rw [List.map_append]; exact (q6.mono s1.zz).append (.cons ry .nil)
    · cases h
end
end RS

namespace RS
open PySem PySem.Spec PyProof.Rows L2

def fsB (N ps : List Str) (sc : Scope) : Bool :=
  (match sc.kind with | .function => true | _ => false) && !sc.isCoroutine && !sc.isGenerator && decide N.Nodup && decide (N.take ps.length = ps) && (ps.all fun x => locB sc x) && (sc.names.all fun y => match y.2 with | .free => false | _ => true)
theorem fs_of {N ps : List Str} {sc : Scope} (h : fsB N ps sc = true) : FnScope N ps sc := by
  unfold fsB at h
  simp only [Bool.and_eq_true, decide_eq_true_eq, Bool.not_eq_true', List.all_eq_true] at h
  obtain ⟨⟨⟨⟨⟨⟨h1, h2⟩, h3⟩, h4⟩, h5⟩, h6⟩, h7⟩ := h
  refine ⟨?_, h2, h3, h4, h5, fun x hx => loc_of (h6 x hx), fun y hy e => ?_⟩
  · split at h1
    · assumption
    · cases h1
  · have := h7 y hy; rw [e] at this; cases this
def dbgB (x : Str) : Bool := !(x == ("__debug__" : Str)) && !(x == ("__classdict__" : Str))
def okFn (P : Pg) (fn : Fn) (st : Stmt) : Bool := match st with
  | .FunctionDef name ⟨[], args, none, [], [], none, []⟩ body _ _ _ scope _ _ _ =>
    decide (name = fn.name) && decide (args.map (·.arg) = fn.ps) && decide (args.length ≤ 8) && fsB fn.N fn.ps scope && (if fn.kind = 2 then mIni P fn.N scope P.flds fn.ini body else mSs P fn.N fn.body scope body) && dbgB name && fn.N.all dbgB
  | _ => false
theorem look_zip : ∀ {names : List Str} {us : List Value}, names.Nodup → us.length = names.length → (∀ n ∈ names, ((names.zip us).lookup n).isSome = true) ∧ names.filterMap (fun n => ((names.zip us).lookup n).map (n, ·)) = names.zip us
  | [], [], _, _ => ⟨by simp, rfl⟩
  | [], _ :: _, _, h => by simp at h
  | _ :: _, [], _, h => by simp at h
  | n :: ns, u :: us, nd, h => by
    have nd' := List.nodup_cons.mp nd
    obtain ⟨i1, i2⟩ := look_zip (names := ns) (us := us) nd'.2 (by simpa using h)
    have ne : ∀ m ∈ ns, (m == n) = false := fun m hm => beq_eq_false_iff_ne.mpr fun e => nd'.1 (e ▸ hm)
    have lk : ∀ m ∈ ns, ((n :: ns).zip (u :: us)).lookup m = (ns.zip us).lookup m := fun m hm => by
      rw [List.zip_cons_cons, List.lookup_cons, ne m hm]
    refine ⟨fun m hm => ?_, ?_⟩
    · rcases List.mem_cons.mp hm with rfl | hm
      · rw [List.zip_cons_cons, List.lookup_cons]; simp
      · rw [lk m hm]; exact i1 m hm
    · rw [List.filterMap_cons]
      have e0 : ((n :: ns).zip (u :: us)).lookup n = some u := by rw [List.zip_cons_cons, List.lookup_cons]; simp
      rw [e0]
      simp only [Option.map_some]
      rw [List.zip_cons_cons]
      congr 1
      have cg : ∀ (l : List Str) (f g : Str → Option (Str × Value)), (∀ m ∈ l, f m = g m) → l.filterMap f = l.filterMap g := by
        intro l f g h
        induction l with
        | nil => rfl
        | cons a t ih => rw [List.filterMap_cons, List.filterMap_cons, h a List.mem_cons_self, ih fun m hm => h m (List.mem_cons_of_mem _ hm)]
      refine (cg ns _ _ fun m hm => ?_).trans i2
      have := lk m hm
      rw [List.zip_cons_cons] at this
      rw [this]
theorem binds_of {x qual : Str} {args : List Arg} {body : List Stmt} {scope : Scope} {kV doc pm : Value} {an : Option Addr} {cdv ct : Value} {us : List Value} (nd : (args.map (·.arg)).Nodup) (hl : us.length = args.length) :
    bindArgs (PySem.W.fnOf x qual ⟨[], args, none, [], [], none, []⟩ body scope .none kV doc pm an cdv ct) ⟨us, []⟩ = pure ((args.map (·.arg)).zip us) := by
  obtain ⟨h1, h2⟩ := look_zip (names := args.map (·.arg)) (us := us) nd (by simpa using hl)
  have hm : ((args.map (·.arg)).filter fun n => (((args.map (·.arg)).zip us).lookup n).isNone) = [] := by
    rw [List.filter_eq_nil_iff]
    intro n hn
    have := h1 n hn
    simp only [Option.isNone_iff_eq_none]
    intro e; rw [e] at this; cases this
  unfold bindArgs
  simp only [PySem.W.fnOf, List.map_nil, List.nil_append, List.forIn_nil, List.append_nil]
  have e1 : seqItems? Value.none = pure none := rfl
  rw [e1]
  simp only [pure_bind, Option.getD_none, List.drop_nil, List.length_nil, Nat.sub_zero, List.length_map, hl, gt_iff_lt, Nat.lt_irrefl]
  have tk : List.take args.length (List.map (fun x => x.arg) args) = List.map (fun x => x.arg) args := List.take_of_length_le (by simp)
  have h2' : List.filterMap ((fun n => Option.map (fun x => (n, x)) (List.lookup n ((List.map (fun x => x.arg) args).zip us))) ∘ fun x => x.arg) args = (List.map (fun x => x.arg) args).zip us := by
    rw [← List.filterMap_map]; exact h2
  simp [tk, hm, h2']
theorem psnd {N ps : List Str} {sc : Scope} (S : FnScope N ps sc) : ps.Nodup := by rw [← S.pre]; exact S.nd.sublist (List.take_sublist _ _)
/-- what the top has left -/
structure Laid (P : Pg) (B : Bk) (K : PySem.W.Frag) (mg : Str → Option Value) : Prop where
  hK : K = B.K
  fns : ∀ (f : Nat) (fn : Fn), P.fns[f]? = some fn → ∃ st a fd, okFn P fn st = true ∧ FunD K fn.name fn.qual (defArgs st) (defBody st) (defScope st) [] [] a fd ∧ (fn.kind = 0 → mg fn.name = some (.ref a)) ∧ (fn.kind = 1 → Meth K B.yard fn.name a ∧ fn.name ∉ P.flds) ∧ (fn.kind = 2 → Mk K B.yard a ∧ P.ycls ≠ "")
  yd : P.ycls ≠ "" → YardOk P B K mg
  fl : P.flds.length ≤ 900
  bl : ∀ x ∈ bltNames, mg x = none
  gl : ∀ (g : Nat) (x : Str) (d : D), P.globs[g]? = some (x, d) → ∃ u v, mg x = some u ∧ RelV v u ∧ (∀ Z, Rep B Z v d) ∧ (x == ("__debug__" : Str)) = false
  ex : ∀ (c : Nat) (x : Str), P.excs[c]? = some x → ExcFact K mg x (B.exc c)
  kit : ∀ c, c < P.excs.length → ExcKit K P.excs.length B.exc c

theorem env_start {B : Bk} {Z H : Hp} {N : List Str} {vs : List V} {ds : List D} (r : Reps B Z vs ds) : EnvOk B H Z H (start N vs) (env0 N ds) := by
  have hl := r.length
  have key : ∀ (i : Nat) (q : PV), (env0 N ds)[i]? = some q → q ≠ .un → ∃ d v, q = .val d ∧ (start N vs)[i]? = some (some v) ∧ Rep B Z v d := by
    intro i q e hq
    unfold env0 at e
    by_cases hi : i < ds.length
    · rw [List.getElem?_append_left (by simpa using hi), List.getElem?_map] at e
      cases qd : ds[i]? with
      | none => rw [qd] at e; simp at e
      | some d =>
        rw [qd] at e; simp at e; subst e
        obtain ⟨v, h1, h2⟩ := r.get qd
        refine ⟨d, v, rfl, ?_, h2⟩
        unfold L2.start
        rw [List.getElem?_append_left (by simpa [hl] using hi), List.getElem?_map, h1]; rfl
    · rw [List.getElem?_append_right (by simpa using hi), List.getElem?_replicate] at e
      split at e
      · cases e; exact absurd rfl hq
      · cases e
  refine ⟨fun i d e => ?_, fun i es e => ?_, fun i j es fs p hij e => ?_, ?_⟩
  · obtain ⟨d', v, h1, h2, h3⟩ := key i _ e (by simp)
    cases h1; exact ⟨v, h2, h3⟩
  · obtain ⟨d', v, h1, h2, h3⟩ := key i _ e (by simp); cases h1
  · obtain ⟨d', v, h1, h2, h3⟩ := key i _ e (by simp); cases h1
  · unfold L2.start env0; simp [hl]
theorem okFn_inv {P : Pg} {fn : Fn} {st : Stmt} (h : okFn P fn st = true) : ∃ args, defArgs st = ⟨[], args, none, [], [], none, []⟩ ∧ args.map (·.arg) = fn.ps ∧ args.length ≤ 8 ∧ FnScope fn.N fn.ps (defScope st) ∧ (if fn.kind = 2 then mIni P fn.N (defScope st) P.flds fn.ini (defBody st) else mSs P fn.N fn.body (defScope st) (defBody st)) = true ∧
    (fn.name == ("__debug__" : Str)) = false ∧ ∀ x ∈ fn.N, (x == ("__debug__" : Str)) = false ∧ (x == ("__classdict__" : Str)) = false := by
  unfold okFn at h
  split at h
  · rename_i name args body _ _ _ scope _ _ _
    simp only [Bool.and_eq_true, decide_eq_true_eq, List.all_eq_true] at h
    obtain ⟨⟨⟨⟨⟨⟨h1, h2⟩, h3⟩, h4⟩, h5⟩, h6⟩, h7⟩ := h
    refine ⟨args, rfl, h2, h3, fs_of h4, h5, ?_, fun x hx => ?_⟩
    · unfold dbgB at h6; simp only [Bool.and_eq_true, Bool.not_eq_true'] at h6; rw [← h1]; exact h6.1
    · have := h7 x hx; unfold dbgB at this; simp only [Bool.and_eq_true, Bool.not_eq_true'] at this; exact this
  · cases h

theorem env_startI {B : Bk} {Z H0 H : Hp} {N : List Str} {v : V} {vs : List V} {ds : List D} (r : Reps B Z vs ds) : EnvOk B H0 Z H (start N (v :: vs)) (envI N ds) := by
  have hl := r.length
  have key : ∀ (i : Nat) (q : PV), (envI N ds)[i]? = some q → q ≠ .un → ∃ d u, q = .val d ∧ (start N (v :: vs))[i]? = some (some u) ∧ Rep B Z u d := by
    intro i q e hq
    unfold envI at e
    cases i with
    | zero => simp at e; exact absurd e.symm hq
    | succ i =>
      rw [List.getElem?_cons_succ] at e
      by_cases hi : i < ds.length
      · rw [List.getElem?_append_left (by simpa using hi), List.getElem?_map] at e
        cases qd : ds[i]? with
        | none => rw [qd] at e; simp at e
        | some d =>
          rw [qd] at e; simp at e; subst e
          obtain ⟨u, h1, h2⟩ := r.get qd
          refine ⟨d, u, rfl, ?_, h2⟩
          unfold L2.start
          rw [List.getElem?_append_left (by simp [hl]; omega), List.getElem?_map, List.getElem?_cons_succ, h1]; rfl
      · rw [List.getElem?_append_right (by simpa using hi), List.getElem?_replicate] at e
        split at e
        · cases e; exact absurd rfl hq
        · cases e
  refine ⟨fun i d e => ?_, fun i es e => ?_, fun i j es fs p hij e => ?_, ?_⟩
  · obtain ⟨d', u, h1, h2, h3⟩ := key i _ e (by simp)
    cases h1; exact ⟨u, h2, h3⟩
  · obtain ⟨d', u, h1, h2, h3⟩ := key i _ e (by simp); cases h1
  · obtain ⟨d', u, h1, h2, h3⟩ := key i _ e (by simp); cases h1
  · unfold L2.start envI; simp [hl]
section
variable {P : Pg} {B : Bk} {Pr : Program} {w : World} {K : PySem.W.Frag} {mg : Str → Option Value} {base : Heap}
def IniGood (P : Pg) (B : Bk) (Pr : Program) (w : World) (K : PySem.W.Frag) (mg : Str → Option Value) (base : Heap) (m : Nat) (fn : Fn) (a : Addr) (fd : FuncData) : Prop := FnOk Pr w K mg base (L2.CX Pr w) m a fd fn.ps (spInit B fn.ps.length (iniF P fn m))
structure FnGood (P : Pg) (B : Bk) (Pr : Program) (w : World) (K : PySem.W.Frag) (mg : Str → Option Value) (base : Heap) (n : Nat) : Prop where
  fn : ∀ (f : Nat) (fn : Fn), P.fns[f]? = some fn → fn.kind = 0 → ∃ a fd, FnOk Pr w K mg base (L2.CX Pr w) n a fd fn.ps (spOf B fn.ps.length (interp P n f)) ∧ mg fn.name = some (.ref a) ∧ PySem.W.keepIn K (.ref a) = true ∧ L2.Binds K fd fn.ps [] ∧ (fn.name == ("__debug__" : Str)) = false
  mt : ∀ (f : Nat) (fn : Fn), P.fns[f]? = some fn → fn.kind = 1 → ∃ a fd, FnOk Pr w K mg base (L2.CX Pr w) n a fd fn.ps (spOf B fn.ps.length (interp P n f)) ∧ Meth K B.yard fn.name a ∧ L2.Binds K fd fn.ps [] ∧ fn.name ∉ P.flds
  ini : ∀ (f : Nat) (fn : Fn), P.fns[f]? = some fn → fn.kind = 2 → ∃ a fd, Mk K B.yard a ∧ L2.Binds K fd fn.ps [] ∧ ∀ m, n = m + 1 → IniGood P B Pr w K mg base m fn a fd
theorem good_of (L : Laid P B K mg) {n : Nat} (ih : FnGood P B Pr w K mg base n) {N : List Str} {qual : Str} {st : Stmt} {ps : List Str} (S : FnScope N ps (defScope st)) (hN : ∀ x ∈ N, (x == ("__debug__" : Str)) = false ∧ (x == ("__classdict__" : Str)) = false) (cdv : Value) (a : Addr) (A : Around) (outer : List PySem.Env) (s : Shared) (H : Hp) (E : XK)
    (hr : Room n (A.deeper (envOfC qual (defScope st) s.heap.objs.size a cdv))) : GoodS P B n (cxOf (L2.CX Pr w) Pr w K mg base N qual (defScope st) a cdv A outer s H E) (fun cls d _ H => E cls d H) :=
  { K := L.hK, calm := rfl, nd := S.nd, nm := hN, room := hr, tk := takes_of rfl rfl rfl rfl, fn := ih.fn, mt := ih.mt, ini := ih.ini, yd := L.yd, bl := L.bl, gl := L.gl, own := passes_of rfl, fnT := fun _ => rfl, kind := S.kind, ex := L.ex, kit := L.kit, stk := rfl, frm := rfl }
theorem body_ok (L : Laid P B K mg) {n : Nat} (ih : FnGood P B Pr w K mg base n) {f : Nat} {fn : Fn} {st : Stmt} (hf : P.fns[f]? = some fn) (hk : fn.kind ≠ 2) (ho : okFn P fn st = true) (cdv : Value) (a : Addr) (A : Around) (outer : List PySem.Env) (s : Shared) (H : Hp) (vs : List V) (Q : VK) (E : XK)
    (hr : Room n (A.deeper (envOfC fn.qual (defScope st) s.heap.objs.size a cdv))) (hsp : spOf B fn.ps.length (interp P (n + 1) f) vs H Q E) :
    ∃ t, PSs (cxOf (L2.CX Pr w) Pr w K mg base fn.N fn.qual (defScope st) a cdv A outer s H E) (defBody st) t ∧ t { nx := fun _ H' => Q .non H', rt := Q } (start fn.N vs) H := by
  obtain ⟨args, e1, e2, e3, S, hm, hd, hN⟩ := okFn_inv ho
  rw [if_neg hk] at hm
  have G := good_of L ih S hN cdv a A outer s H E hr
  refine ⟨_, sSs P B n fn.body _ _ G _ hm, ?_⟩
  obtain ⟨hl, Z, ds, zh, rs, p⟩ := hsp
  refine ⟨Z, H, Z, env0 fn.N ds, .refl zh, env_start rs, ?_⟩
  have hlen : ds.length = fn.ps.length := by rw [← rs.length]; exact hl
  simp only [interp, hf, if_neg hk, if_pos hlen] at p
  cases q : denSs (interp P n) P.gl fn.body (env0 fn.N ds) with
  | nx ρ => rw [q] at p; exact fun σ' H' Z' s' e' => p _ H' Z' s' .non
  | ret d => rw [q] at p; exact p
  | exc c ρ => rw [q] at p; exact fun σ' H' Z' s' e' => p H' s'.hh
  | bad => rw [q] at p; exact p
theorem ini_body (L : Laid P B K mg) {m : Nat} (ih : FnGood P B Pr w K mg base m) {fn : Fn} {st : Stmt} (hk : fn.kind = 2) (hy : P.ycls ≠ "") (ho : okFn P fn st = true) (cdv : Value) (a : Addr) (A : Around) (outer : List PySem.Env) (s : Shared) (H : Hp) (vs : List V) (Q : VK) (E : XK)
    (hr : Room m (A.deeper (envOfC fn.qual (defScope st) s.heap.objs.size a cdv))) (hsp : spInit B fn.ps.length (iniF P fn (m + 1)) vs H Q E) :
    ∃ t, PSs (cxOf (L2.CX Pr w) Pr w K mg base fn.N fn.qual (defScope st) a cdv A outer s H E) (defBody st) t ∧ t { nx := fun _ H' => Q .non H', rt := Q } (start fn.N vs) H := by
  obtain ⟨args, e1, e2, e3, S, hm, hd, hN⟩ := okFn_inv ho
  rw [if_pos hk] at hm
  have G := good_of L ih S hN cdv a A outer s H E hr
  have Y := L.yd hy
  refine ⟨_, ini_ok G Y (by rw [Y.fl]; exact L.fl) P.flds fn.ini _ 0 (by rw [Y.fl]; rfl) hm, ?_⟩
  obtain ⟨hl, x, dx, vs', H1, Z, ds, rfl, hx, hdx, ne, rfl, zh, rs, p⟩ := hsp
  simp only [iniF, iniD] at p
  by_cases hlen : ds.length + 1 = fn.ps.length
  · rw [if_pos hlen] at p
    cases q : denEs (interp P m) P.gl fn.ini (envI fn.N ds) with
    | bad => rw [q] at p; exact p.elim
    | exc c => rw [q] at p; exact p.elim
    | ok es =>
      rw [q] at p
      simp only [noX, R.ok_bind] at p
      by_cases hes : es.length = P.flds.length
      · rw [if_pos hes] at p
        have hx2 : (upd H1 dx (.own x)) x = none := by rw [upd_ne (Ne.symm ne)]; exact hx
        have sm : Same H1 (upd (upd H1 dx (.own x)) x (.ins B.yard dx [])) := (same_upd hdx).trans (same_upd hx2)
        refine ⟨Z, H1, Z, envI fn.N ds, x, dx, [], [], ⟨sm, .refl _, zh.trans sm, fun _ _ => rfl⟩, env_startI rs, ?_, hx, zh.free hx, upd_same, by simp, .nil, es, q, fun H' Z' fs' a1 a2 a3 a4 a5 => ?_⟩
        · unfold L2.start; simp
        · have hz : Same Z' (upd Z' x (.ins B.yard dx fs')) := same_upd a2
          refine p .non H' (upd Z' x (.ins B.yard dx fs')) ⟨a1.hh, a1.zz.trans hz, fun b u z => ?_, fun c hc => ?_⟩ ⟨rfl, .ins upd_same a4 (by simpa using a5.mono hz)⟩
          · by_cases hb : b = x
            · subst hb; rw [upd_same] at z; cases z; exact a3
            · rw [upd_ne hb] at z; exact a1.zh b u z
          · rw [upd_ne, a1.fr c hc]
            rintro rfl; exact hc hx
      · rw [if_neg hes] at p; exact p.elim
  · rw [if_neg hlen] at p; exact p.elim
theorem binds_fn {fn : Fn} {st : Stmt} {a : Addr} {fd : FuncData} (ho : okFn P fn st = true) (F : FunD K fn.name fn.qual (defArgs st) (defBody st) (defScope st) [] [] a fd) : L2.Binds K fd fn.ps [] := by
  obtain ⟨args, e1, e2, e3, S, hb, hd, hN⟩ := okFn_inv ho
  refine F.bindsN fun _ _ _ _ _ _ us hl => ?_
  rw [e1, ← e2]
  exact binds_of (by rw [e2]; exact psnd S) (by rw [hl, ← e2, List.length_map])
theorem plain_ok (L : Laid P B K mg) {f : Nat} {fn : Fn} {st : Stmt} {a : Addr} {fd : FuncData} (hf : P.fns[f]? = some fn) (hk : fn.kind ≠ 2) (ho : okFn P fn st = true) (F : FunD K fn.name fn.qual (defArgs st) (defBody st) (defScope st) [] [] a fd) :
    ∀ n, (∀ m, n = m + 1 → FnGood P B Pr w K mg base m) → FnOk Pr w K mg base (L2.CX Pr w) n a fd fn.ps (spOf B fn.ps.length (interp P n f))
  | 0, _ => ⟨fun vs H Q E h => h.1, fun A outer s H as us vs Q E hr e0 bt hv h => by
    obtain ⟨_, Z, ds, _, _, p⟩ := h
    exact p.elim⟩
  | n + 1, ih => by
    obtain ⟨args, e1, e2, e3, S, hb, hd, hN⟩ := okFn_inv ho
    exact F.ok S (fun vs H Q E h => h.1) (fun cdv A outer s H vs Q E hr hsp => body_ok L (ih n rfl) hf hk ho cdv a A outer s H vs Q E hr hsp)
theorem ini_fn (L : Laid P B K mg) {fn : Fn} {st : Stmt} {a : Addr} {fd : FuncData} (hk : fn.kind = 2) (hy : P.ycls ≠ "") (ho : okFn P fn st = true) (F : FunD K fn.name fn.qual (defArgs st) (defBody st) (defScope st) [] [] a fd) :
    ∀ m, (∀ k, m = k + 1 → FnGood P B Pr w K mg base k) → IniGood P B Pr w K mg base m fn a fd
  | 0, _ => ⟨fun vs H Q E h => h.1, fun A outer s H as us vs Q E hr e0 bt hv h => by
    obtain ⟨_, x, dx, vs', H1, Z, ds, _, _, _, _, _, _, _, p⟩ := h
    exact p.elim⟩
  | m + 1, ih => by
    obtain ⟨args, e1, e2, e3, S, hb, hd, hN⟩ := okFn_inv ho
    exact F.ok S (fun vs H Q E h => h.1) (fun cdv A outer s H vs Q E hr hsp => ini_body L (ih m rfl) hk hy ho cdv a A outer s H vs Q E hr hsp)
theorem good_step (L : Laid P B K mg) (n : Nat) (h1 : ∀ m, n = m + 1 → FnGood P B Pr w K mg base m) (h2 : ∀ m, n = m + 2 → FnGood P B Pr w K mg base m) : FnGood P B Pr w K mg base n := by
  refine ⟨fun f fn hf hk => ?_, fun f fn hf hk => ?_, fun f fn hf hk => ?_⟩
  · obtain ⟨st, a, fd, ho, F, g0, g1, g2⟩ := L.fns f fn hf
    obtain ⟨args, e1, e2, e3, S, hb, hd, hN⟩ := okFn_inv ho
    exact ⟨a, fd, plain_ok L hf (by omega) ho F n h1, g0 hk, F.kp, binds_fn ho F, hd⟩
  · obtain ⟨st, a, fd, ho, F, g0, g1, g2⟩ := L.fns f fn hf
    exact ⟨a, fd, plain_ok L hf (by omega) ho F n h1, (g1 hk).1, binds_fn ho F, (g1 hk).2⟩
  · obtain ⟨st, a, fd, ho, F, g0, g1, g2⟩ := L.fns f fn hf
    exact ⟨a, fd, (g2 hk).1, binds_fn ho F, fun m hm => ini_fn L hk (g2 hk).2 ho F m fun k hk' => h2 k (by omega)⟩
theorem all_two (L : Laid P B K mg) : ∀ n, FnGood P B Pr w K mg base n ∧ FnGood P B Pr w K mg base (n + 1)
  | 0 => by
    have g0 : FnGood P B Pr w K mg base 0 := good_step L 0 (fun m h => by omega) (fun m h => by omega)
    exact ⟨g0, good_step L 1 (fun m h => by have : m = 0 := by omega
                                            subst this; exact g0) (fun m h => by omega)⟩
  | n + 1 => by
    obtain ⟨g0, g1⟩ := all_two L n
    exact ⟨g1, good_step L (n + 2) (fun m h => by have : m = n + 1 := by omega
                                                  subst this; exact g1) (fun m h => by have : m = n := by omega
                                                                                       subst this; exact g0)⟩
theorem all_ok (L : Laid P B K mg) (n : Nat) : FnGood P B Pr w K mg base n := (all_two L n).1
theorem ok_at (L : Laid P B K mg) {f : Nat} {fn : Fn} {st : Stmt} {a : Addr} {fd : FuncData} (hf : P.fns[f]? = some fn) (hk : fn.kind ≠ 2) (ho : okFn P fn st = true) (F : FunD K fn.name fn.qual (defArgs st) (defBody st) (defScope st) [] [] a fd) (n : Nat) :
    FnOk Pr w K mg base (L2.CX Pr w) (n + 1) a fd fn.ps (spOf B fn.ps.length (interp P (n + 1) f)) := plain_ok L hf hk ho F (n + 1) fun m _ => all_ok L m
/-- some world's exception -/
def CXa (Pr : Program) : CXT := fun o H s E u s' => ∃ w, L2.CX Pr w o H s E u s'
theorem fnok_cx {k : Nat} {a : Addr} {fd : FuncData} {ps : List Str} {sp : Sp} (F : FnOk Pr w K mg base (L2.CX Pr w) k a fd ps sp) : FnOk Pr w K mg base (CXa Pr) k a fd ps sp :=
  ⟨F.len, fun A outer s H args us vs Q E hr e0 hb hv hs => codeAny_mono (F.run A outer s H args us vs Q E hr e0 hb hv hs) fun r s' hq => by
    cases r with
    | error e => exact ⟨w, hq⟩
    | ok fl => cases fl <;> exact hq⟩
theorem CXa.no {H : Hp} {s : Shared} {e : Value} {s' : Shared} (h : CXa Pr [] H s (fun _ _ _ => False) e s') : False := by
  obtain ⟨w, a, B, H', cls, d, _, _, _, _, _, _, _, z⟩ := h
  exact z
theorem bindsTo_of {x : Str} {fn : Fn} {st : Stmt} {a : Addr} {fd : FuncData} (ho : okFn P fn st = true) (hp : fn.ps = [x]) (F : FunD K fn.name fn.qual (defArgs st) (defBody st) (defScope st) [] [] a fd) (s : Shared) (u : Value) : BindsTo s fd ⟨[u], []⟩ [(x, u)] := by
  obtain ⟨args, e1, e2, e3, S, hb, hd, hN⟩ := okFn_inv ho
  have b := FunD.bindsA (ps := [x]) F fun _ _ _ _ _ _ us hl => by
    rw [e1, ← hp, ← e2]
    exact binds_of (by rw [e2]; exact psnd S) (by have := congrArg List.length e2; rw [List.length_map, hp] at this; rw [hl, this])
  exact b s [u] rfl
end
/-! ### the hook, with what is asked of the classes -/
def excBo (K : PySem.W.Frag) (D : Addr) : Bool :=
  He.eqO (PySem.W.findIn K (.ref D) "__getattribute__") (some (some (.builtin "BaseException.__getattribute__"))) && He.eqO (PySem.W.findIn K (.ref D) "__getattr__") (some none) && decide (PySem.W.subIn K (.ref D) (.type "BaseException") = some true) && PySem.W.hasDictIn K D &&
    He.eqO (PySem.W.findIn K (.ref D) "__class__") (some (some (.builtin "object.__class__"))) && He.eqO (PySem.W.specialIn K (.builtin "object.__class__") "__get__") (some (some (.builtin "getset_descriptor.__get__"))) && decide (PySem.W.takesIn K (.builtin "object.__class__") = some true) && decide (PySem.W.mroIn K D (.type "object") = some true)
theorem excBo_ok {K : PySem.W.Frag} {D : Addr} (h : excBo K D = true) : ExcC K D := by
  unfold excBo at h
  simp only [Bool.and_eq_true, decide_eq_true_eq] at h
  obtain ⟨⟨⟨⟨⟨⟨⟨h1, h2⟩, h3⟩, h4⟩, h5⟩, h6⟩, h7⟩, h8⟩ := h
  exact ⟨He.eqO_ok h1, He.eqO_ok h2, h3, h4, He.eqO_ok h5, He.eqO_ok h6, h7, h8⟩
def exA (K : PySem.W.Frag) (xs : List Str) (c : Nat) : Addr := He.ga K (xs.getD c "")
def kitB (xs : List Str) (K : PySem.W.Frag) : Bool := (List.range xs.length).all fun c => excBo K (exA K xs c) && decide (PySem.W.kitOne K (.ref (exA K xs c)) (.type "ValueError") = some true) &&
  (List.range xs.length).all fun k => decide (PySem.W.kitOne K (.ref (exA K xs c)) (.ref (exA K xs k)) = some (subX c k)) && decide (PySem.W.exmOne K (.ref (exA K xs c)) (.ref (exA K xs k)) = some (subX c k))
theorem kitB_ok {xs : List Str} {K : PySem.W.Frag} (h : kitB xs K = true) (c : Nat) (hc : c < xs.length) : ExcKit K xs.length (exA K xs) c := by
  have h1 := List.all_eq_true.mp h c (List.mem_range.mpr hc)
  simp only [Bool.and_eq_true, decide_eq_true_eq, List.all_eq_true] at h1
  obtain ⟨⟨h1, h2⟩, h3⟩ := h1
  exact ⟨excBo_ok h1, h2, fun k hk => (h3 k (List.mem_range.mpr hk)).1, fun k hk => (h3 k (List.mem_range.mpr hk)).2⟩
def obsX (fa : List He.Fa) (fn : List He.DefD) (xs : List Str) (K : PySem.W.Frag) : He.AlD := ((He.obsD fa fn K).1 && kitB xs K, (He.obsD fa fn K).2)
def SaysX (fa : List He.Fa) (fn : List He.DefD) (xs : List Str) (K : PySem.W.Frag) : Prop := obsX fa fn xs K = He.valD fn
def obsXG (n : Nat) (fa : List He.Fa) (fn : List He.DefD) (xs : List Str) (g : Addr → Option Obj) : He.AlD := obsX fa fn xs (He.frG g (He.asD g n))
def hookX (n : Nat) (fa : List He.Fa) (fn : List He.DefD) (xs : List Str) : PySem.W.Hook where
  α := He.AlD
  obs := fun s => obsXG n fa fn xs s.heap.get?
  val := fun _ => He.valD fn
  says := fun _ h => ∃ K : PySem.W.Frag, K.In h ∧ SaysX fa fn xs K
  of := fun _ _ e => ⟨_, He.frG_in, e⟩
  keeps := fun _ _ _ ⟨K, hK, c⟩ k => ⟨K, PySem.W.Frag.In.keeps hK k, c⟩
theorem obsXG_eq {n : Nat} {fa : List He.Fa} {fn : List He.DefD} {xs : List Str} {g : Addr → Option Obj} {s : Shared} (h : ∀ a, g a = s.heap.get? a) : obsXG n fa fn xs g = (hookX n fa fn xs).obs s := by
  have e : g = s.heap.get? := funext h
  rw [e] <;> rfl
theorem SaysX.says {fa : List He.Fa} {fn : List He.DefD} {xs : List Str} {K : PySem.W.Frag} (c : SaysX fa fn xs K) : He.SaysD fa fn K ∧ kitB xs K = true := by
  have h1 : ((He.obsD fa fn K).1 && kitB xs K) = true := congrArg (fun z : He.AlD => z.1) c
  have h2 : (obsX fa fn xs K).2 = (He.valD fn).2 := congrArg (fun z : He.AlD => z.2) c
  have h2 : (He.obsD fa fn K).2 = (He.valD fn).2 := h2
  obtain ⟨h3, h4⟩ := Bool.and_eq_true_iff.mp h1
  exact ⟨Prod.ext h3 h2, h4⟩
/-! ### the top's run in parts -/
theorem obsX_app {fa1 fa2 : List He.Fa} {fn1 fn2 : List He.DefD} {xs : List Str} {K : PySem.W.Frag} (h1 : obsX fa1 fn1 [] K = He.valD fn1) (h2 : obsX fa2 fn2 xs K = He.valD fn2) : obsX (fa1 ++ fa2) (fn1 ++ fn2) xs K = He.valD (fn1 ++ fn2) := by
  have a1 : ((((fa1.all fun f => f.ok K) && fn1.all fun d => d.ok K) && kitB [] K)) = true := congrArg (fun z : He.AlD => z.1) h1
  have a2 : ((((fa2.all fun f => f.ok K) && fn2.all fun d => d.ok K) && kitB xs K)) = true := congrArg (fun z : He.AlD => z.1) h2
  have b1 : (fn1.map fun d => He.fnW K d.at_) = fn1.map He.DefD.val := congrArg (fun z : He.AlD => z.2) h1
  have b2 : (fn2.map fun d => He.fnW K d.at_) = fn2.map He.DefD.val := congrArg (fun z : He.AlD => z.2) h2
  simp only [Bool.and_eq_true] at a1 a2
  show (((((fa1 ++ fa2).all fun f => f.ok K) && (fn1 ++ fn2).all fun d => d.ok K) && kitB xs K, (fn1 ++ fn2).map fun d => He.fnW K d.at_) : He.AlD) = (true, (fn1 ++ fn2).map He.DefD.val)
  rw [List.all_append, List.all_append, List.map_append, List.map_append, b1, b2, a1.1.1, a1.1.2, a2.1.1, a2.1.2, a2.2]
  rfl
theorem opt_app {α : Type} {X : Option α} {k : α → PySem.W.Frag} {fa1 fa2 : List He.Fa} {fn1 fn2 : List He.DefD} {xs : List Str} (h1 : X.map (fun s => obsX fa1 fn1 [] (k s)) = some (He.valD fn1)) (h2 : X.map (fun s => obsX fa2 fn2 xs (k s)) = some (He.valD fn2)) : X.map (fun s => obsX (fa1 ++ fa2) (fn1 ++ fn2) xs (k s)) = some (He.valD (fn1 ++ fn2)) := by
  cases X with
  | none => cases h1
  | some s => exact congrArg some (obsX_app (Option.some.inj h1) (Option.some.inj h2))
theorem opt_two {α β γ δ : Type} {X : Option α} {f : α → β} {g : α → γ} {h : α → δ} {a : β} {b : γ} {c : δ} (A : X.map (fun s => (f s, g s)) = some (a, b)) (C : X.map h = some c) : X.map (fun s => (f s, g s, h s)) = some (a, b, c) := by
  cases X with
  | none => cases A
  | some s =>
    have e := Option.some.inj A
    have e1 : f s = a := congrArg Prod.fst e
    have e2 : g s = b := congrArg Prod.snd e
    rw [← Option.some.inj C, ← e1, ← e2]; rfl
end RS

namespace RS
open PySem
def i_is_within : Nat := 0
def i_is_land : Nat := 1
def i_checked : Nat := 2
def i_shown : Nat := 3
def i_height_in : Nat := 4
def i_read : Nat := 5
def i_law_cell : Nat := 6
def i_law_mix : Nat := 7
def i_law_land : Nat := 8
def i_law_refused : Nat := 9
def i_law_by_base : Nat := 10
def i_law_bad : Nat := 11
def i_law : Nat := 12
def g_LEAST_SIZE : Nat := 0
def g_MOST_SIZE : Nat := 1
def g_MOST_HEIGHT : Nat := 2
def g_FIGURES : Nat := 3
def e_SightError : Nat := 0
def e_BadLand : Nat := 1
def e_BadText : Nat := 2
def D_is_within : Fn := ⟨"is_within", ["thing", "low", "high"], ["thing", "low", "high"],
  (.cons (.ret (.bop true (.cons (.isi (.var 0) .int) (.cons (.not (.isi (.var 0) .bool)) (.cons (.chain .le .le (.var 1) (.var 0) (.var 2)) .nil))))) .nil), 0, "is_within", .nil⟩
def D_is_land : Fn := ⟨"is_land", ["thing"], ["thing", "height"],
  (.cons (.ite (.bop false (.cons (.not (.tr (.isi (.var 0) .tuple))) (.cons (.not (.chain .le .le (.glob g_LEAST_SIZE) (.bi .len (.cons (.var 0) .nil)) (.glob g_MOST_SIZE))) .nil))) (.cons (.ret (.bl false)) .nil) .nil) (.cons (.ret (.not (.comp (.var 1) (.one 1) (.val (.var 0)) (.cons (.not (.tr (.call i_is_within (.cons (.var 1) (.cons (.int 0) (.cons (.glob g_MOST_HEIGHT) .nil)))))) .nil)))) .nil)), 0, "is_land", .nil⟩
def D_checked : Fn := ⟨"checked", ["land"], ["land"],
  (.cons (.ite (.not (.tr (.call i_is_land (.cons (.var 0) .nil)))) (.cons (.rai e_BadLand) .nil) .nil) (.cons (.ret (.var 0)) .nil)), 0, "checked", .nil⟩
def D_shown : Fn := ⟨"shown", ["land"], ["land", "height"],
  (.cons (.ret (.join (.str " ") (.comp (.bi .str (.cons (.var 1) .nil)) (.one 1) (.val (.call i_checked (.cons (.var 0) .nil))) .nil))) .nil), 0, "shown", .nil⟩
def D_height_in : Fn := ⟨"height_in", ["word"], ["word", "sign"],
  (.cons (.ite (.bop false (.cons (.not (.chain .le .le (.int 1) (.bi .len (.cons (.var 0) .nil)) (.int 3))) (.cons (.tr (.comp (.var 1) (.one 1) (.val (.var 0)) (.cons (.cmp .notin (.var 1) (.glob g_FIGURES)) .nil))) .nil))) (.cons (.rai e_BadText) .nil) .nil) (.cons (.ret (.bi .int (.cons (.var 0) .nil))) .nil)), 0, "height_in", .nil⟩
def D_read : Fn := ⟨"read", ["text"], ["text", "found", "word"],
  (.cons (.ite (.not (.tr (.isi (.var 0) .str))) (.cons (.rai e_BadText) .nil) .nil) (.cons (.asgX 1 (.call i_height_in (.cons (.var 2) .nil)) 2 (.val (.split (.var 0) (.str " ")))) (.cons (.ite (.bop false (.cons (.not (.tr (.call i_is_land (.cons (.var 1) .nil)))) (.cons (.cmp .ne (.call i_shown (.cons (.var 1) .nil)) (.var 0)) .nil))) (.cons (.rai e_BadText) .nil) .nil) (.cons (.ret (.var 1)) .nil)))), 0, "read", .nil⟩
def D_law_cell : Fn := ⟨"_law_cell", ["script", "k"], ["script", "k"],
  (.cons (.ite (.cmp .lt (.var 1) (.bi .len (.cons (.var 0) .nil))) (.cons (.ret (.ix (.var 0) (.var 1))) .nil) .nil) (.cons (.ret (.int 0)) .nil)), 0, "_law_cell", .nil⟩
def D_law_mix : Fn := ⟨"_law_mix", ["cell", "prime", "many"], ["cell", "prime", "many"],
  (.cons (.ret (.bin .mod (.bin .mod (.bin .pow (.bin .mod (.bin .mul (.var 0) (.int 48271)) (.var 1)) (.int 3)) (.var 1)) (.var 2))) .nil), 0, "_law_mix", .nil⟩
def D_law_land : Fn := ⟨"_law_land", ["script", "at"], ["script", "at", "cell", "many", "most", "found", "k"],
  (.cons (.asg 2 (.call i_law_cell (.cons (.var 0) (.cons (.var 1) .nil)))) (.cons (.asg 3 (.bin .add (.int 2) (.call i_law_mix (.cons (.var 2) (.cons (.int 9973) (.cons (.int 6) .nil)))))) (.cons (.ite (.cmp .eq (.call i_law_mix (.cons (.bin .add (.call i_law_cell (.cons (.var 0) (.cons (.int 0) .nil))) (.bin .mul (.int 7) (.bi .len (.cons (.var 0) .nil)))) (.cons (.int 9871) (.cons (.int 8) .nil)))) (.int 3)) (.cons (.asg 3 (.bin .add (.int 2) (.call i_law_mix (.cons (.var 2) (.cons (.int 9973) (.cons (.int 11) .nil)))))) .nil) .nil) (.cons (.asg 4 (.ix (.lst (.cons (.int 4) (.cons (.int 9) (.cons (.int 30) (.cons (.int 900) .nil))))) (.call i_law_mix (.cons (.var 2) (.cons (.int 9967) (.cons (.int 4) .nil)))))) (.cons (.asg 5 (.comp (.call i_law_mix (.cons (.bin .add (.bin .add (.call i_law_cell (.cons (.var 0) (.cons (.bin .add (.bin .add (.var 1) (.int 1)) (.bin .mod (.var 6) (.int 8))) .nil))) (.bin .mul (.bin .mul (.int 37) (.var 6)) (.var 6))) (.var 6)) (.cons (.int 9949) (.cons (.var 4) .nil)))) (.one 6) (.rng1 (.var 3)) .nil)) (.cons (.ret (.bi .tuple (.cons (.var 5) .nil))) .nil)))))), 0, "_law_land", .nil⟩
def D_law_refused : Fn := ⟨"_law_refused", ["text"], ["text"],
  (.cons (.tryE e_BadText 3 none (.cons (.expr (.call i_read (.cons (.var 0) .nil))) .nil) [.ret (.bl true)]) (.cons (.ret (.bl false)) .nil)), 0, "_law_refused", .nil⟩
def D_law_by_base : Fn := ⟨"_law_by_base", ["text"], ["text", "e"],
  (.cons (.tryE e_SightError 3 (some 1) (.cons (.expr (.call i_read (.cons (.var 0) .nil))) .nil) [.ret (.one none)]) (.cons (.ret (.bl false)) .nil)), 0, "_law_by_base", .nil⟩
def D_law_bad : Fn := ⟨"_law_bad", ["script", "text"], ["script", "text", "spot", "way"],
  (.cons (.asg 2 (.bin .mod (.call i_law_cell (.cons (.var 0) (.cons (.int 1) .nil))) (.bi .len (.cons (.var 1) .nil)))) (.cons (.asg 3 (.bin .mod (.bin .fdiv (.call i_law_cell (.cons (.var 0) (.cons (.int 0) .nil))) (.int 3)) (.int 4))) (.cons (.ite (.cmp .eq (.var 3) (.int 0)) (.cons (.ret (.bin .add (.slU (.var 1) (.var 2)) (.slL (.var 1) (.bin .add (.var 2) (.int 1))))) .nil) .nil) (.cons (.ite (.cmp .eq (.var 3) (.int 1)) (.cons (.ret (.bin .add (.slU (.var 1) (.bin .add (.var 2) (.int 1))) (.slL (.var 1) (.var 2)))) .nil) .nil) (.cons (.ite (.cmp .eq (.var 3) (.int 2)) (.cons (.ret (.bin .add (.bin .add (.slU (.var 1) (.var 2)) (.ix (.str "0179 -\nx") (.bin .mod (.call i_law_cell (.cons (.var 0) (.cons (.int 2) .nil))) (.int 8)))) (.slL (.var 1) (.bin .add (.var 2) (.int 1))))) .nil) .nil) (.cons (.ret (.ix (.lst (.cons (.str "") (.cons (.str "5") (.cons (.str "5  6") (.cons (.str "05 6") (.cons (.str "5 6 ") (.cons (.str "5 1000") (.cons .non (.cons (.int 7) (.cons (.str "5\n6") .nil)))))))))) (.bin .mod (.call i_law_cell (.cons (.var 0) (.cons (.int 1) .nil))) (.int 9)))) .nil)))))), 0, "_law_bad", .nil⟩
def D_law : Fn := ⟨"law", ["script"], ["script", "land", "text", "bad", "found", "height"],
  (.cons (.asg 1 (.call i_law_land (.cons (.var 0) (.cons (.int 3) .nil)))) (.cons (.asg 2 (.call i_shown (.cons (.var 1) .nil))) (.cons (.ite (.bop false (.cons (.cmp .ne (.var 2) (.join (.str " ") (.comp (.bi .str (.cons (.var 5) .nil)) (.one 5) (.val (.var 1)) .nil))) (.cons (.cmp .ne (.call i_read (.cons (.var 2) .nil)) (.var 1)) .nil))) (.cons (.ret (.bl false)) .nil) .nil) (.cons (.ite (.cmp .eq (.bin .mod (.call i_law_cell (.cons (.var 0) (.cons (.int 0) .nil))) (.int 3)) (.int 0)) (.cons (.ret (.isi (.var 2) .str)) .nil) .nil) (.cons (.asg 3 (.call i_law_bad (.cons (.var 0) (.cons (.var 2) .nil)))) (.cons (.ite (.tr (.call i_law_refused (.cons (.var 3) .nil))) (.cons (.ret (.call i_law_by_base (.cons (.var 3) .nil))) .nil) .nil) (.cons (.asg 4 (.call i_read (.cons (.var 3) .nil))) (.cons (.ret (.bop true (.cons (.cmp .lt (.bin .mod (.bin .fdiv (.call i_law_cell (.cons (.var 0) (.cons (.int 0) .nil))) (.int 3)) (.int 4)) (.int 3)) (.cons (.cmp .eq (.call i_checked (.cons (.var 4) .nil)) (.var 4)) (.cons (.cmp .eq (.call i_shown (.cons (.var 4) .nil)) (.var 3)) .nil))))) .nil)))))))), 0, "law", .nil⟩
def P : Pg := ⟨[D_is_within, D_is_land, D_checked, D_shown, D_height_in, D_read, D_law_cell, D_law_mix, D_law_land, D_law_refused, D_law_by_base, D_law_bad, D_law], [("LEAST_SIZE", .int 2), ("MOST_SIZE", .int 12), ("MOST_HEIGHT", .int 999), ("FIGURES", .str "0123456789")], ["SightError", "BadLand", "BadText"], "", []⟩
theorem f_is_within : P.fns[i_is_within]? = some D_is_within := rfl
theorem f_is_land : P.fns[i_is_land]? = some D_is_land := rfl
theorem f_checked : P.fns[i_checked]? = some D_checked := rfl
theorem f_shown : P.fns[i_shown]? = some D_shown := rfl
theorem f_height_in : P.fns[i_height_in]? = some D_height_in := rfl
theorem f_read : P.fns[i_read]? = some D_read := rfl
theorem f_law_cell : P.fns[i_law_cell]? = some D_law_cell := rfl
theorem f_law_mix : P.fns[i_law_mix]? = some D_law_mix := rfl
theorem f_law_land : P.fns[i_law_land]? = some D_law_land := rfl
theorem f_law_refused : P.fns[i_law_refused]? = some D_law_refused := rfl
theorem f_law_by_base : P.fns[i_law_by_base]? = some D_law_by_base := rfl
theorem f_law_bad : P.fns[i_law_bad]? = some D_law_bad := rfl
theorem f_law : P.fns[i_law]? = some D_law := rfl
@[simp] theorem gl_LEAST_SIZE : P.gl g_LEAST_SIZE = some (.int 2) := rfl
@[simp] theorem gl_MOST_SIZE : P.gl g_MOST_SIZE = some (.int 12) := rfl
@[simp] theorem gl_MOST_HEIGHT : P.gl g_MOST_HEIGHT = some (.int 999) := rfl
@[simp] theorem gl_FIGURES : P.gl g_FIGURES = some (.str "0123456789") := rfl
end RS

namespace RS
open PySem PySem.Spec PySem.W PySem.Calls PyProof.Rows L2
def top (i : Nat) : Stmt := PySem.Challenge.pw_ridgesight_k16_texts.main.body.getD i (.Pass ⟨0, 0, 0, 0⟩)
def topM (p : Nat × Option Nat) : Stmt := match p.2 with | none => top p.1 | some j => (match top p.1 with | .ClassDef (body := b) .. => b.getD j (.Pass ⟨0, 0, 0, 0⟩) | _ => .Pass ⟨0, 0, 0, 0⟩)
def tabI : List (Nat × Option Nat) := [(8, none), (9, none), (10, none), (13, none), (14, none), (15, none), (17, none), (18, none), (19, none), (20, none), (21, none), (22, none), (23, none)]
theorem okAll : ((P.fns.zip tabI).all fun p => okFn P p.1 (topM p.2)) = true := by decide +kernel
def atF (f : Fn) : Str × Option Str := if f.kind = 0 then (f.name, none) else (P.ycls, some f.name)
def mkD (p : Fn × Nat × Option Nat) : He.DefD := ⟨atF p.1, p.1.name, p.1.qual, defArgs (topM p.2), defBody (topM p.2), defScope (topM p.2), [], []⟩
def defs : List He.DefD := (P.fns.zip tabI).map mkD
def yFacts : List He.Fa := []
def facts : List He.Fa := ((P.fns.filter fun f => f.kind == 0).map fun f => He.Fa.glo f.name) ++ yFacts ++ bltNames.map He.Fa.free ++ P.excs.map He.Fa.glo ++ P.excs.map He.Fa.exc ++ [.int "LEAST_SIZE" 2, .int "MOST_SIZE" 12, .int "MOST_HEIGHT" 999, .str "FIGURES" "0123456789"]
abbrev Rw : PySem.W.OpenRow := PySem.W.OpenLaw.row PySem.Challenge.rw_ridgesight_k16_texts
abbrev hk : PySem.W.Hook := hookX 4 facts defs P.excs
def ob (s : PySem.W.SharedT) : He.AlD := obsXG 4 facts defs P.excs (HandSHeadRun.getT s)
theorem ob_eq (s : PySem.W.SharedT) : ob s = hk.obs s.abs := obsXG_eq (HandSHeadRun.getT_eq s)
def names0 : List PySem.Str := ["SightError", "BadLand", "BadText", "is_within", "is_land", "checked", "shown", "height_in", "read", "_law_cell", "_law_mix", "_law_land", "_law_refused", "_law_by_base", "_law_bad", "LEAST_SIZE"]
def names1 : List PySem.Str := ["MOST_SIZE", "MOST_HEIGHT", "FIGURES"]
def names : List PySem.Str := names0 ++ names1

theorem laidOf {K : PySem.W.Frag} {h : Heap} {mg : Str → Option Value} (X : K.In h) (G : h.Ns mainGlobals mg) (cx : SaysX facts defs P.excs K) : Laid P ⟨K, He.ga K P.ycls, P.flds, exA K P.excs⟩ K mg := by
  obtain ⟨c, ckit⟩ := cx.says
  have fact : ∀ f ∈ facts, f.ok K = true := fun f hf => by
    obtain ⟨i, hi, e⟩ := List.getElem_of_mem hf
    exact c.fact i (by rw [List.getElem?_eq_getElem hi, e])
  refine ⟨rfl, fun f fn hf => ?_, fun hy => ?_, by decide, fun x hx => ?_, fun g x d hg => ?_, fun e x hx => ?_, kitB_ok ckit⟩
  · have hl : f < P.fns.length := (List.getElem?_eq_some_iff.mp hf).1
    have hz : ∃ i, (P.fns.zip tabI)[f]? = some (fn, i) := by
      have ht : f < tabI.length := Nat.lt_of_lt_of_eq hl (by decide)
      exact ⟨tabI[f], by rw [List.getElem?_zip_eq_some]; exact ⟨hf, List.getElem?_eq_getElem ht⟩⟩
    obtain ⟨i, hz⟩ := hz
    have ho := List.all_eq_true.mp okAll (fn, i) (List.mem_of_getElem? hz)
    obtain ⟨fd, F⟩ := c.def_ f (d := mkD (fn, i)) (by unfold defs; rw [List.getElem?_map, hz]; rfl)
    have hm := List.mem_of_getElem? hf
    refine ⟨topM i, _, fd, ho, F, fun hk => ?_, fun hk => ?_, fun hk => ?_⟩
    · have ea : (mkD (fn, i)).at_ = (fn.name, none) := by show atF fn = _; unfold atF; rw [if_pos hk]
      rw [ea]
      exact He.glo_ok X G (fact _ (by unfold facts; simp only [List.mem_append, List.mem_map, List.mem_filter]; exact .inl (.inl (.inl (.inl (.inl ⟨fn, ⟨hm, by simp [hk]⟩, rfl⟩))))))
    · have ea : (mkD (fn, i)).at_ = (P.ycls, some fn.name) := by show atF fn = _; unfold atF; rw [if_neg (by omega)]
      rw [ea]
      exfalso
      have : (P.fns.all fun f => f.kind == 0) = true := by decide +kernel
      have := List.all_eq_true.mp this fn hm
      simp [hk] at this
    · have ea : (mkD (fn, i)).at_ = (P.ycls, some fn.name) := by show atF fn = _; unfold atF; rw [if_neg (by omega)]
      rw [ea]
      exfalso
      have : (P.fns.all fun f => f.kind == 0) = true := by decide +kernel
      have := List.all_eq_true.mp this fn hm
      simp [hk] at this
  · exact absurd rfl hy
  · exact He.free_ok X G (fact _ (by unfold facts; simp only [List.mem_append, List.mem_map]; exact .inl (.inl (.inl (.inr ⟨x, hx, rfl⟩)))))
  · revert hg; intro hg; have hm := List.mem_of_getElem? hg; simp only [P, List.mem_cons, List.not_mem_nil, or_false] at hm
    rcases hm with hm | hm | hm | hm
    · cases hm; obtain ⟨t, e⟩ := He.int_ok X G (fact (.int "LEAST_SIZE" 2) (by unfold facts; simp)); exact ⟨_, .int 2, e, ⟨t, rfl⟩, fun Z => .int _, by decide⟩
    · cases hm; obtain ⟨t, e⟩ := He.int_ok X G (fact (.int "MOST_SIZE" 12) (by unfold facts; simp)); exact ⟨_, .int 12, e, ⟨t, rfl⟩, fun Z => .int _, by decide⟩
    · cases hm; obtain ⟨t, e⟩ := He.int_ok X G (fact (.int "MOST_HEIGHT" 999) (by unfold facts; simp)); exact ⟨_, .int 999, e, ⟨t, rfl⟩, fun Z => .int _, by decide⟩
    · cases hm; obtain ⟨t, e⟩ := He.str_ok X G (fact (.str "FIGURES" "0123456789") (by unfold facts; simp)); exact ⟨_, .str "0123456789", e, ⟨t, rfl⟩, fun Z => .str _, by decide⟩
  · have hm := List.mem_of_getElem? hx
    have e1 := He.glo_ok X G (fact (.glo x) (by unfold facts; simp only [List.mem_append, List.mem_map]; exact .inl (.inl (.inr ⟨x, hm, rfl⟩))))
    have e2 := He.exc_ok (fact (.exc x) (by unfold facts; simp only [List.mem_append, List.mem_map]; exact .inl (.inr ⟨x, hm, rfl⟩)))
    have hd : P.excs.getD e "" = x := by rw [List.getD_eq_getElem?_getD, hx]; rfl
    have hb : (x == ("__debug__" : Str)) = false := by
      have : (P.excs.all fun x => !(x == ("__debug__" : Str))) = true := by decide +kernel
      simpa using List.all_eq_true.mp this x hm
    show ExcFact K mg x (He.ga K (P.excs.getD e ""))
    rw [hd]
    exact ⟨e1, e2.1, e2.2.1, e2.2.2.1, e2.2.2.2, hb⟩
theorem run (w : World) : HandSHeadRun.RunEq Rw (PySem.W.view Rw.prog [23]) hk ob 60000 names w := by
  intro os
  kernel_rfl
theorem law_end (h : ∀ ns : List Int, ns.length ≤ 63 → interp P 40 i_law [.scr ns] = .ok (.bl true)) : PySem.Challenge.rw_ridgesight_k16_texts.Holds := by
  w_on; o_law
  refine HandSHeadRun.head_any (r := PySem.W.OpenLaw.row PySem.Challenge.rw_ridgesight_k16_texts) (q := PySem.W.view (PySem.W.OpenLaw.row PySem.Challenge.rw_ridgesight_k16_texts).prog [23]) (H := hk) (ob := ob) (M := 60000) (loose := names) (d := HandSHeadRun.topDef (PySem.W.OpenLaw.row PySem.Challenge.rw_ridgesight_k16_texts).prog 23) (kwd := []) ob_eq
    (by kernel_rfl) (fun s => by kernel_rfl) run (by kernel_rfl) (by kernel_rfl) (by kernel_rfl) (by rfl) (by first | assumption | decide +kernel) (by decide +kernel) ⟨rfl, rfl, rfl, rfl, rfl, by decide +kernel⟩ ?hw ?hc
  case hw => w_witness2
  case hc =>
    refine L2.walk_ofE (l := PySem.Challenge.rw_ridgesight_k16_texts) (n := 63) (k := 40) (x := "script") (CX := CXa PySem.Challenge.pw_ridgesight_k16_texts) rfl (by decide) (by kernel_rfl) ⟨rfl, by decide, by decide⟩ ?F (fun _ _ _ _ z => CXa.no z)
    intro w mg fa hh Y G hmg0
    obtain ⟨K, KX, c⟩ := Y
    have hmg : mg ("law" : PySem.Str) = some (.ref fa) := by
      have e : (HandSHeadRun.topDef (PySem.W.OpenLaw.row PySem.Challenge.rw_ridgesight_k16_texts).prog 23).name = ("law" : PySem.Str) := by kernel_rfl
      rw [← e]
      exact hmg0
    have L := laidOf KX G c
    have hf : P.fns[i_law]? = some D_law := f_law
    obtain ⟨st, a, fd, ho, F, hm0, -, -⟩ := L.fns i_law D_law hf
    have hm := hm0 rfl
    have ea : a = fa := by
      have e : mg ("law" : PySem.Str) = some (.ref a) := hm
      rw [hmg] at e
      exact (Value.ref.inj (Option.some.inj e)).symm
    subst ea
    refine ⟨K, fd, spOf ⟨K, He.ga K P.ycls, P.flds, exA K P.excs⟩ 1 (interp P 40 i_law), KX, fun s u => bindsTo_of ho rfl F s u, fun H a ns hl _ hS => ⟨rfl, H, [.scr ns], fun _ _ z => z, .cons (.scr hS) .nil, ?_⟩, fun base _ _ => fnok_cx (ok_at L hf (by decide) ho F 39)⟩
    rw [h ns hl]
    intro v H' Z' _ r
    exact r.bl_inv

end RS

namespace RS
open PySem
/-! ### running a def -/
theorem run_fn' {P : Pg} {f : Nat} {fn : Fn} (h : P.fns[f]? = some fn) (n : Nat) (ds : List D) (hk : fn.kind ≠ 2 := by decide) : interp P (n + 1) f ds = if ds.length = fn.ps.length then (denSs (interp P n) P.gl fn.body (env0 fn.N ds)).fin else .bad := by
  simp only [interp, h, if_neg hk]
/-! ### one step of the interpreter -/
section
variable (φ : Nat → List D → R D) (gl : Nat → Option D)
theorem dE_var (i : Nat) (ρ : Env) : denE φ gl (.var i) ρ = match ρ[i]? with | some (.val d) => R.ok d | _ => .bad := by simp only [denE] <;> rfl
theorem dE_int (n : Int) (ρ : Env) : denE φ gl (.int n) ρ = .ok (.int n) := by simp only [denE] <;> rfl
theorem dE_bl (b : Bool) (ρ : Env) : denE φ gl (.bl b) ρ = .ok (.bl b) := by simp only [denE] <;> rfl
theorem dE_non  (ρ : Env) : denE φ gl .non ρ = .ok .non := by simp only [denE] <;> rfl
theorem dE_str (s : Str) (ρ : Env) : denE φ gl (.str s) ρ = .ok (.str s) := by simp only [denE] <;> rfl
theorem dE_glob (g : Nat) (ρ : Env) : denE φ gl (.glob g) ρ = match gl g with | some d => R.ok d | none => .bad := by simp only [denE] <;> rfl
theorem dE_neg (a : E) (ρ : Env) : denE φ gl (.neg a) ρ = (denE φ gl a ρ).bind negD := by simp only [denE] <;> rfl
theorem dE_not (a : E) (ρ : Env) : denE φ gl (.not a) ρ = (denE φ gl a ρ).bind notD := by simp only [denE] <;> rfl
theorem dE_bin (o : Bop) (a : E) (b : E) (ρ : Env) : denE φ gl (.bin o a b) ρ = (denE φ gl a ρ).bind fun x => (denE φ gl b ρ).bind fun y => binD o x y := by simp only [denE] <;> rfl
theorem dE_cmp (o : Cop) (a : E) (b : E) (ρ : Env) : denE φ gl (.cmp o a b) ρ = (denE φ gl a ρ).bind fun x => (denE φ gl b ρ).bind fun y => (cmpD o x y).bind fun k => .ok (.bl k) := by simp only [denE] <;> rfl
theorem dE_chain (o : Cop) (o2 : Cop) (a : E) (b : E) (c : E) (ρ : Env) : denE φ gl (.chain o o2 a b c) ρ = (denE φ gl a ρ).bind fun x => (denE φ gl b ρ).bind fun y => (cmpD o x y).bind fun k => if k = true then (denE φ gl c ρ).bind fun z => (cmpD o2 y z).bind fun k => .ok (.bl k) else .ok (.bl false) := by simp only [denE] <;> rfl
theorem dE_bop (k : Bool) (es : Es) (ρ : Env) : denE φ gl (.bop k es) ρ = denB φ gl k es ρ := by simp only [denE] <;> rfl
theorem dE_ite (c : T) (a : E) (b : E) (ρ : Env) : denE φ gl (.ite c a b) ρ = (denT φ gl c ρ).bind fun k => if k = true then denE φ gl a ρ else denE φ gl b ρ := by simp only [denE] <;> rfl
theorem dE_tup (es : Es) (ρ : Env) : denE φ gl (.tup es) ρ = (denEs φ gl es ρ).bind fun ds => if ds.length ≤ big then .ok (.tup ds) else .bad := by simp only [denE] <;> rfl
theorem dE_lst (es : Es) (ρ : Env) : denE φ gl (.lst es) ρ = (denEs φ gl es ρ).bind fun ds => if ds.length ≤ big then .ok (.lst ds) else .bad := by simp only [denE] <;> rfl
theorem dE_call (f : Nat) (es : Es) (ρ : Env) : denE φ gl (.call f es) ρ = (denEs φ gl es ρ).bind (φ f) := by simp only [denE] <;> rfl
theorem dE_bi (b : Bi) (es : Es) (ρ : Env) : denE φ gl (.bi b es) ρ = (denEs φ gl es ρ).bind (biD b) := by simp only [denE] <;> rfl
theorem dE_isi (a : E) (t : Ty) (ρ : Env) : denE φ gl (.isi a t) ρ = (denE φ gl a ρ).bind fun x => (isiD x t).bind fun k => .ok (.bl k) := by simp only [denE] <;> rfl
theorem dE_ix (a : E) (i : E) (ρ : Env) : denE φ gl (.ix a i) ρ = (denE φ gl a ρ).bind fun x => (denE φ gl i ρ).bind fun y => ixD x y := by simp only [denE] <;> rfl
theorem dE_slU (a : E) (b : E) (ρ : Env) : denE φ gl (.slU a b) ρ = (denE φ gl a ρ).bind fun x => (denE φ gl b ρ).bind fun y => (ixOf y).bind fun j => slD x none (some j) := by simp only [denE] <;> rfl
theorem dE_slL (a : E) (b : E) (ρ : Env) : denE φ gl (.slL a b) ρ = (denE φ gl a ρ).bind fun x => (denE φ gl b ρ).bind fun y => (ixOf y).bind fun j => slD x (some j) none := by simp only [denE] <;> rfl
theorem dE_slB (a : E) (b : E) (c : E) (ρ : Env) : denE φ gl (.slB a b c) ρ = (denE φ gl a ρ).bind fun x => (denE φ gl b ρ).bind fun y => (ixOf y).bind fun i => (denE φ gl c ρ).bind fun y => (ixOf y).bind fun j => slD x (some i) (some j) := by simp only [denE] <;> rfl
theorem dE_rev (a : E) (ρ : Env) : denE φ gl (.rev a) ρ = (denE φ gl a ρ).bind revD := by simp only [denE] <;> rfl
theorem dE_olen (i : Nat) (ρ : Env) : denE φ gl (.olen i) ρ = match ρ[i]? with | some (.own ds) => R.ok (.int ds.length) | _ => .bad := by simp only [denE] <;> rfl
theorem dE_oix (i : Nat) (e : E) (ρ : Env) : denE φ gl (.oix i e) ρ = match ρ[i]? with | some (.own ds) => (denE φ gl e ρ).bind fun y => ixD (.lst ds) y | _ => .bad := by simp only [denE] <;> rfl
theorem dEs_nil (ρ : Env) : denEs φ gl .nil ρ = .ok [] := by simp only [denEs]
theorem dEs_cons (e : E) (es : Es) (ρ : Env) : denEs φ gl (.cons e es) ρ = (denE φ gl e ρ).bind fun x => (denEs φ gl es ρ).bind fun xs => .ok (x :: xs) := by simp only [denEs]
theorem dB_one (k : Bool) (e : E) (ρ : Env) : denB φ gl k (.cons e .nil) ρ = denE φ gl e ρ := by simp only [denB]
theorem dB_cons (k : Bool) (e e2 : E) (es : Es) (ρ : Env) : denB φ gl k (.cons e (.cons e2 es)) ρ = (denE φ gl e ρ).bind fun x => match x with | .bl c => if c = k then denB φ gl k (.cons e2 es) ρ else .ok (.bl c) | _ => .bad := by simp only [denB] <;> rfl
theorem dT_tr (e : E) (ρ : Env) : denT φ gl (.tr e) ρ = (denE φ gl e ρ).bind truD := by simp only [denT] <;> rfl
theorem dT_otr (i : Nat) (ρ : Env) : denT φ gl (.otr i) ρ = match ρ[i]? with | some (.own ds) => R.ok (!ds.isEmpty) | _ => .bad := by simp only [denT] <;> rfl
theorem dT_cmp (o : Cop) (a : E) (b : E) (ρ : Env) : denT φ gl (.cmp o a b) ρ = (denE φ gl a ρ).bind fun x => (denE φ gl b ρ).bind fun y => cmpD o x y := by simp only [denT] <;> rfl
theorem dT_chain (o : Cop) (o2 : Cop) (a : E) (b : E) (c : E) (ρ : Env) : denT φ gl (.chain o o2 a b c) ρ = (denE φ gl a ρ).bind fun x => (denE φ gl b ρ).bind fun y => (cmpD o x y).bind fun k => if k = true then (denE φ gl c ρ).bind fun z => cmpD o2 y z else .ok false := by simp only [denT] <;> rfl
theorem dT_bop (k : Bool) (ts : Ts) (ρ : Env) : denT φ gl (.bop k ts) ρ = denTs φ gl k ts ρ := by simp only [denT] <;> rfl
theorem dT_not (t : T) (ρ : Env) : denT φ gl (.not t) ρ = (denT φ gl t ρ).bind fun b => .ok (!b) := by simp only [denT] <;> rfl
theorem dE_index (a b : E) (ρ : Env) : denE φ gl (.index a b) ρ = (denE φ gl a ρ).bind fun x => (lstD x).bind fun _ => (denE φ gl b ρ).bind fun y => idxD x y := by simp only [denE] <;> rfl
theorem dE_split (a b : E) (ρ : Env) : denE φ gl (.split a b) ρ = (denE φ gl a ρ).bind fun x => (strD x).bind fun s => (denE φ gl b ρ).bind (splitD s) := by simp only [denE] <;> rfl
theorem dE_join (a b : E) (ρ : Env) : denE φ gl (.join a b) ρ = (denE φ gl a ρ).bind fun x => (strD x).bind fun s => (denE φ gl b ρ).bind (joinD s) := by simp only [denE] <;> rfl
theorem dE_trng (a : E) (ρ : Env) : denE φ gl (.trng a) ρ = (denE φ gl a ρ).bind fun x => (ixOf x).bind trngD := by simp only [denE] <;> rfl
theorem dT_chain3 (o o2 o3 : Cop) (a b c d : E) (ρ : Env) : denT φ gl (.chain3 o o2 o3 a b c d) ρ = (denE φ gl a ρ).bind fun x => (denE φ gl b ρ).bind fun y => (cmpD o x y).bind fun k => if k = true then (denE φ gl c ρ).bind fun z => (cmpD o2 y z).bind fun k => if k = true then (denE φ gl d ρ).bind fun u => cmpD o3 z u else .ok false else .ok false := by simp only [denT] <;> rfl
theorem dS_newll (i : Nat) (e : E) (ρ : Env) : denS φ gl (.newll i e) ρ = (denE φ gl e ρ).out ρ fun x => (ltD x).out ρ fun ds => .nx (ρ.set i (.own ds)) := by simp only [denS] <;> rfl
theorem dS_asgX (i : Nat) (el : E) (j : Nat) (it : I) (ρ : Env) : denS φ gl (.asgX i el j it) ρ = ((cmpX (denI φ gl it ρ) fun d => denE φ gl el ((wipeE ρ [j]).set j (.val d))).bind fun x => biD .tuple [x]).out ρ fun d => .nx (ρ.set i (.val d)) := by simp only [denS] <;> rfl
theorem dS_try (cl nx : Nat) (nm : Option Nat) (b : Ss) (hs : List HS) (ρ : Env) : denS φ gl (.tryE cl nx nm b hs) ρ = tryD cl nx nm hs (denSs φ gl b ρ) := by simp only [denS]
theorem dE_fld (a : E) (k : Nat) (ρ : Env) : denE φ gl (.fld a k) ρ = (denE φ gl a ρ).bind (fldD k) := by simp only [denE]
theorem dE_new (f : Nat) (es : Es) (ρ : Env) : denE φ gl (.new f es) ρ = (noX (denEs φ gl es ρ)).bind fun ds => noX (φ f ds) := by simp only [denE]
theorem dE_meth (f : Nat) (a : E) (es : Es) (ρ : Env) : denE φ gl (.meth f a es) ρ = (denE φ gl a ρ).bind fun x => (insD x).bind fun _ => (denEs φ gl es ρ).bind fun xs => noX (φ f (x :: xs)) := by simp only [denE]
theorem dTs_nil (k : Bool) (ρ : Env) : denTs φ gl k .nil ρ = .ok k := by simp only [denTs]
theorem dTs_cons (k : Bool) (t : T) (ts : Ts) (ρ : Env) : denTs φ gl k (.cons t ts) ρ = (denT φ gl t ρ).bind fun c => if c = k then denTs φ gl k ts ρ else .ok c := by simp only [denTs]
theorem dI_val (e : E) (ρ : Env) : denI φ gl (.val e) ρ = (denE φ gl e ρ).bind seqD := by simp only [denI] <;> rfl
theorem dI_own (i : Nat) (ρ : Env) : denI φ gl (.own i) ρ = match ρ[i]? with | some (.own ds) => R.ok ds | _ => .bad := by simp only [denI] <;> rfl
theorem dI_rng1 (e : E) (ρ : Env) : denI φ gl (.rng1 e) ρ = (denE φ gl e ρ).bind fun y => (ixOf y).bind fun j => rngD 0 j := by simp only [denI] <;> rfl
theorem dI_rng2 (a : E) (b : E) (ρ : Env) : denI φ gl (.rng2 a b) ρ = (denE φ gl a ρ).bind fun x => (denE φ gl b ρ).bind fun y => (ixOf x).bind fun i => (ixOf y).bind fun j => rngD i j := by simp only [denI] <;> rfl
theorem dI_enum (e : E) (ρ : Env) : denI φ gl (.enum e) ρ = (denE φ gl e ρ).bind fun x => (ltD x).bind fun ds => .ok (ds.mapIdx fun i d => .tup [.int (i : Nat), d]) := by simp only [denI] <;> rfl
theorem dI_zip (a : E) (b : E) (ρ : Env) : denI φ gl (.zip a b) ρ = (denE φ gl a ρ).bind fun x => (denE φ gl b ρ).bind fun y => (ltD x).bind fun ds => (lstD y).bind fun es => .ok ((ds.zip es).map fun p => .tup [p.1, p.2]) := by simp only [denI] <;> rfl
theorem dS_expr (e : E) (ρ : Env) : denS φ gl (.expr e) ρ = (denE φ gl e ρ).out ρ fun _ => .nx ρ := by simp only [denS] <;> rfl
theorem dS_asg (i : Nat) (e : E) (ρ : Env) : denS φ gl (.asg i e) ρ = (denE φ gl e ρ).out ρ fun d => .nx (ρ.set i (.val d)) := by simp only [denS] <;> rfl
theorem dS_newl (i : Nat) (ρ : Env) : denS φ gl (.newl i) ρ = .nx (ρ.set i (.own [])) := by simp only [denS] <;> rfl
theorem dS_par (i : Nat) (j : Nat) (a : E) (b : E) (ρ : Env) : denS φ gl (.par i j a b) ρ = (denE φ gl a ρ).out ρ fun x => (denE φ gl b ρ).out ρ fun y => .nx ((ρ.set i (.val x)).set j (.val y)) := by simp only [denS] <;> rfl
theorem dS_par3 (i j l : Nat) (a b c : E) (ρ : Env) : denS φ gl (.par3 i j l a b c) ρ = (denE φ gl a ρ).out ρ fun x => (denE φ gl b ρ).out ρ fun y => (denE φ gl c ρ).out ρ fun z => .nx (((ρ.set i (.val x)).set j (.val y)).set l (.val z)) := by simp only [denS]
theorem dS_unp (i : Nat) (j : Nat) (e : E) (ρ : Env) : denS φ gl (.unp i j e) ρ = (denE φ gl e ρ).out ρ fun x => (setT (.two i j) x ρ).out ρ fun ρ' => .nx ρ' := by simp only [denS] <;> rfl
theorem dS_ret (e : E) (ρ : Env) : denS φ gl (.ret e) ρ = (denE φ gl e ρ).out ρ fun d => .ret d := by simp only [denS] <;> rfl
theorem dS_ite (c : T) (a : Ss) (b : Ss) (ρ : Env) : denS φ gl (.ite c a b) ρ = (denT φ gl c ρ).out ρ fun k => if k = true then denSs φ gl a ρ else denSs φ gl b ρ := by simp only [denS] <;> rfl
theorem dS_rai (c : Nat) (ρ : Env) : denS φ gl (.rai c) ρ = .exc c ρ := by simp only [denS] <;> rfl
theorem dS_frz (i : Nat) (ρ : Env) : denS φ gl (.frz i) ρ = ownAt ρ i fun ds => .nx (ρ.set i (.val (.lst ds))) := by simp only [denS] <;> rfl
theorem dS_mt (m : Mt) (i : Nat) (es : Es) (ρ : Env) : denS φ gl (.mt m i es) ρ = ownAt ρ i fun ds => (denEs φ gl es ρ).out ρ fun xs => match gMt m ds xs with | some ds' => .nx (ρ.set i (.own ds')) | none => .bad := by simp only [denS] <;> rfl
theorem dS_seti (i : Nat) (a : E) (e : E) (ρ : Env) : denS φ gl (.seti i a e) ρ = (denE φ gl e ρ).out ρ fun d => ownAt ρ i fun ds => (denE φ gl a ρ).out ρ fun x => (ixOf x).out ρ fun k => match L2.ixN ds.length k with | some j => .nx (ρ.set i (.own (ds.set j d))) | none => .bad := by simp only [denS] <;> rfl
theorem dS_aug (i : Nat) (e : E) (ρ : Env) : denS φ gl (.aug i e) ρ = (denE φ gl (.bin .add (.var i) e) ρ).out ρ fun d => match d with | .int n => .nx (ρ.set i (.val (.int n))) | _ => .bad := by simp only [denS] <;> rfl
theorem dS_for (tg : Tg) (it : I) (b : Ss) (ρ : Env) : denS φ gl (.for_ tg it b) ρ = (denI φ gl it ρ).out ρ fun ds => forD tg (denSs φ gl b) ds ρ := by simp only [denS]
theorem dS_whl (c : T) (b : Ss) (ρ : Env) : denS φ gl (.whl c b) ρ = whileD (denT φ gl c) (denSs φ gl b) fuel ρ := by simp only [denS]
theorem dSs_nil (ρ : Env) : denSs φ gl .nil ρ = .nx ρ := by simp only [denSs]
theorem dSs_cons (s : S) (ss : Ss) (ρ : Env) : denSs φ gl (.cons s ss) ρ = (denS φ gl s ρ).then (denSs φ gl ss) := by simp only [denSs]
end
/-- a comprehension over a list of known items -/
theorem comp_eq {φ : Nat → List D → R D} {gl : Nat → Option D} {el : E} {i : Nat} {it : I} {cs : Ts} {ρ : Env} {α : Type} (l : List α) (m : α → D) (p : α → Bool) (e : α → D) (hI : denI φ gl it ρ = .ok (l.map m)) (hl : l.length ≤ big)
    (h : ∀ x ∈ l, denTs φ gl true cs (ρ.set i (.val (m x))) = .ok (p x) ∧ (p x = true → denE φ gl el (ρ.set i (.val (m x))) = .ok (e x))) : denE φ gl (.comp el (.one i) it cs) ρ = .ok (.lst ((l.filter p).map e)) := by
  simp only [denE, hI, R.ok_bind, List.length_map, if_pos hl]
  suffices hc : compR (fun d => (setT (.one i) d (wipeE ρ (Tg.one i).ixs)).bind fun ρ' => (denTs φ gl true cs ρ').bind fun k => if k = true then (denE φ gl el ρ').bind fun y => .ok (some y) else .ok none) (l.map m) = .ok ((l.filter p).map e) by
    rw [hc]; rfl
  clear hI hl
  induction l with
  | nil => rfl
  | cons a t ih =>
    have iht := ih fun x hx => h x (List.mem_cons_of_mem _ hx)
    obtain ⟨h1, h2⟩ := h a List.mem_cons_self
    simp only [List.map_cons, compR, iht]
    have hw : (ρ.set i PV.un).set i (.val (m a)) = ρ.set i (.val (m a)) := by rw [List.set_set]
    simp only [setT, wipeE, Tg.ixs, R.ok_bind, hw, h1]
    by_cases q : p a = true
    · rw [if_pos q, h2 q]; simp [noX, q]
    · rw [if_neg q]; simp [noX, q]
theorem comp_all {φ : Nat → List D → R D} {gl : Nat → Option D} {el : E} {i : Nat} {it : I} {ρ : Env} {α : Type} (l : List α) (m : α → D) (e : α → D) (hI : denI φ gl it ρ = .ok (l.map m)) (hl : l.length ≤ big)
    (h : ∀ x ∈ l, denE φ gl el (ρ.set i (.val (m x))) = .ok (e x)) : denE φ gl (.comp el (.one i) it .nil) ρ = .ok (.lst (l.map e)) := by
  rw [comp_eq l m (fun _ => true) e hI hl fun x hx => ⟨by rw [denTs], fun _ => h x hx⟩, List.filter_eq_self.mpr (by simp)]
theorem okB {α β : Type} (a : α) (f : α → R β) : (R.ok a).bind f = f a := Eq.trans rfl rfl
theorem excB {α β : Type} (c : Nat) (f : α → R β) : (R.exc c).bind f = .exc c := Eq.trans rfl rfl
theorem badB {α β : Type} (f : α → R β) : (R.bad : R α).bind f = .bad := Eq.trans rfl rfl
theorem ifT {α : Type} (a b : α) : (if True then a else b) = a := Eq.trans (if_pos trivial) rfl
@[simp] theorem out_ok {α : Type} (a : α) (ρ : Env) (f : α → O) : (R.ok a).out ρ f = f a := Eq.trans rfl rfl
@[simp] theorem out_exc {α : Type} (c : Nat) (ρ : Env) (f : α → O) : (R.exc c).out ρ f = .exc c ρ := Eq.trans rfl rfl
@[simp] theorem then_nx (ρ : Env) (f : Env → O) : (O.nx ρ).then f = f ρ := Eq.trans rfl rfl
@[simp] theorem then_ret (d : D) (f : Env → O) : (O.ret d).then f = .ret d := Eq.trans rfl rfl
@[simp] theorem then_exc (c : Nat) (ρ : Env) (f : Env → O) : (O.exc c ρ).then f = .exc c ρ := Eq.trans rfl rfl
@[simp] theorem fin_nx (ρ : Env) : (O.nx ρ).fin = .ok .non := Eq.trans rfl rfl
@[simp] theorem fin_ret (d : D) : (O.ret d).fin = .ok d := Eq.trans rfl rfl
@[simp] theorem fin_exc (c : Nat) (ρ : Env) : (O.exc c ρ).fin = .exc c := Eq.trans rfl rfl
theorem whileD_more {c : Env → R Bool} {b : Env → O} : ∀ (m j : Nat) (ρ : Env) (o : O), whileD c b m ρ = o → o ≠ .bad → whileD c b (m + j) ρ = o
  | 0, j, ρ, o, h, ho => absurd h.symm (by simpa [whileD] using ho)
  | m + 1, j, ρ, o, h, ho => by
    have e : m + 1 + j = (m + j) + 1 := by omega
    rw [e]
    simp only [whileD] at h ⊢
    cases hc : c ρ with
    | bad => rw [hc] at h; exact absurd h.symm ho
    | exc x => rw [hc] at h; exact h
    | ok k =>
      rw [hc] at h
      simp only [out_ok] at h ⊢
      by_cases hk : k = true
      · rw [if_pos hk] at h ⊢
        cases hb : b ρ with
        | nx ρ' => rw [hb] at h; exact whileD_more m j ρ' o h ho
        | ret d => rw [hb] at h; exact h
        | exc x ρ' => rw [hb] at h; exact h
        | bad => rw [hb] at h; exact absurd h.symm ho
      · rw [if_neg hk] at h ⊢; exact h
theorem while_fuel {c : Env → R Bool} {b : Env → O} {ρ : Env} {o : O} (m : Nat) (h : whileD c b m ρ = o) (ho : o ≠ .bad) (hm : m ≤ 1000000) : whileD c b fuel ρ = o := by
  have := whileD_more m (1000000 - m) ρ o h ho
  have e : m + (1000000 - m) = fuel := by unfold fuel; omega
  rw [e] at this; exact this
/-- Euclid's loop -/
theorem gcd_loop {c : Env → R Bool} {b : Env → O} {mk : Int → Int → Env} (hc : ∀ x y, c (mk x y) = .ok (y != 0)) (hb : ∀ x y, 0 < y → b (mk x y) = .nx (mk y (x % y))) :
    ∀ (k x y : Nat), y < 2 ^ k → whileD c b (2 * k + 1) (mk (x : Int) (y : Int)) = .nx (mk ((Nat.gcd x y : Nat) : Int) 0)
  | 0, x, y, h => by
    have : y = 0 := by simpa using h
    subst this
    simp [whileD, hc]
  | k + 1, x, y, h => by
    have e : 2 * (k + 1) + 1 = (2 * k + 1) + 1 + 1 := by omega
    rw [e]
    by_cases hy : y = 0
    · subst hy; simp [whileD, hc]
    · have hy' : (0 : Int) < (y : Int) := by omega
      have c1 : c (mk (x : Int) (y : Int)) = .ok true := by rw [hc]; simp [hy]
      rw [whileD, c1]
      simp only [out_ok, if_true]
      rw [hb _ _ hy']
      simp only [then_nx]
      have e2 : ((x : Int) % (y : Int)) = ((x % y : Nat) : Int) := by simp
      rw [e2]
      by_cases hr : x % y = 0
      · rw [hr, whileD, hc]
        have hg : Nat.gcd x y = y := by rw [Nat.gcd_comm, Nat.gcd_rec, hr]; simp
        simp [hg]
      · have hr' : (0 : Int) < ((x % y : Nat) : Int) := by omega
        have c2 : c (mk (y : Int) ((x % y : Nat) : Int)) = .ok true := by rw [hc]; simp only [Bool.not_eq_true, R.ok.injEq]; simp; omega
        rw [whileD, c2]
        simp only [out_ok, if_true]
        rw [hb _ _ hr']
        simp only [then_nx]
        have e3 : ((y : Int) % ((x % y : Nat) : Int)) = ((y % (x % y) : Nat) : Int) := by simp
        rw [e3]
        have hlt : y % (x % y) < 2 ^ k := by
          have h1 : x % y < y := Nat.mod_lt _ (by omega)
          have h2 : y % (x % y) < x % y := Nat.mod_lt _ (by omega)
          have h3 : y % (x % y) + (x % y) ≤ y := by
            have := Nat.mod_add_div y (x % y)
            have h4 : 1 ≤ y / (x % y) := Nat.div_pos (by omega) (by omega)
            have h5 : (x % y) * 1 ≤ (x % y) * (y / (x % y)) := Nat.mul_le_mul_left _ h4
            omega
          have : 2 ^ (k + 1) = 2 * 2 ^ k := by rw [Nat.pow_succ]; omega
          omega
        rw [gcd_loop hc hb k (x % y) (y % (x % y)) hlt]
        have : Nat.gcd (x % y) (y % (x % y)) = Nat.gcd x y := by
          rw [Nat.gcd_comm x y, Nat.gcd_rec y x, Nat.gcd_rec (x % y) y, Nat.gcd_comm]
        rw [this]

/-! ### fractions as data; their sizes -/
def fr (q : Rat) : D := .tup [.int q.num, .int q.den]
class Bd (k : outParam Nat) (q : Rat) : Prop where
  n : q.num.natAbs < 2 ^ k
  d : q.den < 2 ^ k
theorem Bd.mono {k l : Nat} {q : Rat} (h : Bd k q) (hl : k ≤ l) : Bd l q := ⟨Nat.lt_of_lt_of_le h.n (Nat.pow_le_pow_right (by decide) hl), Nat.lt_of_lt_of_le h.d (Nat.pow_le_pow_right (by decide) hl)⟩
theorem divInt_num_le (u d : Int) : (Rat.divInt u d).num.natAbs ≤ u.natAbs := by
  rw [Rat.num_divInt]
  refine Nat.le_trans (Int.natAbs_ediv_le_natAbs _ _) ?_
  rw [Int.natAbs_mul]
  have : d.sign.natAbs ≤ 1 := by rw [Int.natAbs_sign]; split <;> omega
  calc d.sign.natAbs * u.natAbs ≤ 1 * u.natAbs := Nat.mul_le_mul_right _ this
    _ = u.natAbs := by omega
theorem divInt_den_le (u d : Int) (hd : d ≠ 0) : (Rat.divInt u d).den ≤ d.natAbs := by
  rw [Rat.den_divInt, if_neg hd]
  exact Nat.div_le_self _ _
theorem Bd.divInt {k : Nat} {u d : Int} (hd : d ≠ 0) (h1 : u.natAbs < 2 ^ k) (h2 : d.natAbs < 2 ^ k) : Bd k (Rat.divInt u d) := ⟨Nat.lt_of_le_of_lt (divInt_num_le u d) h1, Nat.lt_of_le_of_lt (divInt_den_le u d hd) h2⟩
theorem abs_add_lt {a b : Int} {k : Nat} (ha : a.natAbs < 2 ^ k) (hb : b.natAbs < 2 ^ k) : (a + b).natAbs < 2 ^ (k + 1) := by
  have : 2 ^ (k + 1) = 2 * 2 ^ k := by rw [Nat.pow_succ]; omega
  have := Int.natAbs_add_le a b
  omega
theorem abs_mul_lt {a b : Int} {k l : Nat} (ha : a.natAbs < 2 ^ k) (hb : b.natAbs < 2 ^ l) : (a * b).natAbs < 2 ^ (k + l) := by
  rw [Int.natAbs_mul, Nat.pow_add]
  exact Nat.mul_lt_mul'' ha hb
theorem mkRat_divInt (u : Int) (d : Nat) : mkRat u d = Rat.divInt u d := by rw [Rat.divInt_ofNat]
theorem den_pos (q : Rat) : (0 : Int) < (q.den : Int) := by have := q.den_nz; omega
theorem den_ne (q : Rat) : (q.den : Int) ≠ 0 := by have := q.den_nz; omega
theorem add_divInt (a b : Rat) : a + b = Rat.divInt (a.num * b.den + b.num * a.den) (a.den * b.den) := by
  rw [Rat.add_def', mkRat_divInt]; simp
theorem sub_divInt (a b : Rat) : a - b = Rat.divInt (a.num * b.den - b.num * a.den) (a.den * b.den) := by
  rw [Rat.sub_def', mkRat_divInt]; simp
theorem mul_divInt (a b : Rat) : a * b = Rat.divInt (a.num * b.num) (a.den * b.den) := by
  rw [Rat.mul_def', mkRat_divInt]; simp
theorem div_divInt (a b : Rat) : a / b = Rat.divInt (a.num * b.den) (a.den * b.num) := by
  rw [Rat.div_def, Rat.inv_def, ← Rat.num_divInt_den a, Rat.divInt_mul_divInt]
  simp [Rat.num_divInt_den]
theorem abs_sub_lt {a b : Int} {k : Nat} (ha : a.natAbs < 2 ^ k) (hb : b.natAbs < 2 ^ k) : (a - b).natAbs < 2 ^ (k + 1) := by
  have : (-b).natAbs < 2 ^ k := by simpa using hb
  have := abs_add_lt ha this
  rwa [← Int.sub_eq_add_neg] at this
theorem ne_mul {a b : Int} (ha : a ≠ 0) (hb : b ≠ 0) : a * b ≠ 0 := Int.mul_ne_zero ha hb
theorem cast_lt {d k : Nat} (h : d < 2 ^ k) : ((d : Int)).natAbs < 2 ^ k := by simpa using h
instance Bd.add {k l : Nat} {a b : Rat} [ha : Bd k a] [hb : Bd l b] : Bd (k + l + 1) (a + b) := by
  rw [add_divInt]
  refine Bd.divInt (ne_mul (den_ne a) (den_ne b)) (abs_add_lt (abs_mul_lt ha.n (cast_lt hb.d)) ?_) ?_
  · rw [Nat.add_comm k l]; exact abs_mul_lt hb.n (cast_lt ha.d)
  · exact Nat.lt_of_lt_of_le (abs_mul_lt (cast_lt ha.d) (cast_lt hb.d)) (Nat.pow_le_pow_right (by decide) (by omega))
instance Bd.sub {k l : Nat} {a b : Rat} [ha : Bd k a] [hb : Bd l b] : Bd (k + l + 1) (a - b) := by
  rw [sub_divInt]
  refine Bd.divInt (ne_mul (den_ne a) (den_ne b)) (abs_sub_lt (abs_mul_lt ha.n (cast_lt hb.d)) ?_) ?_
  · rw [Nat.add_comm k l]; exact abs_mul_lt hb.n (cast_lt ha.d)
  · exact Nat.lt_of_lt_of_le (abs_mul_lt (cast_lt ha.d) (cast_lt hb.d)) (Nat.pow_le_pow_right (by decide) (by omega))
instance Bd.mul {k l : Nat} {a b : Rat} [ha : Bd k a] [hb : Bd l b] : Bd (k + l) (a * b) := by
  rw [mul_divInt]
  exact Bd.divInt (ne_mul (den_ne a) (den_ne b)) (abs_mul_lt ha.n hb.n) (abs_mul_lt (cast_lt ha.d) (cast_lt hb.d))
instance Bd.div {k l : Nat} {a b : Rat} [ha : Bd k a] [hb : Bd l b] : Bd (k + l) (a / b) := by
  by_cases h : b.num = 0
  · have : b = 0 := Rat.num_eq_zero.mp h
    subst this
    have e : a / 0 = 0 := by rw [Rat.div_def]; simp
    rw [e]
    exact ⟨by simpa using Nat.two_pow_pos _, by
      have : 1 < 2 ^ l := hb.d
      exact Nat.lt_of_lt_of_le this (Nat.pow_le_pow_right (by decide) (by omega))⟩
  · rw [div_divInt]
    exact Bd.divInt (ne_mul (den_ne a) h) (abs_mul_lt ha.n (cast_lt hb.d)) (abs_mul_lt (cast_lt ha.d) hb.n)
theorem Bd.int {k : Nat} {i : Int} (h : i.natAbs < 2 ^ (k + 1)) : Bd (k + 1) (i : Rat) := ⟨h, by
  show (i : Rat).den < 2 ^ (k + 1)
  rw [Rat.den_intCast]; exact Nat.one_lt_two_pow (by omega)⟩
def rmin (a b : Rat) : Rat := if a < b then a else b
def rmax (a b : Rat) : Rat := if a < b then b else a
instance Bd.rmin {k l : Nat} {a b : Rat} [ha : Bd k a] [hb : Bd l b] : Bd (max k l) (rmin a b) := by
  unfold RS.rmin; split
  · exact ha.mono (Nat.le_max_left _ _)
  · exact hb.mono (Nat.le_max_right _ _)
instance Bd.rmax {k l : Nat} {a b : Rat} [ha : Bd k a] [hb : Bd l b] : Bd (max k l) (rmax a b) := by
  unfold RS.rmax; split
  · exact hb.mono (Nat.le_max_right _ _)
  · exact ha.mono (Nat.le_max_left _ _)
/-! ### the operations, by kinds -/
theorem b_add (i j : Int) : binD .add (.int i) (.int j) = .ok (.int (i + j)) := Eq.trans rfl rfl
theorem b_sub (i j : Int) : binD .sub (.int i) (.int j) = .ok (.int (i - j)) := Eq.trans rfl rfl
theorem b_mul (i j : Int) : binD .mul (.int i) (.int j) = if mulOk i j then .ok (.int (i * j)) else .bad := Eq.trans rfl rfl
theorem b_fdiv (i j : Int) : binD .fdiv (.int i) (.int j) = if decide (0 < j) && decide (j.natAbs.log2 < 9000) then .ok (.int (i / j)) else .bad := Eq.trans rfl rfl
theorem b_mod (i j : Int) : binD .mod (.int i) (.int j) = if 0 < j then .ok (.int (i % j)) else .bad := Eq.trans rfl rfl
theorem b_pow (i j : Int) : binD .pow (.int i) (.int j) = if decide (0 ≤ j) && decide (j ≤ 1000000) && decide (i.natAbs < 2 ^ 64) then .ok (.int (i ^ j.toNat)) else .bad := Eq.trans rfl rfl
theorem b_addT (a b : List D) : binD .add (.tup a) (.tup b) = if a.length + b.length ≤ big then .ok (.tup (a ++ b)) else .bad := Eq.trans rfl rfl
theorem b_addL (a b : List D) : binD .add (.lst a) (.lst b) = if a.length + b.length ≤ big then .ok (.lst (a ++ b)) else .bad := Eq.trans rfl rfl
theorem b_addS (a b : Str) : binD .add (.str a) (.str b) = if a.length + b.length ≤ big then .ok (.str (a ++ b)) else .bad := Eq.trans rfl rfl
theorem c_lt (i j : Int) : cmpD .lt (.int i) (.int j) = .ok (decide (i < j)) := Eq.trans rfl rfl
theorem c_le (i j : Int) : cmpD .le (.int i) (.int j) = .ok (decide (i ≤ j)) := Eq.trans rfl rfl
theorem c_gt (i j : Int) : cmpD .gt (.int i) (.int j) = .ok (decide (j < i)) := Eq.trans rfl rfl
theorem c_ge (i j : Int) : cmpD .ge (.int i) (.int j) = .ok (decide (j ≤ i)) := Eq.trans rfl rfl
theorem c_eq (a b : D) : cmpD .eq a b = if shp a && shp b then .ok (PyData.eqv (toP a) (toP b)) else .bad := by cases a <;> cases b <;> rfl
theorem c_ne (a b : D) : cmpD .ne a b = if shp a && shp b then .ok (!PyData.eqv (toP a) (toP b)) else .bad := by cases a <;> cases b <;> rfl
def isNon : D → Bool
  | .non => true
  | _ => false
theorem c_is (a : D) : cmpD .is a .non = .ok (isNon a) := by cases a <;> rfl
theorem c_isnot (a : D) : cmpD .isnot a .non = .ok (!isNon a) := by cases a <;> rfl
@[simp] theorem isNon_non : isNon .non = true := Eq.trans rfl rfl
@[simp] theorem isNon_int (i : Int) : isNon (.int i) = false := Eq.trans rfl rfl
@[simp] theorem isNon_tup (ds : List D) : isNon (.tup ds) = false := Eq.trans rfl rfl
@[simp] theorem isNon_lst (ds : List D) : isNon (.lst ds) = false := Eq.trans rfl rfl
@[simp] theorem isNon_bl (b : Bool) : isNon (.bl b) = false := Eq.trans rfl rfl
theorem c_isB (a b : Bool) : cmpD .is (.bl a) (.bl b) = .ok (decide (a = b)) := Eq.trans rfl rfl
theorem c_isnotB (a b : Bool) : cmpD .isnot (.bl a) (.bl b) = .ok (!decide (a = b)) := Eq.trans rfl rfl
theorem t_non : truD .non = .ok false := Eq.trans rfl rfl
theorem t_bl (b : Bool) : truD (.bl b) = .ok b := Eq.trans rfl rfl
theorem t_int (i : Int) : truD (.int i) = .ok (i != 0) := Eq.trans rfl rfl
theorem t_lst (ds : List D) : truD (.lst ds) = .ok (!ds.isEmpty) := Eq.trans rfl rfl
theorem t_tup (ds : List D) : truD (.tup ds) = .ok (!ds.isEmpty) := Eq.trans rfl rfl
theorem n_neg (i : Int) : negD (.int i) = .ok (.int (-i)) := Eq.trans rfl rfl
theorem n_not (d : D) : notD d = (truD d).bind fun b => .ok (.bl (!b)) := Eq.trans rfl rfl
theorem ix_tup (ds : List D) (i : Int) : ixD (.tup ds) (.int i) = match L2.atI ds i with | some d => R.ok d | none => .bad := Eq.trans rfl rfl
theorem ix_lst (ds : List D) (i : Int) : ixD (.lst ds) (.int i) = match L2.atI ds i with | some d => R.ok d | none => .bad := Eq.trans rfl rfl
theorem ix_scr (ds : List Int) (i : Int) : ixD (.scr ds) (.int i) = match L2.atI ds i with | some d => R.ok (.int d) | none => .bad := Eq.trans rfl rfl
theorem at_0 {α : Type} (a : α) (l : List α) : L2.atI (a :: l) 0 = some a := L2.atI_nat (j := 0) rfl
theorem at_1 {α : Type} (a b : α) (l : List α) : L2.atI (a :: b :: l) 1 = some b := L2.atI_nat (j := 1) rfl
theorem at_2 {α : Type} (a b c : α) (l : List α) : L2.atI (a :: b :: c :: l) 2 = some c := L2.atI_nat (j := 2) rfl
theorem at_m1 {α : Type} (l : List α) (a : α) : L2.atI (l ++ [a]) (-1) = some a := L2.atI_last l a
theorem io_int (i : Int) : ixOf (.int i) = .ok i := Eq.trans rfl rfl
theorem rv_lst (ds : List D) : revD (.lst ds) = .ok (.lst ds.reverse) := Eq.trans rfl rfl
theorem rv_tup (ds : List D) : revD (.tup ds) = .ok (.tup ds.reverse) := Eq.trans rfl rfl
theorem sl_lst (ds : List D) (lo hi : Option Int) : slD (.lst ds) lo hi = .ok (.lst (cutD ds lo hi)) := Eq.trans rfl rfl
theorem sl_tup (ds : List D) (lo hi : Option Int) : slD (.tup ds) lo hi = .ok (.tup (cutD ds lo hi)) := Eq.trans rfl rfl
theorem is_int (i : Int) : isiD (.int i) .int = .ok true := Eq.trans rfl rfl
theorem is_int_b (i : Int) : isiD (.int i) .bool = .ok false := Eq.trans rfl rfl
theorem is_bl_b (b : Bool) : isiD (.bl b) .bool = .ok true := Eq.trans rfl rfl
theorem is_bl_i (b : Bool) : isiD (.bl b) .int = .ok true := Eq.trans rfl rfl
theorem is_tup (ds : List D) : isiD (.tup ds) .tuple = .ok true := Eq.trans rfl rfl
theorem is_lst (ds : List D) : isiD (.lst ds) .list = .ok true := Eq.trans rfl rfl
theorem is_tup_l (ds : List D) : isiD (.tup ds) .list = .ok false := Eq.trans rfl rfl
theorem is_lst_t (ds : List D) : isiD (.lst ds) .tuple = .ok false := Eq.trans rfl rfl
theorem len_lst (ds : List D) : biD .len [.lst ds] = .ok (.int ds.length) := Eq.trans rfl rfl
theorem len_tup (ds : List D) : biD .len [.tup ds] = .ok (.int ds.length) := Eq.trans rfl rfl
theorem len_scr (ds : List Int) : biD .len [.scr ds] = .ok (.int ds.length) := Eq.trans rfl rfl
theorem bi_abs' (i : Int) : biD .abs [.int i] = .ok (.int (if i < 0 then -i else i)) := Eq.trans rfl rfl
theorem bi_min' (i j : Int) : biD .min2 [.int i, .int j] = .ok (.int (if j < i then j else i)) := Eq.trans rfl rfl
theorem bi_max' (i j : Int) : biD .max2 [.int i, .int j] = .ok (.int (if j > i then j else i)) := Eq.trans rfl rfl
theorem bi_tupL (ds : List D) : biD .tuple [.lst ds] = .ok (.tup ds) := Eq.trans rfl rfl
theorem bi_tupT (ds : List D) : biD .tuple [.tup ds] = .ok (.tup ds) := Eq.trans rfl rfl
theorem bi_lstL (ds : List D) : biD .list [.lst ds] = .ok (.lst ds) := Eq.trans rfl rfl
theorem bi_lstT (ds : List D) : biD .list [.tup ds] = .ok (.lst ds) := Eq.trans rfl rfl
theorem sq_lst (ds : List D) : seqD (.lst ds) = .ok ds := Eq.trans rfl rfl
theorem sq_tup (ds : List D) : seqD (.tup ds) = .ok ds := Eq.trans rfl rfl
theorem lt_lst (ds : List D) : ltD (.lst ds) = .ok ds := Eq.trans rfl rfl
theorem lt_tup (ds : List D) : ltD (.tup ds) = .ok ds := Eq.trans rfl rfl
theorem c_inL (x : D) (ys : List D) : cmpD .inn x (.lst ys) = inD x (.lst ys) ys := by cases x <;> rfl
theorem c_inT (x : D) (ys : List D) : cmpD .inn x (.tup ys) = inD x (.tup ys) ys := by cases x <;> rfl
theorem c_notinL (x : D) (ys : List D) : cmpD .notin x (.lst ys) = (inD x (.lst ys) ys).bind fun b => .ok (!b) := by cases x <;> rfl
theorem c_notinT (x : D) (ys : List D) : cmpD .notin x (.tup ys) = (inD x (.tup ys) ys).bind fun b => .ok (!b) := by cases x <;> rfl
theorem toPs_map {α : Type} (f : α → D) : ∀ l : List α, toPs (l.map f) = l.map fun x => toP (f x)
  | [] => by simp [toPs]
  | a :: l => by simp [toPs, toPs_map f l]
theorem inD_ok {x y : D} {ys : List D} (h1 : shp x = true) (h2 : shp y = true) : inD x y ys = .ok ((toPs ys).any fun z => PyData.eqv z (toP x)) := by unfold inD; rw [h1, h2]; rfl
theorem try_nx (cl nx : Nat) (nm : Option Nat) (hs : List HS) (ρ : Env) : tryD cl nx nm hs (.nx ρ) = .nx ρ := Eq.trans rfl rfl
theorem try_ret (cl nx : Nat) (nm : Option Nat) (hs : List HS) (d : D) : tryD cl nx nm hs (.ret d) = .ret d := Eq.trans rfl rfl
theorem try_exc (cl nx : Nat) (nm : Option Nat) (hs : List HS) (c : Nat) (ρ : Env) : tryD cl nx nm hs (.exc c ρ) = if (decide (c < nx) && okN nm ρ) = true then (if subX c cl = true then (denHs c hs (setN nm ρ)).then fun ρ' => .nx (setN nm ρ') else .exc c ρ) else .bad := Eq.trans rfl rfl
theorem nox_ok {α : Type} (a : α) : noX (R.ok a) = R.ok a := Eq.trans rfl rfl
theorem ins_ins (ds : List D) : insD (.ins ds) = .ok ds := Eq.trans rfl rfl
theorem fld_0 (a : D) (l : List D) : fldD 0 (.ins (a :: l)) = .ok a := Eq.trans rfl rfl
theorem fld_1 (a b : D) (l : List D) : fldD 1 (.ins (a :: b :: l)) = .ok b := Eq.trans rfl rfl
theorem fld_2 (a b c : D) (l : List D) : fldD 2 (.ins (a :: b :: c :: l)) = .ok c := Eq.trans rfl rfl
theorem ls_lst (ds : List D) : lstD (.lst ds) = .ok ds := Eq.trans rfl rfl
theorem s_one (i : Nat) (d : D) (ρ : Env) : setT (.one i) d ρ = .ok (ρ.set i (.val d)) := Eq.trans rfl rfl
theorem s_two (i j : Nat) (a b : D) (ρ : Env) : setT (.two i j) (.tup [a, b]) ρ = .ok ((ρ.set i (.val a)).set j (.val b)) := Eq.trans rfl rfl
theorem g_app (ds : List D) (d : D) : gMt .app ds [d] = if ds.length < big then some (ds ++ [d]) else none := Eq.trans rfl rfl
/-! ### == on data -/
@[simp] theorem shp_int (i : Int) : shp (.int i) = true := Eq.trans rfl rfl
@[simp] theorem shp_bl (b : Bool) : shp (.bl b) = true := Eq.trans rfl rfl
@[simp] theorem shp_non : shp .non = true := Eq.trans rfl rfl
@[simp] theorem shp_fr (q : Rat) : shp (fr q) = true := Eq.trans rfl rfl
@[simp] theorem eqv_int (i j : Int) : PyData.eqv (toP (.int i)) (toP (.int j)) = (i == j) := by simp [toP, PyData.eqv]
@[simp] theorem eqv_bl (i j : Bool) : PyData.eqv (toP (.bl i)) (toP (.bl j)) = (i == j) := by simp [toP, PyData.eqv]
theorem ix_fr0 (q : Rat) : ixD (fr q) (.int 0) = .ok (.int q.num) := Eq.trans rfl rfl
theorem ix_fr1 (q : Rat) : ixD (fr q) (.int 1) = .ok (.int (q.den : Int)) := Eq.trans rfl rfl
theorem is_fr (q : Rat) : isiD (fr q) .tuple = .ok true := Eq.trans rfl rfl
theorem len_fr (q : Rat) : biD .len [fr q] = .ok (.int 2) := Eq.trans rfl rfl
@[simp] theorem isNon_fr (q : Rat) : isNon (fr q) = false := Eq.trans rfl rfl
theorem fr_inj {a b : Rat} (h : fr a = fr b) : a = b := by
  simp only [fr, D.tup.injEq, List.cons.injEq, D.int.injEq, and_true] at h
  exact Rat.ext h.1 (by omega)
@[simp] theorem eqv_fr (a b : Rat) : PyData.eqv (toP (fr a)) (toP (fr b)) = decide (a = b) := by
  simp only [fr, toP, toPs, PyData.eqv, PyData.eqvAll, Bool.and_true]
  by_cases h : a = b
  · subst h; simp
  · simp only [h, decide_false]
    rw [Bool.eq_false_iff]
    intro q
    simp only [Bool.and_eq_true, beq_iff_eq] at q
    exact h (Rat.ext q.1 (by omega))
theorem lt_mul {a b : Rat} : (a.num * b.den < b.num * a.den) ↔ a < b := (Rat.lt_iff a b).symm
/-! ### sizes for * and // -/
theorem mulOk_of {i j : Int} {k l : Nat} (h1 : i.natAbs < 2 ^ (k + 1)) (h2 : j.natAbs < 2 ^ (l + 1)) (h : k + l ≤ 100000) : mulOk i j = true := by
  have a : i.natAbs.log2 < k + 1 := PySem.Flt.log2_lt_of (by omega) h1
  have b : j.natAbs.log2 < l + 1 := PySem.Flt.log2_lt_of (by omega) h2
  simp only [mulOk, Bool.or_eq_true, decide_eq_true_eq]
  exact .inr (by omega)
theorem log2_lt {i : Int} {k : Nat} (h : i.natAbs < 2 ^ k) (hk : 0 < k) (hl : k ≤ 9000) : i.natAbs.log2 < 9000 := Nat.lt_of_lt_of_le (PySem.Flt.log2_lt_of hk h) hl
end RS

namespace RS
open PySem
/-! ### comprehensions -/
theorem compR_map {α : Type} {l : List α} {m : α → D} {f : D → R (Option D)} {g : α → Option D} (h : ∀ x ∈ l, f (m x) = .ok (g x)) : compR f (l.map m) = .ok (l.filterMap g) := by
  induction l with
  | nil => rfl
  | cons a t ih =>
    simp only [List.map_cons, compR, h a List.mem_cons_self, noX, R.ok_bind, ih fun x hx => h x (List.mem_cons_of_mem _ hx)]
    cases e : g a <;> simp [List.filterMap_cons, e]
theorem compR_all {α : Type} {l : List α} {m : α → D} {f : D → R (Option D)} {e : α → D} (h : ∀ x ∈ l, f (m x) = .ok (some (e x))) : compR f (l.map m) = .ok (l.map e) := by
  rw [compR_map (g := fun x => some (e x)) h]; simp
theorem compR_filter {α : Type} {l : List α} {m : α → D} {f : D → R (Option D)} {p : α → Bool} {e : α → D} (h : ∀ x ∈ l, f (m x) = .ok (if p x = true then some (e x) else none)) : compR f (l.map m) = .ok ((l.filter p).map e) := by
  rw [compR_map h]
  congr 1
  clear h
  induction l with
  | nil => rfl
  | cons a t ih => by_cases q : p a = true <;> simp [List.filterMap_cons, q, ih]
theorem compR_none {α : Type} {l : List α} {m : α → D} {f : D → R (Option D)} (h : ∀ x ∈ l, f (m x) = .ok none) : compR f (l.map m) = .ok [] := by
  rw [compR_map (g := fun _ => none) h]; simp
theorem rngD_ok {i j : Int} (h1 : -(2 ^ 62) ≤ i) (h2 : i < 2 ^ 62) (h3 : -(2 ^ 62) ≤ j) (h4 : j < 2 ^ 62) : rngD i j = .ok ((List.range (j - i).toNat).map fun k => .int (i + (k : Nat))) := by
  unfold rngD; rw [if_pos (by simp only [Bool.and_eq_true, decide_eq_true_eq]; exact ⟨⟨⟨h1, h2⟩, h3⟩, h4⟩)]
theorem atI_int {α : Type} {xs : List α} {i : Int} {v : α} (h0 : 0 ≤ i) (h : xs[i.toNat]? = some v) : L2.atI xs i = some v := by
  have : ((i.toNat : Nat) : Int) = i := by omega
  rw [← this]; exact L2.atI_nat h
/-! ### lands -/
class Land (L : List Int) : Prop where
  lo : 2 ≤ L.length
  hi : L.length ≤ 12
  h : ∀ x ∈ L, 0 ≤ x ∧ x ≤ 999
def ld (L : List Int) : D := .tup (L.map D.int)
theorem len_ld (L : List Int) : biD .len [ld L] = .ok (.int L.length) := by simp [ld, biD]
theorem is_ld (L : List Int) : isiD (ld L) .tuple = .ok true := rfl
theorem rv_ld (L : List Int) : revD (ld L) = .ok (ld L.reverse) := by simp [ld, revD]
theorem sq_ld (L : List Int) : seqD (ld L) = .ok (L.map D.int) := rfl
def hi (L : List Int) (i : Nat) : Int := L.getD i 0
def ht (L : List Int) (i : Nat) : Rat := (hi L i : Int)
theorem hi_get {L : List Int} {i : Nat} (h : i < L.length) : L[i]? = some (hi L i) := by
  unfold hi; rw [List.getD_eq_getElem?_getD, List.getElem?_eq_getElem h]; rfl
theorem hi_mem {L : List Int} {i : Nat} (h : i < L.length) : hi L i ∈ L := List.mem_of_getElem? (hi_get h)
theorem ld_get {L : List Int} {i : Int} (h0 : 0 ≤ i) (h : i < L.length) : L2.atI (L.map D.int) i = some (.int (hi L i.toNat)) := by
  refine atI_int h0 ?_
  rw [List.getElem?_map, hi_get (by omega)]; rfl
theorem ix_ld {L : List Int} {i : Int} (h0 : 0 ≤ i) (h : i < L.length) : ixD (ld L) (.int i) = .ok (.int (hi L i.toNat)) := by
  unfold ld; rw [ix_tup, ld_get h0 h]
theorem hi_bd {L : List Int} [Land L] (i : Nat) : 0 ≤ hi L i ∧ hi L i ≤ 999 := by
  by_cases h : i < L.length
  · exact Land.h _ (hi_mem h)
  · unfold hi; rw [List.getD_eq_getElem?_getD, List.getElem?_eq_none (by omega)]; simp
instance {L : List Int} [Land L] (i : Nat) : Bd 10 (ht L i) := by
  have := hi_bd (L := L) i
  exact Bd.int (k := 9) (by omega)
def gi (L : List Int) (x : Rat) : Nat := min x.floor.toNat (L.length - 2)
def ground (L : List Int) (x : Rat) : Rat := ht L (gi L x) + (ht L (gi L x + 1) - ht L (gi L x)) * (x - (gi L x : Nat))
theorem gi_le {L : List Int} [Land L] (x : Rat) : gi L x + 1 < L.length := by
  have := Land.lo (L := L)
  unfold gi; omega
theorem floor_spec {x : Rat} (h0 : 0 ≤ x) : ((x.floor.toNat : Nat) : Rat) ≤ x ∧ x < ((x.floor.toNat : Nat) : Rat) + 1 := by
  have h1 := Rat.floor_le x
  have h2 := Rat.lt_floor_add_one x
  have h3 : 0 ≤ x.floor := Rat.le_floor_iff.mpr (by simpa using h0)
  have e : ((x.floor.toNat : Nat) : Rat) = (x.floor : Rat) := by
    rw [← Rat.intCast_natCast]; congr 1; omega
  rw [e]
  refine ⟨h1, ?_⟩
  simpa using h2
theorem natCast_le {a b : Nat} : ((a : Rat) ≤ (b : Rat)) ↔ a ≤ b := by
  rw [← Rat.intCast_natCast, ← Rat.intCast_natCast, Rat.intCast_le_intCast]; omega
theorem natCast_lt {a b : Nat} : ((a : Rat) < (b : Rat)) ↔ a < b := by
  rw [← Rat.not_le, natCast_le]; omega
theorem ground_eq {L : List Int} [Land L] {x : Rat} {i : Nat} (hi : i + 1 < L.length) (h1 : (i : Rat) ≤ x) (h2 : x ≤ (i : Rat) + 1) : ground L x = ht L i + (ht L (i + 1) - ht L i) * (x - (i : Nat)) := by
  have h0 : 0 ≤ x := Rat.le_trans (by have := natCast_le (a := 0) (b := i); simpa using this) h1
  obtain ⟨f1, f2⟩ := floor_spec h0
  have a1 : i < x.floor.toNat + 1 := by
    have : (i : Rat) < ((x.floor.toNat + 1 : Nat) : Rat) := by rw [Rat.natCast_add]; grind
    exact natCast_lt.mp this
  have a2 : x.floor.toNat ≤ i + 1 := by
    have : ((x.floor.toNat : Nat) : Rat) ≤ ((i + 1 : Nat) : Rat) := by rw [Rat.natCast_add]; exact Rat.le_trans f1 (by simpa using h2)
    exact natCast_le.mp this
  unfold ground
  by_cases hf : x.floor.toNat = i
  · have : gi L x = i := by unfold gi; omega
    rw [this]
  · have hf' : x.floor.toNat = i + 1 := by omega
    have hx : x = (i : Rat) + 1 := by
      refine Rat.le_antisymm h2 ?_
      rw [hf', Rat.natCast_add] at f1; simpa using f1
    by_cases hl : i + 2 < L.length
    · have : gi L x = i + 1 := by unfold gi; omega
      rw [this, hx, Rat.natCast_add]; grind
    · have : gi L x = i := by unfold gi; omega
      rw [this]
theorem ground_at_nat {L : List Int} [Land L] {i : Nat} (h : i < L.length) : ground L (i : Rat) = ht L i := by
  by_cases hl : i + 1 < L.length
  · rw [ground_eq hl Rat.le_refl (by grind)]; grind
  · have lo := Land.lo (L := L)
    obtain ⟨j, rfl⟩ : ∃ j, i = j + 1 := ⟨i - 1, by omega⟩
    rw [ground_eq (i := j) h (by rw [Rat.natCast_add]; grind) (by rw [Rat.natCast_add]; exact Rat.le_refl), Rat.natCast_add]
    grind
instance {L : List Int} [Land L] {k : Nat} {x : Rat} [hx : Bd k x] : Bd (k + 42) (ground L x) := by
  have h1 := gi_le (L := L) x
  have h2 := Land.hi (L := L)
  haveI : Bd 4 ((gi L x : Nat) : Rat) := by
    rw [← Rat.intCast_natCast]
    exact Bd.int (k := 3) (by simp; omega)
  have := (inferInstance : Bd _ (ht L (gi L x) + (ht L (gi L x + 1) - ht L (gi L x)) * (x - (gi L x : Nat))))
  unfold ground
  exact this.mono (by omega)
instance {L : List Int} [hL : Land L] : Land L.reverse := ⟨by simpa using hL.lo, by simpa using hL.hi, fun x hx => hL.h x (by simpa using hx)⟩
theorem ht_rev {L : List Int} {i : Nat} (h : i < L.length) : ht L.reverse i = ht L (L.length - 1 - i) := by
  unfold ht hi
  rw [List.getD_eq_getElem?_getD, List.getD_eq_getElem?_getD, List.getElem?_reverse h]
theorem ground_rev {L : List Int} [Land L] {x : Rat} (h0 : 0 ≤ x) (h1 : x ≤ ((L.length - 1 : Nat) : Rat)) : ground L.reverse (((L.length - 1 : Nat) : Rat) - x) = ground L x := by
  have lo := Land.lo (L := L)
  obtain ⟨f1, f2⟩ := floor_spec h0
  have gl := gi_le (L := L) x
  -- the place left of x
  have hx : ((gi L x : Nat) : Rat) ≤ x ∧ x ≤ ((gi L x : Nat) : Rat) + 1 := by
    by_cases hc : x.floor.toNat ≤ L.length - 2
    · have : gi L x = x.floor.toNat := by unfold gi; omega
      rw [this]; exact ⟨f1, Rat.le_of_lt f2⟩
    · have e : gi L x = L.length - 2 := by unfold gi; omega
      have e2 : ((L.length - 1 : Nat) : Rat) = ((gi L x : Nat) : Rat) + 1 := by
        have : L.length - 1 = gi L x + 1 := by omega
        rw [this, Rat.natCast_add]; rfl
      refine ⟨?_, by rw [← e2]; exact h1⟩
      refine Rat.le_trans ?_ f1
      exact natCast_le.mpr (by omega)
  generalize gi L x = i at hx gl
  have hr : (L.length - 2 - i) + 1 < L.reverse.length := by rw [List.length_reverse]; omega
  have e1 : ((L.length - 1 : Nat) : Rat) = ((L.length - 2 - i : Nat) : Rat) + (i : Rat) + 1 := by
    have : L.length - 1 = (L.length - 2 - i) + i + 1 := by omega
    rw [this, Rat.natCast_add, Rat.natCast_add]; rfl
  rw [ground_eq gl hx.1 hx.2, ground_eq (L := L.reverse) (i := L.length - 2 - i) hr (by rw [e1]; grind) (by rw [e1]; grind)]
  rw [ht_rev (by omega), ht_rev (by omega)]
  have a : L.length - 1 - (L.length - 2 - i) = i + 1 := by omega
  have b : L.length - 1 - (L.length - 2 - i + 1) = i := by omega
  rw [a, b, e1]
  grind
end RS

namespace RS
open PySem
theorem rngD_s {i j : Int} (h1 : 0 ≤ i) (h2 : i ≤ 100000) (h3 : -100000 ≤ j) (h4 : j ≤ 100000) : rngD i j = .ok ((List.range (j - i).toNat).map fun k => .int (i + (k : Nat))) :=
  have p1 : -(2 ^ 62 : Int) ≤ 0 := by decide
  have p2 : (100000 : Int) < 2 ^ 62 := by decide
  have p3 : -(2 ^ 62 : Int) ≤ -100000 := by decide
  rngD_ok (Int.le_trans p1 h1) (Int.lt_of_le_of_lt h2 p2) (Int.le_trans p3 h3) (Int.lt_of_le_of_lt h4 p2)
theorem rng1_ok {φ : Nat → List D → R D} {gl : Nat → Option D} {e : E} {ρ : Env} {j : Nat} (h : denE φ gl e ρ = .ok (.int (j : Nat))) (h1 : j ≤ 100000) : denI φ gl (.rng1 e) ρ = .ok ((List.range j).map fun k => .int (k : Nat)) := by
  rw [dI_rng1, h, R.ok_bind, io_int, R.ok_bind, rngD_s (by omega) (by omega) (by omega) (by omega)]
  simp
theorem rng2_ok {φ : Nat → List D → R D} {gl : Nat → Option D} {e f : E} {ρ : Env} {i j : Int} (h : denE φ gl e ρ = .ok (.int i)) (h' : denE φ gl f ρ = .ok (.int j)) (h1 : 0 ≤ i) (h2 : i ≤ 100000) (h3 : -100000 ≤ j) (h4 : j ≤ 100000) : denI φ gl (.rng2 e f) ρ = .ok ((List.range (j - i).toNat).map fun k => .int (i + (k : Nat))) := by
  rw [dI_rng2, h, R.ok_bind, h', R.ok_bind, io_int, R.ok_bind, io_int, R.ok_bind, rngD_s h1 h2 h3 h4]
theorem Bd.nat {p : Nat} (h : p < 16) : Bd 4 (p : Rat) := by
  rw [← Rat.intCast_natCast]; exact Bd.int (k := 3) (by simp; omega)
instance len_bd {L : List Int} [hL : Land L] : Bd 4 ((L.length - 1 : Nat) : Rat) := Bd.nat (by have := hL.hi; omega)
theorem fr_int (i : Int) : D.tup [.int i, .int 1] = fr (i : Rat) := by simp [fr]
theorem fr_nat (p : Nat) : D.tup [.int (p : Nat), .int 1] = fr (p : Rat) := by rw [fr_int]; congr 1
theorem len_cast {L : List Int} [hL : Land L] : (((L.length : Int) - 1 : Int) : Rat) = ((L.length - 1 : Nat) : Rat) := by
  have := hL.lo
  rw [← Rat.intCast_natCast]; congr 1; omega
theorem far_frac {L : List Int} [hL : Land L] (x : Rat) : Rat.divInt (((L.length : Int) - 1) * (x.den : Int) - x.num) (x.den : Int) = ((L.length - 1 : Nat) : Rat) - x := by
  rw [← len_cast]
  generalize (L.length : Int) - 1 = m
  rw [Rat.divInt_eq_div]
  have hden : ((x.den : Int) : Rat) ≠ 0 := by rw [Ne, Rat.intCast_eq_zero_iff]; exact den_ne x
  have hxe : x = (x.num : Rat) / ((x.den : Int) : Rat) := by rw [← Rat.divInt_eq_div, Rat.num_divInt_den]
  have hxm : x * ((x.den : Int) : Rat) = (x.num : Rat) := by
    conv => lhs; lhs; rw [hxe]
    exact Rat.div_mul_cancel hden
  rw [Rat.intCast_sub, Rat.intCast_mul, ← hxm]
  have : (m : Rat) * ((x.den : Int) : Rat) - x * ((x.den : Int) : Rat) = ((m : Rat) - x) * ((x.den : Int) : Rat) := by grind
  rw [this, Rat.mul_div_cancel hden]
/-! ### the laws' own draws -/
def cell (ns : List Int) (k : Nat) : Int := ns.getD k 0
def mix (c p m : Int) : Int := (c * 48271 % p) ^ 3 % p % m
theorem mix_bd (c p m : Int) (h : 0 < m) : 0 ≤ mix c p m ∧ mix c p m < m := ⟨Int.emod_nonneg _ (by omega), Int.emod_lt_of_pos _ h⟩
def manyOf (ns : List Int) (a : Nat) : Nat := (if mix (cell ns 0 + 7 * (ns.length : Int)) 9871 8 = 3 then 2 + mix (cell ns a) 9973 11 else 2 + mix (cell ns a) 9973 6).toNat
def mostOf (ns : List Int) (a : Nat) : Int := ([4, 9, 30, 900] : List Int).getD (mix (cell ns a) 9967 4).toNat 0
def hAt (ns : List Int) (a : Nat) (k : Nat) : Int := mix (cell ns (a + 1 + k % 8) + 37 * (k : Int) * (k : Int) + (k : Int)) 9949 (mostOf ns a)
def lawLand (ns : List Int) (a : Nat) : List Int := (List.range (manyOf ns a)).map (hAt ns a)
theorem manyOf_bd (ns : List Int) (a : Nat) : 2 ≤ manyOf ns a ∧ manyOf ns a ≤ 12 := by
  have a1 := mix_bd (cell ns a) 9973 11 (by decide)
  have a2 := mix_bd (cell ns a) 9973 6 (by decide)
  unfold manyOf; split <;> omega
theorem mostOf_bd (ns : List Int) (a : Nat) : 4 ≤ mostOf ns a ∧ mostOf ns a ≤ 900 := by
  have m4 := mix_bd (cell ns a) 9967 4 (by decide)
  unfold mostOf
  have : (mix (cell ns a) 9967 4).toNat = 0 ∨ (mix (cell ns a) 9967 4).toNat = 1 ∨ (mix (cell ns a) 9967 4).toNat = 2 ∨ (mix (cell ns a) 9967 4).toNat = 3 := by omega
  rcases this with h | h | h | h <;> rw [h] <;> decide
theorem lawLand_len (ns : List Int) (a : Nat) : (lawLand ns a).length = manyOf ns a := by simp [lawLand]
instance (ns : List Int) (a : Nat) : Land (lawLand ns a) := by
  have h1 := manyOf_bd ns a
  have h2 := mostOf_bd ns a
  refine ⟨by rw [lawLand_len]; exact h1.1, by rw [lawLand_len]; exact h1.2, fun x hx => ?_⟩
  unfold lawLand at hx
  obtain ⟨k, _, rfl⟩ := List.mem_map.mp hx
  unfold hAt
  have := mix_bd (cell ns (a + 1 + k % 8) + 37 * (k : Int) * (k : Int) + (k : Int)) 9949 (mostOf ns a) (by omega)
  omega
theorem abs_if (u : Int) : (if u < 0 then -u else u) = ((u.natAbs : Nat) : Int) := by split <;> omega
theorem gcd_log (u d : Int) (hd : d ≠ 0) (h2 : d.natAbs < 2 ^ 9000) : ((Nat.gcd u.natAbs d.natAbs : Nat) : Int) > 0 ∧ (Nat.gcd u.natAbs d.natAbs).log2 < 9000 := by
  have hp : 0 < Nat.gcd u.natAbs d.natAbs := Nat.gcd_pos_of_pos_right _ (by omega)
  have hle : Nat.gcd u.natAbs d.natAbs ≤ d.natAbs := Nat.gcd_le_right _ (by omega)
  exact ⟨by omega, PySem.Flt.log2_lt_of (by decide) (Nat.lt_of_le_of_lt hle h2)⟩
theorem fr_divInt (u d : Int) (hd : 0 < d) : D.tup [.int (u / ((Nat.gcd u.natAbs d.natAbs : Nat) : Int)), .int (d / ((Nat.gcd u.natAbs d.natAbs : Nat) : Int))] = fr (Rat.divInt u d) := by
  unfold fr
  rw [Rat.num_divInt, Rat.den_divInt, if_neg (by omega)]
  have hs : d.sign = 1 := Int.sign_eq_one_of_pos hd
  have hg : d.gcd u = Nat.gcd u.natAbs d.natAbs := by rw [Int.gcd, Nat.gcd_comm]
  rw [hs, hg]
  have e : ((d.natAbs / Nat.gcd u.natAbs d.natAbs : Nat) : Int) = d / ((Nat.gcd u.natAbs d.natAbs : Nat) : Int) := by
    rw [Int.natCast_ediv]
    have : ((d.natAbs : Nat) : Int) = d := by omega
    rw [this]
  rw [e]; simp
def lawSpot (L : List Int) (c : Int) : Rat := Rat.divInt (mix c 9931 (((L.length : Int) - 1) * (1 + mix c 9941 6) + 1)) (1 + mix c 9941 6)
theorem lawSpot_lo (L : List Int) [hL : Land L] (c : Int) : 0 ≤ lawSpot L c := by
  have lo := hL.lo
  have m6 := mix_bd c 9941 6 (by decide)
  have := Int.mul_nonneg (show (0 : Int) ≤ (L.length : Int) - 1 by omega) (show (0 : Int) ≤ 1 + mix c 9941 6 by omega)
  have m := mix_bd c 9931 (((L.length : Int) - 1) * (1 + mix c 9941 6) + 1) (by omega)
  exact Rat.divInt_nonneg m.1 (by omega)
theorem lawSpot_hi (L : List Int) [hL : Land L] (c : Int) : lawSpot L c ≤ ((L.length - 1 : Nat) : Rat) := by
  have lo := hL.lo
  have m6 := mix_bd c 9941 6 (by decide)
  have := Int.mul_nonneg (show (0 : Int) ≤ (L.length : Int) - 1 by omega) (show (0 : Int) ≤ 1 + mix c 9941 6 by omega)
  have m := mix_bd c 9931 (((L.length : Int) - 1) * (1 + mix c 9941 6) + 1) (by omega)
  unfold lawSpot
  rw [Rat.divInt_eq_div]
  have hp : (0 : Rat) < ((1 + mix c 9941 6 : Int) : Rat) := by
    have : ((0 : Int) : Rat) < ((1 + mix c 9941 6 : Int) : Rat) := Rat.intCast_lt_intCast.mpr (by omega)
    simpa using this
  rw [← Rat.not_lt, Rat.lt_div_iff hp, Rat.not_lt]
  have e : ((L.length - 1 : Nat) : Rat) = (((L.length : Int) - 1 : Int) : Rat) := by rw [← Rat.intCast_natCast]; congr 1; omega
  rw [e, ← Rat.intCast_mul]
  exact Rat.intCast_le_intCast.mpr (by omega)
instance (L : List Int) [hL : Land L] (c : Int) : Bd 7 (lawSpot L c) := by
  have lo := hL.lo
  have hi := hL.hi
  have m6 := mix_bd c 9941 6 (by decide)
  have h1 := Int.mul_nonneg (show (0 : Int) ≤ (L.length : Int) - 1 by omega) (show (0 : Int) ≤ 1 + mix c 9941 6 by omega)
  have h2 : ((L.length : Int) - 1) * (1 + mix c 9941 6) ≤ 11 * 6 := Int.mul_le_mul (by omega) (by omega) (by omega) (by omega)
  have m := mix_bd c 9931 (((L.length : Int) - 1) * (1 + mix c 9941 6) + 1) (by omega)
  unfold lawSpot
  exact Bd.divInt (by omega) (by omega) (by omega)
end RS

namespace RS
open PySem
/-! ### loops -/
theorem for_all {tg : Tg} {b : Env → O} {α : Type} (Inv : Env → Prop) (m : α → D) (p : α → Prop) (d : D) : ∀ (l : List α), (∀ a ∈ l, ∀ ρ, Inv ρ → ∃ ρ1, setT tg (m a) ρ = .ok ρ1 ∧ ((p a ∧ ∃ ρ', b ρ1 = .nx ρ' ∧ Inv ρ') ∨ (¬ p a ∧ b ρ1 = .ret d))) → ∀ ρ, Inv ρ →
    ((∀ a ∈ l, p a) ∧ ∃ ρ', forD tg b (l.map m) ρ = .nx ρ' ∧ Inv ρ') ∨ (¬ (∀ a ∈ l, p a) ∧ forD tg b (l.map m) ρ = .ret d)
  | [], _, ρ, h0 => .inl ⟨fun a ha => absurd ha List.not_mem_nil, ⟨ρ, rfl, h0⟩⟩
  | a :: l, h, ρ, h0 => by
    obtain ⟨ρ1, e1, e2⟩ := h a List.mem_cons_self ρ h0
    rcases e2 with ⟨pa, ρ', e2, i2⟩ | ⟨pa, e2⟩
    · rcases for_all Inv m p d l (fun a ha => h a (List.mem_cons_of_mem _ ha)) ρ' i2 with ⟨q, ρ2, e3, i3⟩ | ⟨q, e3⟩
      · refine .inl ⟨fun x hx => ?_, ρ2, ?_, i3⟩
        · rcases List.mem_cons.mp hx with rfl | hx
          · exact pa
          · exact q x hx
        · rw [List.map_cons, forD, e1, out_ok, e2, then_nx, e3]
      · refine .inr ⟨fun z => q fun x hx => z x (List.mem_cons_of_mem _ hx), ?_⟩
        rw [List.map_cons, forD, e1, out_ok, e2, then_nx, e3]
    · refine .inr ⟨fun z => pa (z a List.mem_cons_self), ?_⟩
      rw [List.map_cons, forD, e1, out_ok, e2, then_ret]
theorem for_fold {tg : Tg} {b : Env → O} {α σ : Type} (Inv : σ → Env → Prop) (m : α → D) (f : σ → α → σ) : ∀ (l : List α), (∀ a ∈ l, ∀ s ρ, Inv s ρ → ∃ ρ1 ρ', setT tg (m a) ρ = .ok ρ1 ∧ b ρ1 = .nx ρ' ∧ Inv (f s a) ρ') → ∀ s ρ, Inv s ρ →
    ∃ ρ', forD tg b (l.map m) ρ = .nx ρ' ∧ Inv (l.foldl f s) ρ'
  | [], _, s, ρ, h0 => ⟨ρ, rfl, h0⟩
  | a :: l, h, s, ρ, h0 => by
    obtain ⟨ρ1, ρ', e1, e2, i2⟩ := h a List.mem_cons_self s ρ h0
    obtain ⟨ρ2, e3, i3⟩ := for_fold Inv m f l (fun a ha => h a (List.mem_cons_of_mem _ ha)) (f s a) ρ' i2
    exact ⟨ρ2, by rw [List.map_cons, forD, e1, out_ok, e2, then_nx, e3], i3⟩
/-! ### fractions of the laws -/
theorem x_mul_den (x : Rat) : x * ((x.den : Int) : Rat) = (x.num : Rat) ∧ ((x.den : Int) : Rat) ≠ 0 := by
  have hden : ((x.den : Int) : Rat) ≠ 0 := by rw [Ne, Rat.intCast_eq_zero_iff]; exact den_ne x
  have hxe : x = (x.num : Rat) / ((x.den : Int) : Rat) := by rw [← Rat.divInt_eq_div, Rat.num_divInt_den]
  refine ⟨?_, hden⟩
  conv => lhs; lhs; rw [hxe]
  exact Rat.div_mul_cancel hden
theorem frac_sub_l (m : Int) (x : Rat) : Rat.divInt (m * (x.den : Int) - x.num) (x.den : Int) = (m : Rat) - x := by
  obtain ⟨hxm, hden⟩ := x_mul_den x
  rw [Rat.divInt_eq_div, Rat.intCast_sub, Rat.intCast_mul, ← hxm]
  have : (m : Rat) * ((x.den : Int) : Rat) - x * ((x.den : Int) : Rat) = ((m : Rat) - x) * ((x.den : Int) : Rat) := by grind
  rw [this, Rat.mul_div_cancel hden]
theorem frac_sub_r (m : Int) (x : Rat) : Rat.divInt (x.num - m * (x.den : Int)) (x.den : Int) = x - (m : Rat) := by
  obtain ⟨hxm, hden⟩ := x_mul_den x
  rw [Rat.divInt_eq_div, Rat.intCast_sub, Rat.intCast_mul, ← hxm]
  have : x * ((x.den : Int) : Rat) - (m : Rat) * ((x.den : Int) : Rat) = (x - (m : Rat)) * ((x.den : Int) : Rat) := by grind
  rw [this, Rat.mul_div_cancel hden]
theorem frac_mul_l (m : Int) (x : Rat) : Rat.divInt (m * x.num) (x.den : Int) = (m : Rat) * x := by
  obtain ⟨hxm, hden⟩ := x_mul_den x
  rw [Rat.divInt_eq_div, Rat.intCast_mul, ← hxm]
  have : (m : Rat) * (x * ((x.den : Int) : Rat)) = ((m : Rat) * x) * ((x.den : Int) : Rat) := by grind
  rw [this, Rat.mul_div_cancel hden]
theorem mulOk_s {i : Int} (j : Int) (h : i.natAbs ≤ 1000000) : mulOk i j = true := by
  have h2 : 1000000 < 2 ^ 64 := by decide
  simp only [mulOk, Bool.or_eq_true, decide_eq_true_eq]; exact .inl (.inl (Nat.lt_of_le_of_lt h h2))
theorem mulOk_r (i : Int) {j : Int} (h : j.natAbs ≤ 1000000) : mulOk i j = true := by
  have h2 : 1000000 < 2 ^ 64 := by decide
  simp only [mulOk, Bool.or_eq_true, decide_eq_true_eq]; exact .inl (.inr (Nat.lt_of_le_of_lt h h2))
theorem den_9000 {k : Nat} {x : Rat} (h : Bd k x) (hk : k ≤ 9000) : ((x.den : Int)).natAbs < 2 ^ 9000 := cast_lt (Bd.mono h hk).d
/-! ### sight -/
def Sees (L : List Int) (x h y k : Rat) : Prop := ∀ i : Nat, i < L.length →
  (x < (i : Rat) → (i : Rat) < y → ht L i * (y - x) ≤ h * (y - (i : Rat)) + k * ((i : Rat) - x)) ∧
  (y < (i : Rat) → (i : Rat) < x → ht L i * (x - y) ≤ k * (x - (i : Rat)) + h * ((i : Rat) - y))
theorem Sees.symm {L : List Int} {x h y k : Rat} (s : Sees L x h y k) : Sees L y k x h := fun i hi => ⟨(s i hi).2, (s i hi).1⟩
theorem Sees.comm {L : List Int} {x h y k : Rat} : Sees L x h y k ↔ Sees L y k x h := ⟨Sees.symm, Sees.symm⟩
theorem Sees.self (L : List Int) (x h k : Rat) : Sees L x h x k := fun i hi => ⟨fun a b => absurd b (by grind), fun a b => absurd b (by grind)⟩
theorem mul_le_right {a b c : Rat} (h : a ≤ b) (hc : 0 ≤ c) : a * c ≤ b * c := Rat.mul_le_mul_of_nonneg_right h hc
theorem Sees.more {L : List Int} {x h y k h' k' : Rat} (s : Sees L x h y k) (a : h ≤ h') (b : k ≤ k') : Sees L x h' y k' := fun i hi => by
  obtain ⟨s1, s2⟩ := s i hi
  refine ⟨fun c d => Rat.le_trans (s1 c d) ?_, fun c d => Rat.le_trans (s2 c d) ?_⟩
  · have := mul_le_right (c := y - (i : Rat)) a (by grind)
    have := mul_le_right (c := (i : Rat) - x) b (by grind)
    grind
  · have := mul_le_right (c := x - (i : Rat)) b (by grind)
    have := mul_le_right (c := (i : Rat) - y) a (by grind)
    grind
noncomputable def clr (L : List Int) (x h y k : Rat) : Bool := @decide (Sees L x h y k) (Classical.propDecidable _)
theorem clr_t {L : List Int} {x h y k : Rat} (s : Sees L x h y k) : clr L x h y k = true := @decide_eq_true _ (Classical.propDecidable _) s
theorem clr_f {L : List Int} {x h y k : Rat} (s : ¬ Sees L x h y k) : clr L x h y k = false := @decide_eq_false _ (Classical.propDecidable _) s
theorem clr_comm (L : List Int) (x h y k : Rat) : clr L x h y k = clr L y k x h := by
  by_cases s : Sees L x h y k
  · rw [clr_t s, clr_t s.symm]
  · rw [clr_f s, clr_f fun z => s z.symm]
theorem clr_iff {L : List Int} {x h y k : Rat} : clr L x h y k = true ↔ Sees L x h y k := ⟨fun e => @of_decide_eq_true _ (Classical.propDecidable _) e, clr_t⟩
theorem clr_eq {L M : List Int} {x h y k x' h' y' k' : Rat} (e : Sees L x h y k ↔ Sees M x' h' y' k') : clr L x h y k = clr M x' h' y' k' := by
  by_cases s : Sees L x h y k
  · rw [clr_t s, clr_t (e.mp s)]
  · rw [clr_f s, clr_f fun z => s (e.mpr z)]
/-- the way of a straight line, at a place between -/
theorem way_iff {x h y k t i : Rat} (hxy : x < y) : h + (k - h) * ((i - x) / (y - x)) < t ↔ h * (y - i) + k * (i - x) < t * (y - x) := by
  have hp : 0 < y - x := by grind
  have e : (h + (k - h) * ((i - x) / (y - x))) * (y - x) = h * (y - i) + k * (i - x) := by
    have : (i - x) / (y - x) * (y - x) = i - x := Rat.div_mul_cancel (by grind)
    generalize (i - x) / (y - x) = q at this
    have : (k - h) * q * (y - x) = (k - h) * (i - x) := by rw [Rat.mul_assoc, this]
    grind
  rw [← e]
  constructor
  · intro a; exact Rat.mul_lt_mul_of_pos_right a hp
  · intro a; exact Rat.lt_of_mul_lt_mul_right a (Rat.le_of_lt hp)
theorem way_iff' {x h y k t i : Rat} (hxy : y < x) : h + (k - h) * ((i - x) / (y - x)) < t ↔ k * (x - i) + h * (i - y) < t * (x - y) := by
  have hp : 0 < x - y := by grind
  have e : (h + (k - h) * ((i - x) / (y - x))) * (x - y) = k * (x - i) + h * (i - y) := by
    have : (i - x) / (y - x) * (y - x) = i - x := Rat.div_mul_cancel (by grind)
    generalize (i - x) / (y - x) = q at this
    have : (k - h) * q * (y - x) = (k - h) * (i - x) := by rw [Rat.mul_assoc, this]
    grind
  rw [← e]
  constructor
  · intro a; exact Rat.mul_lt_mul_of_pos_right a hp
  · intro a; exact Rat.lt_of_mul_lt_mul_right a (Rat.le_of_lt hp)
theorem rmin_le (a b : Rat) : rmin a b ≤ a ∧ rmin a b ≤ b := by unfold rmin; split <;> grind
theorem rmax_ge (a b : Rat) : a ≤ rmax a b ∧ b ≤ rmax a b := by unfold rmax; split <;> grind
def bLo (x y : Rat) : Int := (rmin x y).floor + 1
def bHi (x y : Rat) : Int := 0 - (-(rmax x y)).floor
theorem bLo_le {x y : Rat} {i : Int} : bLo x y ≤ i ↔ rmin x y < (i : Rat) := by
  unfold bLo; rw [← Rat.floor_lt_iff]; omega
theorem lt_bHi {x y : Rat} {i : Int} : i < bHi x y ↔ (i : Rat) < rmax x y := by
  have : i < bHi x y ↔ (-(rmax x y)).floor < -i := by unfold bHi; omega
  rw [this, Rat.floor_lt_iff, Rat.intCast_neg]; grind
/-- the whole places between two spots -/
def plc (x y : Rat) : List Nat := (List.range (bHi x y - bLo x y).toNat).map fun k => (bLo x y).toNat + k
theorem mem_plc {x y : Rat} (h0 : 0 ≤ x) (h1 : 0 ≤ y) {i : Nat} : i ∈ plc x y ↔ rmin x y < (i : Rat) ∧ (i : Rat) < rmax x y := by
  have e : ((i : Int) : Rat) = (i : Rat) := Rat.intCast_natCast i
  have b0 : 0 ≤ bLo x y := by
    have : 0 ≤ rmin x y := by unfold rmin; split <;> assumption
    have : (0 : Int) ≤ (rmin x y).floor := Rat.le_floor_iff.mpr (by simpa using this)
    unfold bLo; omega
  rw [← e, ← bLo_le, ← lt_bHi]
  unfold plc
  simp only [List.mem_map, List.mem_range]
  constructor
  · rintro ⟨k, hk, rfl⟩; omega
  · rintro ⟨a, b⟩; exact ⟨i - (bLo x y).toNat, by omega, by omega⟩
theorem plc_D {x y : Rat} (h0 : 0 ≤ x) (h1 : 0 ≤ y) : ((List.range (bHi x y - bLo x y).toNat).map fun k => D.int (bLo x y + (k : Nat))) = (plc x y).map fun i => D.int (i : Nat) := by
  have b0 : 0 ≤ bLo x y := by
    have : 0 ≤ rmin x y := by unfold rmin; split <;> assumption
    have : (0 : Int) ≤ (rmin x y).floor := Rat.le_floor_iff.mpr (by simpa using this)
    unfold bLo; omega
  unfold plc
  rw [List.map_map]
  apply List.map_congr_left
  intro k _
  simp only [Function.comp]
  congr 1; omega
theorem plc_lt {L : List Int} [hL : Land L] {x y : Rat} (h0 : 0 ≤ x) (h1 : 0 ≤ y) (h2 : x ≤ ((L.length - 1 : Nat) : Rat)) (h3 : y ≤ ((L.length - 1 : Nat) : Rat)) {i : Nat} (h : i ∈ plc x y) : i < L.length := by
  have lo := hL.lo
  obtain ⟨_, b⟩ := (mem_plc h0 h1).mp h
  have : (i : Rat) < ((L.length - 1 : Nat) : Rat) := by
    have c : rmax x y ≤ ((L.length - 1 : Nat) : Rat) := by unfold rmax; split <;> assumption
    grind
  have := natCast_lt.mp this
  omega
theorem sees_plc {L : List Int} [hL : Land L] {x h y k : Rat} (h0 : 0 ≤ x) (h1 : 0 ≤ y) (h2 : x ≤ ((L.length - 1 : Nat) : Rat)) (h3 : y ≤ ((L.length - 1 : Nat) : Rat)) :
    (∀ i ∈ plc x y, ¬ h + (k - h) * (((i : Rat) - x) / (y - x)) < ht L i) ↔ Sees L x h y k := by
  constructor
  · intro a i hi
    refine ⟨fun c d => ?_, fun c d => ?_⟩
    · have hxy : x < y := by grind
      have := a i ((mem_plc h0 h1).mpr ⟨by unfold rmin; rw [if_pos hxy]; exact c, by unfold rmax; rw [if_pos hxy]; exact d⟩)
      rw [way_iff hxy] at this
      exact Rat.not_lt.mp this
    · have hxy : y < x := by grind
      have n : ¬ x < y := by grind
      have := a i ((mem_plc h0 h1).mpr ⟨by unfold rmin; rw [if_neg n]; exact c, by unfold rmax; rw [if_neg n]; exact d⟩)
      rw [way_iff' hxy] at this
      exact Rat.not_lt.mp this
  · intro a i hi
    have il := plc_lt (L := L) h0 h1 h2 h3 hi
    obtain ⟨b, c⟩ := (mem_plc h0 h1).mp hi
    obtain ⟨s1, s2⟩ := a i il
    by_cases hxy : x < y
    · unfold rmin at b; unfold rmax at c
      rw [if_pos hxy] at b c
      rw [way_iff hxy, Rat.not_lt]; exact s1 b c
    · unfold rmin at b; unfold rmax at c
      rw [if_neg hxy] at b c
      rw [way_iff' (by grind), Rat.not_lt]; exact s2 b c
theorem plc_ne {x y : Rat} (h0 : 0 ≤ x) (h1 : 0 ≤ y) {i : Nat} (h : i ∈ plc x y) : y - x ≠ 0 := by
  obtain ⟨b, c⟩ := (mem_plc h0 h1).mp h
  intro e
  have : x = y := by grind
  subst this
  unfold rmin at b; unfold rmax at c
  split at b <;> split at c <;> grind
theorem bLo_bd {L : List Int} [hL : Land L] {x y : Rat} (h0 : 0 ≤ x) (h1 : 0 ≤ y) (h2 : x ≤ ((L.length - 1 : Nat) : Rat)) (h3 : y ≤ ((L.length - 1 : Nat) : Rat)) : 0 ≤ bLo x y ∧ bLo x y ≤ 12 ∧ 0 ≤ bHi x y ∧ bHi x y ≤ 12 := by
  have hi := hL.hi
  have a0 : 0 ≤ rmin x y := by unfold rmin; split <;> assumption
  have a1 : rmin x y ≤ ((L.length - 1 : Nat) : Rat) := by unfold rmin; split <;> assumption
  have a2 : 0 ≤ rmax x y := by unfold rmax; split <;> assumption
  have a3 : rmax x y ≤ ((L.length - 1 : Nat) : Rat) := by unfold rmax; split <;> assumption
  have e : (((L.length - 1 : Nat) : Int) : Rat) = ((L.length - 1 : Nat) : Rat) := Rat.intCast_natCast _
  refine ⟨?_, ?_, ?_, ?_⟩
  · have : (0 : Int) ≤ (rmin x y).floor := Rat.le_floor_iff.mpr (by simpa using a0)
    unfold bLo; omega
  · have : ((rmin x y).floor : Rat) ≤ (((L.length - 1 : Nat) : Int) : Rat) := by rw [e]; exact Rat.le_trans (Rat.floor_le _) a1
    have := Rat.intCast_le_intCast.mp this
    unfold bLo; omega
  · have : ¬ bHi x y ≤ -1 := by
      intro z
      have : ¬ (-1 : Int) < bHi x y := by omega
      rw [lt_bHi] at this
      simp at this
      grind
    omega
  · have : ¬ ((L.length - 1 : Nat) : Int) < bHi x y := by
      rw [lt_bHi, e]; grind
    omega
end RS

namespace RS
open PySem
/-! ### rounding up; the least eye -/
def cei (q : Rat) : Int := 0 - (-q).floor
theorem cei_le {q : Rat} {i : Int} : cei q ≤ i ↔ q ≤ (i : Rat) := by
  have : cei q ≤ i ↔ -i ≤ (-q).floor := by unfold cei; omega
  rw [this, Rat.le_floor_iff, Rat.intCast_neg]; grind
theorem lt_cei {q : Rat} {i : Int} : i < cei q ↔ (i : Rat) < q := by
  have := cei_le (q := q) (i := i)
  have e1 : i < cei q ↔ ¬ cei q ≤ i := by omega
  rw [e1, this, Rat.not_le]
theorem cei_abs (q : Rat) : (cei q).natAbs ≤ q.num.natAbs := by
  unfold cei
  rw [Rat.floor_def, Rat.neg_num, Rat.neg_den]
  have := Int.natAbs_ediv_le_natAbs (-q.num) (q.den : Int)
  omega
instance cei_bd {k : Nat} {q : Rat} [hq : Bd k q] : Bd (k + 1) ((cei q : Int) : Rat) := by
  refine Bd.int (k := k) (Nat.lt_of_le_of_lt (cei_abs q) (Nat.lt_of_lt_of_le hq.n (Nat.pow_le_pow_right (by decide) (by omega))))
theorem cei_eq (q : Rat) : 0 - (0 - q.num) / (q.den : Int) = cei q := by
  unfold cei; rw [Rat.floor_def, Rat.neg_num, Rat.neg_den, Int.zero_sub q.num]
abbrev lineV (L : List Int) (x y K : Rat) (p : Nat) : Rat := K + (ht L p - K) * ((x - y) / ((p : Rat) - y))
theorem mul_le_iff {a b c : Rat} (hc : 0 < c) : a * c ≤ b * c ↔ a ≤ b := by
  constructor
  · intro h
    refine Rat.not_lt.mp fun z => ?_
    exact absurd h (Rat.not_le.mpr (Rat.mul_lt_mul_of_pos_right z hc))
  · intro h; exact mul_le_right h (Rat.le_of_lt hc)
theorem line_iff {L : List Int} {x y K h : Rat} (h0 : 0 ≤ x) (h1 : 0 ≤ y) {p : Nat} (hp : p ∈ plc x y) : lineV L x y K p ≤ h ↔ ¬ h + (K - h) * (((p : Rat) - x) / (y - x)) < ht L p := by
  obtain ⟨b, c⟩ := (mem_plc h0 h1).mp hp
  have ne := plc_ne h0 h1 hp
  by_cases hxy : x < y
  · unfold rmin at b; unfold rmax at c
    rw [if_pos hxy] at b c
    rw [way_iff hxy, Rat.not_lt, ← mul_le_iff (c := y - (p : Rat)) (by grind)]
    have e : (x - y) / ((p : Rat) - y) * ((p : Rat) - y) = x - y := Rat.div_mul_cancel (by grind)
    unfold lineV
    generalize (x - y) / ((p : Rat) - y) = q at e
    have e2 : (ht L p - K) * q * ((p : Rat) - y) = (ht L p - K) * (x - y) := by rw [Rat.mul_assoc, e]
    have e3 : (K + (ht L p - K) * q) * (y - (p : Rat)) = K * (y - (p : Rat)) + (ht L p - K) * (y - x) := by grind
    rw [e3]
    constructor <;> intro z <;> grind
  · unfold rmin at b; unfold rmax at c
    rw [if_neg hxy] at b c
    rw [way_iff' (by grind), Rat.not_lt, ← mul_le_iff (c := (p : Rat) - y) (by grind)]
    have e : (x - y) / ((p : Rat) - y) * ((p : Rat) - y) = x - y := Rat.div_mul_cancel (by grind)
    unfold lineV
    generalize (x - y) / ((p : Rat) - y) = q at e
    have e2 : (ht L p - K) * q * ((p : Rat) - y) = (ht L p - K) * (x - y) := by rw [Rat.mul_assoc, e]
    have e3 : (K + (ht L p - K) * q) * ((p : Rat) - y) = K * ((p : Rat) - y) + (ht L p - K) * (x - y) := by grind
    rw [e3]
    constructor <;> intro z <;> grind
theorem sees_line {L : List Int} [hL : Land L] {x h y k : Rat} (h0 : 0 ≤ x) (h1 : 0 ≤ y) (h2 : x ≤ ((L.length - 1 : Nat) : Rat)) (h3 : y ≤ ((L.length - 1 : Nat) : Rat)) :
    Sees L x h y k ↔ ∀ p ∈ plc x y, lineV L x y k p ≤ h := by
  rw [← sees_plc h0 h1 h2 h3]
  exact ⟨fun z p hp => (line_iff h0 h1 hp).mpr (z p hp), fun z p hp => (line_iff h0 h1 hp).mp (z p hp)⟩
def need (L : List Int) (x y K g : Rat) : Rat := (plc x y).foldl (fun s p => rmax s (lineV L x y K p)) g
theorem rmax_le {a b c : Rat} : rmax a b ≤ c ↔ a ≤ c ∧ b ≤ c := by unfold rmax; split <;> grind
theorem foldl_rmax_le {α : Type} (f : α → Rat) {h : Rat} : ∀ (l : List α) (g : Rat), l.foldl (fun s p => rmax s (f p)) g ≤ h ↔ g ≤ h ∧ ∀ p ∈ l, f p ≤ h
  | [], g => by simp
  | a :: l, g => by
    rw [List.foldl_cons, foldl_rmax_le f l, rmax_le]
    simp only [List.mem_cons, forall_eq_or_imp]
    exact ⟨fun ⟨⟨a, b⟩, c⟩ => ⟨a, b, c⟩, fun ⟨a, b, c⟩ => ⟨⟨a, b⟩, c⟩⟩
theorem need_le {L : List Int} {x y K g h : Rat} : need L x y K g ≤ h ↔ g ≤ h ∧ ∀ p ∈ plc x y, lineV L x y K p ≤ h := foldl_rmax_le _ _ _
theorem least_spec {L : List Int} [hL : Land L] {x y K g : Rat} (h0 : 0 ≤ x) (h1 : 0 ≤ y) (h2 : x ≤ ((L.length - 1 : Nat) : Rat)) (h3 : y ≤ ((L.length - 1 : Nat) : Rat)) (E : Int) (hE : E = cei (need L x y K g - g)) :
    0 ≤ E ∧ Sees L x (g + (E : Rat)) y K ∧ (0 < E → ¬ Sees L x (g + ((E - 1 : Int) : Rat)) y K) := by
  have ng := (need_le (L := L) (x := x) (y := y) (K := K) (g := g) (h := need L x y K g)).mp Rat.le_refl
  have hle : need L x y K g - g ≤ (E : Rat) := cei_le.mp (by omega)
  have hlt : ((E - 1 : Int) : Rat) < need L x y K g - g := lt_cei.mp (by omega)
  refine ⟨?_, ?_, ?_⟩
  · have : ((-1 : Int) : Rat) < need L x y K g - g := by
      have e : ((-1 : Int) : Rat) = -1 := rfl
      rw [e]; grind
    have := lt_cei.mpr this
    omega
  · rw [sees_line h0 h1 h2 h3]
    intro p hp
    have := ng.2 p hp
    exact Rat.le_trans this (by grind)
  · intro hpos z
    rw [sees_line h0 h1 h2 h3] at z
    have e0 : (0 : Rat) ≤ ((E - 1 : Int) : Rat) := by
      have : ((0 : Int) : Rat) ≤ ((E - 1 : Int) : Rat) := Rat.intCast_le_intCast.mpr (by omega)
      simpa using this
    have := (need_le (L := L) (x := x) (y := y) (K := K) (g := g) (h := g + ((E - 1 : Int) : Rat))).mpr ⟨by grind, z⟩
    grind
theorem rmin_comm (x y : Rat) : rmin x y = rmin y x := by unfold rmin; split <;> split <;> grind
theorem rmax_comm (x y : Rat) : rmax x y = rmax y x := by unfold rmax; split <;> split <;> grind
theorem plc_comm (x y : Rat) : plc x y = plc y x := by unfold plc bLo bHi; rw [rmin_comm x y, rmax_comm x y]
end RS

namespace RS
open PySem
/-! ### a loop by its rest -/
theorem for_ind {tg : Tg} {b : Env → O} {α : Type} (m : α → D) (Inv : List α → Env → Prop) (h : ∀ a l ρ, Inv (a :: l) ρ → ∃ ρ1 ρ', setT tg (m a) ρ = .ok ρ1 ∧ b ρ1 = .nx ρ' ∧ Inv l ρ') : ∀ (l : List α) ρ, Inv l ρ → ∃ ρ', forD tg b (l.map m) ρ = .nx ρ' ∧ Inv [] ρ'
  | [], ρ, h0 => ⟨ρ, rfl, h0⟩
  | a :: l, ρ, h0 => by
    obtain ⟨ρ1, ρ', e1, e2, i2⟩ := h a l ρ h0
    obtain ⟨ρ2, e3, i3⟩ := for_ind m Inv h l ρ' i2
    exact ⟨ρ2, by rw [List.map_cons, forD, e1, out_ok, e2, then_nx, e3], i3⟩
theorem g_ins (ds : List D) (d : D) (n : Nat) (h : ds.length < big) (hn : n ≤ 100000) : gMt .ins ds [.int (n : Nat), d] = some (ds.take n ++ [d] ++ ds.drop n) := by
  have p2 : (100000 : Int) < 2 ^ 62 := by decide
  have h2 : ((n : Nat) : Int) < 2 ^ 62 := Int.lt_of_le_of_lt (by omega) p2
  have h3 : (0 : Int) ≤ ((n : Nat) : Int) := by omega
  simp only [gMt]
  rw [if_pos (by simp only [Bool.and_eq_true, decide_eq_true_eq]; exact ⟨⟨h, h3⟩, h2⟩), Int.toNat_natCast]
/-! ### spans -/
abbrev Sp := Rat × Rat
def sp (s : Sp) : D := .tup [fr s.1, fr s.2]
def sps (l : List Sp) : D := .lst (l.map sp)
theorem sps_nil : D.lst [] = sps [] := rfl
def Mem (l : List Sp) (q : Rat) : Prop := ∃ s ∈ l, s.1 ≤ q ∧ q ≤ s.2
def Ok (l : List Sp) : Prop := ∀ s ∈ l, s.1 ≤ s.2
def Nrm : List Sp → Prop
  | [] => True
  | s :: l => s.1 ≤ s.2 ∧ (∀ t ∈ l, s.2 < t.1) ∧ Nrm l
def BdL (k : Nat) (l : List Sp) : Prop := ∀ s ∈ l, Bd k s.1 ∧ Bd k s.2
theorem BdL.mono {k j : Nat} {l : List Sp} (h : BdL k l) (hk : k ≤ j) : BdL j l := fun s hs => ⟨(h s hs).1.mono hk, (h s hs).2.mono hk⟩
theorem BdL.app {k : Nat} {a b : List Sp} (h1 : BdL k a) (h2 : BdL k b) : BdL k (a ++ b) := fun s hs => (List.mem_append.mp hs).elim (h1 s) (h2 s)
theorem Nrm.ok : ∀ {l : List Sp}, Nrm l → Ok l
  | [], _ => fun s hs => absurd hs List.not_mem_nil
  | a :: l, h => fun s hs => by
    rcases List.mem_cons.mp hs with rfl | hs
    · exact h.1
    · exact h.2.2.ok s hs
theorem Mem.nil {q : Rat} : ¬ Mem [] q := fun ⟨s, hs, _⟩ => absurd hs List.not_mem_nil
theorem Mem.cons {s : Sp} {l : List Sp} {q : Rat} : Mem (s :: l) q ↔ (s.1 ≤ q ∧ q ≤ s.2) ∨ Mem l q := by
  constructor
  · rintro ⟨t, ht, h⟩
    rcases List.mem_cons.mp ht with rfl | ht
    · exact .inl h
    · exact .inr ⟨t, ht, h⟩
  · rintro (h | ⟨t, ht, h⟩)
    · exact ⟨s, List.mem_cons_self, h⟩
    · exact ⟨t, List.mem_cons_of_mem _ ht, h⟩
theorem Mem.app {a b : List Sp} {q : Rat} : Mem (a ++ b) q ↔ Mem a q ∨ Mem b q := by
  unfold Mem
  constructor
  · rintro ⟨t, ht, h⟩
    rcases List.mem_append.mp ht with ht | ht
    · exact .inl ⟨t, ht, h⟩
    · exact .inr ⟨t, ht, h⟩
  · rintro (⟨t, ht, h⟩ | ⟨t, ht, h⟩)
    · exact ⟨t, List.mem_append_left _ ht, h⟩
    · exact ⟨t, List.mem_append_right _ ht, h⟩
theorem mid {a b : Rat} (h : a < b) : ∃ m, a < m ∧ m < b := ⟨(a + b) / 2, by grind, by grind⟩
theorem Nrm.lo {s : Sp} {l : List Sp} (h : Nrm (s :: l)) {q : Rat} (m : Mem (s :: l) q) : s.1 ≤ q := by
  rcases Mem.cons.mp m with m | ⟨t, ht, m1, m2⟩
  · exact m.1
  · have := h.2.1 t ht
    have := h.1
    grind
theorem Nrm.tail {s : Sp} {l : List Sp} (h : Nrm (s :: l)) {q : Rat} (m : Mem l q) : s.2 < q := by
  obtain ⟨t, ht, m1, m2⟩ := m
  have := h.2.1 t ht
  grind
theorem Nrm.end_le {s t : Sp} {a b : List Sp} (ha : Nrm (s :: a)) (hb : Nrm (t :: b)) (h : ∀ q, Mem (t :: b) q → Mem (s :: a) q) (e : s.1 = t.1) : t.2 ≤ s.2 := by
  refine Rat.not_lt.mp fun z => ?_
  have key : ∀ q, s.2 < q → q ≤ t.2 → Mem a q := fun q h1 h2 => by
    have := h q (Mem.cons.mpr (.inl ⟨by have := ha.1; grind, h2⟩))
    rcases Mem.cons.mp this with m | m
    · grind
    · exact m
  cases a with
  | nil => exact Mem.nil (key t.2 z Rat.le_refl)
  | cons u a =>
    have hu := ha.2.1 u List.mem_cons_self
    obtain ⟨m, m1, m2⟩ := mid (a := s.2) (b := rmin t.2 u.1) (by unfold rmin; split <;> assumption)
    have := rmin_le t.2 u.1
    have := ha.2.2.lo (key m m1 (by grind))
    grind
theorem Nrm.uniq : ∀ {a b : List Sp}, Nrm a → Nrm b → (∀ q, Mem a q ↔ Mem b q) → a = b
  | [], [], _, _, _ => rfl
  | [], t :: b, _, hb, h => absurd ((h t.1).mpr (Mem.cons.mpr (.inl ⟨Rat.le_refl, hb.1⟩))) Mem.nil
  | s :: a, [], ha, _, h => absurd ((h s.1).mp (Mem.cons.mpr (.inl ⟨Rat.le_refl, ha.1⟩))) Mem.nil
  | s :: a, t :: b, ha, hb, h => by
    have e1 : s.1 = t.1 := Rat.le_antisymm (ha.lo ((h t.1).mpr (Mem.cons.mpr (.inl ⟨Rat.le_refl, hb.1⟩)))) (hb.lo ((h s.1).mp (Mem.cons.mpr (.inl ⟨Rat.le_refl, ha.1⟩))))
    have e2 : s.2 = t.2 := Rat.le_antisymm (hb.end_le ha (fun q => (h q).mp) e1.symm) (ha.end_le hb (fun q => (h q).mpr) e1)
    have e : s = t := Prod.ext e1 e2
    subst e
    have : a = b := Nrm.uniq ha.2.2 hb.2.2 fun q => by
      constructor
      · intro m
        rcases Mem.cons.mp ((h q).mp (Mem.cons.mpr (.inr m))) with z | z
        · have := ha.tail m; grind
        · exact z
      · intro m
        rcases Mem.cons.mp ((h q).mpr (Mem.cons.mpr (.inr m))) with z | z
        · have := hb.tail m; grind
        · exact z
    rw [this]
/-! ### in order -/
def posO (f : List Sp) (s : Sp) : Nat := (f.filter fun o => !decide (s.1 < o.1)).length
def insO (f : List Sp) (s : Sp) : List Sp := f.take (posO f s) ++ [s] ++ f.drop (posO f s)
def Srt (f : List Sp) : Prop := f.Pairwise fun a b => a.1 ≤ b.1
theorem posO_le (f : List Sp) (s : Sp) : posO f s ≤ f.length := List.length_filter_le _ _
theorem mem_insO {f : List Sp} {s t : Sp} : t ∈ insO f s ↔ t = s ∨ t ∈ f := by
  unfold insO
  simp only [List.mem_append, List.mem_singleton]
  constructor
  · rintro ((h | h) | h)
    · exact .inr (List.mem_of_mem_take h)
    · exact .inl h
    · exact .inr (List.mem_of_mem_drop h)
  · rintro (h | h)
    · exact .inl (.inr h)
    · rw [← List.take_append_drop (posO f s) f, List.mem_append] at h
      rcases h with h | h
      · exact .inl (.inl h)
      · exact .inr h
theorem posO_split : ∀ {f : List Sp} {s : Sp}, Srt f → (∀ t ∈ f.take (posO f s), t.1 ≤ s.1) ∧ (∀ t ∈ f.drop (posO f s), s.1 < t.1)
  | [], s, _ => ⟨fun t ht => by simp [posO] at ht, fun t ht => by simp [posO] at ht⟩
  | a :: f, s, h => by
    have h2 := List.pairwise_cons.mp h
    obtain ⟨i1, i2⟩ := posO_split (f := f) (s := s) h2.2
    by_cases c : s.1 < a.1
    · have all : ∀ t ∈ f, s.1 < t.1 := fun t ht => by have := h2.1 t ht; grind
      have e : posO (a :: f) s = 0 := by
        unfold posO
        rw [List.filter_cons, if_neg (by simp [c]), List.length_eq_zero_iff, List.filter_eq_nil_iff]
        intro t ht; simp [all t ht]
      rw [e]
      refine ⟨fun t ht => by simp at ht, fun t ht => ?_⟩
      rw [List.drop_zero] at ht
      rcases List.mem_cons.mp ht with rfl | ht
      · exact c
      · exact all t ht
    · have e : posO (a :: f) s = posO f s + 1 := by
        unfold posO
        rw [List.filter_cons, if_pos (by simp [c])]; rfl
      rw [e, List.take_succ_cons, List.drop_succ_cons]
      refine ⟨fun t ht => ?_, i2⟩
      rcases List.mem_cons.mp ht with rfl | ht
      · grind
      · exact i1 t ht
theorem srt_insO {f : List Sp} {s : Sp} (h : Srt f) : Srt (insO f s) := by
  obtain ⟨i1, i2⟩ := posO_split (s := s) h
  unfold insO Srt
  rw [List.append_assoc, List.pairwise_append]
  refine ⟨h.sublist (List.take_sublist _ _), ?_, fun a ha b hb => ?_⟩
  · rw [List.singleton_append, List.pairwise_cons]
    exact ⟨fun t ht => Rat.le_of_lt (i2 t ht), h.sublist (List.drop_sublist _ _)⟩
  · rw [List.singleton_append, List.mem_cons] at hb
    have := i1 a ha
    rcases hb with rfl | hb
    · exact this
    · have := i2 b hb; grind
def order (l : List Sp) : List Sp := l.foldl insO []
theorem order_srt (l : List Sp) : Srt (order l) := by
  have : ∀ (l f : List Sp), Srt f → Srt (l.foldl insO f) := by
    intro l
    induction l with
    | nil => exact fun f h => h
    | cons a l ih => exact fun f h => ih _ (srt_insO h)
  exact this l [] List.Pairwise.nil
theorem mem_order {l : List Sp} {t : Sp} : t ∈ order l ↔ t ∈ l := by
  have : ∀ (l f : List Sp), t ∈ l.foldl insO f ↔ t ∈ f ∨ t ∈ l := by
    intro l
    induction l with
    | nil => intro f; simp
    | cons a l ih => intro f; rw [List.foldl_cons, ih, mem_insO, List.mem_cons]; grind
  unfold order
  rw [this]; simp
theorem Mem.congr {a b : List Sp} (h : ∀ t, t ∈ a ↔ t ∈ b) (q : Rat) : Mem a q ↔ Mem b q := by
  unfold Mem
  exact ⟨fun ⟨t, ht, z⟩ => ⟨t, (h t).mp ht, z⟩, fun ⟨t, ht, z⟩ => ⟨t, (h t).mpr ht, z⟩⟩
/-! ### put together -/
def stepP (f : List Sp) (s : Sp) : List Sp := match f.getLast? with
  | none => f ++ [s]
  | some q => if q.2 < s.1 then f ++ [s] else f.dropLast ++ [(q.1, rmax q.2 s.2)]
theorem stepP_nil (s : Sp) : stepP [] s = [s] := rfl
theorem stepP_app (f : List Sp) (q s : Sp) : stepP (f ++ [q]) s = if q.2 < s.1 then f ++ [q] ++ [s] else f ++ [(q.1, rmax q.2 s.2)] := by
  unfold stepP
  rw [List.getLast?_concat, List.dropLast_concat]
def together (l : List Sp) : List Sp := (order l).foldl stepP []
theorem Nrm.app_iff : ∀ {f : List Sp} {q : Sp}, Nrm (f ++ [q]) ↔ Nrm f ∧ (∀ t ∈ f, t.2 < q.1) ∧ q.1 ≤ q.2
  | [], q => by simp [Nrm]
  | a :: f, q => by
    rw [List.cons_append, Nrm, Nrm, Nrm.app_iff (f := f)]
    constructor
    · rintro ⟨h1, h2, h3, h4, h5⟩
      refine ⟨⟨h1, fun t ht => h2 t (List.mem_append_left _ ht), h3⟩, fun t ht => ?_, h5⟩
      rcases List.mem_cons.mp ht with rfl | ht
      · exact h2 q (List.mem_append_right _ List.mem_cons_self)
      · exact h4 t ht
    · rintro ⟨⟨h1, h2, h3⟩, h4, h5⟩
      refine ⟨h1, fun t ht => ?_, h3, fun t ht => h4 t (List.mem_cons_of_mem _ ht), h5⟩
      rcases List.mem_append.mp ht with ht | ht
      · exact h2 t ht
      · rw [List.mem_singleton.mp ht]; exact h4 a List.mem_cons_self
theorem fold_stepP : ∀ (l f : List Sp), Srt l → Ok l → Nrm f → (∀ q ∈ f, ∀ s ∈ l, q.1 ≤ s.1) → Nrm (l.foldl stepP f) ∧ ∀ q, Mem (l.foldl stepP f) q ↔ Mem f q ∨ Mem l q
  | [], f, _, _, hf, _ => ⟨hf, fun q => ⟨.inl, fun h => h.elim id fun z => absurd z Mem.nil⟩⟩
  | s :: l, f, hs, ho, hf, hb => by
    have hs2 := List.pairwise_cons.mp hs
    have ho' : Ok l := fun t ht => ho t (List.mem_cons_of_mem _ ht)
    have hos := ho s List.mem_cons_self
    rcases List.eq_nil_or_concat f with rfl | ⟨f, p, rfl⟩
    · rw [List.foldl_cons, stepP_nil]
      obtain ⟨n, m⟩ := fold_stepP l [s] hs2.2 ho' ⟨hos, fun t ht => absurd ht List.not_mem_nil, trivial⟩ (fun q hq t ht => by rw [List.mem_singleton.mp hq]; exact hs2.1 t ht)
      refine ⟨n, fun q => ?_⟩
      rw [m q, Mem.cons, Mem.cons]
      constructor
      · rintro ((h | h) | h)
        · exact .inr (.inl h)
        · exact absurd h Mem.nil
        · exact .inr (.inr h)
      · rintro (h | h | h)
        · exact absurd h Mem.nil
        · exact .inl (.inl h)
        · exact .inr h
    · rw [List.concat_eq_append] at hf hb ⊢
      rw [List.foldl_cons, stepP_app]
      have hp := hb p (List.mem_append_right _ List.mem_cons_self) s List.mem_cons_self
      obtain ⟨n1, n2, n3⟩ := Nrm.app_iff.mp hf
      by_cases c : p.2 < s.1
      · rw [if_pos c]
        have nf : Nrm (f ++ [p] ++ [s]) := Nrm.app_iff.mpr ⟨hf, fun t ht => by
          rcases List.mem_append.mp ht with ht | ht
          · have := n2 t ht; grind
          · rw [List.mem_singleton.mp ht]; exact c, hos⟩
        obtain ⟨n, m⟩ := fold_stepP l (f ++ [p] ++ [s]) hs2.2 ho' nf (fun q hq t ht => by
          rcases List.mem_append.mp hq with hq | hq
          · exact hb q hq t (List.mem_cons_of_mem _ ht)
          · rw [List.mem_singleton.mp hq]; exact hs2.1 t ht)
        refine ⟨n, fun q => ?_⟩
        rw [m q, Mem.app, Mem.cons, Mem.cons (l := l)]
        have := Mem.nil (q := q)
        grind
      · rw [if_neg c]
        have hx := rmax_ge p.2 s.2
        have nf : Nrm (f ++ [(p.1, rmax p.2 s.2)]) := Nrm.app_iff.mpr ⟨n1, n2, by show p.1 ≤ rmax p.2 s.2; grind⟩
        obtain ⟨n, m⟩ := fold_stepP l (f ++ [(p.1, rmax p.2 s.2)]) hs2.2 ho' nf (fun q hq t ht => by
          rcases List.mem_append.mp hq with hq | hq
          · exact hb q (List.mem_append_left _ hq) t (List.mem_cons_of_mem _ ht)
          · rw [List.mem_singleton.mp hq]; exact hb p (List.mem_append_right _ List.mem_cons_self) t (List.mem_cons_of_mem _ ht))
        refine ⟨n, fun q => ?_⟩
        rw [m q, Mem.app, Mem.app, Mem.cons, Mem.cons, Mem.cons (l := l)]
        have nn := Mem.nil (q := q)
        have key : (p.1 ≤ q ∧ q ≤ rmax p.2 s.2) ↔ (p.1 ≤ q ∧ q ≤ p.2) ∨ (s.1 ≤ q ∧ q ≤ s.2) := by
          unfold rmax; split <;> grind
        show (Mem f q ∨ ((p.1 ≤ q ∧ q ≤ rmax p.2 s.2) ∨ Mem [] q)) ∨ Mem l q ↔ _
        rw [key]
        grind
theorem together_spec {l : List Sp} (h : Ok l) : Nrm (together l) ∧ ∀ q, Mem (together l) q ↔ Mem l q := by
  obtain ⟨n, m⟩ := fold_stepP (order l) [] (order_srt l) (fun s hs => h s (mem_order.mp hs)) trivial (fun q hq => absurd hq List.not_mem_nil)
  refine ⟨n, fun q => ?_⟩
  unfold together
  rw [m q, Mem.congr (fun t => mem_order) q]
  exact ⟨fun z => z.elim (fun z => absurd z Mem.nil) id, .inr⟩
theorem fold_stepP_bd {k : Nat} : ∀ (l f : List Sp), BdL k l → BdL k f → BdL k (l.foldl stepP f)
  | [], f, _, hf => hf
  | s :: l, f, hl, hf => by
    rw [List.foldl_cons]
    have hl' : BdL k l := fun t ht => hl t (List.mem_cons_of_mem _ ht)
    have hs := hl s List.mem_cons_self
    refine fold_stepP_bd l _ hl' ?_
    rcases List.eq_nil_or_concat f with rfl | ⟨f, p, rfl⟩
    · rw [stepP_nil]; intro t ht; rw [List.mem_singleton.mp ht]; exact hs
    · rw [List.concat_eq_append] at hf ⊢
      rw [stepP_app]
      have hp := hf p (List.mem_append_right _ List.mem_cons_self)
      split
      · exact hf.app fun t ht => by rw [List.mem_singleton.mp ht]; exact hs
      · refine BdL.app (fun t ht => hf t (List.mem_append_left _ ht)) fun t ht => ?_
        rw [List.mem_singleton.mp ht]
        refine ⟨hp.1, ?_⟩
        show Bd k (rmax p.2 s.2)
        unfold rmax; split
        · exact hs.2
        · exact hp.2
theorem together_bd {k : Nat} {l : List Sp} (h : BdL k l) : BdL k (together l) := fold_stepP_bd _ _ (fun s hs => h s (mem_order.mp hs)) (fun s hs => absurd hs List.not_mem_nil)
theorem fold_stepP_len : ∀ (l f : List Sp), (l.foldl stepP f).length ≤ f.length + l.length
  | [], f => by simp
  | s :: l, f => by
    rw [List.foldl_cons]
    refine Nat.le_trans (fold_stepP_len l _) ?_
    rcases List.eq_nil_or_concat f with rfl | ⟨f, p, rfl⟩
    · rw [stepP_nil]; simp; omega
    · rw [List.concat_eq_append, stepP_app]
      split <;> simp <;> omega
theorem insO_len (f : List Sp) (s : Sp) : (insO f s).length = f.length + 1 := by
  have := posO_le f s
  unfold insO; simp; omega
theorem order_len (l : List Sp) : (order l).length = l.length := by
  have : ∀ (l f : List Sp), (l.foldl insO f).length = f.length + l.length := by
    intro l
    induction l with
    | nil => intro f; simp
    | cons a l ih => intro f; rw [List.foldl_cons, ih, insO_len, List.length_cons]; omega
  unfold order; rw [this]; simp
theorem together_len (l : List Sp) : (together l).length ≤ l.length := by
  have := fold_stepP_len (order l) []
  rw [order_len] at this
  simpa [together] using this
/-! ### both -/
def inn (f : List Sp) (m t : Sp) : List Sp := if rmin m.2 t.2 < rmax m.1 t.1 then f else f ++ [(rmax m.1 t.1, rmin m.2 t.2)]
def inter (a b : List Sp) : List Sp := a.foldl (fun f m => b.foldl (fun f t => inn f m t) f) []
theorem le_rmin {a b c : Rat} : c ≤ rmin a b ↔ c ≤ a ∧ c ≤ b := by unfold rmin; split <;> grind
theorem inn_mem {f : List Sp} {m t : Sp} {q : Rat} : Mem (inn f m t) q ↔ Mem f q ∨ ((m.1 ≤ q ∧ q ≤ m.2) ∧ (t.1 ≤ q ∧ q ≤ t.2)) := by
  have e1 := rmax_le (a := m.1) (b := t.1) (c := q)
  have e2 := le_rmin (a := m.2) (b := t.2) (c := q)
  unfold inn
  split
  · rename_i h
    constructor
    · exact .inl
    · rintro (z | z)
      · exact z
      · exfalso; have := e1.mpr ⟨z.1.1, z.2.1⟩; have := e2.mpr ⟨z.1.2, z.2.2⟩; grind
  · rw [Mem.app, Mem.cons]
    show (Mem f q ∨ ((rmax m.1 t.1 ≤ q ∧ q ≤ rmin m.2 t.2) ∨ Mem [] q)) ↔ _
    rw [e1, e2]
    have := Mem.nil (q := q)
    grind
theorem inn_ok {f : List Sp} {m t : Sp} (h : Ok f) : Ok (inn f m t) := by
  unfold inn; split
  · exact h
  · intro s hs
    rcases List.mem_append.mp hs with hs | hs
    · exact h s hs
    · rw [List.mem_singleton.mp hs]; show rmax m.1 t.1 ≤ rmin m.2 t.2; grind
theorem bd_rmax {k : Nat} {a b : Rat} (h1 : Bd k a) (h2 : Bd k b) : Bd k (rmax a b) := by unfold rmax; split <;> assumption
theorem bd_rmin {k : Nat} {a b : Rat} (h1 : Bd k a) (h2 : Bd k b) : Bd k (rmin a b) := by unfold rmin; split <;> assumption
theorem inn_bd {k : Nat} {f : List Sp} {m t : Sp} (h : BdL k f) (hm : Bd k m.1 ∧ Bd k m.2) (ht : Bd k t.1 ∧ Bd k t.2) : BdL k (inn f m t) := by
  unfold inn; split
  · exact h
  · exact h.app fun s hs => by rw [List.mem_singleton.mp hs]; exact ⟨bd_rmax hm.1 ht.1, bd_rmin hm.2 ht.2⟩
theorem inn_len (f : List Sp) (m t : Sp) : (inn f m t).length ≤ f.length + 1 := by
  unfold inn; split
  · omega
  · simp
theorem innb (m : Sp) : ∀ (b f : List Sp), (∀ q, Mem (b.foldl (fun f t => inn f m t) f) q ↔ Mem f q ∨ ((m.1 ≤ q ∧ q ≤ m.2) ∧ Mem b q)) ∧ (Ok f → Ok (b.foldl (fun f t => inn f m t) f)) ∧ (∀ k, BdL k f → (Bd k m.1 ∧ Bd k m.2) → BdL k b → BdL k (b.foldl (fun f t => inn f m t) f)) ∧ (b.foldl (fun f t => inn f m t) f).length ≤ f.length + b.length
  | [], f => ⟨fun q => ⟨.inl, fun h => h.elim id fun z => absurd z.2 Mem.nil⟩, id, fun _ h _ _ => h, by simp⟩
  | t :: b, f => by
    obtain ⟨i1, i2, i3, i4⟩ := innb m b (inn f m t)
    have := inn_len f m t
    refine ⟨fun q => ?_, fun h => i2 (inn_ok h), fun k h1 h2 h3 => i3 k (inn_bd h1 h2 (h3 t List.mem_cons_self)) h2 fun s hs => h3 s (List.mem_cons_of_mem _ hs), ?_⟩
    · rw [List.foldl_cons, i1, inn_mem, Mem.cons]; grind
    · rw [List.foldl_cons, List.length_cons]; omega
theorem inter_all (b : List Sp) : ∀ (a f : List Sp), (∀ q, Mem (a.foldl (fun f m => b.foldl (fun f t => inn f m t) f) f) q ↔ Mem f q ∨ (Mem a q ∧ Mem b q)) ∧ (Ok f → Ok (a.foldl (fun f m => b.foldl (fun f t => inn f m t) f) f)) ∧ (∀ k, BdL k f → BdL k a → BdL k b → BdL k (a.foldl (fun f m => b.foldl (fun f t => inn f m t) f) f)) ∧ (a.foldl (fun f m => b.foldl (fun f t => inn f m t) f) f).length ≤ f.length + a.length * b.length
  | [], f => ⟨fun q => ⟨.inl, fun h => h.elim id fun z => absurd z.1 Mem.nil⟩, id, fun _ h _ _ => h, by simp⟩
  | m :: a, f => by
    obtain ⟨i1, i2, i3, i4⟩ := inter_all b a (b.foldl (fun f t => inn f m t) f)
    obtain ⟨j1, j2, j3, j4⟩ := innb m b f
    refine ⟨fun q => ?_, fun h => i2 (j2 h), fun k h1 h2 h3 => i3 k (j3 k h1 (h2 m List.mem_cons_self) h3) (fun s hs => h2 s (List.mem_cons_of_mem _ hs)) h3, ?_⟩
    · rw [List.foldl_cons, i1, j1, Mem.cons]; grind
    · rw [List.foldl_cons, List.length_cons, Nat.succ_mul]; omega
theorem inter_mem {a b : List Sp} {q : Rat} : Mem (inter a b) q ↔ Mem a q ∧ Mem b q := by
  unfold inter; rw [(inter_all b a []).1]
  exact ⟨fun z => z.elim (fun z => absurd z Mem.nil) id, .inr⟩
theorem inter_ok (a b : List Sp) : Ok (inter a b) := (inter_all b a []).2.1 fun s hs => absurd hs List.not_mem_nil
theorem inter_bd {k : Nat} {a b : List Sp} (h1 : BdL k a) (h2 : BdL k b) : BdL k (inter a b) := (inter_all b a []).2.2.1 k (fun s hs => absurd hs List.not_mem_nil) h1 h2
theorem inter_len (a b : List Sp) : (inter a b).length ≤ a.length * b.length := by
  have := (inter_all b a []).2.2.2
  unfold inter
  simpa using this
def uniD (a b : List Sp) : List Sp := together (a ++ b)
def bothD (a b : List Sp) : List Sp := together (inter a b)
theorem Ok.app {a b : List Sp} (h1 : Ok a) (h2 : Ok b) : Ok (a ++ b) := fun s hs => (List.mem_append.mp hs).elim (h1 s) (h2 s)
theorem uni_nrm {a b : List Sp} (h1 : Nrm a) (h2 : Nrm b) : Nrm (uniD a b) := (together_spec (h1.ok.app h2.ok)).1
theorem uni_mem {a b : List Sp} (h1 : Nrm a) (h2 : Nrm b) {q : Rat} : Mem (uniD a b) q ↔ Mem a q ∨ Mem b q := by
  unfold uniD; rw [(together_spec (h1.ok.app h2.ok)).2, Mem.app]
theorem both_nrm (a b : List Sp) : Nrm (bothD a b) := (together_spec (inter_ok a b)).1
theorem both_mem {a b : List Sp} {q : Rat} : Mem (bothD a b) q ↔ Mem a q ∧ Mem b q := by
  unfold bothD; rw [(together_spec (inter_ok a b)).2, inter_mem]
def lenD (l : List Sp) : Rat := l.foldl (fun a s => a + (s.2 - s.1)) 0
/-! ### data lemmas -/
theorem is_sp (s : Sp) : isiD (sp s) .tuple = .ok true := Eq.trans rfl rfl
theorem len_sp (s : Sp) : biD .len [sp s] = .ok (.int 2) := Eq.trans rfl rfl
theorem ix_sp0 (s : Sp) : ixD (sp s) (.int 0) = .ok (fr s.1) := by unfold sp; rw [ix_tup, at_0]
theorem ix_sp1 (s : Sp) : ixD (sp s) (.int 1) = .ok (fr s.2) := by unfold sp; rw [ix_tup, at_1]
theorem sq_sps (l : List Sp) : seqD (sps l) = .ok (l.map sp) := Eq.trans rfl rfl
theorem is_sps (l : List Sp) : isiD (sps l) .list = .ok true := Eq.trans rfl rfl
theorem lst_sps (l : List Sp) : biD .list [sps l] = .ok (sps l) := Eq.trans rfl rfl
theorem add_sps {a b : List Sp} (h : a.length + b.length ≤ big) : binD .add (sps a) (sps b) = .ok (sps (a ++ b)) := by
  unfold sps; rw [b_addL, if_pos (by simpa using h), List.map_append]
theorem ixN_m1 (f : List D) (p : D) : L2.ixN (f ++ [p]).length (-1) = some f.length := by
  have h : ¬ (0 : Int) ≤ -1 := by decide
  unfold L2.ixN
  rw [if_neg h, if_pos (by simp; omega), List.length_append, List.length_singleton]
  congr 1; omega
theorem set_m1 (f : List D) (p d : D) : (f ++ [p]).set f.length d = f ++ [d] := by simp
theorem ix_m1 (f : List D) (p : D) : ixD (.lst (f ++ [p])) (.int (-1)) = .ok p := by rw [ix_lst, at_m1]
theorem shp_sps (l : List Sp) : shp (sps l) = true := by
  have h : ∀ l : List Sp, PyData.canLayAll0 (toPs (l.map sp)) = true ∧ PyData.depthAll (toPs (l.map sp)) ≤ 10 := by
    intro l
    induction l with
    | nil => exact ⟨rfl, by decide⟩
    | cons a l ih =>
      have e : PyData.depth (toP (sp a)) ≤ 10 := by simp [sp, fr, toP, toPs, PyData.depth, PyData.depthAll]
      have e2 : PyData.canLay0 (toP (sp a)) = true := by simp [sp, fr, toP, toPs, PyData.canLay0, PyData.canLayAll0]
      rw [List.map_cons, toPs, PyData.canLayAll0, PyData.depthAll, ih.1, e2]
      exact ⟨rfl, Nat.max_le.mpr ⟨e, ih.2⟩⟩
  obtain ⟨h1, h2⟩ := h l
  unfold shp sps SeqAt.shaped
  rw [toP, PyData.canLay0, h1, PyData.depth, Bool.true_and, decide_eq_true_eq]
  omega
/-! ### == on spans -/
theorem eqv_sp (a b : Sp) : PyData.eqv (toP (sp a)) (toP (sp b)) = decide (a = b) := by
  have h1 := eqv_fr a.1 b.1
  have h2 := eqv_fr a.2 b.2
  have e : PyData.eqv (toP (sp a)) (toP (sp b)) = (PyData.eqv (toP (fr a.1)) (toP (fr b.1)) && (PyData.eqv (toP (fr a.2)) (toP (fr b.2)) && true)) := by
    simp only [sp, toP, toPs, PyData.eqv, PyData.eqvAll]
  rw [e, h1, h2, Bool.and_true]
  by_cases c : a = b
  · subst c; simp
  · rw [decide_eq_false c]
    have : ¬ (a.1 = b.1 ∧ a.2 = b.2) := fun z => c (Prod.ext z.1 z.2)
    rw [Bool.eq_false_iff]
    intro z
    simp only [Bool.and_eq_true, decide_eq_true_eq] at z
    exact this z
theorem eqvAll_sps : ∀ (a b : List Sp), PyData.eqvAll (toPs (a.map sp)) (toPs (b.map sp)) = decide (a = b)
  | [], [] => by simp [toPs, PyData.eqvAll]
  | [], t :: b => by simp [toPs, PyData.eqvAll]
  | s :: a, [] => by simp [toPs, PyData.eqvAll]
  | s :: a, t :: b => by
    rw [List.map_cons, List.map_cons, toPs, toPs, PyData.eqvAll, eqv_sp, eqvAll_sps a b]
    by_cases c : s = t <;> by_cases d : a = b <;> simp [c, d]
theorem eqv_sps (a b : List Sp) : PyData.eqv (toP (sps a)) (toP (sps b)) = decide (a = b) := by
  rw [← eqvAll_sps]; simp only [sps, toP, PyData.eqv]
end RS

namespace RS
open PySem
/-! ### lengths add up -/
open Classical in
noncomputable def mu (p : Rat → Prop) : List Rat → Rat
  | g :: g' :: G => (if p ((g + g') / 2) then g' - g else 0) + mu p (g' :: G)
  | _ => 0
theorem mu_nil (p : Rat → Prop) : mu p [] = 0 := by unfold mu; rfl
theorem mu_one (p : Rat → Prop) (g : Rat) : mu p [g] = 0 := by unfold mu; rfl
theorem mu_two_t {p : Rat → Prop} {g g' : Rat} (G : List Rat) (h : p ((g + g') / 2)) : mu p (g :: g' :: G) = (g' - g) + mu p (g' :: G) := by
  rw [mu, if_pos h]
theorem mu_two_f {p : Rat → Prop} {g g' : Rat} (G : List Rat) (h : ¬ p ((g + g') / 2)) : mu p (g :: g' :: G) = mu p (g' :: G) := by
  rw [mu, if_neg h]; grind
theorem mu_add {p r s t : Rat → Prop} (h1 : ∀ q, s q ↔ p q ∨ r q) (h2 : ∀ q, t q ↔ p q ∧ r q) : ∀ G, mu s G + mu t G = mu p G + mu r G
  | [] => by simp only [mu_nil]
  | [g] => by simp only [mu_one]
  | g :: g' :: G => by
    have ih := mu_add h1 h2 (g' :: G)
    by_cases a : p ((g + g') / 2) <;> by_cases b : r ((g + g') / 2)
    · rw [mu_two_t G a, mu_two_t G b, mu_two_t G ((h1 _).mpr (.inl a)), mu_two_t G ((h2 _).mpr ⟨a, b⟩)]; grind
    · rw [mu_two_t G a, mu_two_f G b, mu_two_t G ((h1 _).mpr (.inl a)), mu_two_f G (fun z => b ((h2 _).mp z).2)]; grind
    · rw [mu_two_f G a, mu_two_t G b, mu_two_t G ((h1 _).mpr (.inr b)), mu_two_f G (fun z => a ((h2 _).mp z).1)]; grind
    · rw [mu_two_f G a, mu_two_f G b, mu_two_f G (fun z => ((h1 _).mp z).elim a b), mu_two_f G (fun z => a ((h2 _).mp z).1)]; grind
abbrev Up (G : List Rat) : Prop := G.Pairwise fun a b => a < b
theorem mu_congr {p r : Rat → Prop} {c : Rat} (h : ∀ q, c < q → (p q ↔ r q)) : ∀ {G : List Rat}, Up G → (∀ x ∈ G, c ≤ x) → mu p G = mu r G
  | [], _, _ => by simp only [mu_nil]
  | [g], _, _ => by simp only [mu_one]
  | g :: g' :: G, hs, hc => by
    have hs2 := List.pairwise_cons.mp hs
    have l1 := hs2.1 g' List.mem_cons_self
    have l0 := hc g List.mem_cons_self
    have ih := mu_congr h hs2.2 fun x hx => hc x (List.mem_cons_of_mem _ hx)
    have hq := h ((g + g') / 2) (by grind)
    by_cases a : p ((g + g') / 2)
    · rw [mu_two_t G a, mu_two_t G (hq.mp a), ih]
    · rw [mu_two_f G a, mu_two_f G (fun z => a (hq.mpr z)), ih]
theorem mu_false : ∀ G, mu (fun _ => False) G = 0
  | [] => mu_nil _
  | [g] => mu_one _ g
  | g :: g' :: G => by rw [mu_two_f G (fun z => z)]; exact mu_false (g' :: G)
theorem mu_span : ∀ {G : List Rat} {a b : Rat}, Up G → a ∈ G → b ∈ G → a ≤ b → mu (fun q => a ≤ q ∧ q ≤ b) G = b - a
  | [], a, b, _, ha, _, _ => absurd ha List.not_mem_nil
  | [g], a, b, _, ha, hb, _ => by
    rw [mu_one, List.mem_singleton.mp ha, List.mem_singleton.mp hb]; grind
  | g :: g' :: G, a, b, hs, ha, hb, hab => by
    have hs2 := List.pairwise_cons.mp hs
    have l1 := hs2.1 g' List.mem_cons_self
    have low : ∀ x ∈ g' :: G, g' ≤ x := fun x hx => by
      rcases List.mem_cons.mp hx with rfl | hx
      · exact Rat.le_refl
      · exact Rat.le_of_lt ((List.pairwise_cons.mp hs2.2).1 x hx)
    rcases List.mem_cons.mp ha with rfl | ha
    · rcases List.mem_cons.mp hb with rfl | hb
      · rw [mu_two_f G (by grind), mu_congr (r := fun _ => False) (c := g') (fun q hq => ⟨fun z => by grind, False.elim⟩) hs2.2 low, mu_false]; grind
      · have l2 := low b hb
        rw [mu_two_t G (by grind), mu_congr (r := fun q => g' ≤ q ∧ q ≤ b) (c := g') (fun q hq => by grind) hs2.2 low, mu_span hs2.2 List.mem_cons_self hb l2]; grind
    · have l2 := low a ha
      rcases List.mem_cons.mp hb with rfl | hb
      · grind
      · rw [mu_two_f G (by grind), mu_span hs2.2 ha hb hab]
def lenR : List Sp → Rat
  | [] => 0
  | s :: l => (s.2 - s.1) + lenR l
theorem lenD_eq (l : List Sp) : lenD l = lenR l := by
  have : ∀ (l : List Sp) (a : Rat), l.foldl (fun a s => a + (s.2 - s.1)) a = a + lenR l := by
    intro l
    induction l with
    | nil => intro a; simp only [List.foldl_nil, lenR]; grind
    | cons s l ih => intro a; rw [List.foldl_cons, ih, lenR]; grind
  unfold lenD; rw [this]; grind
theorem mu_len : ∀ {l : List Sp} {G : List Rat}, Nrm l → Up G → (∀ s ∈ l, s.1 ∈ G ∧ s.2 ∈ G) → mu (Mem l) G = lenR l
  | [], G, _, hG, _ => by
    have : Mem [] = fun _ => False := funext fun q => propext ⟨fun z => Mem.nil z, False.elim⟩
    rw [this, mu_false, lenR]
  | s :: l, G, hn, hG, hm => by
    have ih := mu_len hn.2.2 hG fun t ht => hm t (List.mem_cons_of_mem _ ht)
    have hs := hm s List.mem_cons_self
    have e := mu_add (p := fun q => s.1 ≤ q ∧ q ≤ s.2) (r := Mem l) (s := Mem (s :: l)) (t := fun _ => False) (fun q => Mem.cons) (fun q => ⟨False.elim, fun ⟨z1, z2⟩ => by have := hn.tail z2; grind⟩) G
    rw [mu_false, mu_span hG hs.1 hs.2 hn.1, ih] at e
    rw [lenR]; grind
theorem up_ins : ∀ (x : Rat) {G : List Rat}, Up G → ∃ G', Up G' ∧ (∀ y, y ∈ G' ↔ y = x ∨ y ∈ G)
  | x, [], _ => ⟨[x], by simp [Up], fun y => by simp⟩
  | x, g :: G, h => by
    have h2 := List.pairwise_cons.mp h
    by_cases c : x < g
    · refine ⟨x :: g :: G, List.pairwise_cons.mpr ⟨fun y hy => ?_, h⟩, fun y => by simp⟩
      rcases List.mem_cons.mp hy with rfl | hy
      · exact c
      · have := h2.1 y hy; grind
    · by_cases d : x = g
      · exact ⟨g :: G, h, fun y => by subst d; simp⟩
      · obtain ⟨G', u, m⟩ := up_ins x h2.2
        refine ⟨g :: G', List.pairwise_cons.mpr ⟨fun y hy => ?_, u⟩, fun y => by simp only [List.mem_cons, m y]; grind⟩
        rcases (m y).mp hy with rfl | hy
        · grind
        · exact h2.1 y hy
theorem up_all : ∀ (xs : List Rat), ∃ G, Up G ∧ ∀ x, x ∈ G ↔ x ∈ xs
  | [] => ⟨[], List.Pairwise.nil, fun x => Iff.rfl⟩
  | x :: xs => by
    obtain ⟨G, u, m⟩ := up_all xs
    obtain ⟨G', u', m'⟩ := up_ins x u
    exact ⟨G', u', fun y => by rw [m', m, List.mem_cons]⟩
def ends (l : List Sp) : List Rat := l.flatMap fun s => [s.1, s.2]
theorem mem_ends {l : List Sp} {s : Sp} (h : s ∈ l) : s.1 ∈ ends l ∧ s.2 ∈ ends l := by
  unfold ends
  simp only [List.mem_flatMap]
  exact ⟨⟨s, h, by simp⟩, ⟨s, h, by simp⟩⟩
theorem len_add {a b c d : List Sp} (ha : Nrm a) (hb : Nrm b) (hc : Nrm c) (hd : Nrm d) (h1 : ∀ q, Mem c q ↔ Mem a q ∨ Mem b q) (h2 : ∀ q, Mem d q ↔ Mem a q ∧ Mem b q) : lenD c + lenD d = lenD a + lenD b := by
  obtain ⟨G, u, m⟩ := up_all (ends a ++ ends b ++ ends c ++ ends d)
  have f : ∀ l : List Sp, (∀ x ∈ ends l, x ∈ ends a ++ ends b ++ ends c ++ ends d) → ∀ s ∈ l, s.1 ∈ G ∧ s.2 ∈ G := fun l hl s hs => ⟨(m _).mpr (hl _ (mem_ends hs).1), (m _).mpr (hl _ (mem_ends hs).2)⟩
  have e := mu_add h1 h2 G
  rw [mu_len ha u (f a fun x hx => by simp only [List.mem_append]; exact .inl (.inl (.inl hx))), mu_len hb u (f b fun x hx => by simp only [List.mem_append]; exact .inl (.inl (.inr hx))), mu_len hc u (f c fun x hx => by simp only [List.mem_append]; exact .inl (.inr hx)), mu_len hd u (f d fun x hx => by simp only [List.mem_append]; exact .inr hx)] at e
  simp only [lenD_eq]
  exact e
/-! ### the drawn spans of the laws -/
theorem six_lt {i j : Int} (h : i < j) : Rat.divInt i 6 < Rat.divInt j 6 := by
  have := Rat.intCast_lt_intCast.mpr h
  rw [Rat.divInt_eq_div, Rat.divInt_eq_div]
  have e : ((6 : Int) : Rat) = 6 := rfl
  rw [e]; grind
theorem six_le {i j : Int} (h : i ≤ j) : Rat.divInt i 6 ≤ Rat.divInt j 6 := by
  have := Rat.intCast_le_intCast.mpr h
  rw [Rat.divInt_eq_div, Rat.divInt_eq_div]
  have e : ((6 : Int) : Rat) = 6 := rfl
  rw [e]; grind
structure Drawn (l : List Sp) : Prop where
  n : Nrm l
  len : l.length ≤ 3
  six : ∀ s ∈ l, ∃ i j : Int, s.1 = Rat.divInt i 6 ∧ s.2 = Rat.divInt j 6 ∧ 0 ≤ i ∧ i ≤ j ∧ j ≤ 40
theorem Drawn.b {l : List Sp} (h : Drawn l) : BdL 6 l := fun s hs => by
  obtain ⟨i, j, e1, e2, h1, h2, h3⟩ := h.six s hs
  rw [e1, e2]
  exact ⟨Bd.divInt (by decide) (by omega) (by decide), Bd.divInt (by decide) (by omega) (by decide)⟩
end RS

namespace RS
open PySem
/-! ### what is seen, one way -/
def Vis (L : List Int) (x h t y : Rat) : Prop := Sees L x h y (ground L y + t)
def stp (L : List Int) (x h s t y : Rat) : Rat := (ground L y + t - h) / (s * (y - x))
abbrev Sgn (s : Rat) : Prop := s = 1 ∨ s = -1
theorem nat_eq {a b : Nat} (h : (a : Rat) = (b : Rat)) : a = b := by
  have h1 := natCast_le (a := a) (b := b)
  have h2 := natCast_le (a := b) (b := a)
  have := h1.mp (by rw [h]; exact Rat.le_refl)
  have := h2.mp (by rw [h]; exact Rat.le_refl)
  omega
theorem dd_le {a b c d : Rat} (hb : 0 < b) (hd : 0 < d) : a / b ≤ c / d ↔ a * d ≤ c * b := by
  have e1 : a / b * b = a := Rat.div_mul_cancel (by grind)
  have e2 : c / d * d = c := Rat.div_mul_cancel (by grind)
  have hp : 0 < b * d := Rat.mul_pos hb hd
  rw [← mul_le_iff hp]
  generalize a / b = p at e1
  generalize c / d = q at e2
  have f1 : p * (b * d) = a * d := by rw [← e1]; grind
  have f2 : q * (b * d) = c * b := by rw [← e2]; grind
  rw [f1, f2]
theorem le_div_iff' {a c d : Rat} (hd : 0 < d) : a ≤ c / d ↔ a * d ≤ c := by
  have e2 : c / d * d = c := Rat.div_mul_cancel (by grind)
  rw [← mul_le_iff hd, e2]
theorem vis_iff {L : List Int} [hL : Land L] {x h s t y : Rat} (hs : Sgn s) (hy : 0 < s * (y - x)) :
    Vis L x h t y ↔ ∀ p : Nat, p < L.length → 0 < s * ((p : Rat) - x) → s * ((p : Rat) - x) < s * (y - x) → stp L x h s 0 (p : Rat) ≤ stp L x h s t y := by
  unfold Vis Sees stp
  constructor
  · intro z p hp h1 h2
    rw [dd_le h1 hy, ground_at_nat hp]
    obtain ⟨z1, z2⟩ := z p hp
    rcases hs with rfl | rfl
    · have := z1 (by grind) (by grind); grind
    · have := z2 (by grind) (by grind); grind
  · intro z p hp
    rcases hs with rfl | rfl
    · refine ⟨fun c d => ?_, fun c d => by grind⟩
      have q := z p hp (by grind) (by grind)
      rw [dd_le (by grind) hy, ground_at_nat hp] at q
      grind
    · refine ⟨fun c d => by grind, fun c d => ?_⟩
      have q := z p hp (by grind) (by grind)
      rw [dd_le (by grind) hy, ground_at_nat hp] at q
      grind
theorem vis_self {L : List Int} (x h t : Rat) : Vis L x h t x := Sees.self L x h _
theorem ground_lin {L : List Int} [hL : Land L] {s lam : Rat} (hs : Sgn s) {c c' : Nat} (h1 : c < L.length) (h2 : c' < L.length) (e : (c' : Rat) = (c : Rat) + s) (l0 : 0 ≤ lam) (l1 : lam ≤ 1) :
    ground L ((c : Rat) + s * lam) = ht L c + (ht L c' - ht L c) * lam := by
  rcases hs with rfl | rfl
  · have e' : c' = c + 1 := by
      have : (c' : Rat) = ((c + 1 : Nat) : Rat) := by rw [Rat.natCast_add]; exact e
      exact nat_eq this
    subst e'
    rw [ground_eq (i := c) h2 (by grind) (by grind)]; grind
  · have e' : c = c' + 1 := by
      have : (c : Rat) = ((c' + 1 : Nat) : Rat) := by rw [Rat.natCast_add, e]; grind
      exact nat_eq this
    subst e'
    rw [ground_eq (i := c') h1 (by grind) (by grind)]; grind
/-! ### the part of a segment -/
def nrm2 (p : Sp) : Sp := (rmin p.1 p.2, rmax p.1 p.2)
def optL : Option Sp → List Sp
  | none => []
  | some p => [nrm2 p]
def cutAt (near far one two : Rat) : Rat := near + (far - near) * (one / (one - two))
def partD (near far one two : Rat) : Option Sp :=
  if 0 ≤ one then (if 0 ≤ two then some (near, far) else some (near, cutAt near far one two)) else (if 0 ≤ two then some (cutAt near far one two, far) else none)
theorem nrm2_mem {p : Sp} {y : Rat} : Mem [nrm2 p] y ↔ rmin p.1 p.2 ≤ y ∧ y ≤ rmax p.1 p.2 := by
  rw [Mem.cons]; exact ⟨fun z => z.elim id fun z => absurd z Mem.nil, .inl⟩
theorem bet_iff {n d a b l : Rat} (hd : d ≠ 0) (hab : a ≤ b) : (rmin (n + d * a) (n + d * b) ≤ n + d * l ∧ n + d * l ≤ rmax (n + d * a) (n + d * b)) ↔ a ≤ l ∧ l ≤ b := by
  have m1 := mul_le_iff (a := a) (b := l) (c := d)
  have m2 := mul_le_iff (a := l) (b := b) (c := d)
  have m3 := mul_le_iff (a := a) (b := l) (c := -d)
  have m4 := mul_le_iff (a := l) (b := b) (c := -d)
  have m5 := mul_le_iff (a := a) (b := b) (c := d)
  have m6 := mul_le_iff (a := a) (b := b) (c := -d)
  by_cases c : 0 < d
  · have m5 := (m5 c).mpr hab
    have := m1 c
    have := m2 c
    unfold rmin rmax
    split <;> grind
  · have c' : 0 < -d := by grind
    have m6 := (m6 c').mpr hab
    have := m3 c'
    have := m4 c'
    unfold rmin rmax
    split <;> grind
theorem prt_spec {near far one two lam : Rat} (hd : far - near ≠ 0) (l0 : 0 ≤ lam) (l1 : lam ≤ 1) : Mem (optL (partD near far one two)) (near + (far - near) * lam) ↔ 0 ≤ one + (two - one) * lam := by
  have e0 : near + (far - near) * 0 = near := by grind
  have e1 : near + (far - near) * 1 = far := by grind
  unfold partD
  by_cases c1 : 0 ≤ one
  · by_cases c2 : 0 ≤ two
    · rw [if_pos c1, if_pos c2, optL, nrm2_mem]
      have := bet_iff (n := near) (a := 0) (b := 1) (l := lam) hd (by grind)
      rw [e0, e1] at this
      have r1 : 0 ≤ two * lam := Rat.mul_nonneg c2 l0
      have r2 : 0 ≤ one * (1 - lam) := Rat.mul_nonneg c1 (by grind)
      show (rmin near far ≤ _ ∧ _ ≤ rmax near far) ↔ _
      rw [this]
      constructor <;> intro _ <;> grind
    · rw [if_pos c1, if_neg c2, optL, nrm2_mem]
      have hp : 0 < one - two := by grind
      have ec : one / (one - two) * (one - two) = one := Rat.div_mul_cancel (by grind)
      have c0 : 0 ≤ one / (one - two) := (le_div_iff' hp).mpr (by grind)
      have key : lam ≤ one / (one - two) ↔ lam * (one - two) ≤ one := le_div_iff' hp
      have := bet_iff (n := near) (a := 0) (b := one / (one - two)) (l := lam) hd c0
      rw [e0] at this
      show (rmin near (near + (far - near) * (one / (one - two))) ≤ _ ∧ _ ≤ rmax near (near + (far - near) * (one / (one - two)))) ↔ _
      rw [this, key]
      constructor <;> intro _ <;> grind
  · by_cases c2 : 0 ≤ two
    · rw [if_neg c1, if_pos c2, optL, nrm2_mem]
      have hp : 0 < two - one := by grind
      have eq : one / (one - two) = (-one) / (two - one) := by
        have a1 : one / (one - two) * (one - two) = one := Rat.div_mul_cancel (by grind)
        have a2 : (-one) / (two - one) * (two - one) = -one := Rat.div_mul_cancel (by grind)
        generalize one / (one - two) = p at a1
        generalize (-one) / (two - one) = q at a2
        have : (p - q) * (one - two) = 0 := by grind
        rcases Rat.mul_eq_zero.mp this with z | z <;> grind
      have cle : (-one) / (two - one) ≤ 1 := by
        rw [← mul_le_iff hp, Rat.div_mul_cancel (by grind)]; grind
      have key : (-one) / (two - one) ≤ lam ↔ -one ≤ lam * (two - one) := by
        rw [← mul_le_iff hp, Rat.div_mul_cancel (by grind)]
      have := bet_iff (n := near) (a := (-one) / (two - one)) (b := 1) (l := lam) hd cle
      rw [e1] at this
      show (rmin (near + (far - near) * (one / (one - two))) far ≤ _ ∧ _ ≤ rmax (near + (far - near) * (one / (one - two))) far) ↔ _
      rw [eq, this, key]
      constructor <;> intro _ <;> grind
    · rw [if_neg c1, if_neg c2, optL]
      have r1 : 0 ≤ -two * lam := Rat.mul_nonneg (by grind) l0
      have r2 : 0 ≤ -one * (1 - lam) := Rat.mul_nonneg (by grind) (by grind)
      refine ⟨fun z => absurd z Mem.nil, fun z => ?_⟩
      exfalso
      by_cases c3 : lam = 0
      · subst c3; grind
      · have r3 : 0 < -two * lam := Rat.mul_pos (by grind) (by grind)
        grind
theorem prt_in {near far one two y : Rat} (hd : far - near ≠ 0) (h : Mem (optL (partD near far one two)) y) : ∃ lam, 0 ≤ lam ∧ lam ≤ 1 ∧ y = near + (far - near) * lam := by
  have e0 : near + (far - near) * 0 = near := by grind
  have e1 : near + (far - near) * 1 = far := by grind
  have el : y = near + (far - near) * ((y - near) / (far - near)) := by
    have : (y - near) / (far - near) * (far - near) = y - near := Rat.div_mul_cancel hd
    grind
  refine ⟨(y - near) / (far - near), ?_⟩
  generalize (y - near) / (far - near) = lam at el
  subst el
  refine ⟨?_, ?_, rfl⟩
  all_goals
    unfold partD at h
    by_cases c1 : 0 ≤ one <;> by_cases c2 : 0 ≤ two
  all_goals simp only [c1, c2, if_true, if_false, optL] at h
  all_goals first
    | exact absurd h Mem.nil
    | skip
  all_goals rw [nrm2_mem] at h
  all_goals first
    | (have b := bet_iff (n := near) (a := 0) (b := 1) (l := lam) hd (by grind)
       rw [e0, e1] at b
       first | exact (b.mp h).1 | exact (b.mp h).2)
    | skip
  all_goals first
    | (have hp : 0 < one - two := by grind
       have c0 : 0 ≤ one / (one - two) := (le_div_iff' hp).mpr (by grind)
       have c3 : one / (one - two) ≤ 1 := by rw [← mul_le_iff hp, Rat.div_mul_cancel (by grind)]; grind
       have b := bet_iff (n := near) (a := 0) (b := one / (one - two)) (l := lam) hd c0
       rw [e0] at b
       have := b.mp h
       grind)
    | (have hp : 0 < two - one := by grind
       have eq : one / (one - two) = (-one) / (two - one) := by
         have a1 : one / (one - two) * (one - two) = one := Rat.div_mul_cancel (by grind)
         have a2 : (-one) / (two - one) * (two - one) = -one := Rat.div_mul_cancel (by grind)
         generalize one / (one - two) = p at a1
         generalize (-one) / (two - one) = q at a2
         have : (p - q) * (one - two) = 0 := by grind
         rcases Rat.mul_eq_zero.mp this with z | z <;> grind
       have c0 : 0 ≤ (-one) / (two - one) := (le_div_iff' hp).mpr (by grind)
       have cle : (-one) / (two - one) ≤ 1 := by rw [← mul_le_iff hp, Rat.div_mul_cancel (by grind)]; grind
       have b := bet_iff (n := near) (a := (-one) / (two - one)) (b := 1) (l := lam) hd cle
       rw [e1] at b
       simp only [cutAt] at h
       rw [eq] at h
       have := b.mp h
       grind)
end RS

namespace RS
open PySem
def mostS (o : Option Rat) (v : Rat) : Rat := match o with
  | none => v
  | some m => rmax m v
def Below (o : Option Rat) (z : Rat) : Prop := match o with
  | none => True
  | some m => m ≤ z
theorem mostS_le {o : Option Rat} {v z : Rat} : mostS o v ≤ z ↔ Below o z ∧ v ≤ z := by
  cases o with
  | none => simp [mostS, Below]
  | some m => exact rmax_le
def Fv (L : List Int) (x h s t m y : Rat) : Rat := ground L y + t - h - m * (s * (y - x))
def stepW (L : List Int) (x h s t : Rat) (st : Option Rat × List Sp) (g : Sp) : Option Rat × List Sp :=
  if g.1 = x then (st.1, st.2 ++ [nrm2 g])
  else (some (mostS st.1 (stp L x h s 0 g.1)), st.2 ++ optL (partD g.1 g.2 (Fv L x h s t (mostS st.1 (stp L x h s 0 g.1)) g.1) (Fv L x h s t (mostS st.1 (stp L x h s 0 g.1)) g.2)))
structure WInv (L : List Int) (x h s t : Rat) (c : Rat) (st : Option Rat × List Sp) : Prop where
  m : ∀ z, Below st.1 z ↔ ∀ p : Nat, p < L.length → 0 < s * ((p : Rat) - x) → s * ((p : Rat) - x) < s * (c - x) → stp L x h s 0 (p : Rat) ≤ z
  f : ∀ y, Mem st.2 y ↔ 0 ≤ s * (y - x) ∧ s * (y - x) ≤ s * (c - x) ∧ Vis L x h t y
theorem int_gap {s : Rat} (hs : Sgn s) {a b : Nat} (h : s * ((a : Rat) - (b : Rat)) < 1) : s * ((a : Rat) - (b : Rat)) ≤ 0 := by
  rcases hs with rfl | rfl
  · have : (a : Rat) < ((b + 1 : Nat) : Rat) := by
      rw [Rat.natCast_add]
      have e : ((1 : Nat) : Rat) = 1 := rfl
      rw [e]; grind
    have := natCast_le.mpr (show a ≤ b from by have := natCast_lt.mp this; omega)
    grind
  · have : (b : Rat) < ((a + 1 : Nat) : Rat) := by
      rw [Rat.natCast_add]
      have e : ((1 : Nat) : Rat) = 1 := rfl
      rw [e]; grind
    have := natCast_le.mpr (show b ≤ a from by have := natCast_lt.mp this; omega)
    grind
theorem sgn_mul {s : Rat} (hs : Sgn s) : s * s = 1 := by rcases hs with rfl | rfl <;> grind
theorem sgn_eq {s a b x : Rat} (hs : Sgn s) (h : s * (a - x) = s * (b - x)) : a = b := by rcases hs with rfl | rfl <;> grind
theorem WInv.step {L : List Int} [hL : Land L] {x h s t : Rat} (hs : Sgn s) {c c' : Nat} (h1 : c < L.length) (h2 : c' < L.length) (e : (c' : Rat) = (c : Rat) + s) (hc : 0 < s * ((c : Rat) - x)) {st : Option Rat × List Sp} (w : WInv L x h s t c st) :
    WInv L x h s t c' (stepW L x h s t st ((c : Rat), (c' : Rat))) := by
  have ss := sgn_mul hs
  have ne : ¬ (c : Rat) = x := by intro z; rw [z] at hc; grind
  have uc : s * ((c' : Rat) - x) = s * ((c : Rat) - x) + 1 := by rw [e]; grind
  unfold stepW
  rw [if_neg ne]
  generalize hm : mostS st.1 (stp L x h s 0 (c : Rat)) = m
  have mk : ∀ z, m ≤ z ↔ ∀ p : Nat, p < L.length → 0 < s * ((p : Rat) - x) → s * ((p : Rat) - x) < s * ((c' : Rat) - x) → stp L x h s 0 (p : Rat) ≤ z := by
    intro z
    rw [← hm, mostS_le, w.m z]
    constructor
    · rintro ⟨a, b⟩ p hp p1 p2
      have gp := int_gap (s := s) hs (a := p) (b := c) (by grind)
      by_cases q : s * ((p : Rat) - x) < s * ((c : Rat) - x)
      · exact a p hp p1 q
      · have : (p : Rat) = (c : Rat) := sgn_eq (x := x) hs (by grind)
        rw [this]; exact b
    · intro a
      exact ⟨fun p hp p1 p2 => a p hp p1 (by grind), a c h1 hc (by grind)⟩
  refine ⟨mk, fun y => ?_⟩
  have hd : (c' : Rat) - (c : Rat) ≠ 0 := by rw [e]; rcases hs with rfl | rfl <;> grind
  rw [Mem.app, w.f y]
  -- on the segment
  have seg : ∀ lam, 0 ≤ lam → lam ≤ 1 → (Mem (optL (partD (c : Rat) (c' : Rat) (Fv L x h s t m (c : Rat)) (Fv L x h s t m (c' : Rat)))) ((c : Rat) + ((c' : Rat) - (c : Rat)) * lam) ↔ m ≤ stp L x h s t ((c : Rat) + ((c' : Rat) - (c : Rat)) * lam)) := by
    intro lam l0 l1
    rw [prt_spec hd l0 l1]
    have ey : (c : Rat) + ((c' : Rat) - (c : Rat)) * lam = (c : Rat) + s * lam := by rw [e]; grind
    have uy : s * ((c : Rat) + s * lam - x) = s * ((c : Rat) - x) + lam := by
      have : s * (s * lam) = lam := by rw [← Rat.mul_assoc, ss]; grind
      grind
    rw [ey]
    unfold stp
    rw [le_div_iff' (by rw [uy]; grind), uy, ground_lin hs h1 h2 e l0 l1]
    unfold Fv
    rw [ground_at_nat h1, ground_at_nat h2, uc]
    constructor <;> intro z <;> grind
  have vis : ∀ y, s * ((c : Rat) - x) < s * (y - x) → s * (y - x) ≤ s * ((c' : Rat) - x) → (Vis L x h t y ↔ m ≤ stp L x h s t y) := by
    intro y y1 y2
    rw [vis_iff hs (by grind), mk]
    constructor
    · intro a p hp p1 p2
      have gp := int_gap (s := s) hs (a := p) (b := c) (by grind)
      exact a p hp p1 (by grind)
    · intro a p hp p1 p2
      exact a p hp p1 (by grind)
  have yl : ∀ y, s * ((c : Rat) - x) ≤ s * (y - x) → s * (y - x) ≤ s * ((c' : Rat) - x) → ∃ lam, 0 ≤ lam ∧ lam ≤ 1 ∧ y = (c : Rat) + ((c' : Rat) - (c : Rat)) * lam := by
    intro y y1 y2
    refine ⟨s * (y - (c : Rat)), by grind, by grind, ?_⟩
    rw [e]
    have : s * (s * (y - (c : Rat))) = y - (c : Rat) := by rw [← Rat.mul_assoc, ss]; grind
    grind
  constructor
  · rintro (⟨a1, a2, a3⟩ | a)
    · exact ⟨a1, by grind, a3⟩
    · obtain ⟨lam, l0, l1, rfl⟩ := prt_in hd a
      have uy : s * ((c : Rat) + ((c' : Rat) - (c : Rat)) * lam - x) = s * ((c : Rat) - x) + lam := by
        have : ((c' : Rat) - (c : Rat)) = s := by rw [e]; grind
        rw [this]
        have : s * (s * lam) = lam := by rw [← Rat.mul_assoc, ss]; grind
        grind
      have ml := (seg lam l0 l1).mp a
      refine ⟨by grind, by grind, ?_⟩
      by_cases z : lam = 0
      · rw [vis_iff hs (by grind)]
        intro p hp p1 p2
        have := (mk m).mp Rat.le_refl p hp p1 (by grind)
        exact Rat.le_trans this ml
      · exact (vis _ (by grind) (by grind)).mpr ml
  · rintro ⟨a1, a2, a3⟩
    by_cases q : s * (y - x) ≤ s * ((c : Rat) - x)
    · exact .inl ⟨a1, q, a3⟩
    · refine .inr ?_
      have ml := (vis y (by grind) a2).mp a3
      obtain ⟨lam, l0, l1, rfl⟩ := yl y (by grind) a2
      exact (seg lam l0 l1).mpr ml
theorem WInv.first {L : List Int} [hL : Land L] {x h s t : Rat} (hs : Sgn s) {c : Nat} (hc : c < L.length) (c0 : 0 < s * ((c : Rat) - x)) (c1 : s * ((c : Rat) - x) ≤ 1) : WInv L x h s t c (stepW L x h s t (none, []) (x, (c : Rat))) := by
  have no : ∀ p : Nat, 0 < s * ((p : Rat) - x) → s * ((p : Rat) - x) < s * ((c : Rat) - x) → False := by
    intro p p1 p2
    have gp := int_gap (s := s) hs (a := c) (b := p) (by grind)
    grind
  unfold stepW
  rw [if_pos rfl]
  refine ⟨fun z => ⟨fun _ p _ p1 p2 => (no p p1 p2).elim, fun _ => trivial⟩, fun y => ?_⟩
  show Mem ([] ++ [nrm2 (x, (c : Rat))]) y ↔ _
  rw [List.nil_append, nrm2_mem]
  have ord : (rmin x (c : Rat) ≤ y ∧ y ≤ rmax x (c : Rat)) ↔ 0 ≤ s * (y - x) ∧ s * (y - x) ≤ s * ((c : Rat) - x) := by
    rcases hs with rfl | rfl
    · unfold rmin rmax; split <;> grind
    · unfold rmin rmax; split <;> grind
  show (rmin x (c : Rat) ≤ y ∧ y ≤ rmax x (c : Rat)) ↔ _
  rw [ord]
  constructor
  · rintro ⟨a, b⟩
    refine ⟨a, b, ?_⟩
    by_cases z : s * (y - x) = 0
    · have : y = x := sgn_eq (x := x) hs (by grind)
      rw [this]; exact vis_self x h t
    · rw [vis_iff hs (by grind)]
      intro p hp p1 p2
      exact (no p p1 (by grind)).elim
  · rintro ⟨a, b, _⟩; exact ⟨a, b⟩
/-! ### the way -/
def sg (up : Bool) : Rat := if up then 1 else -1
theorem sg_ok (up : Bool) : Sgn (sg up) := by cases up <;> simp [sg, Sgn]
def wayN (up : Bool) (n : Nat) : Nat → Nat → List Sp
  | 0, _ => []
  | k + 1, c => if up then (if c + 1 < n then ((c : Rat), ((c + 1 : Nat) : Rat)) :: wayN up n k (c + 1) else []) else (if 0 < c then ((c : Rat), ((c - 1 : Nat) : Rat)) :: wayN up n k (c - 1) else [])
def lastP (up : Bool) (n : Nat) : Nat := if up then n - 1 else 0
theorem walkN {L : List Int} [hL : Land L] {x h t : Rat} (up : Bool) : ∀ (k c : Nat) (st : Option Rat × List Sp), c < L.length → 0 < sg up * ((c : Rat) - x) → (if up then L.length ≤ c + 1 + k else c ≤ k) → WInv L x h (sg up) t c st → WInv L x h (sg up) t (lastP up L.length : Nat) ((wayN up L.length k c).foldl (stepW L x h (sg up) t) st)
  | 0, c, st, hc, _, hk, w => by
    have : c = lastP up L.length := by cases up <;> simp [lastP] at hk ⊢ <;> omega
    rw [wayN, List.foldl_nil, ← this]; exact w
  | k + 1, c, st, hc, c0, hk, w => by
    rw [wayN]
    cases up with
    | true =>
      rw [if_pos rfl] at hk ⊢
      by_cases q : c + 1 < L.length
      · rw [if_pos q, List.foldl_cons]
        have e : ((c + 1 : Nat) : Rat) = (c : Rat) + sg true := by rw [Rat.natCast_add]; rfl
        have e' : sg true = 1 := rfl
        exact walkN true k (c + 1) _ q (by rw [e]; rw [e'] at c0 ⊢; grind) (by rw [if_pos rfl]; omega) (w.step (sg_ok true) hc q e c0)
      · rw [if_neg q, List.foldl_nil]
        have : c = lastP true L.length := by simp [lastP]; omega
        rw [← this]; exact w
    | false =>
      have nf : ¬ (false = true) := by decide
      rw [if_neg nf] at hk ⊢
      by_cases q : 0 < c
      · rw [if_pos q, List.foldl_cons]
        have e : ((c - 1 : Nat) : Rat) = (c : Rat) + sg false := by
          have : c = c - 1 + 1 := by omega
          conv => rhs; lhs; rw [this]
          rw [Rat.natCast_add]
          have e' : sg false = -1 := rfl
          have e2 : ((1 : Nat) : Rat) = 1 := rfl
          rw [e', e2]; grind
        have e' : sg false = -1 := rfl
        exact walkN false k (c - 1) _ (by omega) (by rw [e]; rw [e'] at c0 ⊢; grind) (by rw [if_neg nf]; omega) (w.step (sg_ok false) hc (by omega) e c0)
      · rw [if_neg q, List.foldl_nil]
        have : c = lastP false L.length := by simp [lastP]; omega
        rw [← this]; exact w
end RS

namespace RS
open PySem
/-! ### all that is seen -/
def nextP (up : Bool) (x : Rat) : Nat := if up then (x.floor + 1).toNat else (cei x - 1).toNat
def way (up : Bool) (n : Nat) (x : Rat) : List Sp := if x = ((lastP up n : Nat) : Rat) then [] else (x, ((nextP up x : Nat) : Rat)) :: wayN up n 12 (nextP up x)
def oneWay (L : List Int) (x h t : Rat) (up : Bool) : List Sp := ((way up L.length x).foldl (stepW L x h (sg up) t) (none, [])).2
theorem nextP_spec {L : List Int} [hL : Land L] {x : Rat} (up : Bool) (h0 : 0 ≤ x) (h1 : x ≤ ((L.length - 1 : Nat) : Rat)) (ne : x ≠ ((lastP up L.length : Nat) : Rat)) : nextP up x < L.length ∧ 0 < sg up * (((nextP up x : Nat) : Rat) - x) ∧ sg up * (((nextP up x : Nat) : Rat) - x) ≤ 1 ∧ (((nextP up x : Nat) : Int) = if up then x.floor + 1 else cei x - 1) := by
  have lo := hL.lo
  have f0 : 0 ≤ x.floor := Rat.le_floor_iff.mpr (by simpa using h0)
  cases up with
  | true =>
    have e : nextP true x = (x.floor + 1).toNat := rfl
    have ec : (((x.floor + 1).toNat : Nat) : Int) = x.floor + 1 := by omega
    have er : (((x.floor + 1).toNat : Nat) : Rat) = (x.floor : Rat) + 1 := by rw [← Rat.intCast_natCast, ec, Rat.intCast_add]; rfl
    have l1 := Rat.floor_le x
    have l2 : x < (x.floor : Rat) + 1 := by simpa using Rat.lt_floor_add_one x
    have es : sg true = 1 := rfl
    have hlt : x < ((L.length - 1 : Nat) : Rat) := by
      have : x ≠ ((L.length - 1 : Nat) : Rat) := ne
      grind
    refine ⟨?_, by rw [e, er, es]; grind, by rw [e, er, es]; grind, by rw [e, ec, if_pos rfl]⟩
    have : x.floor < ((L.length - 1 : Nat) : Int) := Rat.floor_lt_iff.mpr (by rw [Rat.intCast_natCast]; exact hlt)
    rw [e]; omega
  | false =>
    have e : nextP false x = (cei x - 1).toNat := rfl
    have es : sg false = -1 := rfl
    have hpos : 0 < x := by
      have : x ≠ ((0 : Nat) : Rat) := ne
      have e0 : ((0 : Nat) : Rat) = 0 := rfl
      rw [e0] at this
      grind
    have c1 : 0 < cei x := lt_cei.mpr (by simpa using hpos)
    have c2 : cei x ≤ ((L.length - 1 : Nat) : Int) := cei_le.mpr (by rw [Rat.intCast_natCast]; exact h1)
    have ec : (((cei x - 1).toNat : Nat) : Int) = cei x - 1 := by omega
    have er : (((cei x - 1).toNat : Nat) : Rat) = (cei x : Rat) - 1 := by rw [← Rat.intCast_natCast, ec, Rat.intCast_sub]; rfl
    have l1 : x ≤ (cei x : Rat) := cei_le.mp (Int.le_refl _)
    have l2 : ((cei x - 1 : Int) : Rat) < x := lt_cei.mp (by omega)
    rw [Rat.intCast_sub] at l2
    have e1 : ((1 : Int) : Rat) = 1 := rfl
    rw [e1] at l2
    have nf : ¬ (false = true) := by decide
    refine ⟨by rw [e]; omega, by rw [e, er, es]; grind, by rw [e, er, es]; grind, by rw [e, ec, if_neg nf]⟩
theorem oneWay_inv {L : List Int} [hL : Land L] {x h t : Rat} (up : Bool) (h0 : 0 ≤ x) (h1 : x ≤ ((L.length - 1 : Nat) : Rat)) (ne : x ≠ ((lastP up L.length : Nat) : Rat)) :
    WInv L x h (sg up) t (lastP up L.length : Nat) ((way up L.length x).foldl (stepW L x h (sg up) t) (none, [])) := by
  have hi := hL.hi
  obtain ⟨a, b, c, _⟩ := nextP_spec (L := L) up h0 h1 ne
  unfold way
  rw [if_neg ne, List.foldl_cons]
  exact walkN up 12 (nextP up x) _ a b (by split <;> omega) (WInv.first (sg_ok up) a b c)
theorem oneWay_mem {L : List Int} [hL : Land L] {x h t : Rat} (up : Bool) (h0 : 0 ≤ x) (h1 : x ≤ ((L.length - 1 : Nat) : Rat)) (y : Rat) :
    Mem (oneWay L x h t up) y ↔ x ≠ ((lastP up L.length : Nat) : Rat) ∧ 0 ≤ sg up * (y - x) ∧ sg up * (y - x) ≤ sg up * (((lastP up L.length : Nat) : Rat) - x) ∧ Vis L x h t y := by
  unfold oneWay
  by_cases ne : x = ((lastP up L.length : Nat) : Rat)
  · have : way up L.length x = [] := by unfold way; rw [if_pos ne]
    rw [this]
    exact ⟨fun z => absurd z Mem.nil, fun z => absurd ne z.1⟩
  · rw [(oneWay_inv (h := h) (t := t) up h0 h1 ne).f y]
    exact ⟨fun z => ⟨ne, z⟩, fun z => z.2⟩
theorem nrm2_ok (p : Sp) : (nrm2 p).1 ≤ (nrm2 p).2 := by
  show rmin p.1 p.2 ≤ rmax p.1 p.2
  unfold rmin rmax; split <;> grind
theorem stepW_ok {L : List Int} {x h s t : Rat} {st : Option Rat × List Sp} (g : Sp) (hk : Ok st.2) : Ok (stepW L x h s t st g).2 := by
  unfold stepW
  split
  · exact hk.app fun q hq => by rw [List.mem_singleton.mp hq]; exact nrm2_ok g
  · refine hk.app fun q hq => ?_
    generalize partD _ _ _ _ = o at hq
    cases o with
    | none => exact absurd hq List.not_mem_nil
    | some p => rw [List.mem_singleton.mp hq]; exact nrm2_ok p
theorem oneWay_ok (L : List Int) (x h t : Rat) (up : Bool) : Ok (oneWay L x h t up) := by
  have : ∀ (l : List Sp) (st : Option Rat × List Sp), Ok st.2 → Ok (l.foldl (stepW L x h (sg up) t) st).2 := by
    intro l
    induction l with
    | nil => exact fun st h => h
    | cons g l ih => exact fun st h => ih _ (stepW_ok g h)
  exact this _ _ fun q hq => absurd hq List.not_mem_nil
def seenL (L : List Int) (x h t : Rat) : List Sp := together (oneWay L x h t true ++ oneWay L x h t false ++ [(x, x)])
theorem seen_ok0 (L : List Int) (x h t : Rat) : Ok (oneWay L x h t true ++ oneWay L x h t false ++ [(x, x)]) :=
  ((oneWay_ok L x h t true).app (oneWay_ok L x h t false)).app fun q hq => by rw [List.mem_singleton.mp hq]; exact Rat.le_refl
theorem seen_nrm (L : List Int) (x h t : Rat) : Nrm (seenL L x h t) := (together_spec (seen_ok0 L x h t)).1
theorem seen_mem {L : List Int} [hL : Land L] {x h t : Rat} (h0 : 0 ≤ x) (h1 : x ≤ ((L.length - 1 : Nat) : Rat)) (y : Rat) :
    Mem (seenL L x h t) y ↔ 0 ≤ y ∧ y ≤ ((L.length - 1 : Nat) : Rat) ∧ Vis L x h t y := by
  unfold seenL
  rw [(together_spec (seen_ok0 L x h t)).2, Mem.app, Mem.app, oneWay_mem true h0 h1, oneWay_mem false h0 h1, Mem.cons]
  have e1 : ((lastP true L.length : Nat) : Rat) = ((L.length - 1 : Nat) : Rat) := rfl
  have e2 : ((lastP false L.length : Nat) : Rat) = 0 := rfl
  have s1 : sg true = 1 := rfl
  have s2 : sg false = -1 := rfl
  rw [e1, e2, s1, s2]
  have nn := Mem.nil (q := y)
  constructor
  · rintro ((⟨a, b, c, d⟩ | ⟨a, b, c, d⟩) | ⟨a, b⟩ | a)
    · exact ⟨by grind, by grind, d⟩
    · exact ⟨by grind, by grind, d⟩
    · have a' : x ≤ y := a
      have b' : y ≤ x := b
      have : y = x := Rat.le_antisymm b' a'
      rw [this]; exact ⟨h0, h1, vis_self x h t⟩
    · exact absurd a nn
  · rintro ⟨a, b, c⟩
    by_cases q : y = x
    · subst q; exact .inr (.inl ⟨Rat.le_refl, Rat.le_refl⟩)
    · by_cases q2 : x < y
      · exact .inl (.inl ⟨by grind, by grind, by grind, c⟩)
      · exact .inl (.inr ⟨by grind, by grind, by grind, c⟩)
end RS

namespace RS
open PySem
/-! ### how big the ends of the seen stretches are -/
theorem lt_up {n k l : Nat} (h : n < 2 ^ k) (hk : k ≤ l) : n < 2 ^ l := Nat.lt_of_lt_of_le h (Nat.pow_le_pow_right (by decide) hk)
def Ov (d : Int) (B : Nat) (r : Rat) : Prop := ∃ N : Int, r * (d : Rat) = (N : Rat) ∧ N.natAbs < 2 ^ B
theorem ground_ov {L : List Int} [hL : Land L] {x : Rat} [bx : Bd 7 x] : Ov (x.den : Int) 23 (ground L x) := by
  have hi' := hL.hi
  have gl := gi_le (L := L) x
  obtain ⟨hxm, hden⟩ := x_mul_den x
  have a1 := hi_bd (L := L) (gi L x)
  have a2 := hi_bd (L := L) (gi L x + 1)
  have d7 : ((x.den : Int)).natAbs < 2 ^ 7 := cast_lt bx.d
  refine ⟨hi L (gi L x) * (x.den : Int) + (hi L (gi L x + 1) - hi L (gi L x)) * (x.num - ((gi L x : Nat) : Int) * (x.den : Int)), ?_, ?_⟩
  · unfold ground ht
    simp only [Rat.intCast_add, Rat.intCast_mul, Rat.intCast_sub, ← hxm, Rat.intCast_natCast]
    grind
  · have b1 : (hi L (gi L x) * (x.den : Int)).natAbs < 2 ^ (10 + 7) := abs_mul_lt (by omega) d7
    have b2 : (((gi L x : Nat) : Int) * (x.den : Int)).natAbs < 2 ^ (4 + 7) := abs_mul_lt (by omega) d7
    have b3 := abs_sub_lt (lt_up bx.n (show 7 ≤ 4 + 7 by decide)) b2
    have b4 : ((hi L (gi L x + 1) - hi L (gi L x)) * (x.num - ((gi L x : Nat) : Int) * (x.den : Int))).natAbs < 2 ^ (10 + (4 + 7 + 1)) := abs_mul_lt (by omega) b3
    exact abs_add_lt (lt_up b1 (by decide)) b4
theorem high_ov {L : List Int} [hL : Land L] {x : Rat} [bx : Bd 7 x] {e : Int} (he : e.natAbs < 2 ^ 11) : Ov (x.den : Int) 24 (ground L x + (e : Rat)) := by
  obtain ⟨N, h1, h2⟩ := ground_ov (L := L) (x := x)
  have d7 : ((x.den : Int)).natAbs < 2 ^ 7 := cast_lt bx.d
  refine ⟨N + e * (x.den : Int), ?_, abs_add_lt h2 (lt_up (abs_mul_lt he d7) (by decide))⟩
  rw [Rat.intCast_add, Rat.intCast_mul, ← h1]; grind
def MQ (m : Rat) : Prop := ∃ M Q : Int, m * (Q : Rat) = (M : Rat) ∧ 0 < Q ∧ Q.natAbs < 2 ^ 12 ∧ M.natAbs < 2 ^ 25
def si (up : Bool) : Int := if up then 1 else -1
theorem si_sg (up : Bool) : ((si up : Int) : Rat) = sg up := by cases up <;> rfl
theorem dist_int {x : Rat} [bx : Bd 7 x] (up : Bool) {c : Nat} (hc : c < 12) : sg up * ((c : Rat) - x) * ((x.den : Int) : Rat) = ((si up * ((c : Int) * (x.den : Int) - x.num) : Int) : Rat) ∧ (si up * ((c : Int) * (x.den : Int) - x.num)).natAbs < 2 ^ 12 := by
  obtain ⟨hxm, hden⟩ := x_mul_den x
  have d7 : ((x.den : Int)).natAbs < 2 ^ 7 := cast_lt bx.d
  constructor
  · simp only [Rat.intCast_mul, Rat.intCast_sub, ← hxm, si_sg, Rat.intCast_natCast]; grind
  · have b2 : (((c : Nat) : Int) * (x.den : Int)).natAbs < 2 ^ (4 + 7) := abs_mul_lt (by omega) d7
    have b3 := abs_sub_lt b2 (lt_up bx.n (show 7 ≤ 4 + 7 by decide))
    have : (si up * ((c : Int) * (x.den : Int) - x.num)).natAbs = ((c : Int) * (x.den : Int) - x.num).natAbs := by
      cases up <;> simp [si, Int.natAbs_mul] <;> omega
    rw [this]; exact b3
theorem den_pos' (x : Rat) : (0 : Rat) < ((x.den : Int) : Rat) := by
  have : ((0 : Int) : Rat) < ((x.den : Int) : Rat) := Rat.intCast_lt_intCast.mpr (den_pos x)
  simpa using this
theorem stp_mq {L : List Int} [hL : Land L] {x h : Rat} [bx : Bd 7 x] (up : Bool) (hh : Ov (x.den : Int) 24 h) {c : Nat} (hc : c < L.length) (c0 : 0 < sg up * ((c : Rat) - x)) : MQ (stp L x h (sg up) 0 (c : Rat)) := by
  have hi' := hL.hi
  have a1 := hi_bd (L := L) c
  obtain ⟨H, h1, h2⟩ := hh
  obtain ⟨e1, e2⟩ := dist_int (x := x) up (show c < 12 by omega)
  have d7 : ((x.den : Int)).natAbs < 2 ^ 7 := cast_lt bx.d
  have dp := den_pos' x
  refine ⟨hi L c * (x.den : Int) - H, si up * ((c : Int) * (x.den : Int) - x.num), ?_, ?_, e2, ?_⟩
  · unfold stp
    rw [ground_at_nat hc, ← e1]
    have e3 : (ht L c + 0 - h) / (sg up * ((c : Rat) - x)) * (sg up * ((c : Rat) - x)) = ht L c + 0 - h := Rat.div_mul_cancel (by grind)
    rw [← Rat.mul_assoc, e3, Rat.intCast_sub, Rat.intCast_mul, ← h1]
    unfold ht; grind
  · have : (0 : Rat) < ((si up * ((c : Int) * (x.den : Int) - x.num) : Int) : Rat) := by rw [← e1]; exact Rat.mul_pos c0 dp
    have : ((0 : Int) : Rat) < ((si up * ((c : Int) * (x.den : Int) - x.num) : Int) : Rat) := by simpa using this
    exact Rat.intCast_lt_intCast.mp this
  · have b1 : (hi L c * (x.den : Int)).natAbs < 2 ^ (10 + 7) := abs_mul_lt (by omega) d7
    exact abs_sub_lt (lt_up b1 (by decide)) h2
theorem Fv_int {L : List Int} [hL : Land L] {x h m : Rat} {t : Int} [bx : Bd 7 x] (up : Bool) (hh : Ov (x.den : Int) 24 h) (ht' : t.natAbs < 2 ^ 11) {M Q : Int} (hm : m * (Q : Rat) = (M : Rat)) (q12 : Q.natAbs < 2 ^ 12) (m25 : M.natAbs < 2 ^ 25) {c : Nat} (hc : c < L.length) :
    ∃ N : Int, Fv L x h (sg up) t m (c : Rat) * (((x.den : Int) : Rat) * (Q : Rat)) = (N : Rat) ∧ N.natAbs < 2 ^ 39 := by
  have hi' := hL.hi
  have a1 := hi_bd (L := L) c
  obtain ⟨H, h1, h2⟩ := hh
  obtain ⟨e1, e2⟩ := dist_int (x := x) up (show c < 12 by omega)
  have d7 : ((x.den : Int)).natAbs < 2 ^ 7 := cast_lt bx.d
  refine ⟨(hi L c + t) * (x.den : Int) * Q - H * Q - M * (si up * ((c : Int) * (x.den : Int) - x.num)), ?_, ?_⟩
  · unfold Fv
    rw [ground_at_nat hc]
    rw [Rat.intCast_sub, Rat.intCast_sub, Rat.intCast_mul M, ← e1, ← hm, Rat.intCast_mul H, ← h1]
    simp only [Rat.intCast_mul, Rat.intCast_add]
    unfold ht; grind
  · have b0 : (hi L c + t).natAbs < 2 ^ 12 := abs_add_lt (lt_up (show (hi L c).natAbs < 2 ^ 10 by omega) (by decide)) ht'
    have b1 := abs_mul_lt (abs_mul_lt b0 d7) q12
    have b2 := abs_mul_lt h2 q12
    have b3 := abs_mul_lt m25 e2
    have b4 := abs_sub_lt (lt_up b1 (show 12 + 7 + 12 ≤ 36 by decide)) (lt_up b2 (show 24 + 12 ≤ 36 by decide))
    exact abs_sub_lt (lt_up b4 (show 36 + 1 ≤ 38 by decide)) (lt_up b3 (show 25 + 12 ≤ 38 by decide))
theorem quot_bd {one two K : Rat} (hK : K ≠ 0) (ne : one ≠ two) {N1 N2 : Int} (h1 : one * K = (N1 : Rat)) (h2 : two * K = (N2 : Rat)) (b1 : N1.natAbs < 2 ^ 39) (b2 : N2.natAbs < 2 ^ 39) : Bd 40 (one / (one - two)) := by
  have nn : N1 - N2 ≠ 0 := by
    intro z
    have : N1 = N2 := by omega
    rw [this, ← h2] at h1
    have : (one - two) * K = 0 := by grind
    rcases Rat.mul_eq_zero.mp this with z | z <;> grind
  have e : one / (one - two) = Rat.divInt N1 (N1 - N2) := by
    rw [Rat.divInt_eq_div, Rat.intCast_sub, ← h1, ← h2]
    have d1 : one - two ≠ 0 := by grind
    have d2 : one * K - two * K ≠ 0 := by
      intro z
      have : (one - two) * K = 0 := by grind
      rcases Rat.mul_eq_zero.mp this with z | z <;> grind
    have a1 : one / (one - two) * (one - two) = one := Rat.div_mul_cancel d1
    have a2 : one * K / (one * K - two * K) * (one * K - two * K) = one * K := Rat.div_mul_cancel d2
    generalize one / (one - two) = p at a1
    generalize one * K / (one * K - two * K) = q at a2
    have : (p - q) * (one * K - two * K) = 0 := by grind
    rcases Rat.mul_eq_zero.mp this with z | z
    · grind
    · exact absurd z d2
  rw [e]
  exact Bd.divInt nn (lt_up b1 (by decide)) (abs_sub_lt b1 b2)
theorem bd_nrm2 {k : Nat} {p : Sp} (h1 : Bd k p.1) (h2 : Bd k p.2) : Bd k (nrm2 p).1 ∧ Bd k (nrm2 p).2 := ⟨bd_rmin h1 h2, bd_rmax h1 h2⟩
theorem part_bd {L : List Int} [hL : Land L] {x h m : Rat} {t : Int} [bx : Bd 7 x] (up : Bool) (hh : Ov (x.den : Int) 24 h) (ht' : t.natAbs < 2 ^ 11) (hm : MQ m) {c c' : Nat} (hc : c < L.length) (hc' : c' < L.length) :
    (∀ p, partD (c : Rat) (c' : Rat) (Fv L x h (sg up) t m (c : Rat)) (Fv L x h (sg up) t m (c' : Rat)) = some p → Bd 60 p.1 ∧ Bd 60 p.2) := by
  have hi' := hL.hi
  obtain ⟨M, Q, h1, q0, q12, m25⟩ := hm
  obtain ⟨N1, e1, n1⟩ := Fv_int (L := L) up hh ht' h1 q12 m25 hc
  obtain ⟨N2, e2, n2⟩ := Fv_int (L := L) up hh ht' h1 q12 m25 hc'
  have dp := den_pos' x
  have qp : (0 : Rat) < (Q : Rat) := by
    have : ((0 : Int) : Rat) < (Q : Rat) := Rat.intCast_lt_intCast.mpr q0
    simpa using this
  have kp : (0 : Rat) < ((x.den : Int) : Rat) * (Q : Rat) := Rat.mul_pos dp qp
  haveI b1 : Bd 4 (c : Rat) := Bd.nat (by omega)
  haveI b2 : Bd 4 (c' : Rat) := Bd.nat (by omega)
  generalize Fv L x h (sg up) t m (c : Rat) = one at e1
  generalize Fv L x h (sg up) t m (c' : Rat) = two at e2
  have cut : one ≠ two → Bd 60 (cutAt (c : Rat) (c' : Rat) one two) := by
    intro ne
    haveI := quot_bd (by grind) ne e1 e2 n1 n2
    unfold cutAt
    exact (inferInstance : Bd _ ((c : Rat) + ((c' : Rat) - (c : Rat)) * (one / (one - two)))).mono (by decide)
  have b1' : Bd 60 (c : Rat) := b1.mono (by decide)
  have b2' : Bd 60 (c' : Rat) := b2.mono (by decide)
  intro p hp
  unfold partD at hp
  split at hp
  · split at hp
    · cases hp; exact ⟨b1', b2'⟩
    · cases hp; exact ⟨b1', cut (by grind)⟩
  · split at hp
    · cases hp; exact ⟨cut (by grind), b2'⟩
    · cases hp
/-! ### the elements of the way -/
def WayEl (L : List Int) (x : Rat) (up : Bool) (g : Sp) : Prop := (g.1 = x ∧ ∃ c : Nat, c < L.length ∧ g.2 = (c : Rat)) ∨ ∃ c c' : Nat, c < L.length ∧ c' < L.length ∧ g = ((c : Rat), (c' : Rat)) ∧ 0 < sg up * ((c : Rat) - x) ∧ 0 < sg up * ((c' : Rat) - x)
theorem wayN_el {L : List Int} {x : Rat} (up : Bool) : ∀ (k c : Nat), c < L.length → 0 < sg up * ((c : Rat) - x) → ∀ g ∈ wayN up L.length k c, ∃ c c' : Nat, c < L.length ∧ c' < L.length ∧ g = ((c : Rat), (c' : Rat)) ∧ 0 < sg up * ((c : Rat) - x) ∧ 0 < sg up * ((c' : Rat) - x)
  | 0, c, _, _, g, hg => absurd hg List.not_mem_nil
  | k + 1, c, hc, c0, g, hg => by
    rw [wayN] at hg
    cases up with
    | true =>
      rw [if_pos rfl] at hg
      have e' : sg true = 1 := rfl
      by_cases q : c + 1 < L.length
      · rw [if_pos q] at hg
        have c1 : 0 < sg true * (((c + 1 : Nat) : Rat) - x) := by
          rw [Rat.natCast_add]
          have e2 : ((1 : Nat) : Rat) = 1 := rfl
          rw [e2]; rw [e'] at c0 ⊢; grind
        rcases List.mem_cons.mp hg with rfl | hg
        · exact ⟨c, c + 1, hc, q, rfl, c0, c1⟩
        · exact wayN_el true k (c + 1) q c1 g hg
      · rw [if_neg q] at hg; exact absurd hg List.not_mem_nil
    | false =>
      have nf : ¬ (false = true) := by decide
      rw [if_neg nf] at hg
      have e' : sg false = -1 := rfl
      by_cases q : 0 < c
      · rw [if_pos q] at hg
        have c1 : 0 < sg false * (((c - 1 : Nat) : Rat) - x) := by
          have e3 : (c : Rat) = ((c - 1 : Nat) : Rat) + 1 := by
            have : c = c - 1 + 1 := by omega
            conv => lhs; rw [this]
            rw [Rat.natCast_add]; rfl
          rw [e'] at c0 ⊢; grind
        rcases List.mem_cons.mp hg with rfl | hg
        · exact ⟨c, c - 1, hc, by omega, rfl, c0, c1⟩
        · exact wayN_el false k (c - 1) (by omega) c1 g hg
      · rw [if_neg q] at hg; exact absurd hg List.not_mem_nil
theorem way_el {L : List Int} [hL : Land L] {x : Rat} (up : Bool) (h0 : 0 ≤ x) (h1 : x ≤ ((L.length - 1 : Nat) : Rat)) : ∀ g ∈ way up L.length x, WayEl L x up g := by
  intro g hg
  unfold way at hg
  split at hg
  · exact absurd hg List.not_mem_nil
  · rename_i ne
    obtain ⟨a, b, c, _⟩ := nextP_spec (L := L) up h0 h1 ne
    rcases List.mem_cons.mp hg with rfl | hg
    · exact .inl ⟨rfl, _, a, rfl⟩
    · exact .inr (wayN_el up 12 _ a b g hg)
theorem wayN_len (up : Bool) (n : Nat) : ∀ k c, (wayN up n k c).length ≤ k
  | 0, c => by simp [wayN]
  | k + 1, c => by
    rw [wayN]
    cases up with
    | true =>
      rw [if_pos rfl]
      split
      · have := wayN_len true n k (c + 1); simp; omega
      · simp
    | false =>
      rw [if_neg (by decide)]
      split
      · have := wayN_len false n k (c - 1); simp; omega
      · simp
theorem way_len (up : Bool) (n : Nat) (x : Rat) : (way up n x).length ≤ 13 := by
  unfold way; split
  · simp
  · have := wayN_len up n 12 (nextP up x); simp; omega
structure BInv (st : Option Rat × List Sp) : Prop where
  m : ∀ m, st.1 = some m → MQ m
  b : BdL 60 st.2
theorem BInv.most {st : Option Rat × List Sp} (w : BInv st) {v : Rat} (hv : MQ v) : MQ (mostS st.1 v) := by
  unfold mostS
  cases h : st.1 with
  | none => exact hv
  | some m =>
    show MQ (rmax m v)
    unfold rmax; split
    · exact hv
    · exact w.m m h
theorem BInv.step {L : List Int} [hL : Land L] {x h : Rat} {t : Int} [bx : Bd 7 x] (up : Bool) (hh : Ov (x.den : Int) 24 h) (ht' : t.natAbs < 2 ^ 11) {st : Option Rat × List Sp} (w : BInv st) {g : Sp} (hg : WayEl L x up g) : BInv (stepW L x h (sg up) t st g) := by
  have hi' := hL.hi
  unfold stepW
  rcases hg with ⟨e, c, hc, e2⟩ | ⟨c, c', hc, hc', rfl, c0, _⟩
  · rw [if_pos e]
    refine ⟨w.m, w.b.app fun q hq => ?_⟩
    rw [List.mem_singleton.mp hq]
    refine bd_nrm2 ?_ ?_
    · rw [e]; exact bx.mono (by decide)
    · rw [e2]; exact (Bd.nat (show c < 16 by omega)).mono (by decide)
  · have ne : ¬ (c : Rat) = x := by intro z; rw [z] at c0; grind
    rw [if_neg ne]
    have mq := w.most (stp_mq (L := L) up hh hc c0)
    refine ⟨fun m hm => by cases hm; exact mq, w.b.app fun q hq => ?_⟩
    have pb := part_bd (L := L) up hh ht' mq hc hc'
    generalize partD _ _ _ _ = o at hq pb
    cases o with
    | none => exact absurd hq List.not_mem_nil
    | some p =>
      rw [List.mem_singleton.mp hq]
      obtain ⟨p1, p2⟩ := pb p rfl
      exact bd_nrm2 p1 p2
theorem BInv.zero : BInv (none, []) := ⟨(fun m hm => by cases hm), fun q hq => absurd hq List.not_mem_nil⟩
theorem oneWay_bd {L : List Int} [hL : Land L] {x h : Rat} {t : Int} [bx : Bd 7 x] (up : Bool) (hh : Ov (x.den : Int) 24 h) (ht' : t.natAbs < 2 ^ 11) (h0 : 0 ≤ x) (h1 : x ≤ ((L.length - 1 : Nat) : Rat)) : BdL 60 (oneWay L x h t up) := by
  have : ∀ (l : List Sp) (st : Option Rat × List Sp), (∀ g ∈ l, WayEl L x up g) → BInv st → BInv (l.foldl (stepW L x h (sg up) t) st) := by
    intro l
    induction l with
    | nil => exact fun st _ h => h
    | cons g l ih => exact fun st hl w => ih _ (fun g hg => hl g (List.mem_cons_of_mem _ hg)) (w.step up hh ht' (hl g List.mem_cons_self))
  exact (this _ _ (way_el up h0 h1) BInv.zero).b
theorem stepW_len {L : List Int} {x h s t : Rat} {st : Option Rat × List Sp} (g : Sp) : (stepW L x h s t st g).2.length ≤ st.2.length + 1 := by
  unfold stepW
  split
  · simp
  · generalize partD _ _ _ _ = o
    cases o <;> simp [optL]
theorem oneWay_len (L : List Int) (x h t : Rat) (up : Bool) : (oneWay L x h t up).length ≤ 13 := by
  have : ∀ (l : List Sp) (st : Option Rat × List Sp), (l.foldl (stepW L x h (sg up) t) st).2.length ≤ st.2.length + l.length := by
    intro l
    induction l with
    | nil => intro st; simp
    | cons g l ih =>
      intro st
      have := ih (stepW L x h (sg up) t st g)
      have := stepW_len (L := L) (x := x) (h := h) (s := sg up) (t := t) (st := st) g
      rw [List.foldl_cons, List.length_cons]; omega
  have a := this (way up L.length x) (none, [])
  have b := way_len up L.length x
  unfold oneWay
  simp at a; omega
theorem seen_bd {L : List Int} [hL : Land L] {x h : Rat} {t : Int} [bx : Bd 7 x] (hh : Ov (x.den : Int) 24 h) (ht' : t.natAbs < 2 ^ 11) (h0 : 0 ≤ x) (h1 : x ≤ ((L.length - 1 : Nat) : Rat)) : BdL 60 (seenL L x h t) ∧ (seenL L x h t).length ≤ 27 := by
  constructor
  · exact together_bd (((oneWay_bd true hh ht' h0 h1).app (oneWay_bd false hh ht' h0 h1)).app fun q hq => by rw [List.mem_singleton.mp hq]; exact ⟨bx.mono (by decide), bx.mono (by decide)⟩)
  · have a := oneWay_len L x h t true
    have b := oneWay_len L x h t false
    refine Nat.le_trans (together_len _) ?_
    simp; omega
end RS

namespace RS
open PySem
/-! ### the way, step by step as the program goes it -/
theorem floor_nat (c : Nat) : ((c : Nat) : Rat).floor = (c : Int) := by
  have a : (c : Int) ≤ ((c : Nat) : Rat).floor := Rat.le_floor_iff.mpr (by rw [Rat.intCast_natCast]; exact Rat.le_refl)
  have b : ((c : Nat) : Rat).floor < (c : Int) + 1 := Rat.floor_lt_iff.mpr (by rw [Rat.intCast_add, Rat.intCast_natCast]; have : ((1 : Int) : Rat) = 1 := rfl; rw [this]; grind)
  omega
theorem cei_nat (c : Nat) : cei ((c : Nat) : Rat) = (c : Int) := by
  have a : cei ((c : Nat) : Rat) ≤ (c : Int) := cei_le.mpr (by rw [Rat.intCast_natCast]; exact Rat.le_refl)
  have b : (c : Int) - 1 < cei ((c : Nat) : Rat) := lt_cei.mpr (by rw [Rat.intCast_sub, Rat.intCast_natCast]; have : ((1 : Int) : Rat) = 1 := rfl; rw [this]; grind)
  omega
theorem nextP_up (c : Nat) : nextP true (c : Rat) = c + 1 := by
  unfold nextP; rw [if_pos rfl, floor_nat]; omega
theorem nextP_dn (c : Nat) : nextP false (c : Rat) = c - 1 := by
  unfold nextP; rw [if_neg (by decide), cei_nat]; omega
def wayR (up : Bool) (n : Nat) : Nat → Rat → List Sp
  | 0, _ => []
  | k + 1, y => if y = ((lastP up n : Nat) : Rat) then [] else (y, ((nextP up y : Nat) : Rat)) :: wayR up n k ((nextP up y : Nat) : Rat)
def Reach (up : Bool) (n : Nat) : Nat → Rat → Prop
  | 0, y => y = ((lastP up n : Nat) : Rat)
  | k + 1, y => y = ((lastP up n : Nat) : Rat) ∨ Reach up n k ((nextP up y : Nat) : Rat)
theorem wayN_R (up : Bool) (n : Nat) : ∀ (k c : Nat), c < n → wayN up n k c = wayR up n k (c : Rat)
  | 0, c, _ => by rw [wayN, wayR]
  | k + 1, c, hc => by
    rw [wayN, wayR]
    cases up with
    | true =>
      rw [if_pos rfl]
      have e : lastP true n = n - 1 := rfl
      by_cases q : c + 1 < n
      · rw [if_pos q, if_neg (fun z => by have := nat_eq z; omega), nextP_up, wayN_R true n k (c + 1) q]
      · rw [if_neg q, if_pos (by rw [e]; congr 1; omega)]
    | false =>
      rw [if_neg (by decide)]
      have e : lastP false n = 0 := rfl
      by_cases q : 0 < c
      · rw [if_pos q, if_neg (fun z => by have := nat_eq z; omega), nextP_dn, wayN_R false n k (c - 1) (by omega)]
      · rw [if_neg q, if_pos (by rw [e]; congr 1; omega)]
theorem way_R {L : List Int} [hL : Land L] {x : Rat} (up : Bool) (h0 : 0 ≤ x) (h1 : x ≤ ((L.length - 1 : Nat) : Rat)) : way up L.length x = wayR up L.length 13 x := by
  unfold way
  rw [wayR]
  by_cases ne : x = ((lastP up L.length : Nat) : Rat)
  · rw [if_pos ne, if_pos ne]
  · rw [if_neg ne, if_neg ne, wayN_R up L.length 12 _ (nextP_spec (L := L) up h0 h1 ne).1]
theorem reachN (up : Bool) (n : Nat) : ∀ (k c : Nat), c < n → (if up then n ≤ c + 1 + k else c ≤ k) → Reach up n k (c : Rat)
  | 0, c, hc, hk => by
    have : c = lastP up n := by cases up <;> simp [lastP] at hk ⊢ <;> omega
    show (c : Rat) = _
    rw [this]
  | k + 1, c, hc, hk => by
    rw [Reach]
    cases up with
    | true =>
      rw [if_pos rfl] at hk
      by_cases q : c + 1 < n
      · rw [nextP_up]
        exact .inr (reachN true n k (c + 1) q (by rw [if_pos rfl]; omega))
      · have e : lastP true n = n - 1 := rfl
        exact .inl (by rw [e]; congr 1; omega)
    | false =>
      rw [if_neg (by decide)] at hk
      by_cases q : 0 < c
      · rw [nextP_dn]
        exact .inr (reachN false n k (c - 1) (by omega) (by rw [if_neg (by decide)]; omega))
      · have e : lastP false n = 0 := rfl
        exact .inl (by rw [e]; congr 1; omega)
theorem reach_x {L : List Int} [hL : Land L] {x : Rat} (up : Bool) (h0 : 0 ≤ x) (h1 : x ≤ ((L.length - 1 : Nat) : Rat)) : Reach up L.length 13 x := by
  have hi := hL.hi
  rw [Reach]
  by_cases ne : x = ((lastP up L.length : Nat) : Rat)
  · exact .inl ne
  · have a := (nextP_spec (L := L) up h0 h1 ne).1
    exact .inr (reachN up L.length 12 _ a (by split <;> omega))
/-! ### data for seen_part -/
def optD : Option Sp → D
  | none => .non
  | some p => sp p
theorem neg_fr (q : Rat) : D.tup [.int (0 - q.num), .int (q.den : Int)] = fr (-q) := by
  unfold fr; rw [Rat.neg_num, Rat.neg_den, Int.zero_sub]
theorem eqv_bb (a b c d : Bool) : PyData.eqv (toP (.tup [.bl a, .bl b])) (toP (.tup [.bl c, .bl d])) = ((a == c) && (b == d)) := by
  cases a <;> cases b <;> cases c <;> cases d <;> simp [toP, toPs, PyData.eqv, PyData.eqvAll]
theorem shp_bb (a b : Bool) : shp (.tup [.bl a, .bl b]) = true := Eq.trans rfl rfl
theorem isNon_sp (p : Sp) : isNon (sp p) = false := Eq.trans rfl rfl
theorem side_d {up : Bool} {x y : Rat} (h : 0 < sg up * (y - x)) : rmax x y - rmin x y = sg up * (y - x) := by
  cases up with
  | true => have e : sg true = 1 := rfl; rw [e] at h ⊢; unfold rmax rmin; split <;> grind
  | false => have e : sg false = -1 := rfl; rw [e] at h ⊢; unfold rmax rmin; split <;> grind
theorem stp_ge {L : List Int} {x h s t m y : Rat} (hy : 0 < s * (y - x)) : m ≤ stp L x h s t y ↔ 0 ≤ Fv L x h s t m y := by
  unfold stp Fv
  rw [le_div_iff' hy]
  constructor <;> intro z <;> grind
end RS

namespace RS
open PySem
def mostD : Option Rat → D
  | none => .non
  | some m => fr m
theorem stp_bd {L : List Int} [hL : Land L] {b c : Nat} (up : Bool) {x h y t : Rat} [bx : Bd 7 x] [bh : Bd b h] [bY : Bd c y] [bt : Bd 12 t] (hb : b ≤ 100) (hc : c ≤ 10) : Bd 400 (stp L x h (sg up) t y) := by
  haveI bs : Bd 1 (sg up) := by
    cases up with
    | true => exact Bd.int (k := 0) (i := 1) (by decide)
    | false => exact Bd.int (k := 0) (i := -1) (by decide)
  unfold stp
  exact (inferInstance : Bd _ ((ground L y + t - h) / (sg up * (y - x)))).mono (by omega)
theorem most_bd {o : Option Rat} {v : Rat} (h : ∀ m, o = some m → Bd 400 m) (hv : Bd 400 v) : Bd 400 (mostS o v) := by
  cases o with
  | none => exact hv
  | some m => exact bd_rmax (h m rfl) hv
/-! ### the gaps -/
def stepG (st : Option Rat × List Sp) (s : Sp) : Option Rat × List Sp := (some s.2, match st.1 with
  | none => if 0 < s.1 then st.2 ++ [(0, s.1)] else st.2
  | some q => st.2 ++ [(q, s.1)])
def endG (e : Rat) (st : Option Rat × List Sp) : List Sp := match st.1 with
  | none => [(0, e)]
  | some q => if q < e then st.2 ++ [(q, e)] else st.2
def gapsD (l : List Sp) (e : Rat) : List Sp := endG e (l.foldl stepG (none, []))
end RS

namespace RS
open PySem
/-! ### in, as a truth -/
noncomputable def memB (l : List Sp) (q : Rat) : Bool := @decide (Mem l q) (Classical.propDecidable _)
theorem memB_t {l : List Sp} {q : Rat} (h : Mem l q) : memB l q = true := @decide_eq_true _ (Classical.propDecidable _) h
theorem memB_f {l : List Sp} {q : Rat} (h : ¬ Mem l q) : memB l q = false := @decide_eq_false _ (Classical.propDecidable _) h
theorem memB_iff {l : List Sp} {q : Rat} : memB l q = true ↔ Mem l q := ⟨fun e => @of_decide_eq_true _ (Classical.propDecidable _) e, memB_t⟩
theorem filt_mem (l : List Sp) (q : Rat) : (!decide ((l.filter fun s => !decide (q < s.1) && !decide (s.2 < q)) = [])) = memB l q := by
  by_cases h : Mem l q
  · rw [memB_t h]
    obtain ⟨s, hs, h1, h2⟩ := h
    have : s ∈ l.filter fun s => !decide (q < s.1) && !decide (s.2 < q) := by
      rw [List.mem_filter]
      refine ⟨hs, ?_⟩
      have a : ¬ q < s.1 := by grind
      have b : ¬ s.2 < q := by grind
      simp [a, b]
    have ne : ¬ (l.filter fun s => !decide (q < s.1) && !decide (s.2 < q)) = [] := fun z => by rw [z] at this; exact absurd this List.not_mem_nil
    simp only [ne, decide_false, Bool.not_false]
  · rw [memB_f h]
    have e : (l.filter fun s => !decide (q < s.1) && !decide (s.2 < q)) = [] := by
      rw [List.filter_eq_nil_iff]
      intro s hs z
      simp only [Bool.and_eq_true, Bool.not_eq_true', decide_eq_false_iff_not] at z
      exact h ⟨s, hs, by grind, by grind⟩
    simp only [e, decide_true, Bool.not_true]
theorem seen_clr {L : List Int} [hL : Land L] {x h t y : Rat} (h0 : 0 ≤ x) (h1 : x ≤ ((L.length - 1 : Nat) : Rat)) (y0 : 0 ≤ y) (y1 : y ≤ ((L.length - 1 : Nat) : Rat)) : memB (seenL L x h t) y = clr L x h y (ground L y + t) := by
  have m := seen_mem (L := L) (h := h) (t := t) h0 h1 y
  by_cases s : Sees L x h y (ground L y + t)
  · rw [clr_t s, memB_t (m.mpr ⟨y0, y1, s⟩)]
  · rw [clr_f s, memB_f fun z => s (m.mp z).2.2]
/-! ### turned about -/
def about (l : List Sp) (e : Rat) : List Sp := l.reverse.map fun s => (e - s.2, e - s.1)
theorem mem_about {l : List Sp} {e q : Rat} : Mem (about l e) q ↔ Mem l (e - q) := by
  unfold about Mem
  constructor
  · rintro ⟨s, hs, h1, h2⟩
    obtain ⟨u, hu, rfl⟩ := List.mem_map.mp hs
    refine ⟨u, List.mem_reverse.mp hu, ?_⟩
    have h1' : e - u.2 ≤ q := h1
    have h2' : q ≤ e - u.1 := h2
    exact ⟨by grind, by grind⟩
  · rintro ⟨u, hu, h1, h2⟩
    exact ⟨(e - u.2, e - u.1), List.mem_map.mpr ⟨u, List.mem_reverse.mpr hu, rfl⟩, by show e - u.2 ≤ q; grind, by show q ≤ e - u.1; grind⟩
theorem nrm_about : ∀ {l : List Sp} (e : Rat), Nrm l → Nrm (about l e)
  | [], e, _ => trivial
  | s :: l, e, h => by
    have ih := nrm_about e h.2.2
    have eq : about (s :: l) e = about l e ++ [(e - s.2, e - s.1)] := by unfold about; simp
    rw [eq]
    refine Nrm.app_iff.mpr ⟨ih, fun t ht => ?_, ?_⟩
    · obtain ⟨u, hu, rfl⟩ := List.mem_map.mp ht
      have := h.2.1 u (List.mem_reverse.mp hu)
      show e - u.1 < e - s.2
      grind
    · have := h.1
      show e - s.2 ≤ e - s.1
      grind
theorem sees_rev1 {L : List Int} [hL : Land L] {x h y k : Rat} (s : Sees L x h y k) : Sees L.reverse (((L.length - 1 : Nat) : Rat) - x) h (((L.length - 1 : Nat) : Rat) - y) k := by
  intro i hi
  rw [List.length_reverse] at hi
  rw [ht_rev hi]
  obtain ⟨s1, s2⟩ := s (L.length - 1 - i) (by omega)
  have e : ((L.length - 1 : Nat) : Rat) = ((L.length - 1 - i : Nat) : Rat) + (i : Rat) := by
    rw [← Rat.natCast_add]; congr 1; omega
  rw [e]
  generalize ((L.length - 1 - i : Nat) : Rat) = j at s1 s2
  constructor
  · intro a b
    have := s2 (by grind) (by grind)
    grind
  · intro a b
    have := s1 (by grind) (by grind)
    grind
theorem sees_rev {L : List Int} [hL : Land L] {x h y k : Rat} : Sees L.reverse (((L.length - 1 : Nat) : Rat) - x) h (((L.length - 1 : Nat) : Rat) - y) k ↔ Sees L x h y k := by
  refine ⟨fun z => ?_, sees_rev1⟩
  have := sees_rev1 z
  rw [List.reverse_reverse, List.length_reverse] at this
  have e1 : ((L.length - 1 : Nat) : Rat) - (((L.length - 1 : Nat) : Rat) - x) = x := by grind
  have e2 : ((L.length - 1 : Nat) : Rat) - (((L.length - 1 : Nat) : Rat) - y) = y := by grind
  rw [e1, e2] at this
  exact this
theorem seen_about {L : List Int} [hL : Land L] {x e t : Rat} (h0 : 0 ≤ x) (h1 : x ≤ ((L.length - 1 : Nat) : Rat)) : seenL L.reverse (((L.length - 1 : Nat) : Rat) - x) (ground L.reverse (((L.length - 1 : Nat) : Rat) - x) + e) t = about (seenL L x (ground L x + e) t) ((L.length - 1 : Nat) : Rat) := by
  refine (seen_nrm _ _ _ _).uniq (nrm_about _ (seen_nrm _ _ _ _)) fun q => ?_
  rw [seen_mem (by grind) (by rw [List.length_reverse]; grind), mem_about, seen_mem h0 h1, ground_rev h0 h1, List.length_reverse]
  unfold Vis
  constructor
  · rintro ⟨a, b, c⟩
    refine ⟨by grind, by grind, ?_⟩
    have eq : q = ((L.length - 1 : Nat) : Rat) - (((L.length - 1 : Nat) : Rat) - q) := by grind
    rw [eq, ground_rev (L := L) (by grind) (by grind), sees_rev] at c
    exact c
  · rintro ⟨a, b, c⟩
    refine ⟨by grind, by grind, ?_⟩
    have eq : q = ((L.length - 1 : Nat) : Rat) - (((L.length - 1 : Nat) : Rat) - q) := by grind
    rw [eq, ground_rev (L := L) (by grind) (by grind), sees_rev]
    exact c
/-! ### more is seen -/
theorem seen_more {L : List Int} [hL : Land L] {x h h' t t' : Rat} (h0 : 0 ≤ x) (h1 : x ≤ ((L.length - 1 : Nat) : Rat)) (a : h ≤ h') (b : t ≤ t') {q : Rat} (m : Mem (seenL L x h t) q) : Mem (seenL L x h' t') q := by
  rw [seen_mem h0 h1] at m ⊢
  exact ⟨m.1, m.2.1, Sees.more m.2.2 a (by grind)⟩
/-! ### gaps -/
theorem gaps_len : ∀ (l : List Sp) (q e : Rat) (f : List Sp), Nrm l → (∀ s ∈ l, q < s.1 ∧ s.2 ≤ e) → q ≤ e → lenR (endG e (l.foldl stepG (some q, f))) + lenR l = lenR f + (e - q)
  | [], q, e, f, _, _, hq => by
    show lenR (if q < e then f ++ [(q, e)] else f) + 0 = _
    have app : ∀ f : List Sp, lenR (f ++ [(q, e)]) = lenR f + (e - q) := by
      intro f
      induction f with
      | nil => show (e - q) + 0 = 0 + (e - q); grind
      | cons a f ih => rw [List.cons_append, lenR, lenR, ih]; grind
    split
    · rw [app]; grind
    · grind
  | s :: l, q, e, f, hn, hb, hq => by
    have hs := hb s List.mem_cons_self
    have ih := gaps_len l s.2 e (f ++ [(q, s.1)]) hn.2.2 (fun t ht => ⟨hn.2.1 t ht, (hb t (List.mem_cons_of_mem _ ht)).2⟩) hs.2
    have app : ∀ f : List Sp, lenR (f ++ [(q, s.1)]) = lenR f + (s.1 - q) := by
      intro f
      induction f with
      | nil => show (s.1 - q) + 0 = 0 + (s.1 - q); grind
      | cons a f ih => rw [List.cons_append, lenR, lenR, ih]; grind
    rw [app] at ih
    have ef : (s :: l).foldl stepG (some q, f) = l.foldl stepG (some s.2, f ++ [(q, s.1)]) := rfl
    rw [ef, lenR]
    grind
theorem gaps_len0 {l : List Sp} {e : Rat} (hn : Nrm l) (hne : l ≠ []) (hb : ∀ s ∈ l, 0 ≤ s.1 ∧ s.2 ≤ e) : lenR (gapsD l e) + lenR l = e := by
  cases l with
  | nil => exact absurd rfl hne
  | cons s l =>
    have hs := hb s List.mem_cons_self
    unfold gapsD
    have key : ∀ t ∈ l, s.2 < t.1 ∧ t.2 ≤ e := fun t ht => ⟨hn.2.1 t ht, (hb t (List.mem_cons_of_mem _ ht)).2⟩
    by_cases c : 0 < s.1
    · have ef : (s :: l).foldl stepG (none, []) = l.foldl stepG (some s.2, [(0, s.1)]) := by
        rw [List.foldl_cons]
        have : stepG (none, []) s = (some s.2, [(0, s.1)]) := by unfold stepG; simp [c]
        rw [this]
      have ih := gaps_len l s.2 e [(0, s.1)] hn.2.2 key hs.2
      rw [ef, lenR]
      have z : lenR [(0, s.1)] = s.1 := by show (s.1 - 0) + 0 = s.1; grind
      rw [z] at ih
      grind
    · have ef : (s :: l).foldl stepG (none, []) = l.foldl stepG (some s.2, []) := by
        rw [List.foldl_cons]
        have : stepG (none, []) s = (some s.2, []) := by unfold stepG; simp [c]
        rw [this]
      have ih := gaps_len l s.2 e [] hn.2.2 key hs.2
      rw [ef, lenR]
      have z : lenR [] = 0 := rfl
      rw [z] at ih
      grind
theorem gaps_bd {k : Nat} {l : List Sp} {e : Rat} (hb : BdL k l) (he : Bd k e) (h0 : Bd k (0 : Rat)) : BdL k (gapsD l e) := by
  have : ∀ (l : List Sp) (st : Option Rat × List Sp), BdL k l → BdL k st.2 → (∀ m, st.1 = some m → Bd k m) → BdL k (l.foldl stepG st).2 ∧ ∀ m, (l.foldl stepG st).1 = some m → Bd k m := by
    intro l
    induction l with
    | nil => exact fun st _ h1 h2 => ⟨h1, h2⟩
    | cons s l ih =>
      intro st hl h1 h2
      have hs := hl s List.mem_cons_self
      refine ih _ (fun t ht => hl t (List.mem_cons_of_mem _ ht)) ?_ (fun m hm => by cases hm; exact hs.2)
      unfold stepG
      obtain ⟨o, f⟩ := st
      cases o with
      | none =>
        show BdL k (if 0 < s.1 then f ++ [(0, s.1)] else f)
        split
        · exact BdL.app h1 fun q hq => by rw [List.mem_singleton.mp hq]; exact ⟨h0, hs.1⟩
        · exact h1
      | some q => exact BdL.app h1 fun p hp => by rw [List.mem_singleton.mp hp]; exact ⟨h2 q rfl, hs.1⟩
  obtain ⟨a, b⟩ := this l (none, []) hb (fun q hq => absurd hq List.not_mem_nil) (fun m hm => by cases hm)
  unfold gapsD endG
  generalize l.foldl stepG (none, []) = st at a b
  obtain ⟨o, f⟩ := st
  cases o with
  | none => exact fun q hq => by rw [List.mem_singleton.mp hq]; exact ⟨h0, he⟩
  | some q =>
    show BdL k (if q < e then f ++ [(q, e)] else f)
    split
    · exact BdL.app a fun p hp => by rw [List.mem_singleton.mp hp]; exact ⟨b q rfl, he⟩
    · exact a
theorem gaps_count (l : List Sp) (e : Rat) : (gapsD l e).length ≤ l.length + 1 := by
  have : ∀ (l : List Sp) (st : Option Rat × List Sp), (l.foldl stepG st).2.length ≤ st.2.length + l.length := by
    intro l
    induction l with
    | nil => intro st; simp
    | cons s l ih =>
      intro st
      have := ih (stepG st s)
      have e : (stepG st s).2.length ≤ st.2.length + 1 := by
        unfold stepG
        cases st.1 with
        | none => show (if 0 < s.1 then st.2 ++ [(0, s.1)] else st.2).length ≤ _; split <;> simp
        | some q => simp
      rw [List.foldl_cons, List.length_cons]; omega
  have a := this l (none, [])
  unfold gapsD endG
  generalize l.foldl stepG (none, []) = st at a
  obtain ⟨o, f⟩ := st
  have a' : f.length ≤ l.length := by simpa using a
  cases o with
  | none => simp
  | some q =>
    show (if q < e then f ++ [(q, e)] else f).length ≤ _
    split
    · simp; omega
    · omega
theorem seen_in {L : List Int} [hL : Land L] {x h t : Rat} (h0 : 0 ≤ x) (h1 : x ≤ ((L.length - 1 : Nat) : Rat)) : seenL L x h t ≠ [] ∧ ∀ s ∈ seenL L x h t, 0 ≤ s.1 ∧ s.2 ≤ ((L.length - 1 : Nat) : Rat) := by
  constructor
  · intro z
    have : Mem (seenL L x h t) x := (seen_mem h0 h1 x).mpr ⟨h0, h1, vis_self x h t⟩
    rw [z] at this
    exact Mem.nil this
  · intro s hs
    have o := (seen_nrm L x h t).ok s hs
    exact ⟨((seen_mem h0 h1 s.1).mp ⟨s, hs, Rat.le_refl, o⟩).1, ((seen_mem h0 h1 s.2).mp ⟨s, hs, o, Rat.le_refl⟩).2.1⟩
theorem lawSpot_den (L : List Int) (c : Int) : (lawSpot L c).den ≤ 6 := by
  have m6 := mix_bd c 9941 6 (by decide)
  unfold lawSpot
  refine Nat.le_trans (divInt_den_le _ _ (by omega)) (by omega)
theorem far_bd {L : List Int} [hL : Land L] {x : Rat} (h0 : 0 ≤ x) (h1 : x ≤ ((L.length - 1 : Nat) : Rat)) (hd : x.den ≤ 6) : Bd 7 (((L.length - 1 : Nat) : Rat) - x) := by
  have hi := hL.hi
  have lo := hL.lo
  rw [← far_frac (L := L) x]
  have hn : 0 ≤ x.num := Rat.num_nonneg.mpr h0
  have h2 : (0 : Rat) ≤ ((L.length - 1 : Nat) : Rat) - x := by grind
  have h3 : 0 ≤ ((L.length : Int) - 1) * (x.den : Int) - x.num := by
    obtain ⟨hxm, hden⟩ := x_mul_den x
    have dp := den_pos' x
    have : (0 : Rat) ≤ ((((L.length : Int) - 1) * (x.den : Int) - x.num : Int) : Rat) := by
      rw [Rat.intCast_sub, Rat.intCast_mul, len_cast, ← hxm]
      have := Rat.mul_nonneg h2 (Rat.le_of_lt dp)
      grind
    have : ((0 : Int) : Rat) ≤ ((((L.length : Int) - 1) * (x.den : Int) - x.num : Int) : Rat) := by simpa using this
    exact Rat.intCast_le_intCast.mp this
  have h4 : ((L.length : Int) - 1) * (x.den : Int) ≤ 11 * 6 := Int.mul_le_mul (by omega) (by omega) (by omega) (by omega)
  exact Bd.divInt (den_ne x) (by omega) (by have := den_pos x; omega)
end RS

namespace RS
open PySem
/-! ### what the gaps are -/
def gapsR (q : Rat) : List Sp → Rat → List Sp
  | [], e => if q < e then [(q, e)] else []
  | s :: l, e => (q, s.1) :: gapsR s.2 l e
theorem gapsR_eq : ∀ (l : List Sp) (q e : Rat) (f : List Sp), endG e (l.foldl stepG (some q, f)) = f ++ gapsR q l e
  | [], q, e, f => by
    show (if q < e then f ++ [(q, e)] else f) = _
    rw [gapsR]; split <;> simp
  | s :: l, q, e, f => by
    have ef : (s :: l).foldl stepG (some q, f) = l.foldl stepG (some s.2, f ++ [(q, s.1)]) := rfl
    rw [ef, gapsR_eq l, gapsR]; simp
theorem gapsD_cons (s : Sp) (l : List Sp) (e : Rat) : gapsD (s :: l) e = (if 0 < s.1 then [(0, s.1)] else []) ++ gapsR s.2 l e := by
  unfold gapsD
  have ef : (s :: l).foldl stepG (none, []) = l.foldl stepG (some s.2, if 0 < s.1 then [(0, s.1)] else []) := by
    rw [List.foldl_cons]
    have : stepG (none, []) s = (some s.2, if 0 < s.1 then [(0, s.1)] else []) := by unfold stepG; simp
    rw [this]
  rw [ef, gapsR_eq]
structure GapOk (P : Rat → Prop) (lo e : Rat) (g : Sp) : Prop where
  lt : g.1 < g.2
  lo : lo ≤ g.1
  hi : g.2 ≤ e
  no : ∀ y, g.1 < y → y < g.2 → ¬ P y
  a : g.1 = 0 ∨ P g.1
  b : g.2 = e ∨ P g.2
theorem gapsR_ok {P : Rat → Prop} : ∀ (l : List Sp) (q e : Rat), Nrm l → (∀ s ∈ l, q < s.1 ∧ s.2 ≤ e) → q ≤ e → P q → (∀ y, q < y → (P y ↔ Mem l y)) → (∀ g ∈ gapsR q l e, GapOk P q e g) ∧ (gapsR q l e).Pairwise fun g g' => g.2 ≤ g'.1
  | [], q, e, _, _, hq, pq, hp => by
    rw [gapsR]
    split
    · refine ⟨fun g hg => ?_, by simp⟩
      rw [List.mem_singleton.mp hg]
      exact ⟨by assumption, Rat.le_refl, Rat.le_refl, fun y y1 y2 z => Mem.nil ((hp y y1).mp z), .inr pq, .inl rfl⟩
    · exact ⟨fun g hg => absurd hg List.not_mem_nil, List.Pairwise.nil⟩
  | s :: l, q, e, hn, hb, hq, pq, hp => by
    have hs := hb s List.mem_cons_self
    have o := hn.1
    have ps1 : P s.1 := (hp s.1 hs.1).mpr (Mem.cons.mpr (.inl ⟨Rat.le_refl, o⟩))
    have ps2 : P s.2 := (hp s.2 (by grind)).mpr (Mem.cons.mpr (.inl ⟨o, Rat.le_refl⟩))
    obtain ⟨i1, i2⟩ := gapsR_ok (P := P) l s.2 e hn.2.2 (fun t ht => ⟨hn.2.1 t ht, (hb t (List.mem_cons_of_mem _ ht)).2⟩) hs.2 ps2 (fun y hy => by
      rw [hp y (by grind), Mem.cons]
      constructor
      · rintro (z | z)
        · grind
        · exact z
      · exact .inr)
    rw [gapsR]
    constructor
    · intro g hg
      rcases List.mem_cons.mp hg with rfl | hg
      · refine ⟨hs.1, Rat.le_refl, by show s.1 ≤ e; grind, fun y y1 y2 z => ?_, .inr pq, .inr ps1⟩
        have y1' : q < y := y1
        have y2' : y < s.1 := y2
        have := hn.lo ((hp y y1').mp z)
        grind
      · obtain ⟨a1, a2, a3, a4, a5, a6⟩ := i1 g hg
        exact ⟨a1, by grind, a3, a4, a5, a6⟩
    · refine List.pairwise_cons.mpr ⟨fun g hg => ?_, i2⟩
      have := (i1 g hg).lo
      show s.1 ≤ g.1
      grind
theorem gaps_ok {l : List Sp} {e : Rat} (hn : Nrm l) (hne : l ≠ []) (hb : ∀ s ∈ l, 0 ≤ s.1 ∧ s.2 ≤ e) : (∀ g ∈ gapsD l e, GapOk (Mem l) 0 e g) ∧ (gapsD l e).Pairwise (fun g g' => g.2 ≤ g'.1) ∧ (gapsD l e = [] ↔ l = [(0, e)]) := by
  cases l with
  | nil => exact absurd rfl hne
  | cons s l =>
    have hs := hb s List.mem_cons_self
    have o := hn.1
    have ps1 : Mem (s :: l) s.1 := Mem.cons.mpr (.inl ⟨Rat.le_refl, o⟩)
    have ps2 : Mem (s :: l) s.2 := Mem.cons.mpr (.inl ⟨o, Rat.le_refl⟩)
    obtain ⟨i1, i2⟩ := gapsR_ok (P := Mem (s :: l)) l s.2 e hn.2.2 (fun t ht => ⟨hn.2.1 t ht, (hb t (List.mem_cons_of_mem _ ht)).2⟩) hs.2 ps2 (fun y hy => by
      rw [Mem.cons]
      constructor
      · rintro (z | z)
        · grind
        · exact z
      · exact .inr)
    rw [gapsD_cons]
    refine ⟨fun g hg => ?_, ?_, ?_⟩
    · rcases List.mem_append.mp hg with hg | hg
      · split at hg
        · rename_i c
          rw [List.mem_singleton.mp hg]
          refine ⟨c, Rat.le_refl, by show s.1 ≤ e; grind, fun y y1 y2 z => ?_, .inl rfl, .inr ps1⟩
          have y2' : y < s.1 := y2
          have := hn.lo z
          grind
        · exact absurd hg List.not_mem_nil
      · obtain ⟨a1, a2, a3, a4, a5, a6⟩ := i1 g hg
        exact ⟨a1, by grind, a3, a4, a5, a6⟩
    · split
      · rw [List.singleton_append]
        refine List.pairwise_cons.mpr ⟨fun g hg => ?_, i2⟩
        have := (i1 g hg).lo
        show s.1 ≤ g.1
        grind
      · exact i2
    · constructor
      · intro z
        obtain ⟨z1, z2⟩ := List.append_eq_nil_iff.mp z
        cases l with
        | cons t l => rw [gapsR] at z2; cases z2
        | nil =>
          rw [gapsR] at z2
          have c1 : ¬ 0 < s.1 := fun c => by rw [if_pos c] at z1; cases z1
          have c2 : ¬ s.2 < e := fun c => by rw [if_pos c] at z2; cases z2
          have e1 : s.1 = 0 := by grind
          have e2 : s.2 = e := by grind
          have : s = (0, e) := Prod.ext e1 e2
          rw [this]
      · intro z
        cases z
        have c1 : ¬ (0 : Rat) < 0 := by grind
        have c2 : ¬ e < e := by grind
        show (if (0 : Rat) < 0 then [((0 : Rat), (0 : Rat))] else []) ++ gapsR e [] e = []
        rw [if_neg c1, gapsR, if_neg c2]; rfl
end RS

namespace RS
open PySem
/-! ### slices -/
theorem cut_from (ds : List D) (k : Nat) : cutD ds (some (k : Int)) none = ds.drop k := by
  unfold cutD
  rw [HT.sIx_nat, HT.sIx_none]
  by_cases h : k ≤ ds.length
  · rw [Nat.min_eq_left h, List.take_of_length_le (by simp)]
  · rw [Nat.min_eq_right (by omega), List.take_of_length_le (by simp), List.drop_eq_nil_of_le (Nat.le_refl _), List.drop_eq_nil_of_le (by omega)]
theorem cut_to (ds : List D) (k : Nat) : cutD ds none (some (k : Int)) = ds.take k := by
  unfold cutD
  rw [HT.sIx_nat, HT.sIx_none]
  simp only [List.drop_zero, Nat.sub_zero]
  by_cases h : k ≤ ds.length
  · rw [Nat.min_eq_left h]
  · rw [Nat.min_eq_right (by omega), List.take_of_length_le (Nat.le_refl _), List.take_of_length_le (by omega)]
theorem cut_1 (ds : List D) : cutD ds (some 1) none = ds.drop 1 := cut_from ds 1
theorem cut_m1 (ds : List D) : cutD ds none (some (-1)) = ds.take (ds.length - 1) := by
  unfold cutD
  rw [HT.sIx_none]
  have : HT.sIx ds.length ds.length (some (-1)) = ds.length - 1 := by
    unfold HT.sIx
    simp only
    rw [if_pos (by decide)]; omega
  rw [this]; simp
theorem zip_sp (a b : List Sp) : ((a.map sp).zip (b.map sp)).map (fun p => D.tup [p.1, p.2]) = (a.zip b).map fun p => D.tup [sp p.1, sp p.2] := by
  rw [List.zip_map, List.map_map]; rfl
theorem zip_fr (a b : List Rat) : ((a.map fr).zip (b.map fr)).map (fun p => D.tup [p.1, p.2]) = (a.zip b).map fun p => D.tup [fr p.1, fr p.2] := by
  rw [List.zip_map, List.map_map]; rfl
theorem zip_next {α : Type} {R : α → α → Prop} : ∀ {l : List α}, l.Pairwise R → ∀ p ∈ l.zip (l.drop 1), R p.1 p.2
  | [], _, p, hp => by simp at hp
  | [a], _, p, hp => by simp at hp
  | a :: b :: l, h, p, hp => by
    have h' := List.pairwise_cons.mp h
    simp only [List.drop_succ_cons, List.drop_zero, List.zip_cons_cons, List.mem_cons] at hp
    rcases hp with rfl | hp
    · exact h'.1 b List.mem_cons_self
    · exact zip_next h'.2 p (by simpa using hp)
/-! ### halfway -/
theorem mid_frac (a b : Rat) : Rat.divInt (a.num * (b.den : Int) + b.num * (a.den : Int)) (2 * (a.den : Int) * (b.den : Int)) = (a + b) / 2 := by
  obtain ⟨ha, na⟩ := x_mul_den a
  obtain ⟨hb, nb⟩ := x_mul_den b
  rw [Rat.divInt_eq_div, Rat.intCast_add, Rat.intCast_mul, Rat.intCast_mul, Rat.intCast_mul, Rat.intCast_mul, ← ha, ← hb]
  generalize ((a.den : Int) : Rat) = A at na
  generalize ((b.den : Int) : Rat) = C at nb
  have e2 : ((2 : Int) : Rat) = 2 := rfl
  have hm : 2 * A * C ≠ 0 := by
    rw [Ne, Rat.mul_eq_zero, Rat.mul_eq_zero]
    rintro ((h | h) | h)
    · exact absurd h (by decide)
    · exact na h
    · exact nb h
  rw [e2]
  have : a * A * C + b * C * A = (a + b) / 2 * (2 * A * C) := by grind
  rw [this, Rat.mul_div_cancel hm]
instance bd_two : Bd 2 (2 : Rat) := Bd.int (k := 1) (i := 2) (by decide)
theorem mid_bd {a b : Rat} (ha : Bd 60 a) (hb : Bd 60 b) : Bd 130 ((a + b) / 2) := by
  have := (inferInstance : Bd _ ((a + b) / 2))
  exact this.mono (by decide)
theorem sps_one (a b : Rat) : D.lst [D.tup [fr a, fr b]] = sps [(a, b)] := Eq.trans rfl rfl
theorem fr_zero : D.tup [.int 0, .int 1] = fr 0 := by rw [fr_int]; rfl
theorem fr_one : D.tup [.int 1, .int 1] = fr 1 := by rw [fr_int]; rfl
theorem shp_frfr (a b : Rat) : shp (.tup [fr a, fr b]) = true := Eq.trans rfl rfl
theorem in_frfr (x a b : Rat) : inD (fr x) (.tup [fr a, fr b]) [fr a, fr b] = .ok (decide (a = x) || decide (b = x)) := by
  rw [inD_ok (shp_fr x) (shp_frfr a b)]
  simp only [toPs, List.any_cons, List.any_nil, eqv_fr, Bool.or_false]
theorem mid_between {a b : Rat} (h : a < b) : a < (a + b) / 2 ∧ (a + b) / 2 < b := ⟨by grind, by grind⟩
theorem Mem.first {s : Sp} {l : List Sp} (h : s ∈ l) (o : s.1 ≤ s.2) : Mem l s.1 := ⟨s, h, Rat.le_refl, o⟩
theorem Mem.last {s : Sp} {l : List Sp} (h : s ∈ l) (o : s.1 ≤ s.2) : Mem l s.2 := ⟨s, h, o, Rat.le_refl⟩
theorem Mem.mid {s : Sp} {l : List Sp} (h : s ∈ l) (o : s.1 ≤ s.2) : Mem l ((s.1 + s.2) / 2) := ⟨s, h, by grind, by grind⟩
theorem deq_iff {p q : Prop} [Decidable p] [Decidable q] (h : p ↔ q) : (decide p == decide q) = true := by
  by_cases hp : p
  · simp [hp, h.mp hp]
  · have : ¬ q := fun z => hp (h.mpr z)
    simp [hp, this]
end RS

namespace RS
open PySem
/-! ### the least eye, by what it sees -/
theorem least_le {L : List Int} [hL : Land L] {x y K : Rat} (h0 : 0 ≤ x) (h1 : 0 ≤ y) (h2 : x ≤ ((L.length - 1 : Nat) : Rat)) (h3 : y ≤ ((L.length - 1 : Nat) : Rat)) (g : Rat) (i : Int) : cei (need L x y K g - g) ≤ i ↔ 0 ≤ i ∧ Sees L x (g + (i : Rat)) y K := by
  have e : need L x y K g - g ≤ (i : Rat) ↔ need L x y K g ≤ g + (i : Rat) := by constructor <;> intro z <;> grind
  rw [cei_le, e, need_le, ← sees_line h0 h1 h2 h3]
  have e2 : g ≤ g + (i : Rat) ↔ 0 ≤ i := by
    have : g ≤ g + (i : Rat) ↔ (0 : Rat) ≤ (i : Rat) := by constructor <;> intro z <;> grind
    rw [this]
    have : ((0 : Int) : Rat) ≤ (i : Rat) ↔ (0 : Int) ≤ i := Rat.intCast_le_intCast
    simpa using this
  rw [e2]
theorem int_eq_of_le {a b : Int} (h : ∀ i, a ≤ i ↔ b ≤ i) : a = b := Int.le_antisymm ((h b).mpr (Int.le_refl b)) ((h a).mp (Int.le_refl a))
/-! ### towers -/
def lineF (L : List Int) (x : Rat) (near far : Nat) : Rat := lineV L x (far : Rat) (ht L far) near
def needW (L : List Int) (x : Rat) : List Nat → Rat → Rat
  | [], s => s
  | near :: rest, s => needW L x rest (rest.foldl (fun s far => rmax s (lineF L x near far)) s)
theorem needW_le {L : List Int} {x h : Rat} : ∀ (pl : List Nat) (s : Rat), needW L x pl s ≤ h ↔ s ≤ h ∧ pl.Pairwise fun near far => lineF L x near far ≤ h
  | [], s => by simp [needW]
  | a :: l, s => by
    rw [needW, needW_le l, foldl_rmax_le, List.pairwise_cons]
    constructor
    · rintro ⟨⟨a1, a2⟩, a3⟩; exact ⟨a1, a2, a3⟩
    · rintro ⟨a1, a2, a3⟩; exact ⟨⟨a1, a2⟩, a3⟩
def rightP (L : List Int) (x : Rat) : List Nat := (List.range L.length).filter fun p => decide (x < (p : Rat))
def leftP (L : List Int) (x : Rat) : List Nat := (List.range L.length).filter fun p => decide ((p : Rat) < x)
def towerN (L : List Int) (x : Rat) : Rat := rmax (needW L x (rightP L x) (ground L x)) (needW L x (leftP L x).reverse (ground L x))
def Lines (L : List Int) (x h : Rat) : Prop := ∀ near far : Nat, near < L.length → far < L.length → (x < (near : Rat) ∧ near < far) ∨ ((near : Rat) < x ∧ far < near) → lineF L x near far ≤ h
theorem filter_pair {p : Nat → Bool} {R : Nat → Nat → Prop} (n : Nat) : ((List.range n).filter p).Pairwise R ↔ ∀ a b, a < n → b < n → p a = true → p b = true → a < b → R a b := by
  rw [List.pairwise_filter]
  constructor
  · intro h a b ha hb pa pb hab
    have := List.pairwise_iff_getElem.mp h a b (by simpa using ha) (by simpa using hb) hab
    simp only [List.getElem_range] at this
    exact this pa pb
  · intro h
    rw [List.pairwise_iff_getElem]
    intro i j hi hj hij pi pj
    simp only [List.getElem_range] at pi pj ⊢
    exact h i j (by simpa using hi) (by simpa using hj) pi pj hij
theorem tower_le {L : List Int} {x h : Rat} : towerN L x ≤ h ↔ ground L x ≤ h ∧ Lines L x h := by
  unfold towerN
  rw [rmax_le, needW_le, needW_le, List.pairwise_reverse]
  unfold rightP leftP
  rw [filter_pair, filter_pair]
  constructor
  · rintro ⟨⟨a1, a2⟩, _, a3⟩
    refine ⟨a1, fun near far hn hf c => ?_⟩
    rcases c with ⟨c, d⟩ | ⟨c, d⟩
    · refine a2 near far hn hf (by simpa using c) (by simp only [decide_eq_true_eq]; have := natCast_lt.mpr d; grind) d
    · refine a3 far near hf hn (by simp only [decide_eq_true_eq]; have := natCast_lt.mpr d; grind) (by simpa using c) d
  · rintro ⟨a1, a2⟩
    refine ⟨⟨a1, fun a b ha hb pa pb hab => a2 a b ha hb (.inl ⟨by simpa using pa, hab⟩)⟩, a1, fun a b ha hb pa pb hab => a2 b a hb ha (.inr ⟨by simpa using pb, hab⟩)⟩
/-- lines and sight of whole places -/
theorem lines_sees {L : List Int} [hL : Land L] {x h : Rat} (h0 : 0 ≤ x) (h1 : x ≤ ((L.length - 1 : Nat) : Rat)) : Lines L x h ↔ ∀ far : Nat, far < L.length → Sees L x h (far : Rat) (ht L far) := by
  have lo := hL.lo
  have f0 : ∀ far : Nat, (0 : Rat) ≤ (far : Rat) := fun far => by have := natCast_le (a := 0) (b := far); simpa using this
  have f1 : ∀ far : Nat, far < L.length → (far : Rat) ≤ ((L.length - 1 : Nat) : Rat) := fun far hf => natCast_le.mpr (by omega)
  constructor
  · intro a far hf
    rw [sees_line h0 (f0 far) h1 (f1 far hf)]
    intro p hp
    have pl := plc_lt (L := L) h0 (f0 far) h1 (f1 far hf) hp
    obtain ⟨b, c⟩ := (mem_plc h0 (f0 far)).mp hp
    unfold rmin at b; unfold rmax at c
    refine a p far pl hf ?_
    by_cases hx : x < (far : Rat)
    · rw [if_pos hx] at b c
      exact .inl ⟨b, natCast_lt.mp c⟩
    · rw [if_neg hx] at b c
      exact .inr ⟨c, natCast_lt.mp b⟩
  · intro a near far hn hf c
    have := (sees_line h0 (f0 far) h1 (f1 far hf)).mp (a far hf) near
    refine this ((mem_plc h0 (f0 far)).mpr ?_)
    unfold rmin rmax
    rcases c with ⟨c, d⟩ | ⟨c, d⟩
    · have := natCast_lt.mpr d
      rw [if_pos (by grind), if_pos (by grind)]; exact ⟨c, this⟩
    · have := natCast_lt.mpr d
      rw [if_neg (by grind), if_neg (by grind)]; exact ⟨this, c⟩
/-- all the ground is seen if all whole places are -/
theorem sees_between {L : List Int} [hL : Land L] {x h y : Rat} (a : ∀ far : Nat, far < L.length → Sees L x h (far : Rat) (ht L far)) (y0 : 0 ≤ y) (y1 : y ≤ ((L.length - 1 : Nat) : Rat)) : Sees L x h y (ground L y) := by
  have lo := hL.lo
  obtain ⟨i, hi, i1, i2⟩ : ∃ i : Nat, i + 1 < L.length ∧ (i : Rat) ≤ y ∧ y ≤ (i : Rat) + 1 := by
    obtain ⟨f1, f2⟩ := floor_spec y0
    by_cases hc : y.floor.toNat + 1 < L.length
    · exact ⟨_, hc, f1, Rat.le_of_lt f2⟩
    · refine ⟨L.length - 2, by omega, ?_, ?_⟩
      · exact Rat.le_trans (natCast_le.mpr (by omega)) f1
      · have e2 : ((L.length - 1 : Nat) : Rat) = ((L.length - 2 : Nat) : Rat) + 1 := by
          have : L.length - 1 = (L.length - 2) + 1 := by omega
          rw [this, Rat.natCast_add]; rfl
        rw [← e2]; exact y1
  rw [ground_eq hi i1 i2]
  have s1 := a i (by omega)
  have s2 := a (i + 1) hi
  have e1 : ((i + 1 : Nat) : Rat) = (i : Rat) + 1 := by rw [Rat.natCast_add]; rfl
  intro p hp
  refine ⟨fun c d => ?_, fun c d => ?_⟩
  · -- x < p < y
    have hpi : p ≤ i := by
      have : (p : Rat) < ((i + 1 : Nat) : Rat) := by rw [e1]; grind
      have := natCast_lt.mp this
      omega
    have q2 := (s2 p hp).1 c (by rw [e1]; have := natCast_le.mpr hpi; grind)
    rw [e1] at q2
    have q1 : ht L p * ((i : Rat) - x) ≤ h * ((i : Rat) - (p : Rat)) + ht L i * ((p : Rat) - x) := by
      by_cases he : p = i
      · subst he; grind
      · exact (s1 p hp).1 c (natCast_lt.mpr (by omega))
    have m1 := mul_le_right (c := (i : Rat) + 1 - y) q1 (by grind)
    have m2 := mul_le_right (c := y - (i : Rat)) q2 (by grind)
    grind
  · -- y < p < x
    have hpi : i + 1 ≤ p := by
      have : (i : Rat) < (p : Rat) := by grind
      have := natCast_lt.mp this
      omega
    have q1 := (s1 p hp).2 (natCast_lt.mpr (by omega)) d
    have q2 : ht L p * (x - ((i : Rat) + 1)) ≤ ht L (i + 1) * (x - (p : Rat)) + h * ((p : Rat) - ((i : Rat) + 1)) := by
      by_cases he : p = i + 1
      · subst he; rw [e1]; grind
      · have := (s2 p hp).2 (natCast_lt.mpr (by omega)) d
        rw [e1] at this; exact this
    have m1 := mul_le_right (c := (i : Rat) + 1 - y) q1 (by grind)
    have m2 := mul_le_right (c := y - (i : Rat)) q2 (by grind)
    grind
theorem sees_all {L : List Int} [hL : Land L] {x h : Rat} (h0 : 0 ≤ x) (h1 : x ≤ ((L.length - 1 : Nat) : Rat)) : Lines L x h ↔ ∀ y, 0 ≤ y → y ≤ ((L.length - 1 : Nat) : Rat) → Sees L x h y (ground L y) := by
  have lo := hL.lo
  rw [lines_sees h0 h1]
  constructor
  · exact fun a y y0 y1 => sees_between a y0 y1
  · intro a far hf
    have := a (far : Rat) (by have := natCast_le (a := 0) (b := far); simpa using this) (natCast_le.mpr (by omega))
    rwa [ground_at_nat hf] at this
/-- nothing is hidden just if all lines are below -/
theorem seen_whole {L : List Int} [hL : Land L] {x h : Rat} (h0 : 0 ≤ x) (h1 : x ≤ ((L.length - 1 : Nat) : Rat)) : seenL L x h 0 = [(0, ((L.length - 1 : Nat) : Rat))] ↔ Lines L x h := by
  have lo := hL.lo
  have e0 : (0 : Rat) ≤ ((L.length - 1 : Nat) : Rat) := by have := natCast_le (a := 0) (b := L.length - 1); simpa using this
  have nn : Nrm [((0 : Rat), ((L.length - 1 : Nat) : Rat))] := ⟨e0, fun t ht => absurd ht List.not_mem_nil, trivial⟩
  rw [sees_all h0 h1]
  have mm : ∀ y, Mem [((0 : Rat), ((L.length - 1 : Nat) : Rat))] y ↔ 0 ≤ y ∧ y ≤ ((L.length - 1 : Nat) : Rat) := fun y => by
    rw [Mem.cons]; constructor
    · rintro (z | z)
      · exact z
      · exact absurd z Mem.nil
    · exact .inl
  have cl : ∀ y, 0 ≤ y → y ≤ ((L.length - 1 : Nat) : Rat) → (Mem (seenL L x h 0) y ↔ Sees L x h y (ground L y)) := fun y y0 y1 => by
    have := seen_clr (L := L) (h := h) (t := 0) h0 h1 y0 y1
    rw [← memB_iff, this, clr_iff, Rat.add_zero]
  constructor
  · intro e y y0 y1
    rw [← cl y y0 y1, e, mm]; exact ⟨y0, y1⟩
  · intro a
    refine (seen_nrm L x h 0).uniq nn fun y => ?_
    rw [mm]
    constructor
    · rintro ⟨s, hs, s1, s2⟩
      have := (seen_in (L := L) (h := h) (t := 0) h0 h1).2 s hs
      exact ⟨by grind, by grind⟩
    · rintro ⟨y0, y1⟩
      exact (cl y y0 y1).mpr (a y y0 y1)
theorem tower_spec {L : List Int} [hL : Land L] {x : Rat} (i : Int) : cei (towerN L x - ground L x) ≤ i ↔ 0 ≤ i ∧ Lines L x (ground L x + (i : Rat)) := by
  have e : towerN L x - ground L x ≤ (i : Rat) ↔ towerN L x ≤ ground L x + (i : Rat) := by constructor <;> intro z <;> grind
  rw [cei_le, e, tower_le]
  have e2 : ground L x ≤ ground L x + (i : Rat) ↔ 0 ≤ i := by
    have : ground L x ≤ ground L x + (i : Rat) ↔ (0 : Rat) ≤ (i : Rat) := by constructor <;> intro z <;> grind
    rw [this]
    have : ((0 : Int) : Rat) ≤ (i : Rat) ↔ (0 : Int) ≤ i := Rat.intCast_le_intCast
    simpa using this
  rw [e2]
theorem foldl_max_le : ∀ (l : List Int) (a i : Int), l.foldl max a ≤ i ↔ a ≤ i ∧ ∀ b ∈ l, b ≤ i
  | [], a, i => by simp
  | b :: l, a, i => by
    rw [List.foldl_cons, foldl_max_le l]
    simp only [List.mem_cons, forall_eq_or_imp]
    constructor
    · rintro ⟨h1, h2⟩; exact ⟨by omega, by omega, h2⟩
    · rintro ⟨h1, h2, h3⟩; exact ⟨by omega, h3⟩
theorem tower_max {L : List Int} [hL : Land L] {x : Rat} (h0 : 0 ≤ x) (h1 : x ≤ ((L.length - 1 : Nat) : Rat)) (i : Int) : cei (towerN L x - ground L x) ≤ i ↔ ∀ p ∈ List.range L.length, cei (need L x (p : Rat) (ht L p) (ground L x) - ground L x) ≤ i := by
  have lo := hL.lo
  have f0 : ∀ far : Nat, (0 : Rat) ≤ (far : Rat) := fun far => by have := natCast_le (a := 0) (b := far); simpa using this
  have f1 : ∀ far : Nat, far < L.length → (far : Rat) ≤ ((L.length - 1 : Nat) : Rat) := fun far hf => natCast_le.mpr (by omega)
  rw [tower_spec, lines_sees h0 h1]
  constructor
  · rintro ⟨i0, a⟩ p hp
    have hp := List.mem_range.mp hp
    rw [least_le h0 (f0 p) h1 (f1 p hp)]
    exact ⟨i0, a p hp⟩
  · intro a
    refine ⟨((least_le h0 (f0 0) h1 (f1 0 (by omega)) _ _).mp (a 0 (List.mem_range.mpr (by omega)))).1, fun p hp => ?_⟩
    exact ((least_le h0 (f0 p) h1 (f1 p hp) _ _).mp (a p (List.mem_range.mpr hp))).2
/-! ### lists of places -/
theorem en_D (pl : List Nat) : ((pl.map fun i => D.int (i : Nat)).mapIdx fun i d => D.tup [.int (i : Nat), d]) = pl.zipIdx.map fun q : Nat × Nat => D.tup [.int (q.2 : Nat), .int (q.1 : Nat)] := by
  rw [List.mapIdx_eq_zipIdx_map, List.zipIdx_map, List.map_map]; rfl
theorem ints_map (l : List Int) : ints? (l.map D.int) = some l := by
  induction l with
  | nil => rfl
  | cons a t ih => simp [ints?, ih]
theorem shp_of {d : D} (h1 : (toP d).canLay0 = true) (h2 : (toP d).depth ≤ 64) : shp d = true := by
  show ((toP d).canLay0 && decide ((toP d).depth ≤ 64)) = true
  rw [h1, Bool.true_and]; exact decide_eq_true h2
theorem ints_lay : ∀ l : List Int, PyData.canLayAll0 (toPs (l.map D.int)) = true ∧ PyData.depthAll (toPs (l.map D.int)) = 0
  | [] => by simp [toPs, PyData.canLayAll0, PyData.depthAll]
  | a :: l => by
    obtain ⟨h1, h2⟩ := ints_lay l
    simp [toPs, toP, PyData.canLayAll0, PyData.depthAll, PyData.canLay0, PyData.depth, h1, h2]
theorem shp_ints (l : List Int) : shp (.lst (l.map D.int)) = true := by
  obtain ⟨h1, h2⟩ := ints_lay l
  refine shp_of ?_ ?_
  · simpa [toP, PyData.canLay0] using h1
  · simp [toP, PyData.depth, h2]
theorem shp_ld (l : List Int) : shp (ld l) = true := by
  obtain ⟨h1, h2⟩ := ints_lay l
  refine shp_of ?_ ?_
  · simpa [ld, toP, PyData.canLay0] using h1
  · simp [ld, toP, PyData.depth, h2]
theorem idx_int (T : List Int) (m : Int) (h : m ∈ T) : ∃ j : Nat, idxD (.lst (T.map D.int)) (.int m) = .ok (.int (j : Nat)) := by
  have e : ∃ j, (toPs (T.map D.int)).findIdx? (fun z => PyData.eqv z (toP (.int m))) = some j := by
    rw [toPs_map]
    cases q : (T.map fun x => toP (D.int x)).findIdx? (fun z => PyData.eqv z (toP (.int m))) with
    | some j => exact ⟨j, rfl⟩
    | none =>
      rw [List.findIdx?_eq_none_iff] at q
      have := q (toP (.int m)) (List.mem_map.mpr ⟨m, h, rfl⟩)
      rw [eqv_int] at this
      simp at this
  obtain ⟨j, hj⟩ := e
  refine ⟨j, ?_⟩
  simp only [idxD, shp_ints, shp_int, Bool.and_self, if_true, hj]
theorem min_mem (h : Int) : ∀ l : List Int, l.foldl min h ∈ h :: l := by
  intro l
  induction l generalizing h with
  | nil => simp
  | cons a l ih =>
    rw [List.foldl_cons]
    have := ih (min h a)
    rcases List.mem_cons.mp this with e | e
    · rw [e]; rcases Int.le_total h a with q | q
      · rw [Int.min_eq_left q]; simp
      · rw [Int.min_eq_right q]; simp
    · simp [e]
theorem eqv_ii (a b c d : Int) : PyData.eqv (toP (.tup [.int a, .int b])) (toP (.tup [.int c, .int d])) = (decide (a = c) && decide (b = d)) := by
  simp only [toP, toPs, PyData.eqv, PyData.eqvAll, Bool.and_true]
  rfl
theorem shp_ii (a b : Int) : shp (.tup [.int a, .int b]) = true := Eq.trans rfl rfl
theorem chain_and {p q : Prop} [Decidable p] [Decidable q] : (if decide p = true then R.ok (decide q) else R.ok false) = R.ok (decide (p ∧ q)) := by
  by_cases h : p <;> by_cases h' : q <;> simp [h, h']
theorem and_skip {c : Prop} [Decidable c] {r : R Bool} (h : c → r = .ok false) : (if decide c = true then r else R.ok (decide c)) = R.ok false := by
  by_cases hc : c
  · rw [decide_eq_true hc, if_pos rfl, h hc]
  · rw [decide_eq_false hc, if_neg (by simp)]
theorem or_skip {c : Prop} [Decidable c] {r : R Bool} (hc : ¬ c) : (if decide c = false then r else R.ok (decide c)) = r := by
  rw [decide_eq_false hc, if_pos rfl]
theorem and_bl (c d : Bool) : (if c = true then R.ok (D.bl d) else R.ok (D.bl c)) = R.ok (D.bl (c && d)) := by cases c <;> rfl
theorem or_bl (c d : Bool) : (if c = false then R.ok (D.bl d) else R.ok (D.bl c)) = R.ok (D.bl (c || d)) := by cases c <;> rfl
theorem and_b (c d : Bool) : (if c = true then R.ok d else R.ok c) = R.ok (c && d) := by cases c <;> rfl
theorem or_b (c d : Bool) : (if c = false then R.ok d else R.ok c) = R.ok (c || d) := by cases c <;> rfl
noncomputable def linB (L : List Int) (x h : Rat) : Bool := @decide (Lines L x h) (Classical.propDecidable _)
theorem linB_t {L : List Int} {x h : Rat} (s : Lines L x h) : linB L x h = true := @decide_eq_true _ (Classical.propDecidable _) s
theorem linB_f {L : List Int} {x h : Rat} (s : ¬ Lines L x h) : linB L x h = false := @decide_eq_false _ (Classical.propDecidable _) s
theorem lineF_eq {L : List Int} {x : Rat} {near far : Nat} (ne : near ≠ far) : ht L near + Rat.divInt (hi L far - hi L near) ((far : Int) - (near : Int)) * (x + ((0 - (near : Int) : Int) : Rat)) = lineF L x near far := by
  unfold lineF lineV
  rw [Rat.divInt_eq_div, Rat.intCast_sub, Rat.intCast_sub, Rat.intCast_natCast, Rat.intCast_natCast, Rat.intCast_sub, Rat.intCast_natCast]
  have z : ((0 : Int) : Rat) = 0 := rfl
  rw [z]
  have hd : (near : Rat) - (far : Rat) ≠ 0 := by
    intro z
    have a1 := natCast_le.mp (show (near : Rat) ≤ (far : Rat) by grind)
    have a2 := natCast_le.mp (show (far : Rat) ≤ (near : Rat) by grind)
    omega
  have hd' : (far : Rat) - (near : Rat) ≠ 0 := by intro z; apply hd; grind
  have e1 : (x - (far : Rat)) / ((near : Rat) - (far : Rat)) * ((near : Rat) - (far : Rat)) = x - (far : Rat) := Rat.div_mul_cancel hd
  show ht L near + (ht L far - ht L near) / ((far : Rat) - (near : Rat)) * (x + (0 - (near : Rat))) = _
  have e2 : (ht L far - ht L near) / ((far : Rat) - (near : Rat)) * ((far : Rat) - (near : Rat)) = ht L far - ht L near := Rat.div_mul_cancel hd'
  generalize (x - (far : Rat)) / ((near : Rat) - (far : Rat)) = q1 at e1
  generalize (ht L far - ht L near) / ((far : Rat) - (near : Rat)) = q2 at e2
  have e3 : (ht L near - ht L far) * q1 = q2 * (x - (far : Rat)) := by
    rw [← e1]
    have : ht L near - ht L far = q2 * ((near : Rat) - (far : Rat)) := by grind
    rw [this]; grind
  rw [e3]; grind
end RS

namespace RS
open PySem
/-! ### comprehensions with two names -/
theorem comp2_eq {φ : Nat → List D → R D} {gl : Nat → Option D} {el : E} {i j : Nat} {it : I} {cs : Ts} {ρ : Env} {α : Type} (l : List α) (m1 m2 : α → D) (p : α → Bool) (e : α → D) (hI : denI φ gl it ρ = .ok (l.map fun x => D.tup [m1 x, m2 x])) (hl : l.length ≤ big)
    (h : ∀ x ∈ l, denTs φ gl true cs (((wipeE ρ [i, j]).set i (.val (m1 x))).set j (.val (m2 x))) = .ok (p x) ∧ (p x = true → denE φ gl el (((wipeE ρ [i, j]).set i (.val (m1 x))).set j (.val (m2 x))) = .ok (e x))) : denE φ gl (.comp el (.two i j) it cs) ρ = .ok (.lst ((l.filter p).map e)) := by
  simp only [denE, hI, R.ok_bind, List.length_map, if_pos hl]
  suffices hc : compR (fun d => (setT (.two i j) d (wipeE ρ (Tg.two i j).ixs)).bind fun ρ' => (denTs φ gl true cs ρ').bind fun k => if k = true then (denE φ gl el ρ').bind fun y => .ok (some y) else .ok none) (l.map fun x => D.tup [m1 x, m2 x]) = .ok ((l.filter p).map e) by
    rw [hc]; rfl
  clear hI hl
  induction l with
  | nil => rfl
  | cons a t ih =>
    have iht := ih fun x hx => h x (List.mem_cons_of_mem _ hx)
    obtain ⟨h1, h2⟩ := h a List.mem_cons_self
    simp only [List.map_cons, compR, iht]
    simp only [Tg.ixs, setT, R.ok_bind, h1]
    by_cases q : p a = true
    · rw [if_pos q, h2 q]; simp [noX, q]
    · rw [if_neg q]; simp [noX, q]
theorem comp2_all {φ : Nat → List D → R D} {gl : Nat → Option D} {el : E} {i j : Nat} {it : I} {ρ : Env} {α : Type} (l : List α) (m1 m2 : α → D) (e : α → D) (hI : denI φ gl it ρ = .ok (l.map fun x => D.tup [m1 x, m2 x])) (hl : l.length ≤ big)
    (h : ∀ x ∈ l, denE φ gl el (((wipeE ρ [i, j]).set i (.val (m1 x))).set j (.val (m2 x))) = .ok (e x)) : denE φ gl (.comp el (.two i j) it .nil) ρ = .ok (.lst (l.map e)) := by
  rw [comp2_eq l m1 m2 (fun _ => true) e hI hl fun x hx => ⟨by rw [denTs], fun _ => h x hx⟩, List.filter_eq_self.mpr (by simp)]
/-! ### pairs -/
def prN (p : Nat × Nat) : D := .tup [.int (p.1 : Nat), .int (p.2 : Nat)]
def upto (n a : Nat) : List Nat := (List.range (n - (a + 1))).map fun k => a + 1 + k
theorem mem_upto {n a b : Nat} : b ∈ upto n a ↔ a < b ∧ b < n := by
  unfold upto
  simp only [List.mem_map, List.mem_range]
  constructor
  · rintro ⟨k, hk, rfl⟩; omega
  · rintro ⟨h1, h2⟩; exact ⟨b - (a + 1), by omega, by omega⟩
theorem upto_len (n a : Nat) : (upto n a).length = n - (a + 1) := by simp [upto]
theorem upto_srt (n a : Nat) : (upto n a).Pairwise (· < ·) := by
  unfold upto
  rw [List.pairwise_map]
  exact List.pairwise_lt_range.imp fun h => by omega
def rowP (n : Nat) (p : Nat → Nat → Bool) (a : Nat) : List (Nat × Nat) := ((upto n a).filter (p a)).map fun b => (a, b)
def pairsP (n : Nat) (p : Nat → Nat → Bool) : List (Nat × Nat) := (List.range n).flatMap (rowP n p)
theorem mem_pairsP {n a b : Nat} {p : Nat → Nat → Bool} : (a, b) ∈ pairsP n p ↔ a < b ∧ b < n ∧ p a b = true := by
  unfold pairsP rowP
  simp only [List.mem_flatMap, List.mem_range, List.mem_map, List.mem_filter, mem_upto, Prod.mk.injEq]
  constructor
  · rintro ⟨c, h1, d, ⟨⟨h2, h3⟩, h4⟩, rfl, rfl⟩; exact ⟨h2, h3, h4⟩
  · rintro ⟨h1, h2, h3⟩; exact ⟨a, by omega, b, ⟨⟨h1, h2⟩, h3⟩, rfl, rfl⟩
theorem pairsP_congr {n : Nat} {p q : Nat → Nat → Bool} (h : ∀ a b, a < b → b < n → p a b = q a b) : pairsP n p = pairsP n q := by
  unfold pairsP
  have : ∀ a, rowP n p a = rowP n q a := fun a => by
    unfold rowP
    congr 1
    exact List.filter_congr fun b hb => by have := mem_upto.mp hb; exact h a b this.1 this.2
  rw [show rowP n p = rowP n q from funext this]
theorem rowP_len (n : Nat) (p : Nat → Nat → Bool) (a : Nat) : (rowP n p a).length ≤ n := by
  unfold rowP
  rw [List.length_map]
  exact Nat.le_trans (List.length_filter_le _ _) (by rw [upto_len]; omega)
def LtP (p q : Nat × Nat) : Prop := p.1 < q.1 ∨ (p.1 = q.1 ∧ p.2 < q.2)
theorem pairsP_srt (n : Nat) (p : Nat → Nat → Bool) : (pairsP n p).Pairwise LtP := by
  unfold pairsP
  rw [List.pairwise_flatMap]
  refine ⟨fun a _ => ?_, List.pairwise_lt_range.imp fun {a b} hab x hx y hy => ?_⟩
  · unfold rowP
    rw [List.pairwise_map]
    exact ((upto_srt n a).filter _).imp fun h => .inr ⟨rfl, h⟩
  · unfold rowP at hx hy
    obtain ⟨_, _, rfl⟩ := List.mem_map.mp hx
    obtain ⟨_, _, rfl⟩ := List.mem_map.mp hy
    exact .inl hab
noncomputable def pairsL (L : List Int) : List (Nat × Nat) := pairsP L.length fun a b => clr L (a : Rat) (ht L a) (b : Rat) (ht L b)
theorem mem_pairsL {L : List Int} {a b : Nat} : (a, b) ∈ pairsL L ↔ a < b ∧ b < L.length ∧ Sees L (a : Rat) (ht L a) (b : Rat) (ht L b) := by
  unfold pairsL; rw [mem_pairsP, clr_iff]
def prs (l : List (Nat × Nat)) : D := .lst (l.map prN)
theorem prs_lay : ∀ l : List (Nat × Nat), PyData.canLayAll0 (toPs (l.map prN)) = true ∧ PyData.depthAll (toPs (l.map prN)) ≤ 10
  | [] => ⟨rfl, by decide⟩
  | a :: l => by
    obtain ⟨h1, h2⟩ := prs_lay l
    have e : PyData.depth (toP (prN a)) ≤ 10 := by simp [prN, toP, toPs, PyData.depth, PyData.depthAll]
    have e2 : PyData.canLay0 (toP (prN a)) = true := by simp [prN, toP, toPs, PyData.canLay0, PyData.canLayAll0]
    rw [List.map_cons, toPs, PyData.canLayAll0, PyData.depthAll, h1, e2]
    exact ⟨rfl, Nat.max_le.mpr ⟨e, h2⟩⟩
theorem shp_prs (l : List (Nat × Nat)) : shp (prs l) = true := by
  obtain ⟨h1, h2⟩ := prs_lay l
  unfold shp prs SeqAt.shaped
  rw [toP, PyData.canLay0, h1, PyData.depth, Bool.true_and, decide_eq_true_eq]
  omega
theorem shp_prN (p : Nat × Nat) : shp (prN p) = true := Eq.trans rfl rfl
theorem eqv_prN (a b : Nat × Nat) : PyData.eqv (toP (prN a)) (toP (prN b)) = decide (a = b) := by
  have e : PyData.eqv (toP (prN a)) (toP (prN b)) = (decide (((a.1 : Nat) : Int) = ((b.1 : Nat) : Int)) && decide (((a.2 : Nat) : Int) = ((b.2 : Nat) : Int))) := eqv_ii _ _ _ _
  rw [e]
  by_cases c : a = b
  · subst c; simp
  · rw [decide_eq_false c, Bool.eq_false_iff]
    intro z
    simp only [Bool.and_eq_true, decide_eq_true_eq] at z
    exact c (Prod.ext (by omega) (by omega))
theorem eqvAll_prs : ∀ (a b : List (Nat × Nat)), PyData.eqvAll (toPs (a.map prN)) (toPs (b.map prN)) = decide (a = b)
  | [], [] => by simp [toPs, PyData.eqvAll]
  | [], t :: b => by simp [toPs, PyData.eqvAll]
  | s :: a, [] => by simp [toPs, PyData.eqvAll]
  | s :: a, t :: b => by
    rw [List.map_cons, List.map_cons, toPs, toPs, PyData.eqvAll, eqv_prN, eqvAll_prs a b]
    by_cases c : s = t <;> by_cases d : a = b <;> simp [c, d]
theorem eqv_prs (a b : List (Nat × Nat)) : PyData.eqv (toP (prs a)) (toP (prs b)) = decide (a = b) := by
  rw [← eqvAll_prs]; simp only [prs, toP, PyData.eqv]
theorem in_prs (x : Nat × Nat) (l : List (Nat × Nat)) : inD (prN x) (prs l) (l.map prN) = .ok (decide (x ∈ l)) := by
  rw [inD_ok (shp_prN x) (shp_prs l), toPs_map]
  congr 1
  rw [List.any_map]
  rw [Bool.eq_iff_iff]
  simp only [List.any_eq_true, Function.comp_apply, eqv_prN, decide_eq_true_eq]
  constructor
  · rintro ⟨y, h1, h2⟩; exact h2 ▸ h1
  · intro h; exact ⟨x, h, rfl⟩
theorem eqv_ld (a b : List Int) : PyData.eqv (toP (ld a)) (toP (ld b)) = decide (a = b) := by
  have : ∀ a b : List Int, PyData.eqvAll (toPs (a.map D.int)) (toPs (b.map D.int)) = decide (a = b) := by
    intro a
    induction a with
    | nil => intro b; cases b <;> simp [toPs, PyData.eqvAll]
    | cons x a ih =>
      intro b
      cases b with
      | nil => simp [toPs, PyData.eqvAll]
      | cons y b =>
        rw [List.map_cons, List.map_cons, toPs, toPs, PyData.eqvAll, eqv_int, ih b]
        by_cases c : x = y <;> by_cases d : a = b <;> simp [c, d]
  rw [← this]; simp only [ld, toP, PyData.eqv]
/-! ### leaning lands -/
theorem en_L (L : List Int) : ((L.map D.int).mapIdx fun i d => D.tup [.int (i : Nat), d]) = L.zipIdx.map fun q : Int × Nat => D.tup [.int (q.2 : Nat), .int q.1] := by
  rw [List.mapIdx_eq_zipIdx_map, List.zipIdx_map, List.map_map]; rfl
theorem lt_ld (L : List Int) : ltD (ld L) = .ok (L.map D.int) := Eq.trans rfl rfl
def leanL (L : List Int) (s low : Int) : List Int := L.zipIdx.map fun q => q.1 + s * (q.2 : Int) - low
theorem leanL_len (L : List Int) (s low : Int) : (leanL L s low).length = L.length := by simp [leanL]
theorem leanL_hi {L : List Int} {s low : Int} {i : Nat} (h : i < L.length) : hi (leanL L s low) i = hi L i + s * (i : Int) - low := by
  unfold hi leanL
  rw [List.getD_eq_getElem?_getD, List.getD_eq_getElem?_getD, List.getElem?_map, List.getElem?_zipIdx, List.getElem?_eq_getElem h]
  simp
theorem leanL_ht {L : List Int} {s low : Int} {i : Nat} (h : i < L.length) : ht (leanL L s low) i = ht L i + (s : Rat) * (i : Rat) - (low : Rat) := by
  unfold ht
  rw [leanL_hi h, Rat.intCast_sub, Rat.intCast_add, Rat.intCast_mul, Rat.intCast_natCast]
theorem place_of {L : List Int} [hL : Land L] {y : Rat} (y0 : 0 ≤ y) (y1 : y ≤ ((L.length - 1 : Nat) : Rat)) : ∃ i : Nat, i + 1 < L.length ∧ (i : Rat) ≤ y ∧ y ≤ (i : Rat) + 1 := by
  have lo := hL.lo
  obtain ⟨f1, f2⟩ := floor_spec y0
  by_cases hc : y.floor.toNat + 1 < L.length
  · exact ⟨_, hc, f1, Rat.le_of_lt f2⟩
  · refine ⟨L.length - 2, by omega, ?_, ?_⟩
    · exact Rat.le_trans (natCast_le.mpr (by omega)) f1
    · have e2 : ((L.length - 1 : Nat) : Rat) = ((L.length - 2 : Nat) : Rat) + 1 := by
        have : L.length - 1 = (L.length - 2) + 1 := by omega
        rw [this, Rat.natCast_add]; rfl
      rw [← e2]; exact y1
theorem lean_ground {L : List Int} {s low : Int} [hL : Land L] [hM : Land (leanL L s low)] {y : Rat} (y0 : 0 ≤ y) (y1 : y ≤ ((L.length - 1 : Nat) : Rat)) : ground (leanL L s low) y = ground L y + (s : Rat) * y - (low : Rat) := by
  obtain ⟨i, hi, i1, i2⟩ := place_of y0 y1
  rw [ground_eq hi i1 i2, ground_eq (L := leanL L s low) (i := i) (by rw [leanL_len]; exact hi) i1 i2, leanL_ht (by omega), leanL_ht hi, Rat.natCast_add]
  have : ((1 : Nat) : Rat) = 1 := rfl
  rw [this]
  grind
theorem lean_sees {L : List Int} {s low : Int} [hL : Land L] [hM : Land (leanL L s low)] {x y a b : Rat} (x0 : 0 ≤ x) (x1 : x ≤ ((L.length - 1 : Nat) : Rat)) (y0 : 0 ≤ y) (y1 : y ≤ ((L.length - 1 : Nat) : Rat)) : Sees (leanL L s low) x (ground (leanL L s low) x + a) y (ground (leanL L s low) y + b) ↔ Sees L x (ground L x + a) y (ground L y + b) := by
  rw [lean_ground x0 x1, lean_ground y0 y1]
  unfold Sees
  rw [leanL_len]
  constructor
  · intro h i hi
    obtain ⟨h1, h2⟩ := h i hi
    rw [leanL_ht hi] at h1 h2
    exact ⟨fun c d => by have := h1 c d; grind, fun c d => by have := h2 c d; grind⟩
  · intro h i hi
    obtain ⟨h1, h2⟩ := h i hi
    rw [leanL_ht hi]
    exact ⟨fun c d => by have := h1 c d; grind, fun c d => by have := h2 c d; grind⟩
/-- what is seen depends on sight alone -/
theorem seen_congr {L M : List Int} [hL : Land L] [hM : Land M] (hl : M.length = L.length) {x h h' t t' : Rat} (x0 : 0 ≤ x) (x1 : x ≤ ((L.length - 1 : Nat) : Rat)) (e : ∀ y, 0 ≤ y → y ≤ ((L.length - 1 : Nat) : Rat) → (Sees M x h' y (ground M y + t') ↔ Sees L x h y (ground L y + t))) : seenL M x h' t' = seenL L x h t := by
  refine (seen_nrm _ _ _ _).uniq (seen_nrm _ _ _ _) fun y => ?_
  by_cases hy : 0 ≤ y ∧ y ≤ ((L.length - 1 : Nat) : Rat)
  · have a := seen_clr (L := L) (h := h) (t := t) x0 x1 hy.1 hy.2
    have b := seen_clr (L := M) (h := h') (t := t') x0 (by rw [hl]; exact x1) hy.1 (by rw [hl]; exact hy.2)
    rw [← memB_iff, ← memB_iff, a, b, clr_iff, clr_iff]
    exact e y hy.1 hy.2
  · constructor
    · rintro ⟨s, hs, s1, s2⟩
      have := (seen_in (L := M) (h := h') (t := t') x0 (by rw [hl]; exact x1)).2 s hs
      rw [hl] at this
      exact absurd ⟨by grind, by grind⟩ hy
    · rintro ⟨s, hs, s1, s2⟩
      have := (seen_in (L := L) (h := h) (t := t) x0 x1).2 s hs
      exact absurd ⟨by grind, by grind⟩ hy
theorem nat_spot {L : List Int} [hL : Land L] {p : Nat} (h : p < L.length) : (0 : Rat) ≤ (p : Rat) ∧ (p : Rat) ≤ ((L.length - 1 : Nat) : Rat) :=
  ⟨by have := natCast_le (a := 0) (b := p); simpa using this, natCast_le.mpr (by omega)⟩
theorem lean_pairs {L : List Int} {s low : Int} [hL : Land L] [hM : Land (leanL L s low)] : pairsL (leanL L s low) = pairsL L := by
  unfold pairsL
  rw [leanL_len]
  refine pairsP_congr fun a b hab hb => clr_eq ?_
  have sa := nat_spot (L := L) (show a < L.length by omega)
  have sb := nat_spot (L := L) hb
  have h := lean_sees (L := L) (s := s) (low := low) (a := 0) (b := 0) sa.1 sa.2 sb.1 sb.2
  rw [ground_at_nat hb, ground_at_nat (show a < L.length by omega), ground_at_nat (L := leanL L s low) (i := b) (by rw [leanL_len]; exact hb), ground_at_nat (L := leanL L s low) (i := a) (by rw [leanL_len]; omega), Rat.add_zero, Rat.add_zero, Rat.add_zero, Rat.add_zero] at h
  exact h
theorem min_le (h : Int) (l : List Int) : ∀ v ∈ h :: l, l.foldl min h ≤ v := by
  induction l generalizing h with
  | nil => intro v hv; simp at hv; simp [hv]
  | cons a l ih =>
    intro v hv
    rw [List.foldl_cons]
    have h0 := ih (min h a) (min h a) List.mem_cons_self
    rcases List.mem_cons.mp hv with rfl | hv
    · exact Int.le_trans h0 (Int.min_le_left _ _)
    · rcases List.mem_cons.mp hv with rfl | hv
      · exact Int.le_trans h0 (Int.min_le_right _ _)
      · exact ih (min h a) v (List.mem_cons_of_mem _ hv)
end RS

namespace RS
open PySem
/-! ### sorted pairs -/
def cP (p : Nat × Nat) : Int × Int := ((p.1 : Int), (p.2 : Int))
theorem prs_prN (l : List (Nat × Nat)) : prs? (l.map prN) = some (l.map cP) := by
  induction l with
  | nil => rfl
  | cons a l ih =>
    have : prs? ((a :: l).map prN) = (prs? (l.map prN)).map (((a.1 : Int), (a.2 : Int)) :: ·) := rfl
    rw [this, ih]; rfl
theorem sorted_perm {l m : List (Nat × Nat)} (hp : l.Perm m) (hm : m.Pairwise LtP) : biD .sorted [prs l] = .ok (prs m) := by
  have e : biD .sorted [prs l] = .ok (.lst (((l.map cP).mergeSort leP).map prD)) := by
    simp only [biD, prs, prs_prN]
  rw [e]
  have : (l.map cP).mergeSort leP = m.map cP := by
    refine sort_uniq ((List.mergeSort_perm _ _).trans (hp.map _)) (List.pairwise_mergeSort leP_trans leP_total _) ?_
    rw [List.pairwise_map]
    refine hm.imp fun {a b} h => ?_
    rw [leP_iff]
    unfold LtP at h
    simp only [cP]
    omega
  rw [this, List.map_map]
  rfl
theorem pairsP_nodup (n : Nat) (p : Nat → Nat → Bool) : (pairsP n p).Nodup := (pairsP_srt n p).imp fun {a b} h e => by
  subst e; unfold LtP at h; omega
theorem rev_pairs {L : List Int} [hL : Land L] : ((pairsL L).map fun p => (L.length - 1 - p.2, L.length - 1 - p.1)).Perm (pairsL L.reverse) := by
  have lo := hL.lo
  rw [List.perm_ext_iff_of_nodup]
  · rintro ⟨a, b⟩
    rw [mem_pairsL]
    have key : ∀ c d : Nat, c < d → d < L.length → (Sees L.reverse ((L.length - 1 - d : Nat) : Rat) (ht L.reverse (L.length - 1 - d)) ((L.length - 1 - c : Nat) : Rat) (ht L.reverse (L.length - 1 - c)) ↔ Sees L (c : Rat) (ht L c) (d : Rat) (ht L d)) := fun c d hcd hd => by
      rw [ht_rev (by omega), ht_rev (by omega)]
      have e1 : L.length - 1 - (L.length - 1 - d) = d := by omega
      have e2 : L.length - 1 - (L.length - 1 - c) = c := by omega
      rw [e1, e2]
      have c1 : ((L.length - 1 - d : Nat) : Rat) = ((L.length - 1 : Nat) : Rat) - (d : Rat) := by
        have : ((L.length - 1 - d + d : Nat) : Rat) = ((L.length - 1 : Nat) : Rat) := by congr 1; omega
        rw [Rat.natCast_add] at this; grind
      have c2 : ((L.length - 1 - c : Nat) : Rat) = ((L.length - 1 : Nat) : Rat) - (c : Rat) := by
        have : ((L.length - 1 - c + c : Nat) : Rat) = ((L.length - 1 : Nat) : Rat) := by congr 1; omega
        rw [Rat.natCast_add] at this; grind
      rw [c1, c2, sees_rev]
      exact ⟨Sees.symm, Sees.symm⟩
    simp only [List.mem_map, Prod.mk.injEq, Prod.exists, mem_pairsL, List.length_reverse]
    constructor
    · rintro ⟨c, d, ⟨h1, h2, h3⟩, rfl, rfl⟩
      exact ⟨by omega, by omega, (key c d h1 h2).mpr h3⟩
    · rintro ⟨h1, h2, h3⟩
      have k := key (L.length - 1 - b) (L.length - 1 - a) (by omega) (by omega)
      have e1 : L.length - 1 - (L.length - 1 - a) = a := by omega
      have e2 : L.length - 1 - (L.length - 1 - b) = b := by omega
      rw [e1, e2] at k
      exact ⟨L.length - 1 - b, L.length - 1 - a, ⟨by omega, by omega, k.mp h3⟩, e1, e2⟩
  · rw [List.Nodup, List.pairwise_map]
    refine List.Pairwise.imp_of_mem ?_ (pairsP_nodup _ _)
    rintro ⟨a, b⟩ ⟨c, d⟩ h1 h2 ne e
    have m1 := mem_pairsL.mp h1
    have m2 := mem_pairsL.mp h2
    simp only [Prod.mk.injEq] at e
    exact ne (by rw [Prod.mk.injEq]; omega)
  · exact pairsP_nodup _ _
/-! ### the most between -/
def mostV (L : List Int) (one two p : Nat) : Int := (hi L one * ((two : Int) - (p : Int)) + hi L two * ((p : Int) - (one : Int))) / ((two : Int) - (one : Int))
def mostL (L : List Int) (one two : Nat) : List Int := (upto two one).map (mostV L one two)
theorem mostL_len (L : List Int) (one two : Nat) : (mostL L one two).length = two - (one + 1) := by simp [mostL, upto_len]
theorem mostV_bd {L : List Int} [hL : Land L] {one two p : Nat} (h1 : one < p) (h2 : p < two) : 0 ≤ mostV L one two p ∧ mostV L one two p ≤ 999 := by
  have b1 := hi_bd (L := L) one
  have b2 := hi_bd (L := L) two
  have n1 := Int.mul_nonneg b1.1 (show (0 : Int) ≤ (two : Int) - (p : Int) by omega)
  have n2 := Int.mul_nonneg b2.1 (show (0 : Int) ≤ (p : Int) - (one : Int) by omega)
  have m1 := Int.mul_le_mul_of_nonneg_right b1.2 (show (0 : Int) ≤ (two : Int) - (p : Int) by omega)
  have m2 := Int.mul_le_mul_of_nonneg_right b2.2 (show (0 : Int) ≤ (p : Int) - (one : Int) by omega)
  unfold mostV
  constructor
  · exact Int.ediv_nonneg (by omega) (by omega)
  · refine Int.le_of_lt_add_one (Int.ediv_lt_of_lt_mul (by omega) ?_)
    omega
theorem sees_most {L : List Int} {one two : Nat} (h : one < two) (h2 : two < L.length) : Sees L (one : Rat) (ht L one) (two : Rat) (ht L two) ↔ ∀ p ∈ upto two one, hi L p ≤ mostV L one two p := by
  have e : ∀ p : Nat, (hi L p ≤ mostV L one two p ↔ ht L p * ((two : Rat) - (one : Rat)) ≤ ht L one * ((two : Rat) - (p : Rat)) + ht L two * ((p : Rat) - (one : Rat))) := fun p => by
    unfold mostV
    rw [Int.le_ediv_iff_mul_le (by omega), ← Rat.intCast_le_intCast]
    unfold ht
    simp only [Rat.intCast_add, Rat.intCast_mul, Rat.intCast_sub, Rat.intCast_natCast]
  have lt := natCast_lt.mpr h
  constructor
  · intro s p hp
    obtain ⟨p1, p2⟩ := mem_upto.mp hp
    rw [e]
    exact (s p (by omega)).1 (natCast_lt.mpr p1) (natCast_lt.mpr p2)
  · intro a i hi
    refine ⟨fun c d => (e i).mp (a i (mem_upto.mpr ⟨natCast_lt.mp c, natCast_lt.mp d⟩)), fun c d => ?_⟩
    exact absurd (natCast_lt.mp c) (by have := natCast_lt.mp d; omega)
theorem pairs_most {L : List Int} {one two : Nat} (h : one < two) (h2 : two < L.length) : (one, two) ∈ pairsL L ↔ ∀ p ∈ upto two one, hi L p ≤ mostV L one two p := by
  rw [mem_pairsL, sees_most h h2]
  exact ⟨fun z => z.2.2, fun z => ⟨h, h2, z⟩⟩
/-! ### lands with other heights -/
def chg (L : List Int) (p : Nat) (v : Int) : List Int := L.take p ++ [v] ++ L.drop (p + 1)
theorem chg_set {L : List Int} {p : Nat} (v : Int) (h : p < L.length) : chg L p v = L.set p v := by
  unfold chg
  rw [List.set_eq_take_append_cons_drop, if_pos h]; simp
theorem hi_set {L : List Int} {p i : Nat} {v : Int} (h : p < L.length) : hi (L.set p v) i = if i = p then v else hi L i := by
  unfold hi
  rw [List.getD_eq_getElem?_getD, List.getD_eq_getElem?_getD]
  by_cases e : i = p
  · subst e; rw [if_pos rfl, List.getElem?_set_self h]; rfl
  · rw [if_neg e, List.getElem?_set_ne (Ne.symm e)]
theorem chg_len {L : List Int} {p : Nat} (v : Int) (h : p < L.length) : (chg L p v).length = L.length := by rw [chg_set v h, List.length_set]
theorem chg_hi {L : List Int} {p i : Nat} {v : Int} (h : p < L.length) : hi (chg L p v) i = if i = p then v else hi L i := by rw [chg_set v h, hi_set h]
theorem chg_land {L : List Int} [hL : Land L] {p : Nat} {v : Int} (h : p < L.length) (v0 : 0 ≤ v) (v1 : v ≤ 999) : Land (chg L p v) := by
  refine ⟨by rw [chg_len v h]; exact hL.lo, by rw [chg_len v h]; exact hL.hi, fun x hx => ?_⟩
  rw [chg_set v h] at hx
  rcases List.mem_or_eq_of_mem_set hx with hx | rfl
  · exact hL.h x hx
  · exact ⟨v0, v1⟩
/-- other heights between two places -/
def spl (L M : List Int) (one two : Nat) : List Int := L.take (one + 1) ++ M ++ L.drop two
theorem spl_len {L M : List Int} {one two : Nat} (h : one < two) (h2 : two < L.length) (hm : M.length = two - (one + 1)) : (spl L M one two).length = L.length := by
  unfold spl; simp [hm]; omega
theorem spl_hi {L M : List Int} {one two i : Nat} (h : one < two) (h2 : two < L.length) (hm : M.length = two - (one + 1)) : hi (spl L M one two) i = if one < i ∧ i < two then hi M (i - (one + 1)) else hi L i := by
  unfold hi spl
  simp only [List.getD_eq_getElem?_getD]
  have l1 : (L.take (one + 1)).length = one + 1 := by simp; omega
  by_cases a : i < one + 1
  · rw [if_neg (by omega), List.append_assoc, List.getElem?_append_left (by rw [l1]; exact a), List.getElem?_take, if_pos a]
  · by_cases b : i < two
    · rw [if_pos (by omega), List.append_assoc, List.getElem?_append_right (by rw [l1]; omega), l1, List.getElem?_append_left (by rw [hm]; omega)]
    · have l2 : (L.take (one + 1) ++ M).length = two := by rw [List.length_append, l1, hm]; omega
      rw [if_neg (by omega), List.getElem?_append_right (by rw [l2]; omega), l2, List.getElem?_drop]
      have : two + (i - two) = i := by omega
      rw [this]
theorem spl_land {L M : List Int} [hL : Land L] {one two : Nat} (h : one < two) (h2 : two < L.length) (hm : M.length = two - (one + 1)) (hM : ∀ x ∈ M, 0 ≤ x ∧ x ≤ 999) : Land (spl L M one two) := by
  refine ⟨by rw [spl_len h h2 hm]; exact hL.lo, by rw [spl_len h h2 hm]; exact hL.hi, fun x hx => ?_⟩
  unfold spl at hx
  simp only [List.mem_append] at hx
  rcases hx with (hx | hx) | hx
  · exact hL.h x (List.mem_of_mem_take hx)
  · exact hM x hx
  · exact hL.h x (List.mem_of_mem_drop hx)
theorem mostL_hi {L : List Int} {one two i : Nat} (h : one < i) (h2 : i < two) : hi (mostL L one two) (i - (one + 1)) = mostV L one two i := by
  unfold hi mostL upto
  rw [List.getD_eq_getElem?_getD, List.getElem?_map, List.getElem?_map, List.getElem?_range (by omega)]
  have : one + 1 + (i - (one + 1)) = i := by omega
  simp [this]
theorem mostL_land {L : List Int} [hL : Land L] {one two : Nat} : ∀ x ∈ mostL L one two, 0 ≤ x ∧ x ≤ 999 := fun x hx => by
  obtain ⟨p, hp, rfl⟩ := List.mem_map.mp hx
  obtain ⟨p1, p2⟩ := mem_upto.mp hp
  exact mostV_bd p1 p2
theorem mostV_congr {L M : List Int} {one two p : Nat} (h1 : hi M one = hi L one) (h2 : hi M two = hi L two) : mostV M one two p = mostV L one two p := by unfold mostV; rw [h1, h2]
def lowB (L M : List Int) : Bool := (List.range L.length).all fun i => decide (hi L i ≤ hi M i)
theorem lowB_iff {L M : List Int} : lowB L M = true ↔ ∀ i, i < L.length → hi L i ≤ hi M i := by
  unfold lowB; simp
theorem land_ext {L M : List Int} (hl : M.length = L.length) (h : ∀ i, i < L.length → hi M i = hi L i) : M = L := by
  refine List.ext_getElem? fun i => ?_
  by_cases hi' : i < L.length
  · rw [hi_get hi', hi_get (by omega), h i hi']
  · rw [List.getElem?_eq_none (by omega), List.getElem?_eq_none (by omega)]
theorem filter_all {α : Type} (p : α → Bool) : ∀ l : List α, (!(!(l.filter p).isEmpty)) = l.all fun x => !p x
  | [] => rfl
  | a :: l => by
    have := filter_all p l
    by_cases h : p a = true
    · simp [h]
    · simp only [Bool.not_eq_true] at h; simp [h, this]
theorem cut_both (ds : List D) (a b : Nat) : cutD ds (some (a : Int)) (some (b : Int)) = (ds.drop a).take (b - a) := by
  unfold cutD
  rw [HT.sIx_nat, HT.sIx_nat]
  by_cases h : a ≤ ds.length
  · rw [Nat.min_eq_left h]
    by_cases h2 : b ≤ ds.length
    · rw [Nat.min_eq_left h2]
    · rw [Nat.min_eq_right (by omega), List.take_of_length_le (by simp), List.take_of_length_le (by simp; omega)]
  · rw [Nat.min_eq_right (show ds.length ≤ a by omega), List.drop_eq_nil_of_le (Nat.le_refl _), List.drop_eq_nil_of_le (by omega)]; simp
theorem pairsL_len {L : List Int} [hL : Land L] : (pairsL L).length ≤ 1000 := by
  unfold pairsL pairsP
  rw [List.length_flatMap]
  have : ∀ l : List Nat, (l.map fun a => (rowP L.length (fun a b : Nat => clr L (a : Rat) (ht L a) (b : Rat) (ht L b)) a).length).sum ≤ l.length * L.length := by
    intro l
    induction l with
    | nil => simp
    | cons a l ih =>
      rw [List.map_cons, List.sum_cons, List.length_cons, Nat.succ_mul]
      have := rowP_len L.length (fun a b : Nat => clr L (a : Rat) (ht L a) (b : Rat) (ht L b)) a
      omega
  have h := this (List.range L.length)
  rw [List.length_range] at h
  have := Nat.mul_le_mul hL.hi hL.hi
  omega
end RS

namespace RS
open PySem
/-! ### things of any kind -/
def isWi (lo hi : Int) : D → Bool
  | .int i => decide (lo ≤ i) && decide (i ≤ hi)
  | _ => false
def Pl : D → Bool
  | .ins _ => false
  | .scr _ => false
  | _ => true
def isLd : D → Bool
  | .tup ds => decide (2 ≤ ds.length) && decide (ds.length ≤ 12) && ds.all (isWi 0 999)
  | _ => false
def PlL (d : D) : Prop := Pl d = true ∧ ∀ ds, d = .tup ds → ds.length ≤ 1000 ∧ ∀ x ∈ ds, Pl x = true
theorem isLd_ld (L : List Int) : isLd (ld L) = (decide (2 ≤ L.length) && decide (L.length ≤ 12) && L.all fun x => decide (0 ≤ x) && decide (x ≤ 999)) := by
  have : isLd (ld L) = (decide (2 ≤ (L.map D.int).length) && decide ((L.map D.int).length ≤ 12) && (L.map D.int).all (isWi 0 999)) := rfl
  rw [this, List.length_map, List.all_map]
  rfl
theorem land_of {L : List Int} (h : isLd (ld L) = true) : Land L := by
  rw [isLd_ld] at h
  simp only [Bool.and_eq_true, decide_eq_true_eq, List.all_eq_true] at h
  exact ⟨h.1.1, h.1.2, h.2⟩
theorem pl_ld {L : List Int} (h : L.length ≤ 1000) : PlL (ld L) := ⟨rfl, fun ds e => by
  unfold ld at e
  injection e with e
  subst e
  refine ⟨by rw [List.length_map]; exact h, fun x hx => ?_⟩
  obtain ⟨i, _, rfl⟩ := List.mem_map.mp hx
  rfl⟩
theorem filter_not_all {α : Type} (p : α → Bool) (l : List α) : (!(!(l.filter fun x => !p x).isEmpty)) = l.all p := by
  rw [filter_all]; simp
theorem tt_eq (a b : Bool) : PyData.eqv (toP (.lst [.bl a, .bl b])) (toP (.lst [.bl true, .bl true])) = (a && b) := by
  simp only [toP, toPs, PyData.eqv, PyData.eqvAll]; cases a <;> cases b <;> rfl
theorem shp_bb2 (a b : Bool) : shp (.lst [.bl a, .bl b]) = true := Eq.trans rfl rfl
theorem eqv_ld_tt (L : List Int) (a b : Bool) : PyData.eqv (toP (ld L)) (toP (.lst [.bl a, .bl b])) = false := by simp [ld, toP, PyData.eqv]
theorem max_le_iff {h : Int} {l : List Int} {m : Int} : l.foldl max h ≤ m ↔ ∀ x ∈ h :: l, x ≤ m := by
  rw [foldl_max_le]; simp
theorem eqv_self_ints (l : List Int) : PyData.eqv (toP (.lst (l.map D.int))) (toP (.lst (l.map D.int))) = true := by
  have := eqv_ld l l
  simp only [ld, toP, PyData.eqv] at this ⊢
  rw [this]; simp
end RS

namespace RS
open PySem
/-! ### the ends of stretches put together are ends of the stretches -/
def EndP (p : Rat → Prop) (l : List Sp) : Prop := ∀ s ∈ l, p s.1 ∧ p s.2
theorem p_rmax {p : Rat → Prop} {a b : Rat} (h1 : p a) (h2 : p b) : p (rmax a b) := by unfold rmax; split <;> assumption
theorem p_rmin {p : Rat → Prop} {a b : Rat} (h1 : p a) (h2 : p b) : p (rmin a b) := by unfold rmin; split <;> assumption
theorem stepP_end {p : Rat → Prop} {f : List Sp} {s : Sp} (hf : EndP p f) (hs : p s.1 ∧ p s.2) : EndP p (stepP f s) := by
  intro t ht
  rcases List.eq_nil_or_concat f with rfl | ⟨g, q, rfl⟩
  · rw [stepP_nil, List.mem_singleton] at ht; subst ht; exact hs
  · rw [List.concat_eq_append] at hf ht
    have hq := hf q (List.mem_append.mpr (.inr List.mem_cons_self))
    rw [stepP_app] at ht
    split at ht
    · rcases List.mem_append.mp ht with ht | ht
      · exact hf t ht
      · rw [List.mem_singleton.mp ht]; exact hs
    · rcases List.mem_append.mp ht with ht | ht
      · exact hf t (List.mem_append.mpr (.inl ht))
      · rw [List.mem_singleton.mp ht]; exact ⟨hq.1, p_rmax hq.2 hs.2⟩
theorem fold_stepP_end {p : Rat → Prop} : ∀ (l f : List Sp), EndP p l → EndP p f → EndP p (l.foldl stepP f)
  | [], f, _, hf => hf
  | s :: l, f, hl, hf => fold_stepP_end l _ (fun t ht => hl t (List.mem_cons_of_mem _ ht)) (stepP_end hf (hl s List.mem_cons_self))
theorem together_end {p : Rat → Prop} {l : List Sp} (h : EndP p l) : EndP p (together l) := fold_stepP_end _ _ (fun s hs => h s (mem_order.mp hs)) (fun s hs => absurd hs List.not_mem_nil)
theorem inn_end {p : Rat → Prop} {f : List Sp} {m t : Sp} (h : EndP p f) (hm : p m.1 ∧ p m.2) (ht : p t.1 ∧ p t.2) : EndP p (inn f m t) := by
  unfold inn
  split
  · exact h
  · intro s hs
    rcases List.mem_append.mp hs with hs | hs
    · exact h s hs
    · rw [List.mem_singleton.mp hs]; exact ⟨p_rmax hm.1 ht.1, p_rmin hm.2 ht.2⟩
theorem inter_end {p : Rat → Prop} {a b : List Sp} (ha : EndP p a) (hb : EndP p b) : EndP p (inter a b) := by
  have in1 : ∀ (m : Sp) (b f : List Sp), (p m.1 ∧ p m.2) → EndP p b → EndP p f → EndP p (b.foldl (fun f t => inn f m t) f) := by
    intro m b
    induction b with
    | nil => intro f _ _ h; exact h
    | cons t b ih => intro f hm hb hf; exact ih _ hm (fun s hs => hb s (List.mem_cons_of_mem _ hs)) (inn_end hf hm (hb t List.mem_cons_self))
  have in2 : ∀ (a f : List Sp), EndP p a → EndP p f → EndP p (a.foldl (fun f m => b.foldl (fun f t => inn f m t) f) f) := by
    intro a
    induction a with
    | nil => intro f _ h; exact h
    | cons m a ih => intro f ha hf; exact ih _ (fun s hs => ha s (List.mem_cons_of_mem _ hs)) (in1 m b f (ha m List.mem_cons_self) hb hf)
  exact in2 a [] ha (fun s hs => absurd hs List.not_mem_nil)
theorem EndP.app {p : Rat → Prop} {a b : List Sp} (h1 : EndP p a) (h2 : EndP p b) : EndP p (a ++ b) := fun s hs => (List.mem_append.mp hs).elim (h1 s) (h2 s)
/-! ### twelfths -/
def tw (k : Nat) : Rat := Rat.divInt (k : Int) 12
theorem tw_mul (k : Nat) : tw k * 12 = (k : Rat) := by
  unfold tw
  rw [Rat.divInt_eq_div]
  have : ((12 : Int) : Rat) ≠ 0 := by decide
  have e : ((12 : Int) : Rat) = 12 := rfl
  rw [← e, Rat.div_mul_cancel this, Rat.intCast_natCast]
theorem tw_le {a b : Nat} : tw a ≤ tw b ↔ a ≤ b := by
  have h1 := tw_mul a
  have h2 := tw_mul b
  rw [← natCast_le]
  constructor <;> intro h <;> grind
theorem tw_lt {a b : Nat} : tw a < tw b ↔ a < b := by
  have := tw_le (a := b) (b := a)
  rw [← Rat.not_le, this]; omega
def Tw6 (q : Rat) : Prop := ∃ i : Nat, i ≤ 40 ∧ q = tw (2 * i)
theorem tw6_of {i : Int} (h0 : 0 ≤ i) (h1 : i ≤ 40) : Tw6 (Rat.divInt i 6) := by
  refine ⟨i.toNat, by omega, ?_⟩
  unfold tw
  have e : ((2 * i.toNat : Nat) : Int) = i * 2 := by omega
  rw [e]
  have e2 : (12 : Int) = 6 * 2 := rfl
  rw [e2, Rat.divInt_mul_right (by decide)]
def twP (p : Nat × Nat) : Sp := (tw p.1, tw p.2)
/-- separated pairs of places -/
def SepP : Nat → List (Nat × Nat) → Prop
  | _, [] => True
  | k, p :: l => k ≤ p.1 ∧ p.1 ≤ p.2 ∧ p.2 ≤ 80 ∧ SepP (p.2 + 2) l
theorem sep_of : ∀ {l : List Sp} (k : Nat), Nrm l → EndP Tw6 l → (∀ s ∈ l, tw (k - 1) < s.1 ∨ k = 0) → (∃ i, k = 2 * i) → ∃ ps, l = ps.map twP ∧ SepP k ps
  | [], k, _, _, _, _ => ⟨[], rfl, trivial⟩
  | s :: l, k, hn, he, hk, ⟨i, hi⟩ => by
    obtain ⟨⟨a, ha, ea⟩, ⟨b, hb, eb⟩⟩ := he s List.mem_cons_self
    have o := hn.1
    rw [ea, eb, tw_le] at o
    have k1 : k ≤ 2 * a := by
      rcases hk s List.mem_cons_self with h | h
      · rw [ea, tw_lt] at h; omega
      · omega
    obtain ⟨ps, e1, e2⟩ := sep_of (l := l) (2 * b + 2) hn.2.2 (fun t ht => he t (List.mem_cons_of_mem _ ht)) (fun t ht => .inl (by
      have h1 := hn.2.1 t ht
      obtain ⟨⟨c, hc, ec⟩, _⟩ := he t (List.mem_cons_of_mem _ ht)
      rw [eb, ec, tw_lt] at h1
      rw [ec, tw_lt]; omega)) ⟨b + 1, by omega⟩
    exact ⟨(2 * a, 2 * b) :: ps, by rw [List.map_cons, ← e1]; congr 1; exact Prod.ext ea eb, k1, o, by omega, e2⟩
theorem sep_in {k j : Nat} : ∀ {ps : List (Nat × Nat)}, SepP k ps → (Mem (ps.map twP) (tw j) ↔ ∃ p ∈ ps, p.1 ≤ j ∧ j ≤ p.2) := fun {ps} _ => by
  constructor
  · rintro ⟨s, hs, h1, h2⟩
    obtain ⟨p, hp, rfl⟩ := List.mem_map.mp hs
    exact ⟨p, hp, tw_le.mp h1, tw_le.mp h2⟩
  · rintro ⟨p, hp, h1, h2⟩
    exact ⟨twP p, List.mem_map.mpr ⟨p, hp, rfl⟩, tw_le.mpr h1, tw_le.mpr h2⟩
/-! ### the scan -/
def scStep (m : Nat → Bool) (st : Option Nat × List (Nat × Nat)) (k : Nat) : Option Nat × List (Nat × Nat) :=
  if m k = true then (match st.1 with | none => (some k, st.2) | some _ => st) else (match st.1 with | none => st | some b => (none, st.2 ++ [(b, k - 1)]))
theorem sc_none (m : Nat → Bool) (f : List (Nat × Nat)) : ∀ (n k : Nat), (∀ j, k ≤ j → j < k + n → m j = false) → (List.range' k n).foldl (scStep m) (none, f) = (none, f)
  | 0, k, _ => rfl
  | n + 1, k, h => by
    rw [List.range'_succ, List.foldl_cons]
    have e : scStep m (none, f) k = (none, f) := by unfold scStep; rw [h k (Nat.le_refl _) (by omega)]; rfl
    rw [e, sc_none m f n (k + 1) fun j h1 h2 => h j (by omega) (by omega)]
theorem sc_some (m : Nat → Bool) (f : List (Nat × Nat)) (b : Nat) : ∀ (n k : Nat), (∀ j, k ≤ j → j < k + n → m j = true) → (List.range' k n).foldl (scStep m) (some b, f) = (some b, f)
  | 0, k, _ => rfl
  | n + 1, k, h => by
    rw [List.range'_succ, List.foldl_cons]
    have e : scStep m (some b, f) k = (some b, f) := by unfold scStep; rw [h k (Nat.le_refl _) (by omega)]; rfl
    rw [e, sc_some m f b n (k + 1) fun j h1 h2 => h j (by omega) (by omega)]
theorem sep_lo {k : Nat} : ∀ {ps : List (Nat × Nat)}, SepP k ps → ∀ p ∈ ps, k ≤ p.1
  | [], _, p, hp => absurd hp List.not_mem_nil
  | q :: ps, ⟨h1, h2, h3, h4⟩, p, hp => by
    rcases List.mem_cons.mp hp with rfl | hp
    · exact h1
    · have := sep_lo h4 p hp; omega
theorem sc_all (m : Nat → Bool) : ∀ (ps : List (Nat × Nat)) (f : List (Nat × Nat)) (k : Nat), SepP k ps → k ≤ 100 → (∀ j, k ≤ j → (m j = true ↔ ∃ p ∈ ps, p.1 ≤ j ∧ j ≤ p.2)) → (List.range' k (130 - k)).foldl (scStep m) (none, f) = (none, f ++ ps)
  | [], f, k, _, _, h => by
    rw [sc_none m f _ _ fun j h1 _ => by
      have := h j h1
      cases hj : m j with
      | false => rfl
      | true => obtain ⟨p, hp, _⟩ := this.mp hj; exact absurd hp List.not_mem_nil]
    simp
  | (a, b) :: ps, f, k, ⟨h1, h2, h3, h4⟩, hk, h => by
    have h1 : k ≤ a := h1
    have h2 : a ≤ b := h2
    have h3 : b ≤ 80 := h3
    have h4 : SepP (b + 2) ps := h4
    have tr : ∀ j, a ≤ j → j ≤ b → m j = true := fun j j1 j2 => (h j (by omega)).mpr ⟨(a, b), List.mem_cons_self, j1, j2⟩
    have fl : ∀ j, k ≤ j → j < a → m j = false := fun j j1 j2 => by
      cases hj : m j with
      | false => rfl
      | true =>
        obtain ⟨p, hp, p1, p2⟩ := (h j j1).mp hj
        rcases List.mem_cons.mp hp with rfl | hp
        · omega
        · have := sep_lo h4 p hp; omega
    have fl2 : m (b + 1) = false := by
      cases hj : m (b + 1) with
      | false => rfl
      | true =>
        obtain ⟨p, hp, p1, p2⟩ := (h (b + 1) (by omega)).mp hj
        rcases List.mem_cons.mp hp with rfl | hp
        · exact absurd p2 (by show ¬ b + 1 ≤ b; omega)
        · have := sep_lo h4 p hp; omega
    have s1 : List.range' k (130 - k) = List.range' k (a - k) ++ (a :: (List.range' (a + 1) (b - a) ++ ((b + 1) :: List.range' (b + 2) (130 - (b + 2))))) := by
      have e1 : 130 - k = (a - k) + (130 - a) := by omega
      rw [e1, ← List.range'_append_1]
      have e2 : k + (a - k) = a := by omega
      have e3 : 130 - a = (129 - a) + 1 := by omega
      rw [e2, e3, List.range'_succ]
      have e4 : 129 - a = (b - a) + (129 - b) := by omega
      rw [e4, ← List.range'_append_1]
      have e5 : a + 1 + (b - a) = b + 1 := by omega
      have e6 : 129 - b = (130 - (b + 2)) + 1 := by omega
      rw [e5, e6, List.range'_succ]
    rw [s1, List.foldl_append, sc_none m f _ _ fun j j1 j2 => fl j j1 (by omega), List.foldl_cons]
    have e1 : scStep m (none, f) a = (some a, f) := by unfold scStep; rw [tr a (Nat.le_refl _) h2]; rfl
    rw [e1, List.foldl_append, sc_some m f a _ _ fun j j1 j2 => tr j (by omega) (by omega), List.foldl_cons]
    have e2 : scStep m (some a, f) (b + 1) = (none, f ++ [(a, b)]) := by unfold scStep; rw [fl2]; rfl
    rw [e2, sc_all m ps (f ++ [(a, b)]) (b + 2) h4 (by omega) fun j hj => ?_]
    · simp
    · rw [h j (by omega)]
      constructor
      · rintro ⟨p, hp, p1, p2⟩
        rcases List.mem_cons.mp hp with rfl | hp
        · exact absurd p2 (by show ¬ j ≤ b; omega)
        · exact ⟨p, hp, p1, p2⟩
      · rintro ⟨p, hp, q⟩; exact ⟨p, List.mem_cons_of_mem _ hp, q⟩
theorem scan_ok {F : List Sp} (hn : Nrm F) (he : EndP Tw6 F) : ((List.range 130).foldl (scStep fun k => memB F (tw k)) (none, [])).2.map twP = F := by
  obtain ⟨ps, e1, e2⟩ := sep_of 0 hn he (fun _ _ => .inr rfl) ⟨0, rfl⟩
  have := sc_all (fun k => memB F (tw k)) ps [] 0 e2 (by decide) (fun j _ => by rw [memB_iff, e1, sep_in e2])
  rw [List.range_eq_range', this, e1]; simp
theorem Drawn.ends {l : List Sp} (h : Drawn l) : EndP Tw6 l := fun s hs => by
  obtain ⟨i, j, e1, e2, h1, h2, h3⟩ := h.six s hs
  rw [e1, e2]; exact ⟨tw6_of h1 (by omega), tw6_of (by omega) h3⟩
theorem Nrm.pw : ∀ {l : List Sp}, Nrm l → l.Pairwise fun s t => s.2 < t.1
  | [], _ => List.Pairwise.nil
  | s :: l, h => List.pairwise_cons.mpr ⟨fun t ht => h.2.1 t ht, h.2.2.pw⟩
theorem ix_sps {l : List Sp} {k : Nat} (h : k < l.length) : ixD (.lst (l.map sp)) (.int (k : Nat)) = .ok (sp l[k]) := by
  rw [ix_lst, L2.atI_nat (j := k) (v := sp l[k]) (by rw [List.getElem?_map, List.getElem?_eq_getElem h]; rfl)]
theorem frac_self (q : Rat) : fr (Rat.divInt q.num (q.den : Int)) = fr q := by rw [Rat.num_divInt_den]
theorem cut_to1 (ds : List D) : cutD ds none (some 1) = ds.take 1 := cut_to ds 1
def begD : Option Nat → D
  | none => .non
  | some b => fr (tw b)
theorem isNon_beg (o : Option Nat) : isNon (begD o) = o.isNone := by cases o <;> rfl
theorem at_sps {l : List Sp} {k : Nat} (h : k < l.length) : L2.atI (l.map sp) ((k : Nat) : Int) = some (sp l[k]) := L2.atI_nat (j := k) (v := sp l[k]) (by rw [List.getElem?_map, List.getElem?_eq_getElem h]; rfl)
end RS

namespace RS
open PySem
/-! ### watchers -/
def sightL (L : List Int) (e : Int) (p : Nat) : List Sp := seenL L (p : Rat) (ground L (p : Rat) + (e : Rat)) ((0 : Int) : Rat)
def yardD (L : List Int) (e : Int) : D := .ins [ld L, fr ((L.length - 1 : Nat) : Rat), .lst ((List.range L.length).map fun p => sps (sightL L e p))]
def togL (L : List Int) (e : Int) (ps : List Nat) : List Sp := together (ps.flatMap (sightL L e))
def gapL (L : List Int) (e : Int) (ps : List Nat) : List Sp := gapsD (togL L e ps) ((L.length - 1 : Nat) : Rat)
def psD (ps : List Nat) : D := .tup (ps.map fun p => D.int (p : Nat))
theorem nat_cast_bd {L : List Int} [hL : Land L] {p : Nat} (hp : p < L.length) : Bd 7 (p : Rat) := (Bd.nat (by have := hL.hi; omega)).mono (by decide)
theorem nat_le_last {L : List Int} {p : Nat} (hp : p < L.length) : (p : Rat) ≤ ((L.length - 1 : Nat) : Rat) := Rat.natCast_le_natCast.mpr (by omega)
theorem sight_bd {L : List Int} [hL : Land L] {e : Int} {p : Nat} (hp : p < L.length) (e0 : 0 ≤ e) (e1 : e ≤ 999) : BdL 60 (sightL L e p) ∧ (sightL L e p).length ≤ 27 := by
  haveI := nat_cast_bd (L := L) hp
  have hh : Ov ((p : Rat).den : Int) 24 (ground L (p : Rat) + (e : Rat)) := high_ov (by omega)
  exact seen_bd (L := L) (t := 0) hh (by decide) Rat.natCast_nonneg (nat_le_last hp)
theorem sight_nrm (L : List Int) (e : Int) (p : Nat) : Nrm (sightL L e p) := seen_nrm _ _ _ _
theorem sight_all_bd {L : List Int} [hL : Land L] {e : Int} {ps : List Nat} (hp : ∀ p ∈ ps, p < L.length) (e0 : 0 ≤ e) (e1 : e ≤ 999) : BdL 60 (ps.flatMap (sightL L e)) := by
  intro s hs
  obtain ⟨p, h1, h2⟩ := List.mem_flatMap.mp hs
  exact (sight_bd (hp p h1) e0 e1).1 s h2
theorem sight_all_len {L : List Int} [hL : Land L] {e : Int} (e0 : 0 ≤ e) (e1 : e ≤ 999) : ∀ {ps : List Nat}, (∀ p ∈ ps, p < L.length) → (ps.flatMap (sightL L e)).length ≤ 27 * ps.length
  | [], _ => Nat.le_refl _
  | p :: ps, hp => by
    rw [List.flatMap_cons, List.length_append, List.length_cons]
    have := sight_all_len e0 e1 (ps := ps) (fun q hq => hp q (List.mem_cons_of_mem _ hq))
    have := (sight_bd (hp p List.mem_cons_self) e0 e1).2
    omega
theorem sight_all_ok (L : List Int) (e : Int) (ps : List Nat) : Ok (ps.flatMap (sightL L e)) := by
  intro s hs
  obtain ⟨p, h1, h2⟩ := List.mem_flatMap.mp hs
  exact (sight_nrm L e p).ok s h2
theorem tog_nrm (L : List Int) (e : Int) (ps : List Nat) : Nrm (togL L e ps) := (together_spec (sight_all_ok L e ps)).1
theorem tog_mem {L : List Int} {e : Int} {ps : List Nat} {q : Rat} : Mem (togL L e ps) q ↔ ∃ p ∈ ps, Mem (sightL L e p) q := by
  rw [togL, (together_spec (sight_all_ok L e ps)).2]
  constructor
  · rintro ⟨s, hs, h⟩
    obtain ⟨p, h1, h2⟩ := List.mem_flatMap.mp hs
    exact ⟨p, h1, s, h2, h⟩
  · rintro ⟨p, h1, s, h2, h⟩
    exact ⟨s, List.mem_flatMap.mpr ⟨p, h1, h2⟩, h⟩
theorem tog_bd {L : List Int} [hL : Land L] {e : Int} {ps : List Nat} (hp : ∀ p ∈ ps, p < L.length) (e0 : 0 ≤ e) (e1 : e ≤ 999) : BdL 60 (togL L e ps) := together_bd (sight_all_bd hp e0 e1)
theorem tog_len {L : List Int} [hL : Land L] {e : Int} {ps : List Nat} (hp : ∀ p ∈ ps, p < L.length) (e0 : 0 ≤ e) (e1 : e ≤ 999) : (togL L e ps).length ≤ 27 * ps.length := Nat.le_trans (together_len _) (sight_all_len e0 e1 hp)
theorem tog_in {L : List Int} [hL : Land L] {e : Int} {ps : List Nat} (hp : ∀ p ∈ ps, p < L.length) : ∀ s ∈ togL L e ps, 0 ≤ s.1 ∧ s.2 ≤ ((L.length - 1 : Nat) : Rat) := by
  intro s hs
  have ok := (tog_nrm L e ps).ok s hs
  have m1 : Mem (togL L e ps) s.1 := ⟨s, hs, Rat.le_refl, ok⟩
  have m2 : Mem (togL L e ps) s.2 := ⟨s, hs, ok, Rat.le_refl⟩
  obtain ⟨p, h1, t, ht, a1, a2⟩ := tog_mem.mp m1
  obtain ⟨p', h1', t', ht', a1', a2'⟩ := tog_mem.mp m2
  have b := (seen_in (L := L) (x := (p : Rat)) Rat.natCast_nonneg (nat_le_last (hp p h1))).2 t ht
  have b' := (seen_in (L := L) (x := (p' : Rat)) Rat.natCast_nonneg (nat_le_last (hp p' h1'))).2 t' ht'
  exact ⟨Rat.le_trans b.1 a1, Rat.le_trans a2' b'.2⟩
end RS

namespace RS
open PySem
/-! ### the cuts, as the law reckons them -/
def slp (L : List Int) (x h : Rat) (p : Nat) : Rat := (ht L p + -h) / ((p : Rat) + -x)
def riseI (L : List Int) (l : Nat) : Int := hi L (l + 1) - hi L l
def trn (L : List Int) (x h : Rat) (l p : Nat) : Rat := ((riseI L l : Int) : Rat) + -slp L x h p
def cutQ (L : List Int) (x h : Rat) (T : Int) (l p : Nat) : Rat := (h + -(slp L x h p * x) + ((riseI L l * (l : Int) - hi L l - T : Int) : Rat)) / trn L x h l p
def cutF (L : List Int) (x h : Rat) (T : Int) (l : Nat) (f : List Rat) (p : Nat) : List Rat := if (p : Rat) = x then f else if trn L x h l p = 0 then f else f ++ [cutQ L x h T l p]
def cutsL (L : List Int) (x h : Rat) (T : Int) : List Rat := (List.range (L.length - 1)).foldl (fun f l => (List.range L.length).foldl (cutF L x h T l) f) []
theorem cutF_keep {L : List Int} {x h : Rat} {T : Int} {l : Nat} {f : List Rat} {p : Nat} {q : Rat} (m : q ∈ f) : q ∈ cutF L x h T l f p := by
  unfold cutF
  split
  · exact m
  · split
    · exact m
    · exact List.mem_append_left _ m
theorem fold_keep {α β : Type} {g : List β → α → List β} (hg : ∀ f a q, q ∈ f → q ∈ g f a) : ∀ (l : List α) (f : List β) (q : β), q ∈ f → q ∈ l.foldl g f
  | [], f, q, m => m
  | a :: l, f, q, m => fold_keep hg l (g f a) q (hg f a q m)
theorem fold_gets {α β : Type} {g : List β → α → List β} (hg : ∀ f a q, q ∈ f → q ∈ g f a) {q : β} {a : α} (ha : ∀ f, q ∈ g f a) : ∀ (l : List α) (f : List β), a ∈ l → q ∈ l.foldl g f
  | [], f, m => absurd m List.not_mem_nil
  | b :: l, f, m => by
    rcases List.mem_cons.mp m with rfl | m
    · exact fold_keep hg l _ q (ha f)
    · exact fold_gets hg ha l (g f b) m
theorem mem_cuts {L : List Int} {x h : Rat} {T : Int} {l p : Nat} (hl : l + 1 < L.length) (hp : p < L.length) (h1 : (p : Rat) ≠ x) (h2 : trn L x h l p ≠ 0) : cutQ L x h T l p ∈ cutsL L x h T := by
  unfold cutsL
  refine fold_gets (a := l) (fun f a q m => fold_keep (fun f a q m => cutF_keep m) _ f q m) (fun f => ?_) _ _ (List.mem_range.mpr (by omega))
  refine fold_gets (a := p) (fun f a q m => cutF_keep m) (fun f => ?_) _ _ (List.mem_range.mpr hp)
  unfold cutF
  rw [if_neg h1, if_neg h2]
  exact List.mem_append_right _ (List.mem_singleton.mpr rfl)
theorem rise_cast (L : List Int) (l : Nat) : ((riseI L l : Int) : Rat) = ht L (l + 1) - ht L l := by
  unfold riseI ht; rw [Rat.intCast_sub]
theorem here_cast (L : List Int) (l : Nat) (T : Int) : ((riseI L l * (l : Int) - hi L l - T : Int) : Rat) = (ht L (l + 1) - ht L l) * (l : Rat) - ht L l - (T : Rat) := by
  rw [Rat.intCast_sub, Rat.intCast_sub, Rat.intCast_mul, rise_cast, Rat.intCast_natCast]; rfl
theorem eq_div {y t n : Rat} (h : y * t = n) (ht : t ≠ 0) : y = n / t := by rw [← h, Rat.mul_div_cancel ht]
theorem cut_is {L : List Int} [hL : Land L] {x h m : Rat} {T : Int} {s : Rat} (hs : Sgn s) {c c' p : Nat} (h1 : c < L.length) (h2 : c' < L.length) (e : (c' : Rat) = (c : Rat) + s) (hp : p < L.length) (p0 : 0 < s * ((p : Rat) - x)) (hm : m = stp L x h s 0 (p : Rat))
    (ne : Fv L x h s T m (c : Rat) ≠ Fv L x h s T m (c' : Rat)) : cutAt (c : Rat) (c' : Rat) (Fv L x h s T m (c : Rat)) (Fv L x h s T m (c' : Rat)) ∈ cutsL L x h T := by
  have pne : (p : Rat) ≠ x := by intro z; rw [z] at p0; grind
  have dne : (p : Rat) + -x ≠ 0 := by grind
  have sne : s * ((p : Rat) - x) ≠ 0 := by grind
  have e1 : slp L x h p * ((p : Rat) + -x) = ht L p + -h := Rat.div_mul_cancel dne
  have e2 : m * (s * ((p : Rat) - x)) = ht L p + 0 - h := by rw [hm, stp, ground_at_nat hp]; exact Rat.div_mul_cancel sne
  have ms : m * s = slp L x h p := by
    have : (m * s - slp L x h p) * ((p : Rat) + -x) = 0 := by grind
    rcases Rat.mul_eq_zero.mp this with z | z
    · grind
    · exact absurd z dne
  have f1 : Fv L x h s T m (c : Rat) = ht L c + (T : Rat) - h - slp L x h p * ((c : Rat) - x) := by
    unfold Fv; rw [ground_at_nat h1, ← ms]; grind
  have f2 : Fv L x h s T m (c' : Rat) = ht L c' + (T : Rat) - h - slp L x h p * ((c' : Rat) - x) := by
    unfold Fv; rw [ground_at_nat h2, ← ms]; grind
  generalize hone : Fv L x h s T m (c : Rat) = one at f1 ne
  generalize htwo : Fv L x h s T m (c' : Rat) = two at f2 ne
  have dn : one - two ≠ 0 := by grind
  have er : one / (one - two) * (one - two) = one := Rat.div_mul_cancel dn
  unfold cutAt
  generalize one / (one - two) = r at er
  rcases hs with rfl | rfl
  · have ec : c' = c + 1 := by
      have : (c' : Rat) = ((c + 1 : Nat) : Rat) := by rw [Rat.natCast_add]; exact e
      exact nat_eq this
    subst ec
    have t0 : trn L x h c p ≠ 0 := by
      unfold trn; rw [rise_cast]; intro z; apply dn; rw [f1, f2, e]; grind
    have : (c : Rat) + (((c + 1 : Nat) : Rat) - (c : Rat)) * r = cutQ L x h T c p := by
      refine eq_div ?_ t0
      rw [here_cast]
      unfold trn
      rw [rise_cast, e]
      have : r * (ht L (c + 1) - ht L c + -slp L x h p) = -one := by
        have : one - two = -(ht L (c + 1) - ht L c + -slp L x h p) := by rw [f1, f2, e]; grind
        rw [this] at er; grind
      grind
    rw [this]
    exact mem_cuts h2 hp pne t0
  · have ec : c = c' + 1 := by
      have : (c : Rat) = ((c' + 1 : Nat) : Rat) := by rw [Rat.natCast_add, e]; grind
      exact nat_eq this
    subst ec
    have e' : ((c' + 1 : Nat) : Rat) = (c' : Rat) + 1 := by rw [e]; grind
    have t0 : trn L x h c' p ≠ 0 := by
      unfold trn; rw [rise_cast]; intro z; apply dn; rw [f1, f2, e']; grind
    have : ((c' + 1 : Nat) : Rat) + ((c' : Rat) - ((c' + 1 : Nat) : Rat)) * r = cutQ L x h T c' p := by
      refine eq_div ?_ t0
      rw [here_cast]
      unfold trn
      rw [rise_cast, e']
      have : r * (ht L (c' + 1) - ht L c' + -slp L x h p) = one := by
        have : one - two = ht L (c' + 1) - ht L c' + -slp L x h p := by rw [f1, f2, e']; grind
        rw [this] at er; exact er
      rw [e'] at f1
      grind
    rw [this]
    exact mem_cuts h1 hp pne t0
/-! ### the ends of what is seen -/
def CutP (L : List Int) (x h : Rat) (T : Int) (q : Rat) : Prop := (∃ p : Nat, p < L.length ∧ q = (p : Rat)) ∨ q = x ∨ q ∈ cutsL L x h T
theorem wayN_adj {L : List Int} {x : Rat} (up : Bool) : ∀ (k c : Nat), c < L.length → 0 < sg up * ((c : Rat) - x) → ∀ g ∈ wayN up L.length k c, ∃ c c' : Nat, c < L.length ∧ c' < L.length ∧ g = ((c : Rat), (c' : Rat)) ∧ 0 < sg up * ((c : Rat) - x) ∧ (c' : Rat) = (c : Rat) + sg up
  | 0, c, _, _, g, hg => absurd hg List.not_mem_nil
  | k + 1, c, hc, c0, g, hg => by
    rw [wayN] at hg
    cases up with
    | true =>
      rw [if_pos rfl] at hg
      have e' : sg true = 1 := rfl
      by_cases q : c + 1 < L.length
      · rw [if_pos q] at hg
        have e3 : ((c + 1 : Nat) : Rat) = (c : Rat) + sg true := by rw [Rat.natCast_add]; rfl
        have c1 : 0 < sg true * (((c + 1 : Nat) : Rat) - x) := by rw [e3]; rw [e'] at c0 ⊢; grind
        rcases List.mem_cons.mp hg with rfl | hg
        · exact ⟨c, c + 1, hc, q, rfl, c0, e3⟩
        · exact wayN_adj true k (c + 1) q c1 g hg
      · rw [if_neg q] at hg; exact absurd hg List.not_mem_nil
    | false =>
      have nf : ¬ (false = true) := by decide
      rw [if_neg nf] at hg
      have e' : sg false = -1 := rfl
      by_cases q : 0 < c
      · rw [if_pos q] at hg
        have e3 : (c : Rat) = ((c - 1 : Nat) : Rat) + 1 := by
          have : c = c - 1 + 1 := by omega
          conv => lhs; rw [this]
          rw [Rat.natCast_add]; rfl
        have c1 : 0 < sg false * (((c - 1 : Nat) : Rat) - x) := by rw [e'] at c0 ⊢; grind
        rcases List.mem_cons.mp hg with rfl | hg
        · exact ⟨c, c - 1, hc, by omega, rfl, c0, by rw [e']; grind⟩
        · exact wayN_adj false k (c - 1) (by omega) c1 g hg
      · rw [if_neg q] at hg; exact absurd hg List.not_mem_nil
structure EInv (L : List Int) (x h s : Rat) (T : Int) (st : Option Rat × List Sp) : Prop where
  m : ∀ m, st.1 = some m → ∃ p : Nat, p < L.length ∧ 0 < s * ((p : Rat) - x) ∧ m = stp L x h s 0 (p : Rat)
  e : EndP (CutP L x h T) st.2
theorem end_nrm2 {p : Rat → Prop} {g : Sp} (h1 : p g.1) (h2 : p g.2) : EndP p [nrm2 g] := fun s hs => by
  rw [List.mem_singleton.mp hs]; exact ⟨p_rmin h1 h2, p_rmax h1 h2⟩
theorem EInv.step {L : List Int} [hL : Land L] {x h s : Rat} {T : Int} (hs : Sgn s) {st : Option Rat × List Sp} (w : EInv L x h s T st) {c c' : Nat} (h1 : c < L.length) (h2 : c' < L.length) (c0 : 0 < s * ((c : Rat) - x)) (e : (c' : Rat) = (c : Rat) + s) : EInv L x h s T (stepW L x h s T st ((c : Rat), (c' : Rat))) := by
  have ne : ¬ (c : Rat) = x := by intro z; rw [z] at c0; grind
  unfold stepW
  rw [if_neg ne]
  have hm : ∃ p : Nat, p < L.length ∧ 0 < s * ((p : Rat) - x) ∧ mostS st.1 (stp L x h s 0 (c : Rat)) = stp L x h s 0 (p : Rat) := by
    cases hst : st.1 with
    | none => exact ⟨c, h1, c0, rfl⟩
    | some m =>
      obtain ⟨p, a1, a2, a3⟩ := w.m m hst
      show ∃ p : Nat, p < L.length ∧ 0 < s * ((p : Rat) - x) ∧ rmax m (stp L x h s 0 (c : Rat)) = stp L x h s 0 (p : Rat)
      unfold rmax
      split
      · exact ⟨c, h1, c0, rfl⟩
      · exact ⟨p, a1, a2, a3⟩
  generalize mostS st.1 (stp L x h s 0 (c : Rat)) = m at hm ⊢
  obtain ⟨p, a1, a2, a3⟩ := hm
  refine ⟨fun m' z => ⟨p, a1, a2, by cases z; exact a3⟩, w.e.app ?_⟩
  have pc : CutP L x h T (c : Rat) := .inl ⟨c, h1, rfl⟩
  have pc' : CutP L x h T (c' : Rat) := .inl ⟨c', h2, rfl⟩
  have ci := fun ne => cut_is (L := L) (x := x) (h := h) (T := T) hs h1 h2 e a1 a2 a3 ne
  show EndP _ (optL (partD (c : Rat) (c' : Rat) (Fv L x h s T m (c : Rat)) (Fv L x h s T m (c' : Rat))))
  generalize Fv L x h s T m (c : Rat) = one at ci ⊢
  generalize Fv L x h s T m (c' : Rat) = two at ci ⊢
  unfold partD
  split
  · split
    · exact end_nrm2 pc pc'
    · exact end_nrm2 pc (.inr (.inr (ci (by grind))))
  · split
    · exact end_nrm2 (.inr (.inr (ci (by grind)))) pc'
    · exact fun s hs => absurd hs List.not_mem_nil
theorem EInv.fold {L : List Int} [hL : Land L] {x h s : Rat} {T : Int} (hs : Sgn s) : ∀ (l : List Sp) (st : Option Rat × List Sp), EInv L x h s T st → (∀ g ∈ l, ∃ c c' : Nat, c < L.length ∧ c' < L.length ∧ g = ((c : Rat), (c' : Rat)) ∧ 0 < s * ((c : Rat) - x) ∧ (c' : Rat) = (c : Rat) + s) → EInv L x h s T (l.foldl (stepW L x h s T) st)
  | [], st, w, _ => w
  | g :: l, st, w, hg => by
    obtain ⟨c, c', a1, a2, rfl, a4, a5⟩ := hg g List.mem_cons_self
    exact EInv.fold hs l _ (w.step hs a1 a2 a4 a5) fun g' m => hg g' (List.mem_cons_of_mem _ m)
theorem oneWay_end {L : List Int} [hL : Land L] {x h : Rat} {T : Int} (up : Bool) (h0 : 0 ≤ x) (h1 : x ≤ ((L.length - 1 : Nat) : Rat)) : EndP (CutP L x h T) (oneWay L x h T up) := by
  unfold oneWay way
  split
  · exact fun s hs => absurd hs List.not_mem_nil
  · rename_i ne
    obtain ⟨a, b, c, _⟩ := nextP_spec (L := L) up h0 h1 ne
    rw [List.foldl_cons]
    refine (EInv.fold (sg_ok up) _ _ ?_ (wayN_adj up 12 _ a b)).e
    unfold stepW
    rw [if_pos rfl]
    exact ⟨(fun m z => by cases z), by
      show EndP _ ([] ++ [nrm2 (x, ((nextP up x : Nat) : Rat))])
      rw [List.nil_append]
      exact end_nrm2 (.inr (.inl rfl)) (.inl ⟨_, a, rfl⟩)⟩
theorem seen_end {L : List Int} [hL : Land L] {x h : Rat} {T : Int} (h0 : 0 ≤ x) (h1 : x ≤ ((L.length - 1 : Nat) : Rat)) : EndP (CutP L x h T) (seenL L x h T) := by
  unfold seenL
  refine together_end (((oneWay_end true h0 h1).app (oneWay_end false h0 h1)).app fun s hs => ?_)
  rw [List.mem_singleton.mp hs]
  exact ⟨.inr (.inl rfl), .inr (.inl rfl)⟩
/-! ### lists of fractions -/
def frs (l : List Rat) : D := .lst (l.map fr)
theorem frs_lay : ∀ l : List Rat, PyData.canLayAll0 (toPs (l.map fr)) = true ∧ PyData.depthAll (toPs (l.map fr)) ≤ 10
  | [] => ⟨rfl, by decide⟩
  | a :: l => by
    obtain ⟨h1, h2⟩ := frs_lay l
    have e : PyData.depth (toP (fr a)) ≤ 10 := by simp [fr, toP, toPs, PyData.depth, PyData.depthAll]
    have e2 : PyData.canLay0 (toP (fr a)) = true := by simp [fr, toP, toPs, PyData.canLay0, PyData.canLayAll0]
    rw [List.map_cons, toPs, PyData.canLayAll0, PyData.depthAll, h1, e2]
    exact ⟨rfl, Nat.max_le.mpr ⟨e, h2⟩⟩
theorem shp_frs (l : List Rat) : shp (frs l) = true := by
  obtain ⟨h1, h2⟩ := frs_lay l
  unfold shp frs SeqAt.shaped
  rw [toP, PyData.canLay0, h1, PyData.depth, Bool.true_and, decide_eq_true_eq]
  omega
theorem in_frs (x : Rat) (l : List Rat) : inD (fr x) (frs l) (l.map fr) = .ok (decide (x ∈ l)) := by
  rw [inD_ok (shp_fr x) (shp_frs l), toPs_map]
  congr 1
  rw [List.any_map]
  rw [Bool.eq_iff_iff]
  simp only [List.any_eq_true, Function.comp_apply, eqv_fr, decide_eq_true_eq]
  constructor
  · rintro ⟨y, h1, h2⟩; exact h2 ▸ h1
  · intro h; exact ⟨x, h, rfl⟩
theorem notin_frs (x : Rat) (l : List Rat) : cmpD .notin (fr x) (.lst (l.map fr)) = .ok (!decide (x ∈ l)) := by
  rw [c_notinL]
  have := in_frs x l
  unfold frs at this
  rw [this, okB]
/-! ### the gaps, as the law reckons them -/
def dueS (st : Rat × List Sp) (s : Sp) : Rat × List Sp := (s.2, if st.1 < s.1 then st.2 ++ [(st.1, s.1)] else st.2)
def dueL (l : List Sp) (e : Rat) : List Sp := if (l.foldl dueS (0, [])).1 < e then (l.foldl dueS (0, [])).2 ++ [((l.foldl dueS (0, [])).1, e)] else (l.foldl dueS (0, [])).2
theorem due_fold : ∀ (l : List Sp) (q e : Rat) (f : List Sp), Nrm l → (∀ s ∈ l, q < s.1) → (if (l.foldl dueS (q, f)).1 < e then (l.foldl dueS (q, f)).2 ++ [((l.foldl dueS (q, f)).1, e)] else (l.foldl dueS (q, f)).2) = f ++ gapsR q l e
  | [], q, e, f, _, _ => by
    show (if q < e then f ++ [(q, e)] else f) = _
    rw [gapsR]; split <;> simp
  | s :: l, q, e, f, hn, hb => by
    have hs := hb s List.mem_cons_self
    have ef : (s :: l).foldl dueS (q, f) = l.foldl dueS (s.2, f ++ [(q, s.1)]) := by
      rw [List.foldl_cons]
      have : dueS (q, f) s = (s.2, f ++ [(q, s.1)]) := by unfold dueS; rw [if_pos hs]
      rw [this]
    rw [ef, due_fold l s.2 e _ hn.2.2 (fun t ht => hn.2.1 t ht), gapsR]; simp
theorem due_eq {l : List Sp} {e : Rat} (hn : Nrm l) (hne : l ≠ []) (hb : ∀ s ∈ l, 0 ≤ s.1) : dueL l e = gapsD l e := by
  cases l with
  | nil => exact absurd rfl hne
  | cons s l =>
    rw [gapsD_cons]
    unfold dueL
    have ef : (s :: l).foldl dueS (0, []) = l.foldl dueS (s.2, if 0 < s.1 then [(0, s.1)] else []) := by
      rw [List.foldl_cons]
      have : dueS (0, []) s = (s.2, if 0 < s.1 then [(0, s.1)] else []) := by unfold dueS; simp
      rw [this]
    rw [ef, due_fold l s.2 e _ hn.2.2 (fun t ht => hn.2.1 t ht)]
/-! ### sizes of the cuts -/
instance Bd.neg {k : Nat} {q : Rat} [h : Bd k q] : Bd k (-q) := ⟨by rw [Rat.neg_num, Int.natAbs_neg]; exact h.n, by rw [Rat.neg_den]; exact h.d⟩
instance rise_bd {L : List Int} [hL : Land L] (l : Nat) : Bd 11 ((riseI L l : Int) : Rat) := by
  have a := hi_bd (L := L) l
  have b := hi_bd (L := L) (l + 1)
  exact Bd.int (k := 10) (by unfold riseI; omega)
theorem rise_abs {L : List Int} [hL : Land L] (l : Nat) : (riseI L l).natAbs ≤ 999 := by
  have a := hi_bd (L := L) l
  have b := hi_bd (L := L) (l + 1)
  unfold riseI; omega
theorem here_bd {L : List Int} [hL : Land L] {l : Nat} {T : Int} (hl : l < L.length) (t0 : 0 ≤ T) (t1 : T ≤ 5) : Bd 14 ((riseI L l * (l : Int) - hi L l - T : Int) : Rat) := by
  have a := hi_bd (L := L) l
  have r := rise_abs (L := L) l
  have hh := hL.hi
  have m : (riseI L l * (l : Int)).natAbs ≤ 999 * 11 := by
    rw [Int.natAbs_mul]; exact Nat.mul_le_mul r (by omega)
  exact Bd.int (k := 13) (by omega)
theorem slp_bd {L : List Int} [hL : Land L] {x h : Rat} {p : Nat} (hp : p < L.length) [bx : Bd 7 x] [bh : Bd 53 h] : Bd 76 (slp L x h p) := by
  haveI : Bd 4 (p : Rat) := Bd.nat (by have := hL.hi; omega)
  unfold slp
  exact Bd.mono (inferInstance : Bd _ ((ht L p + -h) / ((p : Rat) + -x))) (by decide)
theorem trn_bd {L : List Int} [hL : Land L] {x h : Rat} {l p : Nat} (hp : p < L.length) [bx : Bd 7 x] [bh : Bd 53 h] : Bd 88 (trn L x h l p) := by
  haveI := slp_bd (L := L) (x := x) (h := h) hp
  unfold trn
  exact Bd.mono (inferInstance : Bd _ (((riseI L l : Int) : Rat) + -slp L x h p)) (by decide)
theorem cutQ_bd {L : List Int} [hL : Land L] {x h : Rat} {T : Int} {l p : Nat} (hl : l < L.length) (hp : p < L.length) [bx : Bd 7 x] [bh : Bd 53 h] (t0 : 0 ≤ T) (t1 : T ≤ 5) : Bd 240 (cutQ L x h T l p) := by
  haveI := slp_bd (L := L) (x := x) (h := h) hp
  haveI := trn_bd (L := L) (x := x) (h := h) (l := l) hp
  haveI := here_bd (L := L) hl t0 t1
  unfold cutQ
  exact Bd.mono (inferInstance : Bd _ ((h + -(slp L x h p * x) + ((riseI L l * (l : Int) - hi L l - T : Int) : Rat)) / trn L x h l p)) (by decide)
theorem neg_mul_frac (a b : Rat) : Rat.divInt (0 - a.num * b.num) ((a.den : Int) * (b.den : Int)) = -(a * b) := by
  rw [mul_divInt, Int.zero_sub, Rat.neg_divInt]
theorem mid_bd2 {a b : Rat} (ha : Bd 240 a) (hb : Bd 240 b) : Bd 483 ((a + b) / 2) := by
  have := (inferInstance : Bd _ ((a + b) / 2))
  exact this.mono (by decide)
theorem first_sp {F : List Sp} (h : F ≠ []) : ∃ s ∈ F, ixD (sps F) (.int 0) = .ok (sp s) := by
  cases F with
  | nil => exact absurd rfl h
  | cons s F => exact ⟨s, List.mem_cons_self, by unfold sps; rw [ix_lst, List.map_cons, at_0]⟩
theorem last_sp {F : List Sp} (h : F ≠ []) : ∃ s ∈ F, ixD (sps F) (.int (-1)) = .ok (sp s) := by
  have e := List.dropLast_concat_getLast h
  refine ⟨F.getLast h, List.getLast_mem h, ?_⟩
  unfold sps
  have e2 : F.map sp = F.dropLast.map sp ++ [sp (F.getLast h)] := by rw [← List.map_singleton, ← List.map_append, e]
  rw [e2, ix_m1]
end RS

namespace RS
open PySem
/-! ### rising lists of places -/
def begN (ps : List Nat) : Nat := match ps.getLast? with
  | none => 0
  | some p => p + 1
theorem begN_nil : begN [] = 0 := rfl
theorem begN_app (ps : List Nat) (q : Nat) : begN (ps ++ [q]) = q + 1 := by unfold begN; simp
def extN (n : Nat) (ps : List Nat) : List (List Nat) := (List.range (n - begN ps)).map fun k => ps ++ [begN ps + k]
def chN (n : Nat) : Nat → List (List Nat)
  | 0 => [[]]
  | k + 1 => (chN n k).flatMap (extN n)
def Inc (n : Nat) (ps : List Nat) : Prop := ps.Pairwise (· < ·) ∧ ∀ p ∈ ps, p < n
theorem list_end {α : Type} (l : List α) : l = [] ∨ ∃ i b, l = i ++ [b] := by
  by_cases h : l = []
  · exact .inl h
  · exact .inr ⟨l.dropLast, l.getLast h, (List.dropLast_concat_getLast h).symm⟩
theorem Inc.nil (n : Nat) : Inc n [] := ⟨List.Pairwise.nil, fun p hp => absurd hp List.not_mem_nil⟩
theorem Inc.app {n : Nat} {ps : List Nat} {q : Nat} : Inc n (ps ++ [q]) ↔ Inc n ps ∧ q < n ∧ ∀ p ∈ ps, p < q := by
  unfold Inc
  rw [List.pairwise_append]
  constructor
  · rintro ⟨⟨a, b, c⟩, d⟩
    exact ⟨⟨a, fun p hp => d p (List.mem_append_left _ hp)⟩, d q (by simp), fun p hp => c p hp q (by simp)⟩
  · rintro ⟨⟨a, b⟩, c, d⟩
    refine ⟨⟨a, List.pairwise_singleton _ _, fun p hp r hr => ?_⟩, fun p hp => ?_⟩
    · rw [List.mem_singleton.mp hr]; exact d p hp
    · rcases List.mem_append.mp hp with hp | hp
      · exact b p hp
      · rw [List.mem_singleton.mp hp]; exact c
theorem Inc.beg {n : Nat} {ps : List Nat} (h : Inc n ps) : begN ps ≤ n ∧ ∀ p ∈ ps, p < begN ps := by
  rcases list_end ps with rfl | ⟨i, b, rfl⟩
  · exact ⟨by rw [begN_nil]; omega, fun p hp => absurd hp List.not_mem_nil⟩
  · obtain ⟨a, b', c⟩ := Inc.app.mp h
    rw [begN_app]
    refine ⟨by omega, fun p hp => ?_⟩
    rcases List.mem_append.mp hp with hp | hp
    · have := c p hp; omega
    · rw [List.mem_singleton.mp hp]; omega
theorem beg_le {n : Nat} {ps : List Nat} {q : Nat} (h : ∀ p ∈ ps, p < q) : begN ps ≤ q := by
  rcases list_end ps with rfl | ⟨i, b, rfl⟩
  · rw [begN_nil]; omega
  · rw [begN_app]; exact h b (by simp)
theorem mem_ext {n : Nat} {ps qs : List Nat} : qs ∈ extN n ps ↔ ∃ q, qs = ps ++ [q] ∧ begN ps ≤ q ∧ q < n := by
  unfold extN
  simp only [List.mem_map, List.mem_range]
  constructor
  · rintro ⟨k, hk, rfl⟩; exact ⟨_, rfl, by omega, by omega⟩
  · rintro ⟨q, rfl, h1, h2⟩; exact ⟨q - begN ps, by omega, by congr 2; omega⟩
theorem mem_ch {n : Nat} : ∀ {k : Nat} {qs : List Nat}, qs ∈ chN n k ↔ qs.length = k ∧ Inc n qs
  | 0, qs => by
    rw [chN, List.mem_singleton]
    constructor
    · rintro rfl; exact ⟨rfl, Inc.nil n⟩
    · rintro ⟨h, _⟩; exact List.eq_nil_of_length_eq_zero h
  | k + 1, qs => by
    rw [chN, List.mem_flatMap]
    constructor
    · rintro ⟨ps, h1, h2⟩
      obtain ⟨q, rfl, h3, h4⟩ := mem_ext.mp h2
      obtain ⟨a, b⟩ := mem_ch.mp h1
      refine ⟨by simp [a], Inc.app.mpr ⟨b, h4, fun p hp => ?_⟩⟩
      have := b.beg.2 p hp; omega
    · rintro ⟨h1, h2⟩
      rcases list_end qs with rfl | ⟨i, b, rfl⟩
      · simp at h1
      · obtain ⟨a, b', c⟩ := Inc.app.mp h2
        exact ⟨i, mem_ch.mpr ⟨by simpa using h1, a⟩, mem_ext.mpr ⟨b, rfl, beg_le (n := n) c, b'⟩⟩
def wtN (n : Nat) (l : List (List Nat)) : Nat := (l.map fun ps => 2 ^ (n - begN ps)).sum
theorem sum_two : ∀ m : Nat, ((List.range m).map fun k => 2 ^ (m - (k + 1))).sum ≤ 2 ^ m
  | 0 => by simp
  | m + 1 => by
    have ih := sum_two m
    rw [List.range_succ_eq_map, List.map_cons, List.map_map, List.sum_cons]
    have e : ((fun k => 2 ^ (m + 1 - (k + 1))) ∘ Nat.succ) = fun k => 2 ^ (m - (k + 1)) := by
      funext k; show 2 ^ (m + 1 - (k + 1 + 1)) = _; congr 1; omega
    rw [e]
    have e2 : m + 1 - (0 + 1) = m := by omega
    rw [e2, Nat.pow_succ]; omega
theorem wt_ext (n : Nat) (ps : List Nat) : wtN n (extN n ps) ≤ 2 ^ (n - begN ps) := by
  unfold wtN extN
  rw [List.map_map]
  have e : ((fun ps => 2 ^ (n - begN ps)) ∘ fun k => ps ++ [begN ps + k]) = fun k => 2 ^ (n - begN ps - (k + 1)) := by
    funext k; show 2 ^ (n - begN (ps ++ [begN ps + k])) = _; rw [begN_app]; congr 1; omega
  rw [e]; exact sum_two _
theorem wt_flat (n : Nat) : ∀ l : List (List Nat), wtN n (l.flatMap (extN n)) ≤ wtN n l
  | [] => by simp [wtN]
  | a :: l => by
    have ih := wt_flat n l
    have h := wt_ext n a
    unfold wtN at *
    rw [List.flatMap_cons, List.map_append, List.sum_append, List.map_cons, List.sum_cons]; omega
theorem ch_wt (n : Nat) : ∀ k, wtN n (chN n k) ≤ 2 ^ n
  | 0 => by simp [chN, wtN, begN_nil]
  | k + 1 => Nat.le_trans (wt_flat n _) (ch_wt n k)
theorem len_wt (n : Nat) : ∀ l : List (List Nat), l.length ≤ wtN n l
  | [] => by simp
  | a :: l => by
    have ih := len_wt n l
    have := Nat.two_pow_pos (n - begN a)
    unfold wtN at *
    rw [List.map_cons, List.sum_cons, List.length_cons]; omega
theorem ch_len {n : Nat} (h : n ≤ 12) (k : Nat) : (chN n k).length ≤ 4096 := by
  have a := len_wt n (chN n k)
  have b := ch_wt n k
  have c : 2 ^ n ≤ 2 ^ 12 := Nat.pow_le_pow_right (by decide) h
  have d : 2 ^ 12 = 4096 := by decide
  omega
theorem sub_len {α : Type} [DecidableEq α] : ∀ {a b : List α}, a.Nodup → (∀ x ∈ a, x ∈ b) → a.length ≤ b.length
  | [], b, _, _ => by simp
  | x :: a, b, hn, h => by
    have hx := h x List.mem_cons_self
    have hn' := List.nodup_cons.mp hn
    have ih := sub_len (a := a) (b := b.erase x) hn'.2 (fun y hy => (List.mem_erase_of_ne (by rintro rfl; exact hn'.1 hy)).mpr (h y (List.mem_cons_of_mem _ hy)))
    rw [List.length_erase_of_mem hx] at ih
    have : 0 < b.length := List.length_pos_of_mem hx
    rw [List.length_cons]; omega
theorem Inc.nodup {n : Nat} {ps : List Nat} (h : Inc n ps) : ps.Nodup := h.1.imp fun z => by omega
theorem Inc.len {n : Nat} {ps : List Nat} (h : Inc n ps) : ps.length ≤ n := by
  have := sub_len (b := List.range n) h.nodup fun x hx => List.mem_range.mpr (h.2 x hx)
  simpa using this
theorem inc_filter (n : Nat) (p : Nat → Bool) : Inc n ((List.range n).filter p) := ⟨List.pairwise_lt_range.filter _, fun x hx => List.mem_range.mp (List.mem_filter.mp hx).1⟩
theorem inc_of {n : Nat} {ps : List Nat} (h : ∀ p ∈ ps, p < n) : ∃ qs, Inc n qs ∧ qs.length ≤ ps.length ∧ ∀ p, p ∈ qs ↔ p ∈ ps := by
  refine ⟨(List.range n).filter fun x => decide (x ∈ ps), inc_filter n _, sub_len (inc_filter n _).nodup fun x hx => by simpa using (List.mem_filter.mp hx).2, fun p => ?_⟩
  rw [List.mem_filter, List.mem_range]
  exact ⟨fun z => by simpa using z.2, fun z => ⟨h p z, by simpa using z⟩⟩
theorem inc_grow {n m : Nat} (hm : m ≤ n) : ∀ (d : Nat) {ps : List Nat}, Inc n ps → ps.length + d = m → ∃ qs, Inc n qs ∧ qs.length = m ∧ ∀ p ∈ ps, p ∈ qs
  | 0, ps, h, e => ⟨ps, h, by omega, fun p hp => hp⟩
  | d + 1, ps, h, e => by
    have : ∃ q, q < n ∧ q ∉ ps := by
      apply Classical.byContradiction
      intro z
      have z' : ∀ q, q < n → q ∈ ps := fun q hq => Classical.byContradiction fun y => z ⟨q, hq, y⟩
      have := sub_len (a := List.range n) (b := ps) List.nodup_range fun x hx => z' x (List.mem_range.mp hx)
      rw [List.length_range] at this; omega
    obtain ⟨q, hq, hn⟩ := this
    obtain ⟨qs, i1, i2, i3⟩ := inc_of (n := n) (ps := q :: ps) (fun p hp => by
      rcases List.mem_cons.mp hp with rfl | hp
      · exact hq
      · exact h.2 p hp)
    have l1 : (q :: ps).length ≤ qs.length := sub_len (List.nodup_cons.mpr ⟨hn, h.nodup⟩) fun x hx => (i3 x).mpr hx
    rw [List.length_cons] at l1 i2
    obtain ⟨rs, j1, j2, j3⟩ := inc_grow hm d i1 (by omega)
    exact ⟨rs, j1, j2, fun p hp => j3 p ((i3 p).mpr (List.mem_cons_of_mem _ hp))⟩
/-! ### seeing all -/
def AllS (L : List Int) (e : Int) (ps : List Nat) : Prop := ∀ q : Rat, 0 ≤ q → q ≤ ((L.length - 1 : Nat) : Rat) → ∃ p ∈ ps, Mem (sightL L e p) q
theorem last_nn (L : List Int) : (0 : Rat) ≤ ((L.length - 1 : Nat) : Rat) := by
  have := Rat.natCast_le_natCast (a := 0) (b := L.length - 1)
  exact this.mpr (by omega)
theorem gap_nil {L : List Int} [hL : Land L] {e : Int} {ps : List Nat} (hp : ∀ p ∈ ps, p < L.length) : gapL L e ps = [] ↔ AllS L e ps := by
  have l0 := last_nn L
  by_cases c : togL L e ps = []
  · have e1 : gapL L e ps = [(0, ((L.length - 1 : Nat) : Rat))] := by unfold gapL; rw [c]; rfl
    rw [e1]
    refine ⟨(fun z => by cases z), fun z => ?_⟩
    have := tog_mem.mpr (z 0 Rat.le_refl l0)
    rw [c] at this
    exact absurd this Mem.nil
  · unfold gapL
    rw [(gaps_ok (tog_nrm L e ps) c (tog_in hp)).2.2]
    constructor
    · intro z q q0 q1
      apply tog_mem.mp
      rw [z]
      exact Mem.cons.mpr (.inl ⟨q0, q1⟩)
    · intro z
      refine Nrm.uniq (tog_nrm L e ps) ⟨l0, fun t ht => absurd ht List.not_mem_nil, trivial⟩ fun q => ?_
      rw [Mem.cons]
      constructor
      · rintro ⟨s, hs, a, b⟩
        have := tog_in hp s hs
        exact .inl ⟨by grind, by show q ≤ ((L.length - 1 : Nat) : Rat); grind⟩
      · rintro (⟨a, b⟩ | z')
        · exact tog_mem.mpr (z q a b)
        · exact absurd z' Mem.nil
theorem AllS.mono {L : List Int} {e : Int} {ps qs : List Nat} (h : ∀ p ∈ ps, p ∈ qs) (a : AllS L e ps) : AllS L e qs := fun q q0 q1 => by
  obtain ⟨p, hp, m⟩ := a q q0 q1
  exact ⟨p, h p hp, m⟩
theorem sight_near {L : List Int} [hL : Land L] {e : Int} {i : Nat} {q : Rat} (hi : i + 1 < L.length) (h1 : (i : Rat) ≤ q) (h2 : q ≤ (i : Rat) + 1) : Mem (sightL L e i) q := by
  have c1 : (0 : Rat) ≤ (i : Rat) := Rat.natCast_le_natCast.mpr (Nat.zero_le i)
  have c2 := nat_le_last (L := L) (p := i) (by omega)
  have c3 := nat_le_last (L := L) (p := i + 1) hi
  have e1 : ((i + 1 : Nat) : Rat) = (i : Rat) + 1 := by rw [Rat.natCast_add]; rfl
  unfold sightL
  rw [seen_mem c1 c2]
  refine ⟨by grind, by grind, ?_⟩
  unfold Vis Sees
  intro p hp
  refine ⟨fun a b => ?_, fun a b => by grind⟩
  have a' : i < p := natCast_lt.mp a
  have : (p : Rat) < ((i + 1 : Nat) : Rat) := by rw [e1]; grind
  have := natCast_lt.mp this
  omega
theorem allS_range {L : List Int} [hL : Land L] (e : Int) : AllS L e (List.range L.length) := fun q q0 q1 => by
  obtain ⟨i, hi, a, b⟩ := place_of q0 q1
  exact ⟨i, List.mem_range.mpr (by omega), sight_near hi a b⟩
def firstE (L : List Int) (e : Int) (m : Nat) : Option (List Nat) := (chN L.length (min m L.length)).find? fun ps => (gapL L e ps).isEmpty
theorem firstE_some {L : List Int} [hL : Land L] {e : Int} {m : Nat} {ps : List Nat} (h : firstE L e m = some ps) : Inc L.length ps ∧ ps.length = min m L.length ∧ AllS L e ps := by
  unfold firstE at h
  have h1 := List.mem_of_find?_eq_some h
  have h2 := List.find?_some h
  obtain ⟨a, b⟩ := mem_ch.mp h1
  exact ⟨b, a, (gap_nil b.2).mp (List.isEmpty_iff.mp h2)⟩
theorem firstE_none {L : List Int} [hL : Land L] {e : Int} {m : Nat} (h : firstE L e m = none) {ps : List Nat} (hp : ∀ p ∈ ps, p < L.length) (hl : ps.length ≤ m) : ¬ AllS L e ps := by
  intro z
  obtain ⟨qs, i1, i2, i3⟩ := inc_of hp
  have := i1.len
  obtain ⟨rs, j1, j2, j3⟩ := inc_grow (n := L.length) (m := min m L.length) (by omega) (min m L.length - qs.length) i1 (by omega)
  unfold firstE at h
  have h' := List.find?_eq_none.mp h rs (mem_ch.mpr ⟨j2, j1⟩)
  apply h'
  rw [(gap_nil j1.2).mpr (z.mono fun p hp => j3 p ((i3 p).mpr hp))]; rfl
def fewG (L : List Int) (e : Int) : Nat → Nat → List Nat
  | 0, _ => []
  | d + 1, k => match firstE L e k with
    | some ps => ps
    | none => fewG L e d (k + 1)
def fewL (L : List Int) (e : Int) : List Nat := fewG L e L.length 1
theorem few_go {L : List Int} [hL : Land L] {e : Int} : ∀ (d k : Nat), k + d = L.length + 1 → 1 ≤ k → (∀ j, 1 ≤ j → j < k → firstE L e j = none) → d ≠ 0 →
    ∃ ps, fewG L e d k = ps ∧ firstE L e ps.length = some ps ∧ k ≤ ps.length ∧ ps.length ≤ L.length ∧ ∀ j, 1 ≤ j → j < ps.length → firstE L e j = none
  | 0, k, _, _, _, hd => absurd rfl hd
  | d + 1, k, hk, h1, hj, _ => by
    rw [fewG]
    cases hf : firstE L e k with
    | some ps =>
      obtain ⟨a, b, c⟩ := firstE_some hf
      have e' : ps.length = k := by omega
      exact ⟨ps, rfl, by rw [e']; exact hf, by omega, by omega, by rw [e']; exact hj⟩
    | none =>
      have hd : d ≠ 0 := by
        rintro rfl
        have hkn : k = L.length := by omega
        exact firstE_none hf (ps := List.range L.length) (fun p hp => List.mem_range.mp hp) (by rw [List.length_range]; omega) (allS_range e)
      obtain ⟨ps, i1, i2, i3, i4, i5⟩ := few_go (L := L) (e := e) d (k + 1) (by omega) (by omega) (fun j a b => by
        by_cases q : j = k
        · rw [q]; exact hf
        · exact hj j a (by omega)) hd
      exact ⟨ps, i1, i2, by omega, i4, i5⟩
theorem few_spec {L : List Int} [hL : Land L] (e : Int) : firstE L e (fewL L e).length = some (fewL L e) ∧ 1 ≤ (fewL L e).length ∧ (fewL L e).length ≤ L.length ∧ ∀ j, 1 ≤ j → j < (fewL L e).length → firstE L e j = none := by
  obtain ⟨ps, i1, i2, i3, i4, i5⟩ := few_go (L := L) (e := e) L.length 1 (by omega) (Nat.le_refl _) (fun j a b => by omega) (by have := hL.lo; omega)
  unfold fewL
  rw [i1]
  exact ⟨i2, i3, i4, i5⟩
theorem few_le {L : List Int} [hL : Land L] {e : Int} {ps : List Nat} (hp : ∀ p ∈ ps, p < L.length) (h : AllS L e ps) : (fewL L e).length ≤ ps.length := by
  obtain ⟨a, b, c, d⟩ := few_spec (L := L) e
  apply Classical.byContradiction
  intro z
  have h1 : 1 ≤ ps.length := by
    cases ps with
    | nil => obtain ⟨p, hp, _⟩ := h 0 Rat.le_refl (last_nn L); exact absurd hp List.not_mem_nil
    | cons a l => simp
  exact firstE_none (d ps.length h1 (by omega)) hp (Nat.le_refl _) h
theorem few_all {L : List Int} [hL : Land L] (e : Int) : Inc L.length (fewL L e) ∧ AllS L e (fewL L e) := by
  obtain ⟨a, b, c, d⟩ := few_spec (L := L) e
  have := firstE_some a
  exact ⟨this.1, this.2.2⟩
theorem sight_more {L : List Int} [hL : Land L] {e e' : Int} {p : Nat} (hp : p < L.length) (h : e ≤ e') {q : Rat} (m : Mem (sightL L e p) q) : Mem (sightL L e' p) q := by
  unfold sightL at *
  refine seen_more (Rat.natCast_le_natCast.mpr (Nat.zero_le p)) (nat_le_last hp) ?_ Rat.le_refl m
  have := Rat.intCast_le_intCast.mpr h
  grind
theorem few_more {L : List Int} [hL : Land L] {e e' : Int} (h : e ≤ e') : (fewL L e').length ≤ (fewL L e).length := by
  obtain ⟨a, b⟩ := few_all (L := L) e
  exact few_le a.2 fun q q0 q1 => by
    obtain ⟨p, hp, m⟩ := b q q0 q1
    exact ⟨p, hp, sight_more (a.2 p hp) h m⟩
def optP : Option (List Nat) → D
  | none => .non
  | some ps => psD ps
theorem isNon_optP (o : Option (List Nat)) : isNon (optP o) = o.isNone := by cases o <;> rfl
theorem psD_app (ps : List Nat) (q : Nat) : D.tup (ps.map (fun p => D.int (p : Nat)) ++ [.int (q : Nat)]) = psD (ps ++ [q]) := by unfold psD; simp
theorem psD_nil : D.tup [] = psD [] := Eq.trans rfl rfl
theorem tru_ps (ps : List Nat) : truD (psD ps) = .ok (!ps.isEmpty) := by unfold psD; rw [t_tup]; cases ps <;> rfl
theorem last_ps (ps : List Nat) (q : Nat) : ixD (psD (ps ++ [q])) (.int (-1)) = .ok (.int (q : Nat)) := by unfold psD; rw [ix_tup, List.map_append, List.map_singleton, at_m1]
theorem add_ps (ps : List Nat) (q : Nat) (h : ps.length ≤ 1000) : binD .add (psD ps) (.tup [.int (q : Nat)]) = .ok (psD (ps ++ [q])) := by
  unfold psD; rw [b_addT, if_pos (by rw [List.length_map, List.length_singleton]; unfold big; omega)]; simp
theorem len_ps (ps : List Nat) : biD .len [psD ps] = .ok (.int (ps.length : Nat)) := by unfold psD; rw [len_tup, List.length_map]
/-! ### papers -/
def gap1 (L : List Int) (e : Int) (ps : List Nat) : Sp := (gapL L e ps).headD (0, 0)
def midT (L : List Int) (e : Int) (ps : List Nat) : Rat := ((gap1 L e ps).1 + (gap1 L e ps).2) * Rat.divInt 1 2
noncomputable def treeD (L : List Int) (e : Int) : Nat → List Nat → D
  | 0, ps => .tup [fr (midT L e ps), .tup []]
  | k + 1, ps => .tup [fr (midT L e ps), .tup (((List.range L.length).filter fun p => memB (sightL L e p) (midT L e ps)).map fun p => .tup [.int (p : Nat), treeD L e k (ps ++ [p])])]
theorem half_eq (a b : Rat) : (a + b) * Rat.divInt 1 2 = (a + b) / 2 := by
  have : Rat.divInt 1 2 = 1 / 2 := by rw [Rat.divInt_eq_div]; rfl
  rw [this]; grind
theorem gap1_mem {L : List Int} {e : Int} {ps : List Nat} (h : gapL L e ps ≠ []) : gap1 L e ps ∈ gapL L e ps := by
  unfold gap1
  cases hg : gapL L e ps with
  | nil => exact absurd hg h
  | cons a l => exact List.mem_cons_self
theorem gap_bds {L : List Int} [hL : Land L] {e : Int} {ps : List Nat} (hp : ∀ p ∈ ps, p < L.length) (e0 : 0 ≤ e) (e1 : e ≤ 999) : BdL 60 (gapL L e ps) := by
  have bd60 : Bd 60 ((L.length - 1 : Nat) : Rat) := (inferInstance : Bd 4 _).mono (by decide)
  exact gaps_bd (tog_bd hp e0 e1) bd60 (Bd.mono (Bd.int (k := 0) (i := 0) (by decide)) (by decide))
theorem gap_in {L : List Int} [hL : Land L] {e : Int} {ps : List Nat} (hp : ∀ p ∈ ps, p < L.length) : ∀ g ∈ gapL L e ps, g.1 < g.2 ∧ 0 ≤ g.1 ∧ g.2 ≤ ((L.length - 1 : Nat) : Rat) ∧ ∀ y, g.1 < y → y < g.2 → ∀ p ∈ ps, ¬ Mem (sightL L e p) y := by
  intro g hg
  by_cases c : togL L e ps = []
  · have e1 : gapL L e ps = [(0, ((L.length - 1 : Nat) : Rat))] := by unfold gapL; rw [c]; rfl
    rw [e1] at hg
    rw [List.mem_singleton.mp hg]
    have : (0 : Rat) < ((L.length - 1 : Nat) : Rat) := by
      have := natCast_lt (a := 0) (b := L.length - 1)
      exact this.mpr (by have := hL.lo; omega)
    refine ⟨this, Rat.le_refl, Rat.le_refl, fun y _ _ p hpp m => ?_⟩
    have := tog_mem.mpr ⟨p, hpp, m⟩
    rw [c] at this
    exact Mem.nil this
  · have := (gaps_ok (tog_nrm L e ps) c (tog_in hp)).1 g hg
    exact ⟨this.lt, this.lo, this.hi, fun y a b p hpp m => this.no y a b (tog_mem.mpr ⟨p, hpp, m⟩)⟩
structure MidOk (L : List Int) (e : Int) (ps : List Nat) : Prop where
  b : Bd 130 (midT L e ps)
  lo : 0 ≤ midT L e ps
  hi : midT L e ps ≤ ((L.length - 1 : Nat) : Rat)
  no : ∀ p ∈ ps, ¬ Mem (sightL L e p) (midT L e ps)
theorem mid_ok {L : List Int} [hL : Land L] {e : Int} {ps : List Nat} (hp : ∀ p ∈ ps, p < L.length) (e0 : 0 ≤ e) (e1 : e ≤ 999) (h : gapL L e ps ≠ []) : MidOk L e ps := by
  have m := gap1_mem h
  obtain ⟨b1, b2⟩ := gap_bds hp e0 e1 _ m
  obtain ⟨a1, a2, a3, a4⟩ := gap_in hp _ m
  have em : midT L e ps = ((gap1 L e ps).1 + (gap1 L e ps).2) / 2 := half_eq _ _
  have mb := mid_between a1
  refine ⟨?_, ?_, ?_, ?_⟩ <;> rw [em]
  · exact mid_bd b1 b2
  · grind
  · grind
  · exact fun p hpp => a4 _ mb.1 mb.2 p hpp
/-! ### the yard as data -/
def sightsD (L : List Int) (e : Int) : D := .lst ((List.range L.length).map fun p => sps (sightL L e p))
theorem ins_y (L : List Int) (e : Int) : insD (yardD L e) = .ok [ld L, fr ((L.length - 1 : Nat) : Rat), sightsD L e] := Eq.trans rfl rfl
theorem fld_y0 (L : List Int) (e : Int) : fldD 0 (yardD L e) = .ok (ld L) := Eq.trans rfl rfl
theorem fld_y2 (L : List Int) (e : Int) : fldD 2 (yardD L e) = .ok (sightsD L e) := Eq.trans rfl rfl
theorem ix_sights {L : List Int} {e : Int} {p : Nat} (hp : p < L.length) : ixD (sightsD L e) (.int (p : Nat)) = .ok (sps (sightL L e p)) := by
  unfold sightsD
  rw [ix_lst, atI_int (i := ((p : Nat) : Int)) (v := sps (sightL L e p)) (by omega) (by rw [Int.toNat_natCast, List.getElem?_map, List.getElem?_range hp]; rfl)]
theorem tru_sps (l : List Sp) : truD (sps l) = .ok (!l.isEmpty) := by unfold sps; rw [t_lst]; cases l <;> rfl
theorem g_ext (ds es : List D) : gMt .ext ds [.lst es] = if ds.length + es.length ≤ big then some (ds ++ es) else none := Eq.trans rfl rfl
theorem for_find {tg : Tg} {b : Env → O} {α : Type} (Inv : Env → Prop) (m : α → D) (p : α → Bool) (r : α → D) : ∀ (l : List α), (∀ a ∈ l, ∀ ρ, Inv ρ → ∃ ρ1, setT tg (m a) ρ = .ok ρ1 ∧ ((p a = false ∧ ∃ ρ', b ρ1 = .nx ρ' ∧ Inv ρ') ∨ (p a = true ∧ b ρ1 = .ret (r a)))) → ∀ ρ, Inv ρ →
    (l.find? p = none ∧ ∃ ρ', forD tg b (l.map m) ρ = .nx ρ' ∧ Inv ρ') ∨ (∃ a, l.find? p = some a ∧ forD tg b (l.map m) ρ = .ret (r a))
  | [], _, ρ, h0 => .inl ⟨rfl, ρ, rfl, h0⟩
  | a :: l, h, ρ, h0 => by
    obtain ⟨ρ1, e1, e2⟩ := h a List.mem_cons_self ρ h0
    rcases e2 with ⟨pa, ρ', e2, i2⟩ | ⟨pa, e2⟩
    · rcases for_find Inv m p r l (fun a ha => h a (List.mem_cons_of_mem _ ha)) ρ' i2 with ⟨q, ρ2, e3, i3⟩ | ⟨x, q, e3⟩
      · exact .inl ⟨by rw [List.find?_cons, pa]; exact q, ρ2, by rw [List.map_cons, forD, e1, out_ok, e2, then_nx, e3], i3⟩
      · exact .inr ⟨x, by rw [List.find?_cons, pa]; exact q, by rw [List.map_cons, forD, e1, out_ok, e2, then_nx, e3]⟩
    · exact .inr ⟨a, by rw [List.find?_cons, pa], by rw [List.map_cons, forD, e1, out_ok, e2, then_ret]⟩
end RS

namespace RS
open PySem
/-! ### places as data -/
def nsL (ps : List Nat) : D := .lst (ps.map fun p => D.int (p : Nat))
theorem ps_ld (ps : List Nat) : psD ps = ld (ps.map fun p : Nat => (p : Int)) := by unfold psD ld; rw [List.map_map]; rfl
theorem ns_lst (ps : List Nat) : ps.map (fun p => D.int (p : Nat)) = (ps.map fun p : Nat => (p : Int)).map D.int := by rw [List.map_map]; rfl
theorem cast_inj {a b : List Nat} : (a.map fun p : Nat => (p : Int)) = (b.map fun p : Nat => (p : Int)) ↔ a = b := by
  constructor
  · intro h
    exact List.map_inj_right (fun x y z => by omega) |>.mp h
  · rintro rfl; rfl
theorem shp_ps (ps : List Nat) : shp (psD ps) = true := by rw [ps_ld]; exact shp_ld _
theorem eqv_ps (a b : List Nat) : PyData.eqv (toP (psD a)) (toP (psD b)) = decide (a = b) := by
  rw [ps_ld, ps_ld, eqv_ld]
  by_cases c : a = b
  · rw [decide_eq_true c, decide_eq_true (cast_inj.mpr c)]
  · rw [decide_eq_false c, decide_eq_false (fun z => c (cast_inj.mp z))]
theorem shp_ns (ps : List Nat) : shp (nsL ps) = true := by unfold nsL; rw [ns_lst]; exact shp_ints _
theorem eqvAll_ints : ∀ a b : List Int, PyData.eqvAll (toPs (a.map D.int)) (toPs (b.map D.int)) = decide (a = b)
  | [], [] => by simp [toPs, PyData.eqvAll]
  | [], t :: b => by simp [toPs, PyData.eqvAll]
  | s :: a, [] => by simp [toPs, PyData.eqvAll]
  | s :: a, t :: b => by
    rw [List.map_cons, List.map_cons, toPs, toPs, PyData.eqvAll, eqv_int, eqvAll_ints a b]
    by_cases c : s = t <;> by_cases d : a = b <;> simp [c, d]
theorem eqv_ns (a b : List Nat) : PyData.eqv (toP (nsL a)) (toP (nsL b)) = decide (a = b) := by
  unfold nsL
  rw [ns_lst, ns_lst]
  have e : PyData.eqv (toP (.lst ((a.map fun p : Nat => (p : Int)).map D.int))) (toP (.lst ((b.map fun p : Nat => (p : Int)).map D.int))) = PyData.eqvAll (toPs ((a.map fun p : Nat => (p : Int)).map D.int)) (toPs ((b.map fun p : Nat => (p : Int)).map D.int)) := by simp only [toP, PyData.eqv]
  rw [e, eqvAll_ints]
  by_cases c : a = b
  · rw [decide_eq_true c, decide_eq_true (cast_inj.mpr c)]
  · rw [decide_eq_false c, decide_eq_false (fun z => c (cast_inj.mp z))]
theorem ns_nil : D.lst [] = nsL [] := Eq.trans rfl rfl
theorem any_ns (p : Nat) (l : List Nat) : ((toPs (l.map fun p => D.int (p : Nat))).any fun z => PyData.eqv z (toP (.int (p : Nat)))) = decide (p ∈ l) := by
  rw [toPs_map, List.any_map, Bool.eq_iff_iff]
  simp only [List.any_eq_true, Function.comp_apply, eqv_int, beq_iff_eq, decide_eq_true_eq]
  constructor
  · rintro ⟨y, h1, h2⟩
    have : y = p := by omega
    exact this ▸ h1
  · intro h; exact ⟨p, h, rfl⟩
theorem in_ns (p : Nat) (l : List Nat) : cmpD .inn (.int (p : Nat)) (nsL l) = .ok (decide (p ∈ l)) := by
  have h := shp_ns l
  unfold nsL at h ⊢
  rw [c_inL, inD_ok (shp_int _) h, any_ns]
theorem in_ps (p : Nat) (l : List Nat) : cmpD .inn (.int (p : Nat)) (psD l) = .ok (decide (p ∈ l)) := by
  have h := shp_ps l
  unfold psD at h ⊢
  rw [c_inT, inD_ok (shp_int _) h, any_ns]
theorem notin_ps (p : Nat) (l : List Nat) : cmpD .notin (.int (p : Nat)) (psD l) = .ok (!decide (p ∈ l)) := by
  have h := shp_ps l
  unfold psD at h ⊢
  rw [c_notinT, inD_ok (shp_int _) h, any_ns, okB]
theorem sq_ns (l : List Nat) : seqD (nsL l) = .ok (l.map fun p => D.int (p : Nat)) := Eq.trans rfl rfl
theorem sq_ps (l : List Nat) : seqD (psD l) = .ok (l.map fun p => D.int (p : Nat)) := Eq.trans rfl rfl
theorem lst_ps (l : List Nat) : biD .list [psD l] = .ok (nsL l) := Eq.trans rfl rfl
theorem tup_ns (l : List Nat) : biD .tuple [nsL l] = .ok (psD l) := Eq.trans rfl rfl
theorem len_ns (l : List Nat) : biD .len [nsL l] = .ok (.int (l.length : Nat)) := by unfold nsL; rw [len_lst, List.length_map]
theorem is_ps (l : List Nat) : isiD (psD l) .tuple = .ok true := Eq.trans rfl rfl
theorem isNon_ps (l : List Nat) : isNon (psD l) = false := Eq.trans rfl rfl
theorem isNon_tree (L : List Int) (e : Int) (k : Nat) (ps : List Nat) : isNon (treeD L e k ps) = false := by cases k <;> (rw [treeD]; rfl)
theorem range_ge (n b : Nat) : ((List.range n).filter fun p => decide (b ≤ p)) = (List.range (n - b)).map fun k => b + k := by
  by_cases h : b ≤ n
  · have e : n = b + (n - b) := by omega
    conv => lhs; rw [e]
    rw [List.range_add, List.filter_append]
    have e1 : (List.range b).filter (fun p => decide (b ≤ p)) = [] := by
      rw [List.filter_eq_nil_iff]; intro a ha; have := List.mem_range.mp ha; simp; omega
    have e2 : ((List.range (n - b)).map fun k => b + k).filter (fun p => decide (b ≤ p)) = (List.range (n - b)).map fun k => b + k := by
      rw [List.filter_eq_self]; intro a ha; obtain ⟨k, _, rfl⟩ := List.mem_map.mp ha; simp
    rw [e1, e2, List.nil_append]
  · have e : n - b = 0 := by omega
    rw [e, List.range_zero, List.map_nil, List.filter_eq_nil_iff]
    intro a ha; have := List.mem_range.mp ha; simp; omega
theorem ext_filter (n : Nat) (ps : List Nat) : ((List.range n).filter fun p => decide (begN ps ≤ p)).map (fun p => psD (ps ++ [p])) = (extN n ps).map psD := by
  rw [range_ge]; unfold extN; rw [List.map_map, List.map_map]; rfl
theorem rowsD_len {n : Nat} (h : n ≤ 12) (k : Nat) : ((chN n k).flatMap (extN n)).length ≤ 4096 := by
  have := ch_len h (k + 1)
  rw [chN] at this; exact this
theorem sl_ld (L : List Int) (k : Nat) : slD (ld L) none (some ((k : Nat) : Int)) = .ok (ld (L.take k)) := by
  unfold ld; rw [sl_tup, cut_to, List.map_take]
theorem take_land {L : List Int} [hL : Land L] {k : Nat} (h : 2 ≤ k) : Land (L.take k) := by
  refine ⟨by rw [List.length_take]; have := hL.lo; omega, by rw [List.length_take]; have := hL.hi; omega, fun x hx => hL.h x (List.mem_of_mem_take hx)⟩
theorem seen_sight (L : List Int) (e : Int) (p : Nat) : seenL L (p : Rat) (ground L (p : Rat) + (e : Rat)) ((0 : Int) : Rat) = sightL L e p := rfl
/-! ### shapes -/
def Ly (k : Nat) (d : D) : Prop := (toP d).canLay0 = true ∧ (toP d).depth ≤ k
theorem Ly.all {k : Nat} : ∀ {ds : List D}, (∀ x ∈ ds, Ly k x) → PyData.canLayAll0 (toPs ds) = true ∧ PyData.depthAll (toPs ds) ≤ k
  | [], _ => ⟨by simp [toPs, PyData.canLayAll0], by simp [toPs, PyData.depthAll]⟩
  | d :: ds, h => by
    obtain ⟨a, b⟩ := h d List.mem_cons_self
    obtain ⟨c, e⟩ := Ly.all fun x hx => h x (List.mem_cons_of_mem _ hx)
    rw [toPs, PyData.canLayAll0, PyData.depthAll, a, c]
    exact ⟨rfl, Nat.max_le.mpr ⟨b, e⟩⟩
theorem Ly.lst {k : Nat} {ds : List D} (h : ∀ x ∈ ds, Ly k x) : Ly (k + 1) (.lst ds) := by
  obtain ⟨a, b⟩ := Ly.all h
  exact ⟨by simpa [toP, PyData.canLay0] using a, by simp [toP, PyData.depth]; omega⟩
theorem Ly.tup {k : Nat} {ds : List D} (h : ∀ x ∈ ds, Ly k x) : Ly (k + 1) (.tup ds) := by
  obtain ⟨a, b⟩ := Ly.all h
  exact ⟨by simpa [toP, PyData.canLay0] using a, by simp [toP, PyData.depth]; omega⟩
theorem Ly.mono {k j : Nat} {d : D} (h : Ly k d) (hk : k ≤ j) : Ly j d := ⟨h.1, by have := h.2; omega⟩
theorem Ly.int (k : Nat) (i : Int) : Ly k (.int i) := ⟨by simp [toP, PyData.canLay0], by simp [toP, PyData.depth]⟩
theorem Ly.non (k : Nat) : Ly k .non := ⟨by simp [toP, PyData.canLay0], by simp [toP, PyData.depth]⟩
theorem Ly.shp {k : Nat} {d : D} (h : Ly k d) (hk : k ≤ 64) : shp d = true := shp_of h.1 (by have := h.2; omega)
theorem Ly.fr (k : Nat) (q : Rat) : Ly (k + 1) (fr q) := Ly.tup fun x hx => by
  simp only [List.mem_cons, List.not_mem_nil, or_false] at hx
  rcases hx with rfl | rfl <;> exact Ly.int _ _
theorem Ly.ps (k : Nat) (ps : List Nat) : Ly (k + 1) (psD ps) := Ly.tup fun x hx => by
  obtain ⟨p, _, rfl⟩ := List.mem_map.mp hx
  exact Ly.int _ _
theorem Ly.tree (L : List Int) (e : Int) : ∀ (k : Nat) (ps : List Nat), Ly (3 * k + 3) (treeD L e k ps)
  | 0, ps => by
    rw [treeD]
    refine Ly.tup fun x hx => ?_
    simp only [List.mem_cons, List.not_mem_nil, or_false] at hx
    rcases hx with rfl | rfl
    · exact Ly.fr _ _
    · exact Ly.tup fun x hx => absurd hx List.not_mem_nil
  | k + 1, ps => by
    rw [treeD]
    refine Ly.tup fun x hx => ?_
    simp only [List.mem_cons, List.not_mem_nil, or_false] at hx
    rcases hx with rfl | rfl
    · exact Ly.fr _ _
    · refine Ly.tup (k := 3 * (k + 1) + 1) fun x hx => ?_
      obtain ⟨p, _, rfl⟩ := List.mem_map.mp hx
      refine Ly.tup (k := 3 * (k + 1)) fun x hx => ?_
      simp only [List.mem_cons, List.not_mem_nil, or_false] at hx
      rcases hx with rfl | rfl
      · exact Ly.int _ _
      · exact (Ly.tree L e k _).mono (by omega)
theorem shp_pss (l : List (List Nat)) : shp (.lst (l.map psD)) = true := (Ly.lst (k := 1) fun x hx => by
  obtain ⟨p, _, rfl⟩ := List.mem_map.mp hx
  exact Ly.ps _ _).shp (by decide)
theorem eqv_nilL (d : D) (ds : List D) : PyData.eqv (toP (.lst (d :: ds))) (toP (.lst [])) = false := by simp [toP, toPs, PyData.eqv, PyData.eqvAll]
theorem shp_nilL : shp (.lst []) = true := Eq.trans rfl rfl
theorem shp_nilT : shp (.tup []) = true := Eq.trans rfl rfl
theorem eqv_nilT (d : D) (ds : List D) : PyData.eqv (toP (.tup (d :: ds))) (toP (.tup [])) = false := by simp [toP, toPs, PyData.eqv, PyData.eqvAll]
end RS

namespace RS
open PySem
/-! ### turned about -/
theorem lines_rev1 {L : List Int} [hL : Land L] {x : Rat} {i : Rat} (h0 : 0 ≤ x) (h1 : x ≤ ((L.length - 1 : Nat) : Rat)) (a : Lines L x (ground L x + i)) : Lines L.reverse (((L.length - 1 : Nat) : Rat) - x) (ground L.reverse (((L.length - 1 : Nat) : Rat) - x) + i) := by
  rw [sees_all h0 h1] at a
  rw [sees_all (by grind) (by rw [List.length_reverse]; grind)]
  intro y y0 y1
  rw [List.length_reverse] at y1
  have e : y = ((L.length - 1 : Nat) : Rat) - (((L.length - 1 : Nat) : Rat) - y) := by grind
  rw [e, ground_rev h0 h1, ground_rev (L := L) (x := ((L.length - 1 : Nat) : Rat) - y) (by grind) (by grind), sees_rev]
  exact a _ (by grind) (by grind)
theorem lines_rev {L : List Int} [hL : Land L] {x : Rat} {i : Rat} (h0 : 0 ≤ x) (h1 : x ≤ ((L.length - 1 : Nat) : Rat)) : Lines L.reverse (((L.length - 1 : Nat) : Rat) - x) (ground L.reverse (((L.length - 1 : Nat) : Rat) - x) + i) ↔ Lines L x (ground L x + i) := by
  refine ⟨fun z => ?_, lines_rev1 h0 h1⟩
  have := lines_rev1 (L := L.reverse) (x := ((L.length - 1 : Nat) : Rat) - x) (i := i) (by grind) (by rw [List.length_reverse]; grind) z
  rw [List.reverse_reverse, List.length_reverse] at this
  have e1 : ((L.length - 1 : Nat) : Rat) - (((L.length - 1 : Nat) : Rat) - x) = x := by grind
  rw [e1] at this
  exact this
theorem tower_rev {L : List Int} [hL : Land L] {x : Rat} (h0 : 0 ≤ x) (h1 : x ≤ ((L.length - 1 : Nat) : Rat)) : cei (towerN L.reverse (((L.length - 1 : Nat) : Rat) - x) - ground L.reverse (((L.length - 1 : Nat) : Rat) - x)) = cei (towerN L x - ground L x) :=
  int_eq_of_le fun i => by rw [tower_spec, tower_spec, lines_rev h0 h1]
theorem least_rev {L : List Int} [hL : Land L] {x y t : Rat} (h0 : 0 ≤ x) (h1 : x ≤ ((L.length - 1 : Nat) : Rat)) (y0 : 0 ≤ y) (y1 : y ≤ ((L.length - 1 : Nat) : Rat)) :
    cei (need L.reverse (((L.length - 1 : Nat) : Rat) - x) (((L.length - 1 : Nat) : Rat) - y) (ground L.reverse (((L.length - 1 : Nat) : Rat) - y) + t) (ground L.reverse (((L.length - 1 : Nat) : Rat) - x)) - ground L.reverse (((L.length - 1 : Nat) : Rat) - x)) = cei (need L x y (ground L y + t) (ground L x) - ground L x) :=
  int_eq_of_le fun i => by
    rw [least_le (by grind) (by grind) (by rw [List.length_reverse]; grind) (by rw [List.length_reverse]; grind), least_le h0 y0 h1 y1, ground_rev h0 h1, ground_rev y0 y1, sees_rev]
theorem sub_cast {n p : Nat} (h : p ≤ n) : ((n - p : Nat) : Rat) = (n : Rat) - (p : Rat) := by
  have : n = (n - p) + p := by omega
  have e : (n : Rat) = ((n - p : Nat) : Rat) + (p : Rat) := by
    conv => lhs; rw [this]
    rw [Rat.natCast_add]
  rw [e]; grind
theorem few_rev1 {L : List Int} [hL : Land L] (e : Int) : (fewL L.reverse e).length ≤ (fewL L e).length := by
  have lo := hL.lo
  obtain ⟨a, b⟩ := few_all (L := L) e
  have := few_le (L := L.reverse) (e := e) (ps := (fewL L e).map fun p => L.length - 1 - p) (fun p hp => by
    obtain ⟨q, hq, rfl⟩ := List.mem_map.mp hp
    rw [List.length_reverse]; omega) (fun q q0 q1 => by
    rw [List.length_reverse] at q1
    obtain ⟨p, hp, m⟩ := b (((L.length - 1 : Nat) : Rat) - q) (by grind) (by grind)
    have hpl := a.2 p hp
    refine ⟨L.length - 1 - p, List.mem_map.mpr ⟨p, hp, rfl⟩, ?_⟩
    unfold sightL at m ⊢
    rw [sub_cast (show p ≤ L.length - 1 by omega), seen_about (Rat.natCast_le_natCast.mpr (Nat.zero_le p)) (nat_le_last hpl), mem_about]
    exact m)
  rwa [List.length_map] at this
theorem few_rev {L : List Int} [hL : Land L] (e : Int) : (fewL L.reverse e).length = (fewL L e).length := by
  have a := few_rev1 (L := L) e
  have b := few_rev1 (L := L.reverse) e
  rw [List.reverse_reverse] at b
  omega
/-! ### so many times as high -/
theorem hi_mul {L : List Int} (k : Int) (i : Nat) : hi (L.map fun x => x * k) i = hi L i * k := by
  unfold hi
  rw [List.getD_eq_getElem?_getD, List.getD_eq_getElem?_getD, List.getElem?_map]
  cases L[i]? <;> simp
theorem ht_mul {L : List Int} (k : Int) (i : Nat) : ht (L.map fun x => x * k) i = ht L i * (k : Rat) := by
  unfold ht; rw [hi_mul, Rat.intCast_mul]
theorem ground_mul {L : List Int} [hL : Land L] (k : Int) [hM : Land (L.map fun x => x * k)] {y : Rat} (y0 : 0 ≤ y) (y1 : y ≤ ((L.length - 1 : Nat) : Rat)) : ground (L.map fun x => x * k) y = ground L y * (k : Rat) := by
  obtain ⟨i, hi, a, b⟩ := place_of y0 y1
  rw [ground_eq hi a b, ground_eq (L := L.map fun x => x * k) (i := i) (by rw [List.length_map]; exact hi) a b, ht_mul, ht_mul]; grind
theorem sees_mul {L : List Int} {k : Int} (hk : 0 < k) {x h y t : Rat} : Sees (L.map fun x => x * k) x (h * (k : Rat)) y (t * (k : Rat)) ↔ Sees L x h y t := by
  have kp : (0 : Rat) < (k : Rat) := by
    have : ((0 : Int) : Rat) < (k : Rat) := Rat.intCast_lt_intCast.mpr hk
    simpa using this
  unfold Sees
  rw [List.length_map]
  have e1 : ∀ i : Nat, ht L i * (k : Rat) * (y - x) ≤ h * (k : Rat) * (y - (i : Rat)) + t * (k : Rat) * ((i : Rat) - x) ↔ ht L i * (y - x) ≤ h * (y - (i : Rat)) + t * ((i : Rat) - x) := fun i => by
    rw [← mul_le_iff (a := ht L i * (y - x)) kp]
    have a1 : ht L i * (k : Rat) * (y - x) = ht L i * (y - x) * (k : Rat) := by grind
    have a2 : h * (k : Rat) * (y - (i : Rat)) + t * (k : Rat) * ((i : Rat) - x) = (h * (y - (i : Rat)) + t * ((i : Rat) - x)) * (k : Rat) := by grind
    rw [a1, a2]
  have e2 : ∀ i : Nat, ht L i * (k : Rat) * (x - y) ≤ t * (k : Rat) * (x - (i : Rat)) + h * (k : Rat) * ((i : Rat) - y) ↔ ht L i * (x - y) ≤ t * (x - (i : Rat)) + h * ((i : Rat) - y) := fun i => by
    rw [← mul_le_iff (a := ht L i * (x - y)) kp]
    have a1 : ht L i * (k : Rat) * (x - y) = ht L i * (x - y) * (k : Rat) := by grind
    have a2 : t * (k : Rat) * (x - (i : Rat)) + h * (k : Rat) * ((i : Rat) - y) = (t * (x - (i : Rat)) + h * ((i : Rat) - y)) * (k : Rat) := by grind
    rw [a1, a2]
  simp only [ht_mul, e1, e2]
theorem seen_mul {L : List Int} [hL : Land L] {k : Int} (hk : 0 < k) [hM : Land (L.map fun x => x * k)] {x : Rat} (x0 : 0 ≤ x) (x1 : x ≤ ((L.length - 1 : Nat) : Rat)) (E T : Int) :
    seenL (L.map fun x => x * k) x (ground (L.map fun x => x * k) x + ((k * E : Int) : Rat)) ((k * T : Int) : Rat) = seenL L x (ground L x + (E : Rat)) (T : Rat) := by
  refine seen_congr (L := L) (M := L.map fun x => x * k) (by rw [List.length_map]) x0 x1 fun y y0 y1 => ?_
  rw [ground_mul k x0 x1, ground_mul k y0 y1, Rat.intCast_mul, Rat.intCast_mul]
  have a1 : ground L x * (k : Rat) + (k : Rat) * (E : Rat) = (ground L x + (E : Rat)) * (k : Rat) := by grind
  have a2 : ground L y * (k : Rat) + (k : Rat) * (T : Rat) = (ground L y + (T : Rat)) * (k : Rat) := by grind
  rw [a1, a2, sees_mul hk]
theorem land_mul {L : List Int} [hL : Land L] {k : Int} (hk : 0 < k) (h : ∀ x ∈ L, x * k ≤ 999) : Land (L.map fun x => x * k) := by
  refine ⟨by rw [List.length_map]; exact hL.lo, by rw [List.length_map]; exact hL.hi, fun x hx => ?_⟩
  obtain ⟨y, hy, rfl⟩ := List.mem_map.mp hx
  exact ⟨Int.mul_nonneg (hL.h y hy).1 (by omega), h y hy⟩
/-! ### a land behind -/
theorem land_app {L M : List Int} [hL : Land L] [hM : Land M] (h : L.length + M.length ≤ 12) : Land (L ++ M) := by
  refine ⟨by rw [List.length_append]; have := hL.lo; omega, by rw [List.length_append]; exact h, fun x hx => ?_⟩
  rcases List.mem_append.mp hx with hx | hx
  · exact hL.h x hx
  · exact hM.h x hx
theorem hi_app {L M : List Int} {i : Nat} (h : i < L.length) : hi (L ++ M) i = hi L i := by
  unfold hi; rw [List.getD_eq_getElem?_getD, List.getD_eq_getElem?_getD, List.getElem?_append_left h]
theorem ht_app {L M : List Int} {i : Nat} (h : i < L.length) : ht (L ++ M) i = ht L i := by unfold ht; rw [hi_app h]
theorem last_app {L M : List Int} : ((L.length - 1 : Nat) : Rat) ≤ (((L ++ M).length - 1 : Nat) : Rat) := Rat.natCast_le_natCast.mpr (by rw [List.length_append]; omega)
theorem ground_app {L M : List Int} [hL : Land L] [hA : Land (L ++ M)] {y : Rat} (y0 : 0 ≤ y) (y1 : y ≤ ((L.length - 1 : Nat) : Rat)) : ground (L ++ M) y = ground L y := by
  obtain ⟨i, hi, a, b⟩ := place_of y0 y1
  rw [ground_eq hi a b, ground_eq (L := L ++ M) (i := i) (by rw [List.length_append]; omega) a b, ht_app (by omega), ht_app hi]
theorem sees_app {L M : List Int} [hL : Land L] {x h y t : Rat} (x1 : x ≤ ((L.length - 1 : Nat) : Rat)) (y1 : y ≤ ((L.length - 1 : Nat) : Rat)) : Sees (L ++ M) x h y t ↔ Sees L x h y t := by
  have lo := hL.lo
  have key : ∀ i : Nat, (i : Rat) < ((L.length - 1 : Nat) : Rat) → i < L.length := fun i h => by have := natCast_lt.mp h; omega
  constructor
  · intro z i hi
    have := z i (by rw [List.length_append]; omega)
    rw [ht_app hi] at this
    exact this
  · intro z i hi
    by_cases c : i < L.length
    · rw [ht_app c]; exact z i c
    · refine ⟨fun a b => absurd (key i (by grind)) c, fun a b => absurd (key i (by grind)) c⟩
theorem seen_app {L M : List Int} [hL : Land L] [hA : Land (L ++ M)] {x e t : Rat} (x0 : 0 ≤ x) (x1 : x ≤ ((L.length - 1 : Nat) : Rat)) :
    bothD (seenL (L ++ M) x (ground (L ++ M) x + e) t) [(0, ((L.length - 1 : Nat) : Rat))] = seenL L x (ground L x + e) t := by
  have la := last_app (L := L) (M := M)
  refine (both_nrm _ _).uniq (seen_nrm _ _ _ _) fun q => ?_
  rw [both_mem, seen_mem x0 (by grind), seen_mem x0 x1, Mem.cons, ground_app x0 x1]
  unfold Vis
  constructor
  · rintro ⟨⟨a, b, c⟩, d⟩
    have d : 0 ≤ q ∧ q ≤ ((L.length - 1 : Nat) : Rat) := d.elim id fun z => absurd z Mem.nil
    rw [ground_app d.1 d.2, sees_app x1 d.2] at c
    exact ⟨d.1, d.2, c⟩
  · rintro ⟨a, b, c⟩
    refine ⟨⟨a, by grind, ?_⟩, .inl ⟨a, b⟩⟩
    rw [ground_app a b, sees_app x1 b]
    exact c
/-! ### a place made lower -/
theorem ground_chg {L : List Int} [hL : Land L] {p : Nat} {v : Int} (hp : p < L.length) [hM : Land (chg L p v)] {x : Rat} (x0 : 0 ≤ x) (x1 : x ≤ ((L.length - 1 : Nat) : Rat)) (far : ¬ ((p : Rat) - 1 < x ∧ x < (p : Rat) + 1)) : ground (chg L p v) x = ground L x := by
  obtain ⟨i, hi', a, b⟩ := place_of x0 x1
  have hc : ∀ j, ht (chg L p v) j = if j = p then (v : Rat) else ht L j := fun j => by
    unfold ht; rw [chg_hi hp]; split <;> rfl
  rw [ground_eq hi' a b, ground_eq (L := chg L p v) (i := i) (by rw [chg_len v hp]; exact hi') a b, hc, hc]
  have e1 : ((i + 1 : Nat) : Rat) = (i : Rat) + 1 := by rw [Rat.natCast_add]; rfl
  by_cases c1 : i = p
  · have c2 : ¬ i + 1 = p := by omega
    rw [if_pos c1, if_neg c2]
    subst c1
    have : x = (i : Rat) + 1 := by grind
    rw [this]; grind
  · by_cases c2 : i + 1 = p
    · rw [if_neg c1, if_pos c2]
      subst c2
      have : x = (i : Rat) := by grind
      rw [this]; grind
    · rw [if_neg c1, if_neg c2]
theorem sees_chg {L : List Int} {p : Nat} {v : Int} (hp : p < L.length) (hv : v ≤ hi L p) {x h y t : Rat} (s : Sees L x h y t) : Sees (chg L p v) x h y t := by
  have hc : ∀ j, ht (chg L p v) j ≤ ht L j := fun j => by
    unfold ht; rw [chg_hi hp]; split
    · rename_i c; subst c; exact Rat.intCast_le_intCast.mpr hv
    · exact Rat.le_refl
  intro i hi'
  rw [chg_len v hp] at hi'
  obtain ⟨s1, s2⟩ := s i hi'
  refine ⟨fun a b => Rat.le_trans ?_ (s1 a b), fun a b => Rat.le_trans ?_ (s2 a b)⟩
  · exact mul_le_right (hc i) (by grind)
  · exact mul_le_right (hc i) (by grind)
/-! ### pairs with one place between -/
theorem pairs_two {L : List Int} (h : L.length = 2) : pairsL L = [(0, 1)] := by
  have s : Sees L ((0 : Nat) : Rat) (ht L 0) ((1 : Nat) : Rat) (ht L 1) := fun i hi => by
    refine ⟨fun a b => ?_, fun a b => ?_⟩
    · have := natCast_lt.mp a; have := natCast_lt.mp b; omega
    · have := natCast_lt.mp a; have := natCast_lt.mp b; omega
  have c := clr_t s
  unfold pairsL pairsP
  rw [h]
  have e1 : rowP 2 (fun a b => clr L (a : Rat) (ht L a) (b : Rat) (ht L b)) 0 = [(0, 1)] := by
    unfold rowP
    have : upto 2 0 = [1] := by decide
    rw [this, List.filter_cons, if_pos c, List.filter_nil]; rfl
  have e2 : rowP 2 (fun a b => clr L (a : Rat) (ht L a) (b : Rat) (ht L b)) 1 = [] := by
    unfold rowP
    have : upto 2 1 = [] := by decide
    rw [this]; rfl
  have : List.range 2 = [0, 1] := by decide
  rw [this, List.flatMap_cons, List.flatMap_cons, e1, e2]; rfl
theorem pairs_next {L : List Int} {b : Nat} (h : b + 2 < L.length) : (b, b + 2) ∈ pairsL L ↔ hi L (b + 1) ≤ mostV L b (b + 2) (b + 1) := by
  rw [pairs_most (by omega) h]
  have : upto (b + 2) b = [b + 1] := by
    unfold upto
    have : b + 2 - (b + 1) = 1 := by omega
    rw [this]; rfl
  rw [this]; simp
theorem mostL_next {L : List Int} {b : Nat} : (mostL L b (b + 2)).map D.int = [.int (mostV L b (b + 2) (b + 1))] := by
  unfold mostL
  have : upto (b + 2) b = [b + 1] := by
    unfold upto
    have : b + 2 - (b + 1) = 1 := by omega
    rw [this]; rfl
  rw [this]; rfl
theorem max_ld (L : List Int) [hL : Land L] : ∃ m : Int, biD .maxL [ld L] = .ok (.int m) ∧ ∀ k, m ≤ k ↔ ∀ x ∈ L, x ≤ k := by
  have lo := hL.lo
  cases L with
  | nil => simp at lo
  | cons h l =>
    refine ⟨l.foldl max h, ?_, fun k => max_le_iff⟩
    unfold ld
    show (match ints? ((h :: l).map D.int) with | some (n :: ns) => (R.ok (D.int (ns.foldl max n)) : R D) | _ => .bad) = _
    rw [ints_map]
theorem in_prs' (x : Nat × Nat) (l : List (Nat × Nat)) : cmpD .inn (prN x) (prs l) = .ok (decide (x ∈ l)) := by
  have := in_prs x l
  unfold prs at this ⊢
  rw [c_inL, this]
theorem about_len (l : List Sp) (e : Rat) : (about l e).length = l.length := by simp [about]
end RS

namespace RS
open PySem
/-! ### what watchers see, one after another -/
theorem tog_nil (L : List Int) (e : Int) : togL L e [] = [] := rfl
theorem tog_snoc (L : List Int) (e : Int) (ps : List Nat) (p : Nat) : uniD (togL L e ps) (sightL L e p) = togL L e (ps ++ [p]) := by
  refine (uni_nrm (tog_nrm L e ps) (sight_nrm L e p)).uniq (tog_nrm L e (ps ++ [p])) fun q => ?_
  rw [uni_mem (tog_nrm L e ps) (sight_nrm L e p), tog_mem, tog_mem]
  constructor
  · rintro (⟨r, h1, h2⟩ | h)
    · exact ⟨r, List.mem_append_left _ h1, h2⟩
    · exact ⟨p, by simp, h⟩
  · rintro ⟨r, h1, h2⟩
    rcases List.mem_append.mp h1 with h1 | h1
    · exact .inl ⟨r, h1, h2⟩
    · rw [List.mem_singleton.mp h1] at h2; exact .inr h2
theorem tog_full {L : List Int} [hL : Land L] {e : Int} {ps : List Nat} (hp : ∀ p ∈ ps, p < L.length) : togL L e ps = [(0, ((L.length - 1 : Nat) : Rat))] ↔ gapL L e ps = [] := by
  by_cases c : togL L e ps = []
  · have e1 : gapL L e ps = [(0, ((L.length - 1 : Nat) : Rat))] := by unfold gapL; rw [c]; rfl
    rw [c, e1]
    exact ⟨(fun z => by cases z), (fun z => by cases z)⟩
  · unfold gapL
    rw [(gaps_ok (tog_nrm L e ps) c (tog_in hp)).2.2]
theorem tog_perm {L : List Int} {e : Int} {ps qs : List Nat} (h : ∀ p, p ∈ ps ↔ p ∈ qs) : togL L e ps = togL L e qs :=
  (tog_nrm L e ps).uniq (tog_nrm L e qs) fun q => by rw [tog_mem, tog_mem]; simp only [h]
def hereD : Option Rat → D
  | none => .non
  | some q => fr q
theorem isNon_here (o : Option Rat) : isNon (hereD o) = o.isNone := by cases o <;> rfl
def stepH (st : Option Rat × List Sp) (s : Sp) : Option Rat × List Sp := (some s.2, match st.1 with
  | none => if s.1 = 0 then st.2 else st.2 ++ [(0, s.1)]
  | some q => st.2 ++ [(q, s.1)])
theorem step_HG {st : Option Rat × List Sp} {s : Sp} (h : 0 ≤ s.1) : stepH st s = stepG st s := by
  unfold stepH stepG
  cases st.1 with
  | some q => rfl
  | none =>
    by_cases c : s.1 = 0
    · have : ¬ 0 < s.1 := by grind
      simp [c]
    · have : 0 < s.1 := by grind
      simp [c, this]
theorem fold_HG : ∀ {l : List Sp} {st : Option Rat × List Sp}, (∀ s ∈ l, 0 ≤ s.1) → l.foldl stepH st = l.foldl stepG st
  | [], st, _ => rfl
  | s :: l, st, h => by
    rw [List.foldl_cons, List.foldl_cons, step_HG (h s List.mem_cons_self)]
    exact fold_HG fun t ht => h t (List.mem_cons_of_mem _ ht)
theorem fold_G_last {e : Rat} : ∀ {l : List Sp} {st : Option Rat × List Sp}, (∀ q, st.1 = some q → q ≤ e) → (st.1 = none → st.2 = []) → (∀ s ∈ l, s.2 ≤ e) → (∀ q, (l.foldl stepG st).1 = some q → q ≤ e) ∧ ((l.foldl stepG st).1 = none → (l.foldl stepG st).2 = [])
  | [], st, h, h0, _ => ⟨h, h0⟩
  | s :: l, st, h, h0, hl => by
    rw [List.foldl_cons]
    refine fold_G_last (fun q hq => ?_) (fun z => ?_) fun t ht => hl t (List.mem_cons_of_mem _ ht)
    · cases hq; exact hl s List.mem_cons_self
    · cases z
theorem eqv_non_fr (q : Rat) : PyData.eqv (toP .non) (toP (fr q)) = false := by simp [fr, toP, PyData.eqv]
theorem here_ne (o : Option Rat) (e : Rat) : cmpD .ne (hereD o) (fr e) = .ok (!decide (o = some e)) := by
  cases o with
  | none => simp only [hereD, c_ne, shp_non, shp_fr, Bool.and_self, if_true, eqv_non_fr]; rfl
  | some q => simp [hereD, c_ne]
theorem ps_lst (ps : List Nat) : D.tup (ps.map fun p => D.int (p : Nat)) = psD ps := rfl
theorem ns_lst' (ps : List Nat) : D.lst (ps.map fun p => D.int (p : Nat)) = nsL ps := rfl
end RS

namespace RS
open PySem
/-! ### things without objects, not too deep -/
inductive Plain : Nat → D → Prop
  | non {k : Nat} : Plain k .non
  | bl {k : Nat} (b : Bool) : Plain k (.bl b)
  | int {k : Nat} (i : Int) (h : i.natAbs < 2 ^ 300) : Plain k (.int i)
  | str {k : Nat} (s : Str) (h : PyData.strOk s = true) : Plain k (.str s)
  | lst {k : Nat} {ds : List D} (h : ∀ d ∈ ds, Plain k d) : Plain (k + 1) (.lst ds)
  | tup {k : Nat} {ds : List D} (h : ∀ d ∈ ds, Plain k d) (hl : ds.length ≤ 1000) : Plain (k + 1) (.tup ds)
theorem Plain.up {k : Nat} {d : D} (h : Plain k d) : Plain (k + 1) d := by
  induction h with
  | non => exact .non
  | bl b => exact .bl b
  | int i h => exact .int i h
  | str s h => exact .str s h
  | lst h ih => exact .lst ih
  | tup h hl ih => exact .tup ih hl
theorem Plain.mono {k j : Nat} {d : D} (h : Plain k d) (hk : k ≤ j) : Plain j d := by
  obtain ⟨m, rfl⟩ := Nat.le.dest hk
  clear hk
  induction m with
  | zero => exact h
  | succ m ih => exact ih.up
theorem Plain.ly {k : Nat} {d : D} (h : Plain k d) : Ly k d := by
  induction h with
  | non => exact Ly.non _
  | bl b => exact ⟨by simp [toP, PyData.canLay0], by simp [toP, PyData.depth]⟩
  | int i h => exact Ly.int _ _
  | str s h => exact ⟨by simp [toP, PyData.canLay0, h], by simp [toP, PyData.depth]⟩
  | lst h ih => exact Ly.lst ih
  | tup h hl ih => exact Ly.tup ih
theorem Plain.mem {k : Nat} {ds : List D} (h : Plain k (.tup ds)) : (∀ d ∈ ds, Plain k d) ∧ ds.length ≤ 1000 := by
  cases h with
  | tup h hl => exact ⟨fun d hd => (h d hd).up, hl⟩
theorem Plain.pl {k : Nat} {d : D} (h : Plain k d) : Pl d = true := by cases h <;> rfl
theorem Plain.tup_or {k : Nat} {d : D} (h : Plain k d) : (∃ ds, d = .tup ds) ∨ (isiD d .tuple = .ok false ∧ ∀ ds, d ≠ .tup ds) := by
  cases h with
  | tup h hl => exact .inl ⟨_, rfl⟩
  | _ => exact .inr ⟨rfl, fun ds z => by cases z⟩
theorem Plain.int_or {k : Nat} {d : D} (h : Plain k d) : (∃ i, d = .int i ∧ i.natAbs < 2 ^ 300) ∨ ((isiD d .int = .ok false ∨ (isiD d .int = .ok true ∧ isiD d .bool = .ok true)) ∧ ∀ i, d ≠ .int i) := by
  cases h with
  | int i h => exact .inl ⟨i, rfl, h⟩
  | bl b => exact .inr ⟨.inr ⟨rfl, rfl⟩, fun i z => by cases z⟩
  | _ => exact .inr ⟨.inl rfl, fun i z => by cases z⟩
theorem two_of {ds : List D} (h : ds.length = 2) : ∃ u v, ds = [u, v] := by
  match ds, h with
  | [u, v], _ => exact ⟨u, v, rfl⟩
theorem Plain.fr (k : Nat) {q : Rat} (h : Bd 300 q) : Plain (k + 1) (fr q) := .tup (fun d hd => by
  simp only [List.mem_cons, List.not_mem_nil, or_false] at hd
  rcases hd with rfl | rfl
  · exact .int _ h.n
  · exact .int _ (cast_lt h.d)) (by simp)
/-! ### fractions and spots, of any thing -/
def frOf : D → Option Rat
  | .tup [.int x, .int y] => if 0 < y ∧ (Rat.divInt x y).num = x ∧ ((Rat.divInt x y).den : Int) = y then some (Rat.divInt x y) else none
  | _ => none
theorem frOf_some {d : D} {q : Rat} (h : frOf d = some q) : d = fr q := by
  unfold frOf at h
  split at h
  · rename_i x y
    split at h
    · rename_i c
      cases h
      unfold fr; rw [c.2.1, c.2.2]
    · cases h
  · cases h
theorem frOf_fr (q : Rat) : frOf (fr q) = some q := by
  have e : Rat.divInt q.num (q.den : Int) = q := Rat.num_divInt_den q
  show (if 0 < (q.den : Int) ∧ (Rat.divInt q.num (q.den : Int)).num = q.num ∧ ((Rat.divInt q.num (q.den : Int)).den : Int) = (q.den : Int) then some (Rat.divInt q.num (q.den : Int)) else none) = some q
  rw [e, if_pos ⟨den_pos q, rfl, rfl⟩]
theorem frOf_no {d : D} (h : ∀ ds, d ≠ .tup ds) : frOf d = none := by
  unfold frOf; split
  · exact absurd rfl (h _)
  · rfl
theorem frOf_len {ds : List D} (h : ds.length ≠ 2) : frOf (.tup ds) = none := by
  unfold frOf; split
  · rename_i x y e; cases e; exact absurd rfl h
  · rfl
theorem frOf_0 {u v : D} (h : ∀ i, u ≠ .int i) : frOf (.tup [u, v]) = none := by
  unfold frOf; split
  · rename_i x y e; cases e; exact absurd rfl (h _)
  · rfl
theorem frOf_1 {u v : D} (h : ∀ i, v ≠ .int i) : frOf (.tup [u, v]) = none := by
  unfold frOf; split
  · rename_i x y e; cases e; exact absurd rfl (h _)
  · rfl
theorem frOf_bd {k : Nat} {d : D} {q : Rat} (hp : Plain k d) (h : frOf d = some q) : Bd 300 q := by
  have e := frOf_some h
  rw [e] at hp
  have hm := hp.mem.1
  have a := hm (.int q.num) (by simp)
  have b := hm (.int (q.den : Int)) (by simp)
  cases a with
  | int _ a =>
    cases b with
    | int _ b => exact ⟨a, by simpa using b⟩
def spotOf (L : List Int) (d : D) : Option Rat := match frOf d with
  | some q => if 0 ≤ q ∧ q ≤ ((L.length - 1 : Nat) : Rat) then some q else none
  | none => none
theorem spotOf_some {L : List Int} {d : D} {q : Rat} (h : spotOf L d = some q) : d = fr q ∧ 0 ≤ q ∧ q ≤ ((L.length - 1 : Nat) : Rat) ∧ frOf d = some q := by
  unfold spotOf at h
  split at h
  · rename_i r hr
    split at h
    · rename_i c; cases h; exact ⟨frOf_some hr, c.1, c.2, hr⟩
    · cases h
  · cases h
theorem spotOf_fr {L : List Int} {q : Rat} (h0 : 0 ≤ q) (h1 : q ≤ ((L.length - 1 : Nat) : Rat)) : spotOf L (fr q) = some q := by
  unfold spotOf; rw [frOf_fr]; simp only; rw [if_pos ⟨h0, h1⟩]
def shapeP (L : List Int) : D → Option (Rat × List D)
  | .tup [a, .tup rows] => (spotOf L a).map fun q => (q, rows)
  | _ => none
def rowOf : D → Option (Int × D)
  | .tup [.int i, t] => some (i, t)
  | _ => none
noncomputable def dueP (L : List Int) (e : Int) (q : Rat) : List Nat := (List.range L.length).filter fun p => memB (sightL L e p) q
def rowB (g : List Nat → D → Bool) (ps : List Nat) (r : D × Nat) : Bool := match rowOf r.1 with
  | some (i, t) => decide (i = (r.2 : Int)) && g (ps ++ [r.2]) t
  | none => false
theorem rowB_none {g : List Nat → D → Bool} {ps : List Nat} {r : D × Nat} (h : rowOf r.1 = none) : ¬ rowB g ps r = true := by unfold rowB; rw [h]; simp
noncomputable def goodB (L : List Int) (e : Int) : Nat → List Nat → D → Bool
  | 0, ps, d => match shapeP L d with
    | some (q, rows) => !memB (togL L e ps) q && rows.isEmpty
    | none => false
  | k + 1, ps, d => match shapeP L d with
    | some (q, rows) => !memB (togL L e ps) q && (decide (rows.length = (dueP L e q).length) && (rows.zip (dueP L e q)).all fun r => rowB (fun ps d => goodB L e k ps d) ps r)
    | none => false
theorem shapeP_no {L : List Int} {d : D} (h : ∀ ds, d ≠ .tup ds) : shapeP L d = none := by
  unfold shapeP; split
  · exact absurd rfl (h _)
  · rfl
theorem shapeP_len {L : List Int} {ds : List D} (h : ds.length ≠ 2) : shapeP L (.tup ds) = none := by
  unfold shapeP; split
  · rename_i a rows e; cases e; exact absurd rfl h
  · rfl
theorem shapeP_1 {L : List Int} {u v : D} (h : ∀ ds, v ≠ .tup ds) : shapeP L (.tup [u, v]) = none := by
  unfold shapeP; split
  · rename_i a rows e; cases e; exact absurd rfl (h _)
  · rfl
theorem shapeP_0 {L : List Int} {u v : D} (h : spotOf L u = none) : shapeP L (.tup [u, v]) = none := by
  unfold shapeP; split
  · rename_i a rows e; cases e; rw [h]; rfl
  · rfl
theorem good_none {L : List Int} {e : Int} {d : D} (h : shapeP L d = none) : ∀ (k : Nat) (ps : List Nat), goodB L e k ps d = false
  | 0, ps => by rw [goodB, h]
  | k + 1, ps => by rw [goodB, h]
theorem rowOf_no {d : D} (h : ∀ ds, d ≠ .tup ds) : rowOf d = none := by
  unfold rowOf; split
  · exact absurd rfl (h _)
  · rfl
theorem rowOf_len {ds : List D} (h : ds.length ≠ 2) : rowOf (.tup ds) = none := by
  unfold rowOf; split
  · rename_i a rows e; cases e; exact absurd rfl h
  · rfl
theorem rowOf_0 {u v : D} (h : ∀ i, u ≠ .int i) : rowOf (.tup [u, v]) = none := by
  unfold rowOf; split
  · rename_i a rows e; cases e; exact absurd rfl (h _)
  · rfl
theorem isWi_no {lo hi : Int} {u : D} (h : ∀ i, u ≠ .int i) : isWi lo hi u = false := by
  unfold isWi; split
  · exact absurd rfl (h _)
  · rfl
theorem isWi_pp (p i : Int) : isWi p p (.int i) = decide (i = p) := by
  show (decide (p ≤ i) && decide (i ≤ p)) = _
  rw [Bool.eq_iff_iff]; simp only [Bool.and_eq_true, decide_eq_true_eq]; omega
theorem zip_rows (rows : List D) (due : List Nat) : (rows.zip (due.map fun p => D.int (p : Nat))).map (fun p => D.tup [p.1, p.2]) = (rows.zip due).map fun r : D × Nat => D.tup [r.1, .int (r.2 : Nat)] := by
  rw [List.zip_map_right, List.map_map]; rfl
theorem tog_any (L : List Int) (e : Int) (ps : List Nat) (q : Rat) : (ps.filter fun p => memB (sightL L e p) q).isEmpty = !memB (togL L e ps) q := by
  by_cases c : Mem (togL L e ps) q
  · rw [memB_t c]
    obtain ⟨p, hp, m⟩ := tog_mem.mp c
    have : p ∈ ps.filter fun p => memB (sightL L e p) q := List.mem_filter.mpr ⟨hp, memB_t m⟩
    cases h : ps.filter fun p => memB (sightL L e p) q with
    | nil => rw [h] at this; exact absurd this List.not_mem_nil
    | cons a l => rfl
  · rw [memB_f c]
    have : ps.filter (fun p => memB (sightL L e p) q) = [] := by
      rw [List.filter_eq_nil_iff]
      intro p hp z
      exact c (tog_mem.mpr ⟨p, hp, memB_iff.mp z⟩)
    rw [this]; rfl
/-! ### a paper that is told is good -/
theorem good_tree {L : List Int} [hL : Land L] {e : Int} (e0 : 0 ≤ e) (e1 : e ≤ 999) {m : Nat} (hn : ∀ ps : List Nat, (∀ p ∈ ps, p < L.length) → ps.length ≤ m → ¬ AllS L e ps) : ∀ (k : Nat) (ps : List Nat), (∀ p ∈ ps, p < L.length) → ps.length + k ≤ m → goodB L e k ps (treeD L e k ps) = true ∧ Plain (3 * k + 3) (treeD L e k ps)
  | 0, ps, hp, hl => by
    have gn : gapL L e ps ≠ [] := fun z => hn ps hp (by omega) ((gap_nil hp).mp z)
    have mo := mid_ok hp e0 e1 gn
    have nt : ¬ Mem (togL L e ps) (midT L e ps) := fun z => by
      obtain ⟨p, hpp, m⟩ := tog_mem.mp z
      exact mo.no p hpp m
    refine ⟨?_, ?_⟩
    · rw [treeD, goodB]
      have : shapeP L (.tup [fr (midT L e ps), .tup []]) = some (midT L e ps, []) := by
        show (spotOf L (fr (midT L e ps))).map _ = _
        rw [spotOf_fr mo.lo mo.hi]; rfl
      rw [this]
      simp [memB_f nt]
    · rw [treeD]
      refine .tup (fun d hd => ?_) (by simp)
      simp only [List.mem_cons, List.not_mem_nil, or_false] at hd
      rcases hd with rfl | rfl
      · exact Plain.fr _ (mo.b.mono (by decide))
      · exact .tup (fun d hd => absurd hd List.not_mem_nil) (by simp)
  | k + 1, ps, hp, hl => by
    have hi' := hL.hi
    have gn : gapL L e ps ≠ [] := fun z => hn ps hp (by omega) ((gap_nil hp).mp z)
    have mo := mid_ok hp e0 e1 gn
    have nt : ¬ Mem (togL L e ps) (midT L e ps) := fun z => by
      obtain ⟨p, hpp, m⟩ := tog_mem.mp z
      exact mo.no p hpp m
    have ih := fun p (h : p < L.length) => good_tree e0 e1 hn k (ps ++ [p]) (fun q hq => by
      rcases List.mem_append.mp hq with hq | hq
      · exact hp q hq
      · rw [List.mem_singleton.mp hq]; exact h) (by rw [List.length_append, List.length_singleton]; omega)
    have dl : ∀ p ∈ dueP L e (midT L e ps), p < L.length := fun p h => List.mem_range.mp (List.mem_filter.mp h).1
    have dn : (dueP L e (midT L e ps)).length ≤ 12 := by
      unfold dueP; exact Nat.le_trans (List.length_filter_le _ _) (by rw [List.length_range]; omega)
    refine ⟨?_, ?_⟩
    · rw [treeD, goodB]
      have : shapeP L (.tup [fr (midT L e ps), .tup (((List.range L.length).filter fun p => memB (sightL L e p) (midT L e ps)).map fun p => .tup [.int (p : Nat), treeD L e k (ps ++ [p])])]) = some (midT L e ps, (dueP L e (midT L e ps)).map fun p => .tup [.int (p : Nat), treeD L e k (ps ++ [p])]) := by
        show (spotOf L (fr (midT L e ps))).map _ = _
        rw [spotOf_fr mo.lo mo.hi]; rfl
      rw [this]
      simp only [memB_f nt, Bool.not_false, Bool.true_and, List.length_map, decide_true]
      rw [List.all_eq_true]
      intro r hr
      have hz : (((dueP L e (midT L e ps)).map fun p => D.tup [.int (p : Nat), treeD L e k (ps ++ [p])]).zip (dueP L e (midT L e ps))) = (dueP L e (midT L e ps)).map fun p => (D.tup [.int (p : Nat), treeD L e k (ps ++ [p])], p) := by
        rw [List.zip_map_left]
        generalize dueP L e (midT L e ps) = l
        induction l with
        | nil => rfl
        | cons a l ih => simp [ih]
      rw [hz] at hr
      obtain ⟨p, hpm, rfl⟩ := List.mem_map.mp hr
      show (decide (((p : Nat) : Int) = (p : Int)) && goodB L e k (ps ++ [p]) (treeD L e k (ps ++ [p]))) = true
      rw [(ih p (dl p hpm)).1]; simp
    · rw [treeD]
      refine .tup (k := 3 * (k + 1) + 2) (fun d hd => ?_) (by simp)
      simp only [List.mem_cons, List.not_mem_nil, or_false] at hd
      rcases hd with rfl | rfl
      · exact Plain.fr _ (mo.b.mono (by decide))
      · refine .tup (k := 3 * (k + 1) + 1) (fun d hd => ?_) (by rw [List.length_map]; exact Nat.le_trans dn (by decide))
        obtain ⟨p, hpm, rfl⟩ := List.mem_map.mp hd
        refine .tup (k := 3 * (k + 1)) (fun d hd => ?_) (by simp)
        have hpl := List.mem_range.mp (List.mem_filter.mp hpm).1
        simp only [List.mem_cons, List.not_mem_nil, or_false] at hd
        rcases hd with rfl | rfl
        · exact .int _ (Nat.lt_of_lt_of_le (show ((p : Nat) : Int).natAbs < 2 ^ 4 by omega) (Nat.pow_le_pow_right (by decide) (by decide)))
        · exact ((ih p hpl).2).mono (by omega)
theorem firstE_zero {L : List Int} [hL : Land L] (e : Int) : firstE L e 0 = none := by
  cases h : firstE L e 0 with
  | none => rfl
  | some ps =>
    obtain ⟨a, b, c⟩ := firstE_some h
    have : ps = [] := List.eq_nil_of_length_eq_zero (by omega)
    subst this
    obtain ⟨p, hp, _⟩ := c 0 Rat.le_refl (last_nn L)
    exact absurd hp List.not_mem_nil
theorem eqv_nilTT : PyData.eqv (toP (.tup [])) (toP (.tup [])) = true := by simp [toP, toPs, PyData.eqv, PyData.eqvAll]
end RS

namespace RS
open PySem
/-! ### texts of heights -/
def hstr (h : Int) : Str := Str.ofString (toString h)
def spc : Str := " "
theorem spc_eq : spc = ⟨#[32]⟩ := by decide +kernel
theorem hstr_len {h : Int} (h0 : 0 ≤ h) (h1 : h ≤ 999) : (hstr h).length ≤ 3 := by
  unfold hstr
  exact PyProof.Rows.toString_length_le (k := 3) h0 (by decide) (by omega)
theorem hstr_reads {h : Int} (h0 : 0 ≤ h) (h1 : h ≤ 999) : intText? (hstr h) = some h := PySem.W.KIN.num_reads h0 (by omega)
theorem hstr_signs (m : Nat) : (hstr (m : Int)).cps.toList = (Nat.toDigits 10 m).map Char.toNat := PySem.W.KIN.signs_num m
theorem hstr_digits {h : Int} (h0 : 0 ≤ h) : ∀ c ∈ (hstr h).cps.toList, 48 ≤ c ∧ c ≤ 57 := by
  obtain ⟨m, rfl⟩ := Int.eq_ofNat_of_zero_le h0
  intro c hc
  rw [hstr_signs] at hc
  obtain ⟨ch, hch, e⟩ := List.mem_map.mp hc
  have r := PyProof.Rows.digit_range (Nat.isDigit_of_mem_toDigits (by decide) (by decide) hch)
  rw [← e]; exact r
theorem hstr_pos {h : Int} (h0 : 0 ≤ h) : 1 ≤ (hstr h).length := by
  obtain ⟨m, rfl⟩ := Int.eq_ofNat_of_zero_le h0
  have e : (hstr (m : Int)).length = (Nat.toDigits 10 m).length := by
    have := congrArg List.length (hstr_signs m)
    rw [List.length_map] at this
    rw [← this]; exact (Array.length_toList).symm
  rw [e]
  have : Nat.toDigits 10 m ≠ [] := by
    by_cases h : m < 10
    · rw [Nat.toDigits_of_lt_base h]; simp
    · have t := Nat.toDigits_append_toDigits (b := 10) (n := m / 10) (d := m % 10) (by decide) (by omega) (Nat.mod_lt m (by decide))
      rw [Nat.div_add_mod] at t
      rw [← t, Nat.toDigits_of_lt_base (Nat.mod_lt m (by decide))]; simp
  cases hd : Nat.toDigits 10 m with
  | nil => exact absurd hd this
  | cons a l => simp
/-! ### joined and split -/
theorem str_eq {a b : Str} (h : a.cps.toList = b.cps.toList) : a = b := by
  cases a; cases b; congr 1; exact Array.ext' h
theorem join_two (c : Nat) (x y : Str) (r : List Str) : (Str.join ⟨#[c]⟩ (x :: y :: r)).cps.toList = x.cps.toList ++ c :: (Str.join ⟨#[c]⟩ (y :: r)).cps.toList := by
  show ((x.cps ++ #[c]) ++ (Str.join ⟨#[c]⟩ (y :: r)).cps).toList = _
  simp
theorem cut_uniq {c : Nat} : ∀ {a b r s : List Nat}, c ∉ a → c ∉ b → a ++ c :: r = b ++ c :: s → a = b ∧ r = s
  | [], [], r, s, _, _, h => ⟨rfl, by simpa using h⟩
  | [], y :: b, r, s, _, hb, h => by
    simp only [List.nil_append, List.cons_append, List.cons.injEq] at h
    exact absurd (by rw [h.1]; exact List.mem_cons_self) hb
  | x :: a, [], r, s, ha, _, h => by
    simp only [List.nil_append, List.cons_append, List.cons.injEq] at h
    exact absurd (by rw [← h.1]; exact List.mem_cons_self) ha
  | x :: a, y :: b, r, s, ha, hb, h => by
    simp only [List.cons_append, List.cons.injEq] at h
    obtain ⟨i1, i2⟩ := cut_uniq (fun z => ha (List.mem_cons_of_mem _ z)) (fun z => hb (List.mem_cons_of_mem _ z)) h.2
    exact ⟨by rw [h.1, i1], i2⟩
theorem join_inj {c : Nat} : ∀ {ws vs : List Str}, ws ≠ [] → vs ≠ [] → (∀ w ∈ ws, c ∉ w.cps.toList) → (∀ v ∈ vs, c ∉ v.cps.toList) → Str.join ⟨#[c]⟩ ws = Str.join ⟨#[c]⟩ vs → ws = vs
  | [], _, h, _, _, _, _ => absurd rfl h
  | _ :: _, [], _, h, _, _, _ => absurd rfl h
  | [x], [y], _, _, _, _, h => by
    have h : x = y := h
    rw [h]
  | [x], y :: z :: r, _, _, hw, _, h => by
    have e := congrArg (fun s : Str => s.cps.toList) h
    simp only [join_two] at e
    have e : x.cps.toList = _ := e
    exact absurd (by rw [e]; simp) (hw x List.mem_cons_self)
  | x :: z :: r, [y], _, _, _, hv, h => by
    have e := congrArg (fun s : Str => s.cps.toList) h
    simp only [join_two] at e
    have e : _ = y.cps.toList := e
    exact absurd (by rw [← e]; simp) (hv y List.mem_cons_self)
  | x :: z :: r, y :: u :: s, _, _, hw, hv, h => by
    have e := congrArg (fun s : Str => s.cps.toList) h
    simp only [join_two] at e
    obtain ⟨e1, e2⟩ := cut_uniq (hw x List.mem_cons_self) (hv y List.mem_cons_self) e
    have ih := join_inj (ws := z :: r) (vs := u :: s) (by simp) (by simp) (fun w hw' => hw w (List.mem_cons_of_mem _ hw')) (fun v hv' => hv v (List.mem_cons_of_mem _ hv')) (str_eq e2)
    rw [str_eq e1, ih]
theorem split_ne (x : Str) (c : Nat) : Txt.split x ⟨#[c]⟩ ≠ [] := fun z => by
  have := StrLaws.join_split x ⟨#[c]⟩
  unfold Txt.split at z
  split at z
  · cases z
  · split at z
    · cases z
    · rw [StrLaws.partsBetween_eq] at z
      obtain ⟨p, r, e⟩ := StrLaws.partsFrom_ne x (Str.length ⟨#[c]⟩) 0 (Builtin.Str.occurrences x ⟨#[c]⟩ 0 x.length (x.length + 1))
      rw [e] at z; cases z
theorem split_join {c : Nat} {ws : List Str} (h : ws ≠ []) (hf : ∀ w ∈ ws, c ∉ w.cps.toList) : Txt.split (Str.join ⟨#[c]⟩ ws) ⟨#[c]⟩ = ws :=
  join_inj (c := c) (split_ne _ c) h (StrLaws.split_free _ c) hf (StrLaws.join_split _ _)
/-! ### the text of a land -/
def landT (L : List Int) : Str := Str.join spc (L.map hstr)
theorem strs_map (l : List Str) : strs? (l.map D.str) = some l := by
  induction l with
  | nil => rfl
  | cons a l ih => simp [strs?, ih]
theorem land_free {L : List Int} (h : ∀ x ∈ L, 0 ≤ x) : ∀ w ∈ L.map hstr, 32 ∉ w.cps.toList := by
  intro w hw z
  obtain ⟨x, hx, rfl⟩ := List.mem_map.mp hw
  have := hstr_digits (h x hx) 32 z
  omega
theorem land_split {L : List Int} (hne : L ≠ []) (h : ∀ x ∈ L, 0 ≤ x) : Txt.split (landT L) spc = L.map hstr := by
  unfold landT
  rw [spc_eq]
  exact split_join (by simpa using hne) (land_free h)
theorem sum_le {l : List Str} {k : Nat} (h : ∀ x ∈ l, x.length ≤ k) : (l.map (·.length)).sum ≤ k * l.length := by
  induction l with
  | nil => simp
  | cons a l ih =>
    have := ih fun x hx => h x (List.mem_cons_of_mem _ hx)
    have := h a List.mem_cons_self
    rw [List.map_cons, List.sum_cons, List.length_cons, Nat.mul_succ]; omega
theorem spc_len : spc.length = 1 := by rw [spc_eq]; rfl
theorem land_sum {L : List Int} (h : ∀ x ∈ L, 0 ≤ x ∧ x ≤ 999) : ((L.map hstr).map (·.length)).sum + (L.map hstr).length * spc.length ≤ 4 * L.length := by
  have := sum_le (l := L.map hstr) (k := 3) fun w hw => by
    obtain ⟨x, hx, rfl⟩ := List.mem_map.mp hw
    exact hstr_len (h x hx).1 (h x hx).2
  rw [List.length_map] at this
  rw [spc_len, List.length_map]; omega
theorem landT_len {L : List Int} (h : ∀ x ∈ L, 0 ≤ x ∧ x ≤ 999) : (landT L).length ≤ 4 * L.length := Nat.le_trans (StrLaws.join_length_le spc (L.map hstr)) (land_sum h)
theorem join_land {L : List Int} (h : ∀ x ∈ L, 0 ≤ x ∧ x ≤ 999) (hl : L.length ≤ 1000) : joinD spc (.lst (L.map fun x => D.str (hstr x))) = .ok (.str (landT L)) := by
  have e : (L.map fun x => D.str (hstr x)) = (L.map hstr).map D.str := by rw [List.map_map]; rfl
  have hs := land_sum h
  unfold joinD
  simp only [e, strs_map]
  rw [if_pos (by unfold big; omega)]
  show R.ok (D.str (Builtin.Str.glued spc (L.map hstr))) = _
  rw [StrLaws.glued_eq_join]; rfl
theorem split_land {L : List Int} (hne : L ≠ []) (h : ∀ x ∈ L, 0 ≤ x ∧ x ≤ 999) (hl : L.length ≤ 1000) : splitD (landT L) (.str spc) = .ok (.lst ((L.map hstr).map D.str)) := by
  have := landT_len h
  unfold splitD
  simp only [spc_len]
  have c : ((!((1 : Nat) == 0)) && decide ((landT L).length ≤ big)) = true := by rw [decide_eq_true (show (landT L).length ≤ big by unfold big; omega)]; rfl
  rw [if_pos c, land_split hne fun x hx => (h x hx).1]
theorem str_ok_of {s : Str} (h : ∀ c ∈ s.cps.toList, c < 1114112) : PyData.strOk s = true := by
  unfold PyData.strOk
  rw [Array.all_eq_true']
  intro c hc
  have := h c (by simpa using hc)
  simpa using this
theorem join_cps {c : Nat} : ∀ {ws : List Str} {d : Nat}, d ∈ (Str.join ⟨#[c]⟩ ws).cps.toList → d = c ∨ ∃ w ∈ ws, d ∈ w.cps.toList
  | [], d, h => by
    have : (Str.join ⟨#[c]⟩ []).cps.toList = [] := rfl
    rw [this] at h; exact absurd h List.not_mem_nil
  | [x], d, h => .inr ⟨x, List.mem_cons_self, h⟩
  | x :: y :: r, d, h => by
    rw [join_two] at h
    rcases List.mem_append.mp h with h | h
    · exact .inr ⟨x, List.mem_cons_self, h⟩
    · rcases List.mem_cons.mp h with h | h
      · exact .inl h
      · rcases join_cps h with h | ⟨w, hw, h⟩
        · exact .inl h
        · exact .inr ⟨w, List.mem_cons_of_mem _ hw, h⟩
theorem landT_ok {L : List Int} (h : ∀ x ∈ L, 0 ≤ x) : PyData.strOk (landT L) = true := by
  refine str_ok_of fun c hc => ?_
  unfold landT at hc
  rw [spc_eq] at hc
  rcases join_cps hc with rfl | ⟨w, hw, hcw⟩
  · decide
  · obtain ⟨x, hx, rfl⟩ := List.mem_map.mp hw
    have := hstr_digits (h x hx) c hcw
    omega
theorem shp_str {s : Str} (h : PyData.strOk s = true) : shp (.str s) = true := shp_of (by simp [toP, PyData.canLay0, h]) (by simp [toP, PyData.depth])
theorem eqv_str (a b : Str) : PyData.eqv (toP (.str a)) (toP (.str b)) = (a == b) := by simp [toP, PyData.eqv]
/-! ### signs -/
def figs : Str := "0123456789"
def inFig (c : Nat) : Bool := !(Builtin.Str.occurrences figs ⟨#[c]⟩ 0 figs.length 1).isEmpty
theorem inFig_dig {c : Nat} (h0 : 48 ≤ c) (h1 : c ≤ 57) : inFig c = true := by
  have : c = 48 ∨ c = 49 ∨ c = 50 ∨ c = 51 ∨ c = 52 ∨ c = 53 ∨ c = 54 ∨ c = 55 ∨ c = 56 ∨ c = 57 := by omega
  rcases this with rfl | rfl | rfl | rfl | rfl | rfl | rfl | rfl | rfl | rfl <;> decide +kernel
theorem notin_fig (c : Nat) : cmpD .notin (.str ⟨#[c]⟩) (.str figs) = .ok (!inFig c) := rfl
theorem is_str (s : Str) : isiD (.str s) .str = .ok true := Eq.trans rfl rfl
theorem sq_str (s : Str) : seqD (.str s) = .ok (s.cps.toList.map fun c => D.str ⟨#[c]⟩) := Eq.trans rfl rfl
theorem len_str {s : Str} (h : s.length ≤ 1000000) : biD .len [.str s] = .ok (.int (s.length : Nat)) := by
  show (if s.length ≤ big then R.ok (D.int (s.length : Nat)) else .bad) = _
  rw [if_pos (by unfold big; exact h)]
theorem bi_int_str {s : Str} {n : Int} (h : intText? s = some n) (hl : s.length ≤ 640) : biD .int [.str s] = .ok (.int n) := by
  show (match intText? s with | some n => if s.length ≤ 640 then R.ok (D.int n) else .bad | none => .bad) = _
  rw [h]; simp only; rw [if_pos hl]
theorem bi_str_int {i : Int} (h0 : 0 ≤ i) (h1 : i ≤ 999) : biD .str [.int i] = .ok (.str (hstr i)) := by
  show (if i.natAbs.log2 < 1920 then R.ok (D.str (Str.ofString (toString i))) else .bad) = _
  rw [if_pos (Nat.lt_of_lt_of_le (PySem.Flt.log2_lt_of (k := 10) (by decide) (by omega)) (by decide))]; rfl
end RS

namespace RS
open PySem
/-! ### the land behind, seen from within it -/
theorem hi_app_r {L R : List Int} (i : Nat) : hi (L ++ R) (L.length + i) = hi R i := by
  unfold hi; rw [List.getD_eq_getElem?_getD, List.getD_eq_getElem?_getD, List.getElem?_append_right (by omega), Nat.add_sub_cancel_left]
theorem ht_app_r {L R : List Int} (i : Nat) : ht (L ++ R) (L.length + i) = ht R i := by unfold ht; rw [hi_app_r]
theorem last_app_r {L R : List Int} (h : 1 ≤ R.length) : (((L ++ R).length - 1 : Nat) : Rat) = (L.length : Rat) + ((R.length - 1 : Nat) : Rat) := by
  rw [← Rat.natCast_add]; congr 1; rw [List.length_append]; omega
theorem ground_app_r {L R : List Int} [hR : Land R] [hA : Land (L ++ R)] {y : Rat} (y0 : 0 ≤ y) (y1 : y ≤ ((R.length - 1 : Nat) : Rat)) : ground (L ++ R) (y + (L.length : Rat)) = ground R y := by
  obtain ⟨i, hi, a, b⟩ := place_of y0 y1
  have ec : ((L.length + i : Nat) : Rat) = (L.length : Rat) + (i : Rat) := Rat.natCast_add _ _
  rw [ground_eq hi a b, ground_eq (L := L ++ R) (i := L.length + i) (by rw [List.length_append]; omega) (by rw [ec]; grind) (by rw [ec]; grind)]
  have e1 : L.length + i + 1 = L.length + (i + 1) := by omega
  rw [e1, ht_app_r, ht_app_r, ec]; grind
theorem sees_app_r {L R : List Int} {x h y t : Rat} (x0 : 0 ≤ x) (y0 : 0 ≤ y) : Sees (L ++ R) (x + (L.length : Rat)) h (y + (L.length : Rat)) t ↔ Sees R x h y t := by
  constructor
  · intro z i hi
    obtain ⟨z1, z2⟩ := z (L.length + i) (by rw [List.length_append]; omega)
    have ec : ((L.length + i : Nat) : Rat) = (L.length : Rat) + (i : Rat) := Rat.natCast_add _ _
    rw [ht_app_r, ec] at z1 z2
    refine ⟨fun a b => ?_, fun a b => ?_⟩
    · have := z1 (by grind) (by grind); grind
    · have := z2 (by grind) (by grind); grind
  · intro z j hj
    by_cases c : L.length ≤ j
    · obtain ⟨i, rfl⟩ : ∃ i, j = L.length + i := ⟨j - L.length, by omega⟩
      have ec : ((L.length + i : Nat) : Rat) = (L.length : Rat) + (i : Rat) := Rat.natCast_add _ _
      obtain ⟨z1, z2⟩ := z i (by rw [List.length_append] at hj; omega)
      rw [ht_app_r, ec]
      refine ⟨fun a b => ?_, fun a b => ?_⟩
      · have := z1 (by grind) (by grind); grind
      · have := z2 (by grind) (by grind); grind
    · have : (j : Rat) < (L.length : Rat) := natCast_lt.mpr (by omega)
      exact ⟨fun a b => by grind, fun a b => by grind⟩
def shiftL (l : List Sp) (f : Rat) : List Sp := l.map fun s => (s.1 + f, s.2 + f)
theorem mem_shift {l : List Sp} {f q : Rat} : Mem (shiftL l f) q ↔ Mem l (q - f) := by
  constructor
  · rintro ⟨s, hs, a, b⟩
    obtain ⟨t, ht, rfl⟩ := List.mem_map.mp hs
    exact ⟨t, ht, by simp only at a; grind, by simp only at b; grind⟩
  · rintro ⟨t, ht, a, b⟩
    exact ⟨(t.1 + f, t.2 + f), List.mem_map.mpr ⟨t, ht, rfl⟩, by simp only; grind, by simp only; grind⟩
theorem nrm_shift {f : Rat} : ∀ {l : List Sp}, Nrm l → Nrm (shiftL l f)
  | [], _ => trivial
  | s :: l, h => by
    refine ⟨by have := h.1; simp only; grind, fun t ht => ?_, nrm_shift h.2.2⟩
    obtain ⟨u, hu, rfl⟩ := List.mem_map.mp ht
    have := h.2.1 u hu
    simp only; grind
theorem seen_app_r {L R : List Int} [hL : Land L] [hR : Land R] [hA : Land (L ++ R)] {x e t : Rat} (x0 : 0 ≤ x) (x1 : x ≤ ((R.length - 1 : Nat) : Rat)) :
    bothD (seenL (L ++ R) (x + (L.length : Rat)) (ground (L ++ R) (x + (L.length : Rat)) + e) t) [((L.length : Rat), (((L ++ R).length - 1 : Nat) : Rat))] = shiftL (seenL R x (ground R x + e) t) (L.length : Rat) := by
  have la := last_app_r (L := L) (R := R) (by have := hR.lo; omega)
  have f0 : (0 : Rat) ≤ (L.length : Rat) := Rat.natCast_le_natCast.mpr (Nat.zero_le _)
  refine (both_nrm _ _).uniq (nrm_shift (seen_nrm _ _ _ _)) fun q => ?_
  rw [both_mem, mem_shift, seen_mem (by grind) (by grind), seen_mem x0 x1, Mem.cons, ground_app_r x0 x1]
  unfold Vis
  have eq : q = (q - (L.length : Rat)) + (L.length : Rat) := by grind
  constructor
  · rintro ⟨⟨a, b, c⟩, d⟩
    have d : (L.length : Rat) ≤ q ∧ q ≤ (((L ++ R).length - 1 : Nat) : Rat) := d.elim id fun z => absurd z Mem.nil
    refine ⟨by grind, by grind, ?_⟩
    rw [eq, ground_app_r (by grind) (by grind), sees_app_r x0 (by grind)] at c
    exact c
  · rintro ⟨a, b, c⟩
    refine ⟨⟨by grind, by grind, ?_⟩, .inl ⟨by grind, by grind⟩⟩
    rw [eq, ground_app_r (by grind) (by grind), sees_app_r x0 (by grind)]
    exact c
/-! ### towers -/
theorem tower_app {L R : List Int} [hL : Land L] [hA : Land (L ++ R)] {x : Rat} (x0 : 0 ≤ x) (x1 : x ≤ ((L.length - 1 : Nat) : Rat)) : cei (towerN L x - ground L x) ≤ cei (towerN (L ++ R) x - ground (L ++ R) x) := by
  have la := last_app (L := L) (M := R)
  obtain ⟨a, b⟩ := (tower_spec (L := L ++ R) (x := x) _).mp (Int.le_refl _)
  generalize cei (towerN (L ++ R) x - ground (L ++ R) x) = i at a b ⊢
  rw [tower_spec]
  refine ⟨a, ?_⟩
  rw [sees_all x0 (by grind), ground_app x0 x1] at b
  rw [sees_all x0 x1]
  intro y y0 y1
  have := b y y0 (by grind)
  rwa [ground_app y0 y1, sees_app x1 y1] at this
theorem tower_app_r {L R : List Int} [hL : Land L] [hR : Land R] [hA : Land (L ++ R)] {x : Rat} (x0 : 0 ≤ x) (x1 : x ≤ ((R.length - 1 : Nat) : Rat)) : cei (towerN R x - ground R x) ≤ cei (towerN (L ++ R) (x + (L.length : Rat)) - ground (L ++ R) (x + (L.length : Rat))) := by
  have la := last_app_r (L := L) (R := R) (by have := hR.lo; omega)
  have f0 : (0 : Rat) ≤ (L.length : Rat) := Rat.natCast_le_natCast.mpr (Nat.zero_le _)
  obtain ⟨a, b⟩ := (tower_spec (L := L ++ R) (x := x + (L.length : Rat)) _).mp (Int.le_refl _)
  generalize cei (towerN (L ++ R) (x + (L.length : Rat)) - ground (L ++ R) (x + (L.length : Rat))) = i at a b ⊢
  rw [tower_spec]
  refine ⟨a, ?_⟩
  rw [sees_all (by grind) (by grind), ground_app_r x0 x1] at b
  rw [sees_all x0 x1]
  intro y y0 y1
  have := b (y + (L.length : Rat)) (by grind) (by grind)
  rwa [ground_app_r y0 y1, sees_app_r x0 y0] at this
/-! ### watchers of both -/
theorem sight_app {L R : List Int} [hL : Land L] [hA : Land (L ++ R)] {e : Int} {p : Nat} (hp : p < L.length) {q : Rat} (m : Mem (sightL L e p) q) : Mem (sightL (L ++ R) e p) q := by
  have la := last_app (L := L) (M := R)
  have p0 : (0 : Rat) ≤ (p : Rat) := Rat.natCast_le_natCast.mpr (Nat.zero_le p)
  have p1 := nat_le_last (L := L) hp
  unfold sightL at m ⊢
  rw [seen_mem p0 p1] at m
  rw [seen_mem p0 (by grind), ground_app p0 p1]
  obtain ⟨a, b, c⟩ := m
  refine ⟨a, by grind, ?_⟩
  unfold Vis at c ⊢
  rw [ground_app a b, sees_app p1 b]; exact c
theorem sight_app_r {L R : List Int} [hL : Land L] [hR : Land R] [hA : Land (L ++ R)] {e : Int} {p : Nat} (hp : p < R.length) {q : Rat} (m : Mem (sightL R e p) q) : Mem (sightL (L ++ R) e (L.length + p)) (q + (L.length : Rat)) := by
  have la := last_app_r (L := L) (R := R) (by have := hR.lo; omega)
  have f0 : (0 : Rat) ≤ (L.length : Rat) := Rat.natCast_le_natCast.mpr (Nat.zero_le _)
  have p0 : (0 : Rat) ≤ (p : Rat) := Rat.natCast_le_natCast.mpr (Nat.zero_le p)
  have p1 := nat_le_last (L := R) hp
  have ec : ((L.length + p : Nat) : Rat) = (p : Rat) + (L.length : Rat) := by rw [Rat.natCast_add]; grind
  unfold sightL at m ⊢
  rw [seen_mem p0 p1] at m
  rw [ec, seen_mem (by grind) (by grind), ground_app_r p0 p1]
  obtain ⟨a, b, c⟩ := m
  refine ⟨by grind, by grind, ?_⟩
  unfold Vis at c ⊢
  rw [ground_app_r a b, sees_app_r p0 a]; exact c
def bothP (L R : List Int) (e : Int) : List Nat := fewL L e ++ (fewL R e).map fun p => L.length + p
theorem bothP_inc {L R : List Int} [hL : Land L] [hR : Land R] (e : Int) : Inc (L ++ R).length (bothP L R e) := by
  obtain ⟨a, -⟩ := few_all (L := L) e
  obtain ⟨b, -⟩ := few_all (L := R) e
  unfold bothP
  refine ⟨List.pairwise_append.mpr ⟨a.1, ?_, fun x hx y hy => ?_⟩, fun p hp => ?_⟩
  · rw [List.pairwise_map]; exact b.1.imp fun h => by omega
  · obtain ⟨z, hz, rfl⟩ := List.mem_map.mp hy
    have := a.2 x hx; omega
  · rw [List.length_append]
    rcases List.mem_append.mp hp with hp | hp
    · have := a.2 p hp; omega
    · obtain ⟨z, hz, rfl⟩ := List.mem_map.mp hp
      have := b.2 z hz; omega
theorem bothP_l {L R : List Int} [hL : Land L] [hR : Land R] [hA : Land (L ++ R)] {e : Int} {q : Rat} (q0 : 0 ≤ q) (q1 : q ≤ ((L.length - 1 : Nat) : Rat)) : ∃ p ∈ bothP L R e, Mem (sightL (L ++ R) e p) q := by
  obtain ⟨a, b⟩ := few_all (L := L) e
  obtain ⟨p, hp, m⟩ := b q q0 q1
  exact ⟨p, List.mem_append_left _ hp, sight_app (a.2 p hp) m⟩
theorem bothP_r {L R : List Int} [hL : Land L] [hR : Land R] [hA : Land (L ++ R)] {e : Int} {q : Rat} (q0 : (L.length : Rat) ≤ q) (q1 : q ≤ (((L ++ R).length - 1 : Nat) : Rat)) : ∃ p ∈ bothP L R e, Mem (sightL (L ++ R) e p) q := by
  have la := last_app_r (L := L) (R := R) (by have := hR.lo; omega)
  obtain ⟨a, b⟩ := few_all (L := R) e
  obtain ⟨p, hp, m⟩ := b (q - (L.length : Rat)) (by grind) (by grind)
  have := sight_app_r (L := L) (a.2 p hp) m
  have eq : q - (L.length : Rat) + (L.length : Rat) = q := by grind
  rw [eq] at this
  exact ⟨L.length + p, List.mem_append_right _ (List.mem_map.mpr ⟨p, hp, rfl⟩), this⟩
theorem len_last {L : List Int} [hL : Land L] : (L.length : Rat) = ((L.length - 1 : Nat) : Rat) + 1 := by
  have : L.length = (L.length - 1) + 1 := by have := hL.lo; omega
  conv => lhs; rw [this]
  rw [Rat.natCast_add]; rfl
theorem gap_both {L R : List Int} [hL : Land L] [hR : Land R] [hA : Land (L ++ R)] {e : Int} : ∀ g ∈ gapL (L ++ R) e (bothP L R e), ((L.length - 1 : Nat) : Rat) ≤ g.1 ∧ g.2 ≤ (L.length : Rat) := by
  intro g hg
  obtain ⟨a1, a2, a3, a4⟩ := gap_in (bothP_inc (L := L) (R := R) e).2 g hg
  have ll := len_last (L := L)
  constructor
  · apply Classical.byContradiction
    intro z
    have m1 : g.1 < rmin g.2 ((L.length - 1 : Nat) : Rat) := by unfold rmin; split <;> grind
    have m2 := mid_between m1
    have m3 := rmin_le g.2 ((L.length - 1 : Nat) : Rat)
    obtain ⟨p, hp, m⟩ := bothP_l (L := L) (R := R) (e := e) (q := (g.1 + rmin g.2 ((L.length - 1 : Nat) : Rat)) / 2) (by grind) (by grind)
    exact a4 _ m2.1 (by grind) p hp m
  · apply Classical.byContradiction
    intro z
    have m1 : rmax g.1 (L.length : Rat) < g.2 := by unfold rmax; split <;> grind
    have m2 := mid_between m1
    have m3 := rmax_ge g.1 (L.length : Rat)
    obtain ⟨p, hp, m⟩ := bothP_r (L := L) (R := R) (e := e) (q := (rmax g.1 (L.length : Rat) + g.2) / 2) (by grind) (by grind)
    exact a4 _ (by grind) m2.2 p hp m
theorem few_both {L R : List Int} [hL : Land L] [hR : Land R] [hA : Land (L ++ R)] (e : Int) : (fewL (L ++ R) e).length ≤ (bothP L R e).length + 1 := by
  have ll := len_last (L := L)
  have lo := hL.lo
  have lo' := hR.lo
  have hb := (bothP_inc (L := L) (R := R) e).2
  have := few_le (L := L ++ R) (e := e) (ps := bothP L R e ++ [L.length - 1]) (fun p hp => by
    rcases List.mem_append.mp hp with hp | hp
    · exact hb p hp
    · rw [List.mem_singleton.mp hp, List.length_append]; omega) (fun q q0 q1 => by
    by_cases c1 : q ≤ ((L.length - 1 : Nat) : Rat)
    · obtain ⟨p, hp, m⟩ := bothP_l (L := L) (R := R) (e := e) q0 c1
      exact ⟨p, List.mem_append_left _ hp, m⟩
    · by_cases c2 : (L.length : Rat) ≤ q
      · obtain ⟨p, hp, m⟩ := bothP_r (L := L) (R := R) (e := e) c2 q1
        exact ⟨p, List.mem_append_left _ hp, m⟩
      · exact ⟨L.length - 1, by simp, sight_near (i := L.length - 1) (by rw [List.length_append]; omega) (by grind) (by grind)⟩)
  rw [List.length_append, List.length_singleton] at this
  exact this
theorem moved_bd {L R : List Int} [hL : Land L] [hR : Land R] [hA : Land (L ++ R)] {y : Rat} (y0 : 0 ≤ y) (y1 : y ≤ ((R.length - 1 : Nat) : Rat)) (hd : y.den ≤ 6) : Bd 7 (y + (L.length : Rat)) := by
  have la := last_app_r (L := L) (R := R) (by have := hR.lo; omega)
  have f0 : (0 : Rat) ≤ (L.length : Rat) := Rat.natCast_le_natCast.mpr (Nat.zero_le _)
  have zd : (((R.length - 1 : Nat) : Rat) - y).den ≤ 6 := by
    rw [← far_frac (L := R) y]
    exact Nat.le_trans (divInt_den_le _ _ (den_ne y)) (by simpa using hd)
  have := far_bd (L := L ++ R) (x := ((R.length - 1 : Nat) : Rat) - y) (by grind) (by grind) zd
  have e : (((L ++ R).length - 1 : Nat) : Rat) - (((R.length - 1 : Nat) : Rat) - y) = y + (L.length : Rat) := by grind
  rwa [e] at this
end RS

namespace RS
open PySem
theorem is_within_ok (n : Nat) (i lo hi : Int) : interp P (n + 1) i_is_within [.int i, .int lo, .int hi] = .ok (.bl (decide (lo ≤ i) && decide (i ≤ hi))) := by
  rw [run_fn' f_is_within]
  simp only [D_is_within, env0, List.map_cons, List.map_nil, List.length_cons, List.length_nil, List.replicate_zero, List.replicate_succ, List.append_nil, List.nil_append, List.cons_append, Nat.sub_self, Nat.reduceSub, Nat.reduceAdd, ifT, len_ld, is_ld, rv_ld, sq_ld, dE_var, dE_int, dE_bl, dE_non, dE_str, dE_glob, dE_neg, dE_not, dE_bin, dE_cmp, dE_chain, dE_bop, dE_ite, dE_tup, dE_lst, dE_call, dE_bi, dE_isi, dE_ix, dE_slU, dE_slL, dE_slB, dE_rev, dE_olen, dE_oix, dE_fld, dE_new, dE_meth, nox_ok, ins_ins, fld_0, fld_1, fld_2, dT_tr, dT_otr, dT_cmp, dT_chain, dT_bop, dT_not, dS_try, try_nx, try_ret, dE_index, dE_split, dE_join, dE_trng, dT_chain3, dS_newll, lt_lst, lt_tup, dI_val, dI_own, dI_enum, dI_zip, dS_expr, dS_asg, dS_newl, dS_par, dS_par3, dS_unp, dS_ret, dS_ite, dS_rai, dS_frz, dS_mt, dS_seti, dS_aug, dEs_nil, dEs_cons, dB_one, dB_cons, dTs_nil, dTs_cons, dSs_nil, dSs_cons, b_add, b_sub, b_mul, b_fdiv, b_mod, b_pow, b_addT, b_addL, b_addS, c_lt, c_le, c_gt, c_ge, c_eq, c_ne, c_is, c_isnot, c_isB, c_isnotB, t_non, t_bl, t_int, t_lst, t_tup, n_neg, n_not, ix_tup, ix_lst, ix_scr, at_0, at_1, at_2, io_int, rv_lst, rv_tup, sl_lst, sl_tup, is_int, is_int_b, is_bl_b, is_bl_i, is_tup, is_lst, is_tup_l, is_lst_t, len_lst, len_tup, len_scr, bi_abs', bi_min', bi_max', bi_tupL, bi_tupT, bi_lstL, bi_lstT, sq_lst, sq_tup, ls_lst, s_one, s_two, g_app, ix_fr0, ix_fr1, is_fr, len_fr, ownAt, okB, excB, badB, out_ok, out_exc, then_nx, then_ret, then_exc, List.getElem?_cons_zero, List.getElem?_cons_succ, List.set_cons_zero, List.set_cons_succ, big, Nat.reduceLeDiff, Nat.reduceLT, fin_ret, fin_nx, fin_exc]
  by_cases h : lo ≤ i <;> simp [h]
theorem is_land_ok (n : Nat) (L : List Int) [hL : Land L] : interp P (n + 2) i_is_land [ld L] = .ok (.bl true) := by
  have lo := hL.lo
  have hi := hL.hi
  have l2 : (2 : Int) ≤ (L.length : Int) := by omega
  have l12 : (L.length : Int) ≤ 12 := by omega
  rw [run_fn' f_is_land]
  unfold ld
  simp only [D_is_land, env0, List.map_cons, List.map_nil, List.length_cons, List.length_nil, List.replicate_zero, List.replicate_succ, List.append_nil, List.nil_append, List.cons_append, Nat.sub_self, Nat.reduceSub, Nat.reduceAdd, ifT, len_ld, is_ld, rv_ld, sq_ld, dE_var, dE_int, dE_bl, dE_non, dE_str, dE_glob, dE_neg, dE_not, dE_bin, dE_cmp, dE_chain, dE_bop, dE_ite, dE_tup, dE_lst, dE_call, dE_bi, dE_isi, dE_ix, dE_slU, dE_slL, dE_slB, dE_rev, dE_olen, dE_oix, dE_fld, dE_new, dE_meth, nox_ok, ins_ins, fld_0, fld_1, fld_2, dT_tr, dT_otr, dT_cmp, dT_chain, dT_bop, dT_not, dS_try, try_nx, try_ret, dE_index, dE_split, dE_join, dE_trng, dT_chain3, dS_newll, lt_lst, lt_tup, dI_val, dI_own, dI_enum, dI_zip, dS_expr, dS_asg, dS_newl, dS_par, dS_par3, dS_unp, dS_ret, dS_ite, dS_rai, dS_frz, dS_mt, dS_seti, dS_aug, dEs_nil, dEs_cons, dB_one, dB_cons, dTs_nil, dTs_cons, dSs_nil, dSs_cons, b_add, b_sub, b_mul, b_fdiv, b_mod, b_pow, b_addT, b_addL, b_addS, c_lt, c_le, c_gt, c_ge, c_eq, c_ne, c_is, c_isnot, c_isB, c_isnotB, t_non, t_bl, t_int, t_lst, t_tup, n_neg, n_not, ix_tup, ix_lst, ix_scr, at_0, at_1, at_2, io_int, rv_lst, rv_tup, sl_lst, sl_tup, is_int, is_int_b, is_bl_b, is_bl_i, is_tup, is_lst, is_tup_l, is_lst_t, len_lst, len_tup, len_scr, bi_abs', bi_min', bi_max', bi_tupL, bi_tupT, bi_lstL, bi_lstT, sq_lst, sq_tup, ls_lst, s_one, s_two, g_app, ix_fr0, ix_fr1, is_fr, len_fr, ownAt, okB, excB, badB, out_ok, out_exc, then_nx, then_ret, then_exc, List.getElem?_cons_zero, List.getElem?_cons_succ, List.set_cons_zero, List.set_cons_succ, big, Nat.reduceLeDiff, Nat.reduceLT, fin_ret, fin_nx, fin_exc, gl_LEAST_SIZE, gl_MOST_SIZE, List.length_map, l2, l12, decide_true, Bool.not_true, Bool.false_eq_true, if_false]
  rw [comp_eq L D.int (fun _ => false) D.int (by simp only [List.map_cons, List.map_nil, List.length_cons, List.length_nil, List.replicate_zero, List.replicate_succ, List.append_nil, List.nil_append, List.cons_append, Nat.sub_self, Nat.reduceSub, Nat.reduceAdd, ifT, len_ld, is_ld, rv_ld, sq_ld, dE_var, dE_int, dE_bl, dE_non, dE_str, dE_glob, dE_neg, dE_not, dE_bin, dE_cmp, dE_chain, dE_bop, dE_ite, dE_tup, dE_lst, dE_call, dE_bi, dE_isi, dE_ix, dE_slU, dE_slL, dE_slB, dE_rev, dE_olen, dE_oix, dE_fld, dE_new, dE_meth, nox_ok, ins_ins, fld_0, fld_1, fld_2, dT_tr, dT_otr, dT_cmp, dT_chain, dT_bop, dT_not, dS_try, try_nx, try_ret, dE_index, dE_split, dE_join, dE_trng, dT_chain3, dS_newll, lt_lst, lt_tup, dI_val, dI_own, dI_enum, dI_zip, dS_expr, dS_asg, dS_newl, dS_par, dS_par3, dS_unp, dS_ret, dS_ite, dS_rai, dS_frz, dS_mt, dS_seti, dS_aug, dEs_nil, dEs_cons, dB_one, dB_cons, dTs_nil, dTs_cons, dSs_nil, dSs_cons, b_add, b_sub, b_mul, b_fdiv, b_mod, b_pow, b_addT, b_addL, b_addS, c_lt, c_le, c_gt, c_ge, c_eq, c_ne, c_is, c_isnot, c_isB, c_isnotB, t_non, t_bl, t_int, t_lst, t_tup, n_neg, n_not, ix_tup, ix_lst, ix_scr, at_0, at_1, at_2, io_int, rv_lst, rv_tup, sl_lst, sl_tup, is_int, is_int_b, is_bl_b, is_bl_i, is_tup, is_lst, is_tup_l, is_lst_t, len_lst, len_tup, len_scr, bi_abs', bi_min', bi_max', bi_tupL, bi_tupT, bi_lstL, bi_lstT, sq_lst, sq_tup, ls_lst, s_one, s_two, g_app, ix_fr0, ix_fr1, is_fr, len_fr, ownAt, okB, excB, badB, out_ok, out_exc, then_nx, then_ret, then_exc, List.getElem?_cons_zero, List.getElem?_cons_succ, List.set_cons_zero, List.set_cons_succ, big, Nat.reduceLeDiff, Nat.reduceLT, fin_ret, fin_nx, fin_exc]) (by unfold big; omega) fun x hx => ⟨?_, fun h => by cases h⟩]
  · simp [List.map_cons, List.map_nil, List.length_cons, List.length_nil, List.replicate_zero, List.replicate_succ, List.append_nil, List.nil_append, List.cons_append, Nat.sub_self, Nat.reduceSub, Nat.reduceAdd, ifT, len_ld, is_ld, rv_ld, sq_ld, dE_var, dE_int, dE_bl, dE_non, dE_str, dE_glob, dE_neg, dE_not, dE_bin, dE_cmp, dE_chain, dE_bop, dE_ite, dE_tup, dE_lst, dE_call, dE_bi, dE_isi, dE_ix, dE_slU, dE_slL, dE_slB, dE_rev, dE_olen, dE_oix, dE_fld, dE_new, dE_meth, nox_ok, ins_ins, fld_0, fld_1, fld_2, dT_tr, dT_otr, dT_cmp, dT_chain, dT_bop, dT_not, dS_try, try_nx, try_ret, dE_index, dE_split, dE_join, dE_trng, dT_chain3, dS_newll, lt_lst, lt_tup, dI_val, dI_own, dI_enum, dI_zip, dS_expr, dS_asg, dS_newl, dS_par, dS_par3, dS_unp, dS_ret, dS_ite, dS_rai, dS_frz, dS_mt, dS_seti, dS_aug, dEs_nil, dEs_cons, dB_one, dB_cons, dTs_nil, dTs_cons, dSs_nil, dSs_cons, b_add, b_sub, b_mul, b_fdiv, b_mod, b_pow, b_addT, b_addL, b_addS, c_lt, c_le, c_gt, c_ge, c_eq, c_ne, c_is, c_isnot, c_isB, c_isnotB, t_non, t_bl, t_int, t_lst, t_tup, n_neg, n_not, ix_tup, ix_lst, ix_scr, at_0, at_1, at_2, io_int, rv_lst, rv_tup, sl_lst, sl_tup, is_int, is_int_b, is_bl_b, is_bl_i, is_tup, is_lst, is_tup_l, is_lst_t, len_lst, len_tup, len_scr, bi_abs', bi_min', bi_max', bi_tupL, bi_tupT, bi_lstL, bi_lstT, sq_lst, sq_tup, ls_lst, s_one, s_two, g_app, ix_fr0, ix_fr1, is_fr, len_fr, ownAt, okB, excB, badB, out_ok, out_exc, then_nx, then_ret, then_exc, List.getElem?_cons_zero, List.getElem?_cons_succ, List.set_cons_zero, List.set_cons_succ, big, Nat.reduceLeDiff, Nat.reduceLT, fin_ret, fin_nx, fin_exc]
  · obtain ⟨h1, h2⟩ := hL.h x hx
    simp only [List.map_cons, List.map_nil, List.length_cons, List.length_nil, List.replicate_zero, List.replicate_succ, List.append_nil, List.nil_append, List.cons_append, Nat.sub_self, Nat.reduceSub, Nat.reduceAdd, ifT, len_ld, is_ld, rv_ld, sq_ld, dE_var, dE_int, dE_bl, dE_non, dE_str, dE_glob, dE_neg, dE_not, dE_bin, dE_cmp, dE_chain, dE_bop, dE_ite, dE_tup, dE_lst, dE_call, dE_bi, dE_isi, dE_ix, dE_slU, dE_slL, dE_slB, dE_rev, dE_olen, dE_oix, dE_fld, dE_new, dE_meth, nox_ok, ins_ins, fld_0, fld_1, fld_2, dT_tr, dT_otr, dT_cmp, dT_chain, dT_bop, dT_not, dS_try, try_nx, try_ret, dE_index, dE_split, dE_join, dE_trng, dT_chain3, dS_newll, lt_lst, lt_tup, dI_val, dI_own, dI_enum, dI_zip, dS_expr, dS_asg, dS_newl, dS_par, dS_par3, dS_unp, dS_ret, dS_ite, dS_rai, dS_frz, dS_mt, dS_seti, dS_aug, dEs_nil, dEs_cons, dB_one, dB_cons, dTs_nil, dTs_cons, dSs_nil, dSs_cons, b_add, b_sub, b_mul, b_fdiv, b_mod, b_pow, b_addT, b_addL, b_addS, c_lt, c_le, c_gt, c_ge, c_eq, c_ne, c_is, c_isnot, c_isB, c_isnotB, t_non, t_bl, t_int, t_lst, t_tup, n_neg, n_not, ix_tup, ix_lst, ix_scr, at_0, at_1, at_2, io_int, rv_lst, rv_tup, sl_lst, sl_tup, is_int, is_int_b, is_bl_b, is_bl_i, is_tup, is_lst, is_tup_l, is_lst_t, len_lst, len_tup, len_scr, bi_abs', bi_min', bi_max', bi_tupL, bi_tupT, bi_lstL, bi_lstT, sq_lst, sq_tup, ls_lst, s_one, s_two, g_app, ix_fr0, ix_fr1, is_fr, len_fr, ownAt, okB, excB, badB, out_ok, out_exc, then_nx, then_ret, then_exc, List.getElem?_cons_zero, List.getElem?_cons_succ, List.set_cons_zero, List.set_cons_succ, big, Nat.reduceLeDiff, Nat.reduceLT, fin_ret, fin_nx, fin_exc, gl_MOST_HEIGHT, is_within_ok, h1, h2, decide_true, Bool.and_self, Bool.not_true, Bool.false_eq_true, if_false]
theorem checked_ok (n : Nat) (L : List Int) [Land L] : interp P (n + 3) i_checked [ld L] = .ok (ld L) := by
  rw [run_fn' f_checked]
  simp only [D_checked, env0, List.map_cons, List.map_nil, List.length_cons, List.length_nil, List.replicate_zero, List.replicate_succ, List.append_nil, List.nil_append, List.cons_append, Nat.sub_self, Nat.reduceSub, Nat.reduceAdd, ifT, len_ld, is_ld, rv_ld, sq_ld, dE_var, dE_int, dE_bl, dE_non, dE_str, dE_glob, dE_neg, dE_not, dE_bin, dE_cmp, dE_chain, dE_bop, dE_ite, dE_tup, dE_lst, dE_call, dE_bi, dE_isi, dE_ix, dE_slU, dE_slL, dE_slB, dE_rev, dE_olen, dE_oix, dE_fld, dE_new, dE_meth, nox_ok, ins_ins, fld_0, fld_1, fld_2, dT_tr, dT_otr, dT_cmp, dT_chain, dT_bop, dT_not, dS_try, try_nx, try_ret, dE_index, dE_split, dE_join, dE_trng, dT_chain3, dS_newll, lt_lst, lt_tup, dI_val, dI_own, dI_enum, dI_zip, dS_expr, dS_asg, dS_newl, dS_par, dS_par3, dS_unp, dS_ret, dS_ite, dS_rai, dS_frz, dS_mt, dS_seti, dS_aug, dEs_nil, dEs_cons, dB_one, dB_cons, dTs_nil, dTs_cons, dSs_nil, dSs_cons, b_add, b_sub, b_mul, b_fdiv, b_mod, b_pow, b_addT, b_addL, b_addS, c_lt, c_le, c_gt, c_ge, c_eq, c_ne, c_is, c_isnot, c_isB, c_isnotB, t_non, t_bl, t_int, t_lst, t_tup, n_neg, n_not, ix_tup, ix_lst, ix_scr, at_0, at_1, at_2, io_int, rv_lst, rv_tup, sl_lst, sl_tup, is_int, is_int_b, is_bl_b, is_bl_i, is_tup, is_lst, is_tup_l, is_lst_t, len_lst, len_tup, len_scr, bi_abs', bi_min', bi_max', bi_tupL, bi_tupT, bi_lstL, bi_lstT, sq_lst, sq_tup, ls_lst, s_one, s_two, g_app, ix_fr0, ix_fr1, is_fr, len_fr, ownAt, okB, excB, badB, out_ok, out_exc, then_nx, then_ret, then_exc, List.getElem?_cons_zero, List.getElem?_cons_succ, List.set_cons_zero, List.set_cons_succ, big, Nat.reduceLeDiff, Nat.reduceLT, fin_ret, fin_nx, fin_exc, is_land_ok, Bool.not_true, Bool.false_eq_true, if_false]
theorem law_cell_ok (n : Nat) (ns : List Int) (k : Nat) : interp P (n + 1) i_law_cell [.scr ns, .int (k : Nat)] = .ok (.int (cell ns k)) := by
  rw [run_fn' f_law_cell]
  unfold cell
  by_cases h : k < ns.length
  · have h' : ((k : Nat) : Int) < (ns.length : Int) := by omega
    have a : L2.atI ns ((k : Nat) : Int) = some (ns.getD k 0) := L2.atI_nat (by rw [List.getD_eq_getElem?_getD, List.getElem?_eq_getElem h]; rfl)
    simp only [D_law_cell, env0, List.map_cons, List.map_nil, List.length_cons, List.length_nil, List.replicate_zero, List.replicate_succ, List.append_nil, List.nil_append, List.cons_append, Nat.sub_self, Nat.reduceSub, Nat.reduceAdd, ifT, len_ld, is_ld, rv_ld, sq_ld, dE_var, dE_int, dE_bl, dE_non, dE_str, dE_glob, dE_neg, dE_not, dE_bin, dE_cmp, dE_chain, dE_bop, dE_ite, dE_tup, dE_lst, dE_call, dE_bi, dE_isi, dE_ix, dE_slU, dE_slL, dE_slB, dE_rev, dE_olen, dE_oix, dE_fld, dE_new, dE_meth, nox_ok, ins_ins, fld_0, fld_1, fld_2, dT_tr, dT_otr, dT_cmp, dT_chain, dT_bop, dT_not, dS_try, try_nx, try_ret, dE_index, dE_split, dE_join, dE_trng, dT_chain3, dS_newll, lt_lst, lt_tup, dI_val, dI_own, dI_enum, dI_zip, dS_expr, dS_asg, dS_newl, dS_par, dS_par3, dS_unp, dS_ret, dS_ite, dS_rai, dS_frz, dS_mt, dS_seti, dS_aug, dEs_nil, dEs_cons, dB_one, dB_cons, dTs_nil, dTs_cons, dSs_nil, dSs_cons, b_add, b_sub, b_mul, b_fdiv, b_mod, b_pow, b_addT, b_addL, b_addS, c_lt, c_le, c_gt, c_ge, c_eq, c_ne, c_is, c_isnot, c_isB, c_isnotB, t_non, t_bl, t_int, t_lst, t_tup, n_neg, n_not, ix_tup, ix_lst, ix_scr, at_0, at_1, at_2, io_int, rv_lst, rv_tup, sl_lst, sl_tup, is_int, is_int_b, is_bl_b, is_bl_i, is_tup, is_lst, is_tup_l, is_lst_t, len_lst, len_tup, len_scr, bi_abs', bi_min', bi_max', bi_tupL, bi_tupT, bi_lstL, bi_lstT, sq_lst, sq_tup, ls_lst, s_one, s_two, g_app, ix_fr0, ix_fr1, is_fr, len_fr, ownAt, okB, excB, badB, out_ok, out_exc, then_nx, then_ret, then_exc, List.getElem?_cons_zero, List.getElem?_cons_succ, List.set_cons_zero, List.set_cons_succ, big, Nat.reduceLeDiff, Nat.reduceLT, fin_ret, fin_nx, fin_exc, h', decide_true, a]
  · have h' : ¬ ((k : Nat) : Int) < (ns.length : Int) := by omega
    have e : ns.getD k 0 = 0 := by rw [List.getD_eq_getElem?_getD, List.getElem?_eq_none (by omega)]; rfl
    simp only [D_law_cell, env0, List.map_cons, List.map_nil, List.length_cons, List.length_nil, List.replicate_zero, List.replicate_succ, List.append_nil, List.nil_append, List.cons_append, Nat.sub_self, Nat.reduceSub, Nat.reduceAdd, ifT, len_ld, is_ld, rv_ld, sq_ld, dE_var, dE_int, dE_bl, dE_non, dE_str, dE_glob, dE_neg, dE_not, dE_bin, dE_cmp, dE_chain, dE_bop, dE_ite, dE_tup, dE_lst, dE_call, dE_bi, dE_isi, dE_ix, dE_slU, dE_slL, dE_slB, dE_rev, dE_olen, dE_oix, dE_fld, dE_new, dE_meth, nox_ok, ins_ins, fld_0, fld_1, fld_2, dT_tr, dT_otr, dT_cmp, dT_chain, dT_bop, dT_not, dS_try, try_nx, try_ret, dE_index, dE_split, dE_join, dE_trng, dT_chain3, dS_newll, lt_lst, lt_tup, dI_val, dI_own, dI_enum, dI_zip, dS_expr, dS_asg, dS_newl, dS_par, dS_par3, dS_unp, dS_ret, dS_ite, dS_rai, dS_frz, dS_mt, dS_seti, dS_aug, dEs_nil, dEs_cons, dB_one, dB_cons, dTs_nil, dTs_cons, dSs_nil, dSs_cons, b_add, b_sub, b_mul, b_fdiv, b_mod, b_pow, b_addT, b_addL, b_addS, c_lt, c_le, c_gt, c_ge, c_eq, c_ne, c_is, c_isnot, c_isB, c_isnotB, t_non, t_bl, t_int, t_lst, t_tup, n_neg, n_not, ix_tup, ix_lst, ix_scr, at_0, at_1, at_2, io_int, rv_lst, rv_tup, sl_lst, sl_tup, is_int, is_int_b, is_bl_b, is_bl_i, is_tup, is_lst, is_tup_l, is_lst_t, len_lst, len_tup, len_scr, bi_abs', bi_min', bi_max', bi_tupL, bi_tupT, bi_lstL, bi_lstT, sq_lst, sq_tup, ls_lst, s_one, s_two, g_app, ix_fr0, ix_fr1, is_fr, len_fr, ownAt, okB, excB, badB, out_ok, out_exc, then_nx, then_ret, then_exc, List.getElem?_cons_zero, List.getElem?_cons_succ, List.set_cons_zero, List.set_cons_succ, big, Nat.reduceLeDiff, Nat.reduceLT, fin_ret, fin_nx, fin_exc, h', decide_false, Bool.false_eq_true, if_false, e]
theorem law_mix_ok (n : Nat) (c p m : Int) (h1 : 0 < p) (h2 : p < 100000) (h3 : 0 < m) : interp P (n + 1) i_law_mix [.int c, .int p, .int m] = .ok (.int (mix c p m)) := by
  have e1 : mulOk c 48271 = true := by unfold mulOk; simp
  have l1 := Int.emod_nonneg (c * 48271) (show p ≠ 0 by omega)
  have l2 := Int.emod_lt_of_pos (c * 48271) h1
  have e2 : ((c * 48271) % p).natAbs < 2 ^ 64 := by omega
  rw [run_fn' f_law_mix]
  simp only [D_law_mix, env0, List.map_cons, List.map_nil, List.length_cons, List.length_nil, List.replicate_zero, List.replicate_succ, List.append_nil, List.nil_append, List.cons_append, Nat.sub_self, Nat.reduceSub, Nat.reduceAdd, ifT, len_ld, is_ld, rv_ld, sq_ld, dE_var, dE_int, dE_bl, dE_non, dE_str, dE_glob, dE_neg, dE_not, dE_bin, dE_cmp, dE_chain, dE_bop, dE_ite, dE_tup, dE_lst, dE_call, dE_bi, dE_isi, dE_ix, dE_slU, dE_slL, dE_slB, dE_rev, dE_olen, dE_oix, dE_fld, dE_new, dE_meth, nox_ok, ins_ins, fld_0, fld_1, fld_2, dT_tr, dT_otr, dT_cmp, dT_chain, dT_bop, dT_not, dS_try, try_nx, try_ret, dE_index, dE_split, dE_join, dE_trng, dT_chain3, dS_newll, lt_lst, lt_tup, dI_val, dI_own, dI_enum, dI_zip, dS_expr, dS_asg, dS_newl, dS_par, dS_par3, dS_unp, dS_ret, dS_ite, dS_rai, dS_frz, dS_mt, dS_seti, dS_aug, dEs_nil, dEs_cons, dB_one, dB_cons, dTs_nil, dTs_cons, dSs_nil, dSs_cons, b_add, b_sub, b_mul, b_fdiv, b_mod, b_pow, b_addT, b_addL, b_addS, c_lt, c_le, c_gt, c_ge, c_eq, c_ne, c_is, c_isnot, c_isB, c_isnotB, t_non, t_bl, t_int, t_lst, t_tup, n_neg, n_not, ix_tup, ix_lst, ix_scr, at_0, at_1, at_2, io_int, rv_lst, rv_tup, sl_lst, sl_tup, is_int, is_int_b, is_bl_b, is_bl_i, is_tup, is_lst, is_tup_l, is_lst_t, len_lst, len_tup, len_scr, bi_abs', bi_min', bi_max', bi_tupL, bi_tupT, bi_lstL, bi_lstT, sq_lst, sq_tup, ls_lst, s_one, s_two, g_app, ix_fr0, ix_fr1, is_fr, len_fr, ownAt, okB, excB, badB, out_ok, out_exc, then_nx, then_ret, then_exc, List.getElem?_cons_zero, List.getElem?_cons_succ, List.set_cons_zero, List.set_cons_succ, big, Nat.reduceLeDiff, Nat.reduceLT, fin_ret, fin_nx, fin_exc, e1, h1, h3, e2, decide_true, Bool.and_self, show (0 : Int) ≤ 3 by decide, show (3 : Int) ≤ 1000000 by decide]
  rfl
theorem law_land_fin (n : Nat) (ns : List Int) (at_ many : Nat) (hmn : many ≤ 12) (hm : 4 ≤ mostOf ns at_) : denE (interp P (n + 1)) P.gl (.comp (.call i_law_mix (.cons (.bin .add (.bin .add (.call i_law_cell (.cons (.var 0) (.cons (.bin .add (.bin .add (.var 1) (.int 1)) (.bin .mod (.var 6) (.int 8))) .nil))) (.bin .mul (.bin .mul (.int 37) (.var 6)) (.var 6))) (.var 6)) (.cons (.int 9949) (.cons (.var 4) .nil)))) (.one 6) (.rng1 (.var 3)) .nil)
      [.val (.scr ns), .val (.int (at_ : Nat)), .val (.int (cell ns at_)), .val (.int (many : Nat)), .val (.int (mostOf ns at_)), .un, .un] = .ok (.lst ((List.range many).map fun k => .int (hAt ns at_ k))) := by
  rw [comp_all (List.range many) (fun k => .int (k : Nat)) (fun k => .int (hAt ns at_ k)) ?_ (by simp [big]; omega) ?_]
  · exact rng1_ok (by simp only [List.map_cons, List.map_nil, List.length_cons, List.length_nil, List.replicate_zero, List.replicate_succ, List.append_nil, List.nil_append, List.cons_append, Nat.sub_self, Nat.reduceSub, Nat.reduceAdd, ifT, len_ld, is_ld, rv_ld, sq_ld, dE_var, dE_int, dE_bl, dE_non, dE_str, dE_glob, dE_neg, dE_not, dE_bin, dE_cmp, dE_chain, dE_bop, dE_ite, dE_tup, dE_lst, dE_call, dE_bi, dE_isi, dE_ix, dE_slU, dE_slL, dE_slB, dE_rev, dE_olen, dE_oix, dE_fld, dE_new, dE_meth, nox_ok, ins_ins, fld_0, fld_1, fld_2, dT_tr, dT_otr, dT_cmp, dT_chain, dT_bop, dT_not, dS_try, try_nx, try_ret, dE_index, dE_split, dE_join, dE_trng, dT_chain3, dS_newll, lt_lst, lt_tup, dI_val, dI_own, dI_enum, dI_zip, dS_expr, dS_asg, dS_newl, dS_par, dS_par3, dS_unp, dS_ret, dS_ite, dS_rai, dS_frz, dS_mt, dS_seti, dS_aug, dEs_nil, dEs_cons, dB_one, dB_cons, dTs_nil, dTs_cons, dSs_nil, dSs_cons, b_add, b_sub, b_mul, b_fdiv, b_mod, b_pow, b_addT, b_addL, b_addS, c_lt, c_le, c_gt, c_ge, c_eq, c_ne, c_is, c_isnot, c_isB, c_isnotB, t_non, t_bl, t_int, t_lst, t_tup, n_neg, n_not, ix_tup, ix_lst, ix_scr, at_0, at_1, at_2, io_int, rv_lst, rv_tup, sl_lst, sl_tup, is_int, is_int_b, is_bl_b, is_bl_i, is_tup, is_lst, is_tup_l, is_lst_t, len_lst, len_tup, len_scr, bi_abs', bi_min', bi_max', bi_tupL, bi_tupT, bi_lstL, bi_lstT, sq_lst, sq_tup, ls_lst, s_one, s_two, g_app, ix_fr0, ix_fr1, is_fr, len_fr, ownAt, okB, excB, badB, out_ok, out_exc, then_nx, then_ret, then_exc, List.getElem?_cons_zero, List.getElem?_cons_succ, List.set_cons_zero, List.set_cons_succ, big, Nat.reduceLeDiff, Nat.reduceLT, fin_ret, fin_nx, fin_exc]) (by omega)
  · intro k hk
    have hk := List.mem_range.mp hk
    have e1 : mulOk 37 ((k : Nat) : Int) = true := by unfold mulOk; simp
    have e2 : mulOk (37 * ((k : Nat) : Int)) ((k : Nat) : Int) = true := by
      simp only [mulOk, Bool.or_eq_true, decide_eq_true_eq]; exact .inl (.inl (by omega))
    have e3 : ((at_ : Nat) : Int) + 1 + ((k : Nat) : Int) % 8 = ((at_ + 1 + k % 8 : Nat) : Int) := by omega
    simp only [List.map_cons, List.map_nil, List.length_cons, List.length_nil, List.replicate_zero, List.replicate_succ, List.append_nil, List.nil_append, List.cons_append, Nat.sub_self, Nat.reduceSub, Nat.reduceAdd, ifT, len_ld, is_ld, rv_ld, sq_ld, dE_var, dE_int, dE_bl, dE_non, dE_str, dE_glob, dE_neg, dE_not, dE_bin, dE_cmp, dE_chain, dE_bop, dE_ite, dE_tup, dE_lst, dE_call, dE_bi, dE_isi, dE_ix, dE_slU, dE_slL, dE_slB, dE_rev, dE_olen, dE_oix, dE_fld, dE_new, dE_meth, nox_ok, ins_ins, fld_0, fld_1, fld_2, dT_tr, dT_otr, dT_cmp, dT_chain, dT_bop, dT_not, dS_try, try_nx, try_ret, dE_index, dE_split, dE_join, dE_trng, dT_chain3, dS_newll, lt_lst, lt_tup, dI_val, dI_own, dI_enum, dI_zip, dS_expr, dS_asg, dS_newl, dS_par, dS_par3, dS_unp, dS_ret, dS_ite, dS_rai, dS_frz, dS_mt, dS_seti, dS_aug, dEs_nil, dEs_cons, dB_one, dB_cons, dTs_nil, dTs_cons, dSs_nil, dSs_cons, b_add, b_sub, b_mul, b_fdiv, b_mod, b_pow, b_addT, b_addL, b_addS, c_lt, c_le, c_gt, c_ge, c_eq, c_ne, c_is, c_isnot, c_isB, c_isnotB, t_non, t_bl, t_int, t_lst, t_tup, n_neg, n_not, ix_tup, ix_lst, ix_scr, at_0, at_1, at_2, io_int, rv_lst, rv_tup, sl_lst, sl_tup, is_int, is_int_b, is_bl_b, is_bl_i, is_tup, is_lst, is_tup_l, is_lst_t, len_lst, len_tup, len_scr, bi_abs', bi_min', bi_max', bi_tupL, bi_tupT, bi_lstL, bi_lstT, sq_lst, sq_tup, ls_lst, s_one, s_two, g_app, ix_fr0, ix_fr1, is_fr, len_fr, ownAt, okB, excB, badB, out_ok, out_exc, then_nx, then_ret, then_exc, List.getElem?_cons_zero, List.getElem?_cons_succ, List.set_cons_zero, List.set_cons_succ, big, Nat.reduceLeDiff, Nat.reduceLT, fin_ret, fin_nx, fin_exc, e1, e2, show (0 : Int) < 8 by decide, e3, law_cell_ok n ns (at_ + 1 + k % 8), law_mix_ok n _ 9949 (mostOf ns at_) (by decide) (by decide) (by omega), hAt]
theorem law_land_most (ns : List Int) (at_ : Nat) : L2.atI [D.int 4, .int 9, .int 30, .int 900] (mix (cell ns at_) 9967 4) = some (.int (mostOf ns at_)) := by
  have m4 := mix_bd (cell ns at_) 9967 4 (by decide)
  unfold mostOf
  generalize mix (cell ns at_) 9967 4 = i at m4 ⊢
  refine atI_int m4.1 ?_
  have : i.toNat = 0 ∨ i.toNat = 1 ∨ i.toNat = 2 ∨ i.toNat = 3 := by omega
  rcases this with h | h | h | h <;> rw [h] <;> rfl
theorem law_land_many (ns : List Int) (at_ : Nat) : (if mix (cell ns 0 + 7 * (ns.length : Int)) 9871 8 = 3 then 2 + mix (cell ns at_) 9973 11 else 2 + mix (cell ns at_) 9973 6) = ((manyOf ns at_ : Nat) : Int) := by
  have a1 := mix_bd (cell ns at_) 9973 11 (by decide)
  have a2 := mix_bd (cell ns at_) 9973 6 (by decide)
  unfold manyOf; split <;> omega
theorem law_land_ret (ns : List Int) (at_ : Nat) : D.tup ((List.range (manyOf ns at_)).map fun (k : Nat) => D.int (hAt ns at_ k)) = ld (lawLand ns at_) := by
  unfold ld lawLand
  rw [List.map_map]
  congr 1
theorem law_land_ok (n : Nat) (ns : List Int) (at_ : Nat) : interp P (n + 2) i_law_land [.scr ns, .int (at_ : Nat)] = .ok (ld (lawLand ns at_)) := by
  have hm := mostOf_bd ns at_
  have hmany := manyOf_bd ns at_
  have c0 : interp P (n + 1) i_law_cell [.scr ns, .int 0] = .ok (.int (cell ns 0)) := law_cell_ok n ns 0
  have cA := law_cell_ok n ns at_
  have seven : mulOk 7 (ns.length : Int) = true := by unfold mulOk; simp
  have q1 := law_mix_ok n (cell ns at_) 9973 6 (by decide) (by decide) (by decide)
  have q2 := law_mix_ok n (cell ns at_) 9973 11 (by decide) (by decide) (by decide)
  have q3 := law_mix_ok n (cell ns 0 + 7 * (ns.length : Int)) 9871 8 (by decide) (by decide) (by decide)
  have q4 := law_mix_ok n (cell ns at_) 9967 4 (by decide) (by decide) (by decide)
  have e5 := law_land_many ns at_
  have mw := law_land_most ns at_
  have fin := law_land_fin n ns at_ _ hmany.2 hm.1
  have rt := law_land_ret ns at_
  generalize mix (cell ns at_) 9973 6 = v1 at q1 e5
  generalize mix (cell ns at_) 9973 11 = v2 at q2 e5
  generalize mix (cell ns 0 + 7 * (ns.length : Int)) 9871 8 = v3 at q3 e5
  generalize mix (cell ns at_) 9967 4 = v4 at q4 mw
  generalize cell ns 0 = a0 at c0 q3
  generalize cell ns at_ = aA at cA q1 q2 q4 fin
  generalize lawLand ns at_ = LL at rt ⊢
  generalize manyOf ns at_ = mn at e5 fin rt
  generalize mostOf ns at_ = ms at mw fin
  rw [run_fn' f_law_land]
  simp only [D_law_land, env0, List.map_cons, List.map_nil, List.length_cons, List.length_nil, List.replicate_zero, List.replicate_succ, List.append_nil, List.nil_append, List.cons_append, Nat.sub_self, Nat.reduceSub, Nat.reduceAdd, ifT, len_ld, is_ld, rv_ld, sq_ld, dE_var, dE_int, dE_bl, dE_non, dE_str, dE_glob, dE_neg, dE_not, dE_bin, dE_cmp, dE_chain, dE_bop, dE_ite, dE_tup, dE_lst, dE_call, dE_bi, dE_isi, dE_ix, dE_slU, dE_slL, dE_slB, dE_rev, dE_olen, dE_oix, dE_fld, dE_new, dE_meth, nox_ok, ins_ins, fld_0, fld_1, fld_2, dT_tr, dT_otr, dT_cmp, dT_chain, dT_bop, dT_not, dS_try, try_nx, try_ret, dE_index, dE_split, dE_join, dE_trng, dT_chain3, dS_newll, lt_lst, lt_tup, dI_val, dI_own, dI_enum, dI_zip, dS_expr, dS_asg, dS_newl, dS_par, dS_par3, dS_unp, dS_ret, dS_ite, dS_rai, dS_frz, dS_mt, dS_seti, dS_aug, dEs_nil, dEs_cons, dB_one, dB_cons, dTs_nil, dTs_cons, dSs_nil, dSs_cons, b_add, b_sub, b_mul, b_fdiv, b_mod, b_pow, b_addT, b_addL, b_addS, c_lt, c_le, c_gt, c_ge, c_eq, c_ne, c_is, c_isnot, c_isB, c_isnotB, t_non, t_bl, t_int, t_lst, t_tup, n_neg, n_not, ix_tup, ix_lst, ix_scr, at_0, at_1, at_2, io_int, rv_lst, rv_tup, sl_lst, sl_tup, is_int, is_int_b, is_bl_b, is_bl_i, is_tup, is_lst, is_tup_l, is_lst_t, len_lst, len_tup, len_scr, bi_abs', bi_min', bi_max', bi_tupL, bi_tupT, bi_lstL, bi_lstT, sq_lst, sq_tup, ls_lst, s_one, s_two, g_app, ix_fr0, ix_fr1, is_fr, len_fr, ownAt, okB, excB, badB, out_ok, out_exc, then_nx, then_ret, then_exc, List.getElem?_cons_zero, List.getElem?_cons_succ, List.set_cons_zero, List.set_cons_succ, big, Nat.reduceLeDiff, Nat.reduceLT, fin_ret, fin_nx, fin_exc, cA, q1, c0, seven, q3, shp_int, Bool.and_self, eqv_int]
  by_cases h3 : v3 = 3
  · rw [if_pos h3] at e5
    simp only [h3, beq_self_eq_true, List.map_cons, List.map_nil, List.length_cons, List.length_nil, List.replicate_zero, List.replicate_succ, List.append_nil, List.nil_append, List.cons_append, Nat.sub_self, Nat.reduceSub, Nat.reduceAdd, ifT, len_ld, is_ld, rv_ld, sq_ld, dE_var, dE_int, dE_bl, dE_non, dE_str, dE_glob, dE_neg, dE_not, dE_bin, dE_cmp, dE_chain, dE_bop, dE_ite, dE_tup, dE_lst, dE_call, dE_bi, dE_isi, dE_ix, dE_slU, dE_slL, dE_slB, dE_rev, dE_olen, dE_oix, dE_fld, dE_new, dE_meth, nox_ok, ins_ins, fld_0, fld_1, fld_2, dT_tr, dT_otr, dT_cmp, dT_chain, dT_bop, dT_not, dS_try, try_nx, try_ret, dE_index, dE_split, dE_join, dE_trng, dT_chain3, dS_newll, lt_lst, lt_tup, dI_val, dI_own, dI_enum, dI_zip, dS_expr, dS_asg, dS_newl, dS_par, dS_par3, dS_unp, dS_ret, dS_ite, dS_rai, dS_frz, dS_mt, dS_seti, dS_aug, dEs_nil, dEs_cons, dB_one, dB_cons, dTs_nil, dTs_cons, dSs_nil, dSs_cons, b_add, b_sub, b_mul, b_fdiv, b_mod, b_pow, b_addT, b_addL, b_addS, c_lt, c_le, c_gt, c_ge, c_eq, c_ne, c_is, c_isnot, c_isB, c_isnotB, t_non, t_bl, t_int, t_lst, t_tup, n_neg, n_not, ix_tup, ix_lst, ix_scr, at_0, at_1, at_2, io_int, rv_lst, rv_tup, sl_lst, sl_tup, is_int, is_int_b, is_bl_b, is_bl_i, is_tup, is_lst, is_tup_l, is_lst_t, len_lst, len_tup, len_scr, bi_abs', bi_min', bi_max', bi_tupL, bi_tupT, bi_lstL, bi_lstT, sq_lst, sq_tup, ls_lst, s_one, s_two, g_app, ix_fr0, ix_fr1, is_fr, len_fr, ownAt, okB, excB, badB, out_ok, out_exc, then_nx, then_ret, then_exc, List.getElem?_cons_zero, List.getElem?_cons_succ, List.set_cons_zero, List.set_cons_succ, big, Nat.reduceLeDiff, Nat.reduceLT, fin_ret, fin_nx, fin_exc, q2, q4, mw, e5, fin, rt]
  · rw [if_neg h3] at e5
    have h3' : (v3 == 3) = false := by simpa using h3
    simp only [h3', Bool.false_eq_true, if_false, List.map_cons, List.map_nil, List.length_cons, List.length_nil, List.replicate_zero, List.replicate_succ, List.append_nil, List.nil_append, List.cons_append, Nat.sub_self, Nat.reduceSub, Nat.reduceAdd, ifT, len_ld, is_ld, rv_ld, sq_ld, dE_var, dE_int, dE_bl, dE_non, dE_str, dE_glob, dE_neg, dE_not, dE_bin, dE_cmp, dE_chain, dE_bop, dE_ite, dE_tup, dE_lst, dE_call, dE_bi, dE_isi, dE_ix, dE_slU, dE_slL, dE_slB, dE_rev, dE_olen, dE_oix, dE_fld, dE_new, dE_meth, nox_ok, ins_ins, fld_0, fld_1, fld_2, dT_tr, dT_otr, dT_cmp, dT_chain, dT_bop, dT_not, dS_try, try_nx, try_ret, dE_index, dE_split, dE_join, dE_trng, dT_chain3, dS_newll, lt_lst, lt_tup, dI_val, dI_own, dI_enum, dI_zip, dS_expr, dS_asg, dS_newl, dS_par, dS_par3, dS_unp, dS_ret, dS_ite, dS_rai, dS_frz, dS_mt, dS_seti, dS_aug, dEs_nil, dEs_cons, dB_one, dB_cons, dTs_nil, dTs_cons, dSs_nil, dSs_cons, b_add, b_sub, b_mul, b_fdiv, b_mod, b_pow, b_addT, b_addL, b_addS, c_lt, c_le, c_gt, c_ge, c_eq, c_ne, c_is, c_isnot, c_isB, c_isnotB, t_non, t_bl, t_int, t_lst, t_tup, n_neg, n_not, ix_tup, ix_lst, ix_scr, at_0, at_1, at_2, io_int, rv_lst, rv_tup, sl_lst, sl_tup, is_int, is_int_b, is_bl_b, is_bl_i, is_tup, is_lst, is_tup_l, is_lst_t, len_lst, len_tup, len_scr, bi_abs', bi_min', bi_max', bi_tupL, bi_tupT, bi_lstL, bi_lstT, sq_lst, sq_tup, ls_lst, s_one, s_two, g_app, ix_fr0, ix_fr1, is_fr, len_fr, ownAt, okB, excB, badB, out_ok, out_exc, then_nx, then_ret, then_exc, List.getElem?_cons_zero, List.getElem?_cons_succ, List.set_cons_zero, List.set_cons_succ, big, Nat.reduceLeDiff, Nat.reduceLT, fin_ret, fin_nx, fin_exc, q4, mw, e5, fin, rt]
theorem is_within_d (n : Nat) (d : D) (hp : Pl d = true) (lo hi : Int) : interp P (n + 1) i_is_within [d, .int lo, .int hi] = .ok (.bl (isWi lo hi d)) := by
  rw [run_fn' f_is_within]
  cases d with
  | int i => simp only [D_is_within, env0, List.map_cons, List.map_nil, List.length_cons, List.length_nil, List.replicate_zero, List.replicate_succ, List.append_nil, List.nil_append, List.cons_append, Nat.sub_self, Nat.reduceSub, Nat.reduceAdd, ifT, len_ld, is_ld, rv_ld, sq_ld, dE_var, dE_int, dE_bl, dE_non, dE_str, dE_glob, dE_neg, dE_not, dE_bin, dE_cmp, dE_chain, dE_bop, dE_ite, dE_tup, dE_lst, dE_call, dE_bi, dE_isi, dE_ix, dE_slU, dE_slL, dE_slB, dE_rev, dE_olen, dE_oix, dE_fld, dE_new, dE_meth, nox_ok, ins_ins, fld_0, fld_1, fld_2, dT_tr, dT_otr, dT_cmp, dT_chain, dT_bop, dT_not, dS_try, try_nx, try_ret, dE_index, dE_split, dE_join, dE_trng, dT_chain3, dS_newll, lt_lst, lt_tup, dI_val, dI_own, dI_enum, dI_zip, dS_expr, dS_asg, dS_newl, dS_par, dS_par3, dS_unp, dS_ret, dS_ite, dS_rai, dS_frz, dS_mt, dS_seti, dS_aug, dEs_nil, dEs_cons, dB_one, dB_cons, dTs_nil, dTs_cons, dSs_nil, dSs_cons, b_add, b_sub, b_mul, b_fdiv, b_mod, b_pow, b_addT, b_addL, b_addS, c_lt, c_le, c_gt, c_ge, c_eq, c_ne, c_is, c_isnot, c_isB, c_isnotB, t_non, t_bl, t_int, t_lst, t_tup, n_neg, n_not, ix_tup, ix_lst, ix_scr, at_0, at_1, at_2, io_int, rv_lst, rv_tup, sl_lst, sl_tup, is_int, is_int_b, is_bl_b, is_bl_i, is_tup, is_lst, is_tup_l, is_lst_t, len_lst, len_tup, len_scr, bi_abs', bi_min', bi_max', bi_tupL, bi_tupT, bi_lstL, bi_lstT, sq_lst, sq_tup, ls_lst, s_one, s_two, g_app, ix_fr0, ix_fr1, is_fr, len_fr, ownAt, okB, excB, badB, out_ok, out_exc, then_nx, then_ret, then_exc, List.getElem?_cons_zero, List.getElem?_cons_succ, List.set_cons_zero, List.set_cons_succ, big, Nat.reduceLeDiff, Nat.reduceLT, fin_ret, fin_nx, fin_exc, isWi]; by_cases h : lo ≤ i <;> simp [h]
  | bl b => simp only [D_is_within, env0, List.map_cons, List.map_nil, List.length_cons, List.length_nil, List.replicate_zero, List.replicate_succ, List.append_nil, List.nil_append, List.cons_append, Nat.sub_self, Nat.reduceSub, Nat.reduceAdd, ifT, len_ld, is_ld, rv_ld, sq_ld, dE_var, dE_int, dE_bl, dE_non, dE_str, dE_glob, dE_neg, dE_not, dE_bin, dE_cmp, dE_chain, dE_bop, dE_ite, dE_tup, dE_lst, dE_call, dE_bi, dE_isi, dE_ix, dE_slU, dE_slL, dE_slB, dE_rev, dE_olen, dE_oix, dE_fld, dE_new, dE_meth, nox_ok, ins_ins, fld_0, fld_1, fld_2, dT_tr, dT_otr, dT_cmp, dT_chain, dT_bop, dT_not, dS_try, try_nx, try_ret, dE_index, dE_split, dE_join, dE_trng, dT_chain3, dS_newll, lt_lst, lt_tup, dI_val, dI_own, dI_enum, dI_zip, dS_expr, dS_asg, dS_newl, dS_par, dS_par3, dS_unp, dS_ret, dS_ite, dS_rai, dS_frz, dS_mt, dS_seti, dS_aug, dEs_nil, dEs_cons, dB_one, dB_cons, dTs_nil, dTs_cons, dSs_nil, dSs_cons, b_add, b_sub, b_mul, b_fdiv, b_mod, b_pow, b_addT, b_addL, b_addS, c_lt, c_le, c_gt, c_ge, c_eq, c_ne, c_is, c_isnot, c_isB, c_isnotB, t_non, t_bl, t_int, t_lst, t_tup, n_neg, n_not, ix_tup, ix_lst, ix_scr, at_0, at_1, at_2, io_int, rv_lst, rv_tup, sl_lst, sl_tup, is_int, is_int_b, is_bl_b, is_bl_i, is_tup, is_lst, is_tup_l, is_lst_t, len_lst, len_tup, len_scr, bi_abs', bi_min', bi_max', bi_tupL, bi_tupT, bi_lstL, bi_lstT, sq_lst, sq_tup, ls_lst, s_one, s_two, g_app, ix_fr0, ix_fr1, is_fr, len_fr, ownAt, okB, excB, badB, out_ok, out_exc, then_nx, then_ret, then_exc, List.getElem?_cons_zero, List.getElem?_cons_succ, List.set_cons_zero, List.set_cons_succ, big, Nat.reduceLeDiff, Nat.reduceLT, fin_ret, fin_nx, fin_exc, isWi, Bool.not_true, if_true, Bool.false_eq_true, if_false]
  | ins ds => cases hp
  | scr ds => cases hp
  | _ => simp only [D_is_within, env0, List.map_cons, List.map_nil, List.length_cons, List.length_nil, List.replicate_zero, List.replicate_succ, List.append_nil, List.nil_append, List.cons_append, Nat.sub_self, Nat.reduceSub, Nat.reduceAdd, ifT, len_ld, is_ld, rv_ld, sq_ld, dE_var, dE_int, dE_bl, dE_non, dE_str, dE_glob, dE_neg, dE_not, dE_bin, dE_cmp, dE_chain, dE_bop, dE_ite, dE_tup, dE_lst, dE_call, dE_bi, dE_isi, dE_ix, dE_slU, dE_slL, dE_slB, dE_rev, dE_olen, dE_oix, dE_fld, dE_new, dE_meth, nox_ok, ins_ins, fld_0, fld_1, fld_2, dT_tr, dT_otr, dT_cmp, dT_chain, dT_bop, dT_not, dS_try, try_nx, try_ret, dE_index, dE_split, dE_join, dE_trng, dT_chain3, dS_newll, lt_lst, lt_tup, dI_val, dI_own, dI_enum, dI_zip, dS_expr, dS_asg, dS_newl, dS_par, dS_par3, dS_unp, dS_ret, dS_ite, dS_rai, dS_frz, dS_mt, dS_seti, dS_aug, dEs_nil, dEs_cons, dB_one, dB_cons, dTs_nil, dTs_cons, dSs_nil, dSs_cons, b_add, b_sub, b_mul, b_fdiv, b_mod, b_pow, b_addT, b_addL, b_addS, c_lt, c_le, c_gt, c_ge, c_eq, c_ne, c_is, c_isnot, c_isB, c_isnotB, t_non, t_bl, t_int, t_lst, t_tup, n_neg, n_not, ix_tup, ix_lst, ix_scr, at_0, at_1, at_2, io_int, rv_lst, rv_tup, sl_lst, sl_tup, is_int, is_int_b, is_bl_b, is_bl_i, is_tup, is_lst, is_tup_l, is_lst_t, len_lst, len_tup, len_scr, bi_abs', bi_min', bi_max', bi_tupL, bi_tupT, bi_lstL, bi_lstT, sq_lst, sq_tup, ls_lst, s_one, s_two, g_app, ix_fr0, ix_fr1, is_fr, len_fr, ownAt, okB, excB, badB, out_ok, out_exc, then_nx, then_ret, then_exc, List.getElem?_cons_zero, List.getElem?_cons_succ, List.set_cons_zero, List.set_cons_succ, big, Nat.reduceLeDiff, Nat.reduceLT, fin_ret, fin_nx, fin_exc, isWi, isiD, Bool.false_eq_true, if_false]
theorem is_land_d (n : Nat) (d : D) (hp : PlL d) : interp P (n + 2) i_is_land [d] = .ok (.bl (isLd d)) := by
  obtain ⟨h1, h2⟩ := hp
  rw [run_fn' f_is_land]
  cases d with
  | tup ds =>
    obtain ⟨h3, h4⟩ := h2 ds rfl
    have e2 : (2 : Int) ≤ (ds.length : Int) ↔ 2 ≤ ds.length := by omega
    have e12 : (ds.length : Int) ≤ 12 ↔ ds.length ≤ 12 := by omega
    simp only [D_is_land, env0, List.map_cons, List.map_nil, List.length_cons, List.length_nil, List.replicate_zero, List.replicate_succ, List.append_nil, List.nil_append, List.cons_append, Nat.sub_self, Nat.reduceSub, Nat.reduceAdd, ifT, len_ld, is_ld, rv_ld, sq_ld, dE_var, dE_int, dE_bl, dE_non, dE_str, dE_glob, dE_neg, dE_not, dE_bin, dE_cmp, dE_chain, dE_bop, dE_ite, dE_tup, dE_lst, dE_call, dE_bi, dE_isi, dE_ix, dE_slU, dE_slL, dE_slB, dE_rev, dE_olen, dE_oix, dE_fld, dE_new, dE_meth, nox_ok, ins_ins, fld_0, fld_1, fld_2, dT_tr, dT_otr, dT_cmp, dT_chain, dT_bop, dT_not, dS_try, try_nx, try_ret, dE_index, dE_split, dE_join, dE_trng, dT_chain3, dS_newll, lt_lst, lt_tup, dI_val, dI_own, dI_enum, dI_zip, dS_expr, dS_asg, dS_newl, dS_par, dS_par3, dS_unp, dS_ret, dS_ite, dS_rai, dS_frz, dS_mt, dS_seti, dS_aug, dEs_nil, dEs_cons, dB_one, dB_cons, dTs_nil, dTs_cons, dSs_nil, dSs_cons, b_add, b_sub, b_mul, b_fdiv, b_mod, b_pow, b_addT, b_addL, b_addS, c_lt, c_le, c_gt, c_ge, c_eq, c_ne, c_is, c_isnot, c_isB, c_isnotB, t_non, t_bl, t_int, t_lst, t_tup, n_neg, n_not, ix_tup, ix_lst, ix_scr, at_0, at_1, at_2, io_int, rv_lst, rv_tup, sl_lst, sl_tup, is_int, is_int_b, is_bl_b, is_bl_i, is_tup, is_lst, is_tup_l, is_lst_t, len_lst, len_tup, len_scr, bi_abs', bi_min', bi_max', bi_tupL, bi_tupT, bi_lstL, bi_lstT, sq_lst, sq_tup, ls_lst, s_one, s_two, g_app, ix_fr0, ix_fr1, is_fr, len_fr, ownAt, okB, excB, badB, out_ok, out_exc, then_nx, then_ret, then_exc, List.getElem?_cons_zero, List.getElem?_cons_succ, List.set_cons_zero, List.set_cons_succ, big, Nat.reduceLeDiff, Nat.reduceLT, fin_ret, fin_nx, fin_exc, gl_LEAST_SIZE, gl_MOST_SIZE, e2, e12, chain_and, Bool.not_true, if_true, isLd]
    by_cases hc : 2 ≤ ds.length ∧ ds.length ≤ 12
    · simp only [hc, decide_true, Bool.not_true, List.map_cons, List.map_nil, List.length_cons, List.length_nil, List.replicate_zero, List.replicate_succ, List.append_nil, List.nil_append, List.cons_append, Nat.sub_self, Nat.reduceSub, Nat.reduceAdd, ifT, len_ld, is_ld, rv_ld, sq_ld, dE_var, dE_int, dE_bl, dE_non, dE_str, dE_glob, dE_neg, dE_not, dE_bin, dE_cmp, dE_chain, dE_bop, dE_ite, dE_tup, dE_lst, dE_call, dE_bi, dE_isi, dE_ix, dE_slU, dE_slL, dE_slB, dE_rev, dE_olen, dE_oix, dE_fld, dE_new, dE_meth, nox_ok, ins_ins, fld_0, fld_1, fld_2, dT_tr, dT_otr, dT_cmp, dT_chain, dT_bop, dT_not, dS_try, try_nx, try_ret, dE_index, dE_split, dE_join, dE_trng, dT_chain3, dS_newll, lt_lst, lt_tup, dI_val, dI_own, dI_enum, dI_zip, dS_expr, dS_asg, dS_newl, dS_par, dS_par3, dS_unp, dS_ret, dS_ite, dS_rai, dS_frz, dS_mt, dS_seti, dS_aug, dEs_nil, dEs_cons, dB_one, dB_cons, dTs_nil, dTs_cons, dSs_nil, dSs_cons, b_add, b_sub, b_mul, b_fdiv, b_mod, b_pow, b_addT, b_addL, b_addS, c_lt, c_le, c_gt, c_ge, c_eq, c_ne, c_is, c_isnot, c_isB, c_isnotB, t_non, t_bl, t_int, t_lst, t_tup, n_neg, n_not, ix_tup, ix_lst, ix_scr, at_0, at_1, at_2, io_int, rv_lst, rv_tup, sl_lst, sl_tup, is_int, is_int_b, is_bl_b, is_bl_i, is_tup, is_lst, is_tup_l, is_lst_t, len_lst, len_tup, len_scr, bi_abs', bi_min', bi_max', bi_tupL, bi_tupT, bi_lstL, bi_lstT, sq_lst, sq_tup, ls_lst, s_one, s_two, g_app, ix_fr0, ix_fr1, is_fr, len_fr, ownAt, okB, excB, badB, out_ok, out_exc, then_nx, then_ret, then_exc, List.getElem?_cons_zero, List.getElem?_cons_succ, List.set_cons_zero, List.set_cons_succ, big, Nat.reduceLeDiff, Nat.reduceLT, fin_ret, fin_nx, fin_exc, Bool.false_eq_true, if_false, and_self, Bool.and_self, Bool.true_and]
      rw [comp_eq ds id (fun x => !isWi 0 999 x) id (by simp only [List.map_cons, List.map_nil, List.length_cons, List.length_nil, List.replicate_zero, List.replicate_succ, List.append_nil, List.nil_append, List.cons_append, Nat.sub_self, Nat.reduceSub, Nat.reduceAdd, ifT, len_ld, is_ld, rv_ld, sq_ld, dE_var, dE_int, dE_bl, dE_non, dE_str, dE_glob, dE_neg, dE_not, dE_bin, dE_cmp, dE_chain, dE_bop, dE_ite, dE_tup, dE_lst, dE_call, dE_bi, dE_isi, dE_ix, dE_slU, dE_slL, dE_slB, dE_rev, dE_olen, dE_oix, dE_fld, dE_new, dE_meth, nox_ok, ins_ins, fld_0, fld_1, fld_2, dT_tr, dT_otr, dT_cmp, dT_chain, dT_bop, dT_not, dS_try, try_nx, try_ret, dE_index, dE_split, dE_join, dE_trng, dT_chain3, dS_newll, lt_lst, lt_tup, dI_val, dI_own, dI_enum, dI_zip, dS_expr, dS_asg, dS_newl, dS_par, dS_par3, dS_unp, dS_ret, dS_ite, dS_rai, dS_frz, dS_mt, dS_seti, dS_aug, dEs_nil, dEs_cons, dB_one, dB_cons, dTs_nil, dTs_cons, dSs_nil, dSs_cons, b_add, b_sub, b_mul, b_fdiv, b_mod, b_pow, b_addT, b_addL, b_addS, c_lt, c_le, c_gt, c_ge, c_eq, c_ne, c_is, c_isnot, c_isB, c_isnotB, t_non, t_bl, t_int, t_lst, t_tup, n_neg, n_not, ix_tup, ix_lst, ix_scr, at_0, at_1, at_2, io_int, rv_lst, rv_tup, sl_lst, sl_tup, is_int, is_int_b, is_bl_b, is_bl_i, is_tup, is_lst, is_tup_l, is_lst_t, len_lst, len_tup, len_scr, bi_abs', bi_min', bi_max', bi_tupL, bi_tupT, bi_lstL, bi_lstT, sq_lst, sq_tup, ls_lst, s_one, s_two, g_app, ix_fr0, ix_fr1, is_fr, len_fr, ownAt, okB, excB, badB, out_ok, out_exc, then_nx, then_ret, then_exc, List.getElem?_cons_zero, List.getElem?_cons_succ, List.set_cons_zero, List.set_cons_succ, big, Nat.reduceLeDiff, Nat.reduceLT, fin_ret, fin_nx, fin_exc, List.map_id]) (by unfold big; omega) (by
        intro x hx
        refine ⟨?_, fun _ => ?_⟩
        · simp only [List.map_cons, List.map_nil, List.length_cons, List.length_nil, List.replicate_zero, List.replicate_succ, List.append_nil, List.nil_append, List.cons_append, Nat.sub_self, Nat.reduceSub, Nat.reduceAdd, ifT, len_ld, is_ld, rv_ld, sq_ld, dE_var, dE_int, dE_bl, dE_non, dE_str, dE_glob, dE_neg, dE_not, dE_bin, dE_cmp, dE_chain, dE_bop, dE_ite, dE_tup, dE_lst, dE_call, dE_bi, dE_isi, dE_ix, dE_slU, dE_slL, dE_slB, dE_rev, dE_olen, dE_oix, dE_fld, dE_new, dE_meth, nox_ok, ins_ins, fld_0, fld_1, fld_2, dT_tr, dT_otr, dT_cmp, dT_chain, dT_bop, dT_not, dS_try, try_nx, try_ret, dE_index, dE_split, dE_join, dE_trng, dT_chain3, dS_newll, lt_lst, lt_tup, dI_val, dI_own, dI_enum, dI_zip, dS_expr, dS_asg, dS_newl, dS_par, dS_par3, dS_unp, dS_ret, dS_ite, dS_rai, dS_frz, dS_mt, dS_seti, dS_aug, dEs_nil, dEs_cons, dB_one, dB_cons, dTs_nil, dTs_cons, dSs_nil, dSs_cons, b_add, b_sub, b_mul, b_fdiv, b_mod, b_pow, b_addT, b_addL, b_addS, c_lt, c_le, c_gt, c_ge, c_eq, c_ne, c_is, c_isnot, c_isB, c_isnotB, t_non, t_bl, t_int, t_lst, t_tup, n_neg, n_not, ix_tup, ix_lst, ix_scr, at_0, at_1, at_2, io_int, rv_lst, rv_tup, sl_lst, sl_tup, is_int, is_int_b, is_bl_b, is_bl_i, is_tup, is_lst, is_tup_l, is_lst_t, len_lst, len_tup, len_scr, bi_abs', bi_min', bi_max', bi_tupL, bi_tupT, bi_lstL, bi_lstT, sq_lst, sq_tup, ls_lst, s_one, s_two, g_app, ix_fr0, ix_fr1, is_fr, len_fr, ownAt, okB, excB, badB, out_ok, out_exc, then_nx, then_ret, then_exc, List.getElem?_cons_zero, List.getElem?_cons_succ, List.set_cons_zero, List.set_cons_succ, big, Nat.reduceLeDiff, Nat.reduceLT, fin_ret, fin_nx, fin_exc, gl_MOST_HEIGHT, id, is_within_d n x (h4 x hx), and_b, Bool.and_true]
        · simp only [List.map_cons, List.map_nil, List.length_cons, List.length_nil, List.replicate_zero, List.replicate_succ, List.append_nil, List.nil_append, List.cons_append, Nat.sub_self, Nat.reduceSub, Nat.reduceAdd, ifT, len_ld, is_ld, rv_ld, sq_ld, dE_var, dE_int, dE_bl, dE_non, dE_str, dE_glob, dE_neg, dE_not, dE_bin, dE_cmp, dE_chain, dE_bop, dE_ite, dE_tup, dE_lst, dE_call, dE_bi, dE_isi, dE_ix, dE_slU, dE_slL, dE_slB, dE_rev, dE_olen, dE_oix, dE_fld, dE_new, dE_meth, nox_ok, ins_ins, fld_0, fld_1, fld_2, dT_tr, dT_otr, dT_cmp, dT_chain, dT_bop, dT_not, dS_try, try_nx, try_ret, dE_index, dE_split, dE_join, dE_trng, dT_chain3, dS_newll, lt_lst, lt_tup, dI_val, dI_own, dI_enum, dI_zip, dS_expr, dS_asg, dS_newl, dS_par, dS_par3, dS_unp, dS_ret, dS_ite, dS_rai, dS_frz, dS_mt, dS_seti, dS_aug, dEs_nil, dEs_cons, dB_one, dB_cons, dTs_nil, dTs_cons, dSs_nil, dSs_cons, b_add, b_sub, b_mul, b_fdiv, b_mod, b_pow, b_addT, b_addL, b_addS, c_lt, c_le, c_gt, c_ge, c_eq, c_ne, c_is, c_isnot, c_isB, c_isnotB, t_non, t_bl, t_int, t_lst, t_tup, n_neg, n_not, ix_tup, ix_lst, ix_scr, at_0, at_1, at_2, io_int, rv_lst, rv_tup, sl_lst, sl_tup, is_int, is_int_b, is_bl_b, is_bl_i, is_tup, is_lst, is_tup_l, is_lst_t, len_lst, len_tup, len_scr, bi_abs', bi_min', bi_max', bi_tupL, bi_tupT, bi_lstL, bi_lstT, sq_lst, sq_tup, ls_lst, s_one, s_two, g_app, ix_fr0, ix_fr1, is_fr, len_fr, ownAt, okB, excB, badB, out_ok, out_exc, then_nx, then_ret, then_exc, List.getElem?_cons_zero, List.getElem?_cons_succ, List.set_cons_zero, List.set_cons_succ, big, Nat.reduceLeDiff, Nat.reduceLT, fin_ret, fin_nx, fin_exc, id])]
      simp only [List.map_cons, List.map_nil, List.length_cons, List.length_nil, List.replicate_zero, List.replicate_succ, List.append_nil, List.nil_append, List.cons_append, Nat.sub_self, Nat.reduceSub, Nat.reduceAdd, ifT, len_ld, is_ld, rv_ld, sq_ld, dE_var, dE_int, dE_bl, dE_non, dE_str, dE_glob, dE_neg, dE_not, dE_bin, dE_cmp, dE_chain, dE_bop, dE_ite, dE_tup, dE_lst, dE_call, dE_bi, dE_isi, dE_ix, dE_slU, dE_slL, dE_slB, dE_rev, dE_olen, dE_oix, dE_fld, dE_new, dE_meth, nox_ok, ins_ins, fld_0, fld_1, fld_2, dT_tr, dT_otr, dT_cmp, dT_chain, dT_bop, dT_not, dS_try, try_nx, try_ret, dE_index, dE_split, dE_join, dE_trng, dT_chain3, dS_newll, lt_lst, lt_tup, dI_val, dI_own, dI_enum, dI_zip, dS_expr, dS_asg, dS_newl, dS_par, dS_par3, dS_unp, dS_ret, dS_ite, dS_rai, dS_frz, dS_mt, dS_seti, dS_aug, dEs_nil, dEs_cons, dB_one, dB_cons, dTs_nil, dTs_cons, dSs_nil, dSs_cons, b_add, b_sub, b_mul, b_fdiv, b_mod, b_pow, b_addT, b_addL, b_addS, c_lt, c_le, c_gt, c_ge, c_eq, c_ne, c_is, c_isnot, c_isB, c_isnotB, t_non, t_bl, t_int, t_lst, t_tup, n_neg, n_not, ix_tup, ix_lst, ix_scr, at_0, at_1, at_2, io_int, rv_lst, rv_tup, sl_lst, sl_tup, is_int, is_int_b, is_bl_b, is_bl_i, is_tup, is_lst, is_tup_l, is_lst_t, len_lst, len_tup, len_scr, bi_abs', bi_min', bi_max', bi_tupL, bi_tupT, bi_lstL, bi_lstT, sq_lst, sq_tup, ls_lst, s_one, s_two, g_app, ix_fr0, ix_fr1, is_fr, len_fr, ownAt, okB, excB, badB, out_ok, out_exc, then_nx, then_ret, then_exc, List.getElem?_cons_zero, List.getElem?_cons_succ, List.set_cons_zero, List.set_cons_succ, big, Nat.reduceLeDiff, Nat.reduceLT, fin_ret, fin_nx, fin_exc, List.isEmpty_map, filter_not_all]
    · have e : (decide (2 ≤ ds.length) && decide (ds.length ≤ 12)) = false := by
        rw [Bool.eq_false_iff]; intro z; simp only [Bool.and_eq_true, decide_eq_true_eq] at z; exact hc z
      simp only [hc, decide_false, Bool.not_false, List.map_cons, List.map_nil, List.length_cons, List.length_nil, List.replicate_zero, List.replicate_succ, List.append_nil, List.nil_append, List.cons_append, Nat.sub_self, Nat.reduceSub, Nat.reduceAdd, ifT, len_ld, is_ld, rv_ld, sq_ld, dE_var, dE_int, dE_bl, dE_non, dE_str, dE_glob, dE_neg, dE_not, dE_bin, dE_cmp, dE_chain, dE_bop, dE_ite, dE_tup, dE_lst, dE_call, dE_bi, dE_isi, dE_ix, dE_slU, dE_slL, dE_slB, dE_rev, dE_olen, dE_oix, dE_fld, dE_new, dE_meth, nox_ok, ins_ins, fld_0, fld_1, fld_2, dT_tr, dT_otr, dT_cmp, dT_chain, dT_bop, dT_not, dS_try, try_nx, try_ret, dE_index, dE_split, dE_join, dE_trng, dT_chain3, dS_newll, lt_lst, lt_tup, dI_val, dI_own, dI_enum, dI_zip, dS_expr, dS_asg, dS_newl, dS_par, dS_par3, dS_unp, dS_ret, dS_ite, dS_rai, dS_frz, dS_mt, dS_seti, dS_aug, dEs_nil, dEs_cons, dB_one, dB_cons, dTs_nil, dTs_cons, dSs_nil, dSs_cons, b_add, b_sub, b_mul, b_fdiv, b_mod, b_pow, b_addT, b_addL, b_addS, c_lt, c_le, c_gt, c_ge, c_eq, c_ne, c_is, c_isnot, c_isB, c_isnotB, t_non, t_bl, t_int, t_lst, t_tup, n_neg, n_not, ix_tup, ix_lst, ix_scr, at_0, at_1, at_2, io_int, rv_lst, rv_tup, sl_lst, sl_tup, is_int, is_int_b, is_bl_b, is_bl_i, is_tup, is_lst, is_tup_l, is_lst_t, len_lst, len_tup, len_scr, bi_abs', bi_min', bi_max', bi_tupL, bi_tupT, bi_lstL, bi_lstT, sq_lst, sq_tup, ls_lst, s_one, s_two, g_app, ix_fr0, ix_fr1, is_fr, len_fr, ownAt, okB, excB, badB, out_ok, out_exc, then_nx, then_ret, then_exc, List.getElem?_cons_zero, List.getElem?_cons_succ, List.set_cons_zero, List.set_cons_succ, big, Nat.reduceLeDiff, Nat.reduceLT, fin_ret, fin_nx, fin_exc, if_true, e, Bool.false_and, Bool.true_eq_false, if_false]
  | ins ds => cases h1
  | scr ds => cases h1
  | _ => simp only [D_is_land, env0, List.map_cons, List.map_nil, List.length_cons, List.length_nil, List.replicate_zero, List.replicate_succ, List.append_nil, List.nil_append, List.cons_append, Nat.sub_self, Nat.reduceSub, Nat.reduceAdd, ifT, len_ld, is_ld, rv_ld, sq_ld, dE_var, dE_int, dE_bl, dE_non, dE_str, dE_glob, dE_neg, dE_not, dE_bin, dE_cmp, dE_chain, dE_bop, dE_ite, dE_tup, dE_lst, dE_call, dE_bi, dE_isi, dE_ix, dE_slU, dE_slL, dE_slB, dE_rev, dE_olen, dE_oix, dE_fld, dE_new, dE_meth, nox_ok, ins_ins, fld_0, fld_1, fld_2, dT_tr, dT_otr, dT_cmp, dT_chain, dT_bop, dT_not, dS_try, try_nx, try_ret, dE_index, dE_split, dE_join, dE_trng, dT_chain3, dS_newll, lt_lst, lt_tup, dI_val, dI_own, dI_enum, dI_zip, dS_expr, dS_asg, dS_newl, dS_par, dS_par3, dS_unp, dS_ret, dS_ite, dS_rai, dS_frz, dS_mt, dS_seti, dS_aug, dEs_nil, dEs_cons, dB_one, dB_cons, dTs_nil, dTs_cons, dSs_nil, dSs_cons, b_add, b_sub, b_mul, b_fdiv, b_mod, b_pow, b_addT, b_addL, b_addS, c_lt, c_le, c_gt, c_ge, c_eq, c_ne, c_is, c_isnot, c_isB, c_isnotB, t_non, t_bl, t_int, t_lst, t_tup, n_neg, n_not, ix_tup, ix_lst, ix_scr, at_0, at_1, at_2, io_int, rv_lst, rv_tup, sl_lst, sl_tup, is_int, is_int_b, is_bl_b, is_bl_i, is_tup, is_lst, is_tup_l, is_lst_t, len_lst, len_tup, len_scr, bi_abs', bi_min', bi_max', bi_tupL, bi_tupT, bi_lstL, bi_lstT, sq_lst, sq_tup, ls_lst, s_one, s_two, g_app, ix_fr0, ix_fr1, is_fr, len_fr, ownAt, okB, excB, badB, out_ok, out_exc, then_nx, then_ret, then_exc, List.getElem?_cons_zero, List.getElem?_cons_succ, List.set_cons_zero, List.set_cons_succ, big, Nat.reduceLeDiff, Nat.reduceLT, fin_ret, fin_nx, fin_exc, isiD, isLd, Bool.not_false, Bool.true_eq_false, if_true, if_false]
theorem checked_no (n : Nat) (d : D) (hp : PlL d) (h : isLd d = false) : interp P (n + 3) i_checked [d] = .exc e_BadLand := by
  rw [run_fn' f_checked]
  simp only [D_checked, env0, List.map_cons, List.map_nil, List.length_cons, List.length_nil, List.replicate_zero, List.replicate_succ, List.append_nil, List.nil_append, List.cons_append, Nat.sub_self, Nat.reduceSub, Nat.reduceAdd, ifT, len_ld, is_ld, rv_ld, sq_ld, dE_var, dE_int, dE_bl, dE_non, dE_str, dE_glob, dE_neg, dE_not, dE_bin, dE_cmp, dE_chain, dE_bop, dE_ite, dE_tup, dE_lst, dE_call, dE_bi, dE_isi, dE_ix, dE_slU, dE_slL, dE_slB, dE_rev, dE_olen, dE_oix, dE_fld, dE_new, dE_meth, nox_ok, ins_ins, fld_0, fld_1, fld_2, dT_tr, dT_otr, dT_cmp, dT_chain, dT_bop, dT_not, dS_try, try_nx, try_ret, dE_index, dE_split, dE_join, dE_trng, dT_chain3, dS_newll, lt_lst, lt_tup, dI_val, dI_own, dI_enum, dI_zip, dS_expr, dS_asg, dS_newl, dS_par, dS_par3, dS_unp, dS_ret, dS_ite, dS_rai, dS_frz, dS_mt, dS_seti, dS_aug, dEs_nil, dEs_cons, dB_one, dB_cons, dTs_nil, dTs_cons, dSs_nil, dSs_cons, b_add, b_sub, b_mul, b_fdiv, b_mod, b_pow, b_addT, b_addL, b_addS, c_lt, c_le, c_gt, c_ge, c_eq, c_ne, c_is, c_isnot, c_isB, c_isnotB, t_non, t_bl, t_int, t_lst, t_tup, n_neg, n_not, ix_tup, ix_lst, ix_scr, at_0, at_1, at_2, io_int, rv_lst, rv_tup, sl_lst, sl_tup, is_int, is_int_b, is_bl_b, is_bl_i, is_tup, is_lst, is_tup_l, is_lst_t, len_lst, len_tup, len_scr, bi_abs', bi_min', bi_max', bi_tupL, bi_tupT, bi_lstL, bi_lstT, sq_lst, sq_tup, ls_lst, s_one, s_two, g_app, ix_fr0, ix_fr1, is_fr, len_fr, ownAt, okB, excB, badB, out_ok, out_exc, then_nx, then_ret, then_exc, List.getElem?_cons_zero, List.getElem?_cons_succ, List.set_cons_zero, List.set_cons_succ, big, Nat.reduceLeDiff, Nat.reduceLT, fin_ret, fin_nx, fin_exc, is_land_d n d hp, h, Bool.not_false, if_true]
theorem shown_ok (n : Nat) (L : List Int) [hL : Land L] : interp P (n + 4) i_shown [ld L] = .ok (.str (landT L)) := by
  have ck := checked_ok n L
  have hi := hL.hi
  rw [run_fn' f_shown]
  simp only [D_shown, env0, List.map_cons, List.map_nil, List.length_cons, List.length_nil, List.replicate_zero, List.replicate_succ, List.append_nil, List.nil_append, List.cons_append, Nat.sub_self, Nat.reduceSub, Nat.reduceAdd, ifT, len_ld, is_ld, rv_ld, sq_ld, dE_var, dE_int, dE_bl, dE_non, dE_str, dE_glob, dE_neg, dE_not, dE_bin, dE_cmp, dE_chain, dE_bop, dE_ite, dE_tup, dE_lst, dE_call, dE_bi, dE_isi, dE_ix, dE_slU, dE_slL, dE_slB, dE_rev, dE_olen, dE_oix, dE_fld, dE_new, dE_meth, nox_ok, ins_ins, fld_0, fld_1, fld_2, dT_tr, dT_otr, dT_cmp, dT_chain, dT_bop, dT_not, dS_try, try_nx, try_ret, dE_index, dE_split, dE_join, dE_trng, dT_chain3, dS_newll, lt_lst, lt_tup, dI_val, dI_own, dI_enum, dI_zip, dS_expr, dS_asg, dS_newl, dS_par, dS_par3, dS_unp, dS_ret, dS_ite, dS_rai, dS_frz, dS_mt, dS_seti, dS_aug, dEs_nil, dEs_cons, dB_one, dB_cons, dTs_nil, dTs_cons, dSs_nil, dSs_cons, b_add, b_sub, b_mul, b_fdiv, b_mod, b_pow, b_addT, b_addL, b_addS, c_lt, c_le, c_gt, c_ge, c_eq, c_ne, c_is, c_isnot, c_isB, c_isnotB, t_non, t_bl, t_int, t_lst, t_tup, n_neg, n_not, ix_tup, ix_lst, ix_scr, at_0, at_1, at_2, io_int, rv_lst, rv_tup, sl_lst, sl_tup, is_int, is_int_b, is_bl_b, is_bl_i, is_tup, is_lst, is_tup_l, is_lst_t, len_lst, len_tup, len_scr, bi_abs', bi_min', bi_max', bi_tupL, bi_tupT, bi_lstL, bi_lstT, sq_lst, sq_tup, ls_lst, s_one, s_two, g_app, ix_fr0, ix_fr1, is_fr, len_fr, ownAt, okB, excB, badB, out_ok, out_exc, then_nx, then_ret, then_exc, List.getElem?_cons_zero, List.getElem?_cons_succ, List.set_cons_zero, List.set_cons_succ, big, Nat.reduceLeDiff, Nat.reduceLT, fin_ret, fin_nx, fin_exc]
  rw [comp_all L D.int (fun x => D.str (hstr x)) (by simp only [List.map_cons, List.map_nil, List.length_cons, List.length_nil, List.replicate_zero, List.replicate_succ, List.append_nil, List.nil_append, List.cons_append, Nat.sub_self, Nat.reduceSub, Nat.reduceAdd, ifT, len_ld, is_ld, rv_ld, sq_ld, dE_var, dE_int, dE_bl, dE_non, dE_str, dE_glob, dE_neg, dE_not, dE_bin, dE_cmp, dE_chain, dE_bop, dE_ite, dE_tup, dE_lst, dE_call, dE_bi, dE_isi, dE_ix, dE_slU, dE_slL, dE_slB, dE_rev, dE_olen, dE_oix, dE_fld, dE_new, dE_meth, nox_ok, ins_ins, fld_0, fld_1, fld_2, dT_tr, dT_otr, dT_cmp, dT_chain, dT_bop, dT_not, dS_try, try_nx, try_ret, dE_index, dE_split, dE_join, dE_trng, dT_chain3, dS_newll, lt_lst, lt_tup, dI_val, dI_own, dI_enum, dI_zip, dS_expr, dS_asg, dS_newl, dS_par, dS_par3, dS_unp, dS_ret, dS_ite, dS_rai, dS_frz, dS_mt, dS_seti, dS_aug, dEs_nil, dEs_cons, dB_one, dB_cons, dTs_nil, dTs_cons, dSs_nil, dSs_cons, b_add, b_sub, b_mul, b_fdiv, b_mod, b_pow, b_addT, b_addL, b_addS, c_lt, c_le, c_gt, c_ge, c_eq, c_ne, c_is, c_isnot, c_isB, c_isnotB, t_non, t_bl, t_int, t_lst, t_tup, n_neg, n_not, ix_tup, ix_lst, ix_scr, at_0, at_1, at_2, io_int, rv_lst, rv_tup, sl_lst, sl_tup, is_int, is_int_b, is_bl_b, is_bl_i, is_tup, is_lst, is_tup_l, is_lst_t, len_lst, len_tup, len_scr, bi_abs', bi_min', bi_max', bi_tupL, bi_tupT, bi_lstL, bi_lstT, sq_lst, sq_tup, ls_lst, s_one, s_two, g_app, ix_fr0, ix_fr1, is_fr, len_fr, ownAt, okB, excB, badB, out_ok, out_exc, then_nx, then_ret, then_exc, List.getElem?_cons_zero, List.getElem?_cons_succ, List.set_cons_zero, List.set_cons_succ, big, Nat.reduceLeDiff, Nat.reduceLT, fin_ret, fin_nx, fin_exc, ck]) (by unfold big; omega) (by
    intro x hx
    have := hL.h x hx
    simp only [List.map_cons, List.map_nil, List.length_cons, List.length_nil, List.replicate_zero, List.replicate_succ, List.append_nil, List.nil_append, List.cons_append, Nat.sub_self, Nat.reduceSub, Nat.reduceAdd, ifT, len_ld, is_ld, rv_ld, sq_ld, dE_var, dE_int, dE_bl, dE_non, dE_str, dE_glob, dE_neg, dE_not, dE_bin, dE_cmp, dE_chain, dE_bop, dE_ite, dE_tup, dE_lst, dE_call, dE_bi, dE_isi, dE_ix, dE_slU, dE_slL, dE_slB, dE_rev, dE_olen, dE_oix, dE_fld, dE_new, dE_meth, nox_ok, ins_ins, fld_0, fld_1, fld_2, dT_tr, dT_otr, dT_cmp, dT_chain, dT_bop, dT_not, dS_try, try_nx, try_ret, dE_index, dE_split, dE_join, dE_trng, dT_chain3, dS_newll, lt_lst, lt_tup, dI_val, dI_own, dI_enum, dI_zip, dS_expr, dS_asg, dS_newl, dS_par, dS_par3, dS_unp, dS_ret, dS_ite, dS_rai, dS_frz, dS_mt, dS_seti, dS_aug, dEs_nil, dEs_cons, dB_one, dB_cons, dTs_nil, dTs_cons, dSs_nil, dSs_cons, b_add, b_sub, b_mul, b_fdiv, b_mod, b_pow, b_addT, b_addL, b_addS, c_lt, c_le, c_gt, c_ge, c_eq, c_ne, c_is, c_isnot, c_isB, c_isnotB, t_non, t_bl, t_int, t_lst, t_tup, n_neg, n_not, ix_tup, ix_lst, ix_scr, at_0, at_1, at_2, io_int, rv_lst, rv_tup, sl_lst, sl_tup, is_int, is_int_b, is_bl_b, is_bl_i, is_tup, is_lst, is_tup_l, is_lst_t, len_lst, len_tup, len_scr, bi_abs', bi_min', bi_max', bi_tupL, bi_tupT, bi_lstL, bi_lstT, sq_lst, sq_tup, ls_lst, s_one, s_two, g_app, ix_fr0, ix_fr1, is_fr, len_fr, ownAt, okB, excB, badB, out_ok, out_exc, then_nx, then_ret, then_exc, List.getElem?_cons_zero, List.getElem?_cons_succ, List.set_cons_zero, List.set_cons_succ, big, Nat.reduceLeDiff, Nat.reduceLT, fin_ret, fin_nx, fin_exc, bi_str_int this.1 this.2])]
  have jl := join_land (L := L) hL.h (by omega)
  have es : (" " : Str) = spc := rfl
  simp only [List.map_cons, List.map_nil, List.length_cons, List.length_nil, List.replicate_zero, List.replicate_succ, List.append_nil, List.nil_append, List.cons_append, Nat.sub_self, Nat.reduceSub, Nat.reduceAdd, ifT, len_ld, is_ld, rv_ld, sq_ld, dE_var, dE_int, dE_bl, dE_non, dE_str, dE_glob, dE_neg, dE_not, dE_bin, dE_cmp, dE_chain, dE_bop, dE_ite, dE_tup, dE_lst, dE_call, dE_bi, dE_isi, dE_ix, dE_slU, dE_slL, dE_slB, dE_rev, dE_olen, dE_oix, dE_fld, dE_new, dE_meth, nox_ok, ins_ins, fld_0, fld_1, fld_2, dT_tr, dT_otr, dT_cmp, dT_chain, dT_bop, dT_not, dS_try, try_nx, try_ret, dE_index, dE_split, dE_join, dE_trng, dT_chain3, dS_newll, lt_lst, lt_tup, dI_val, dI_own, dI_enum, dI_zip, dS_expr, dS_asg, dS_newl, dS_par, dS_par3, dS_unp, dS_ret, dS_ite, dS_rai, dS_frz, dS_mt, dS_seti, dS_aug, dEs_nil, dEs_cons, dB_one, dB_cons, dTs_nil, dTs_cons, dSs_nil, dSs_cons, b_add, b_sub, b_mul, b_fdiv, b_mod, b_pow, b_addT, b_addL, b_addS, c_lt, c_le, c_gt, c_ge, c_eq, c_ne, c_is, c_isnot, c_isB, c_isnotB, t_non, t_bl, t_int, t_lst, t_tup, n_neg, n_not, ix_tup, ix_lst, ix_scr, at_0, at_1, at_2, io_int, rv_lst, rv_tup, sl_lst, sl_tup, is_int, is_int_b, is_bl_b, is_bl_i, is_tup, is_lst, is_tup_l, is_lst_t, len_lst, len_tup, len_scr, bi_abs', bi_min', bi_max', bi_tupL, bi_tupT, bi_lstL, bi_lstT, sq_lst, sq_tup, ls_lst, s_one, s_two, g_app, ix_fr0, ix_fr1, is_fr, len_fr, ownAt, okB, excB, badB, out_ok, out_exc, then_nx, then_ret, then_exc, List.getElem?_cons_zero, List.getElem?_cons_succ, List.set_cons_zero, List.set_cons_succ, big, Nat.reduceLeDiff, Nat.reduceLT, fin_ret, fin_nx, fin_exc, strD, es, jl]
theorem height_in_ok (n : Nat) (h : Int) (h0 : 0 ≤ h) (h1 : h ≤ 999) : interp P (n + 1) i_height_in [.str (hstr h)] = .ok (.int h) := by
  have l1 := hstr_pos h0
  have l2 := hstr_len h0 h1
  have ls := len_str (s := hstr h) (by omega)
  have c1 : (1 : Int) ≤ ((hstr h).length : Int) := by omega
  have c2 : ((hstr h).length : Int) ≤ 3 := by omega
  have bi := bi_int_str (hstr_reads h0 h1) (by omega)
  have ef : (D.str "0123456789" : D) = .str figs := rfl
  rw [run_fn' f_height_in]
  simp only [D_height_in, env0, List.map_cons, List.map_nil, List.length_cons, List.length_nil, List.replicate_zero, List.replicate_succ, List.append_nil, List.nil_append, List.cons_append, Nat.sub_self, Nat.reduceSub, Nat.reduceAdd, ifT, len_ld, is_ld, rv_ld, sq_ld, dE_var, dE_int, dE_bl, dE_non, dE_str, dE_glob, dE_neg, dE_not, dE_bin, dE_cmp, dE_chain, dE_bop, dE_ite, dE_tup, dE_lst, dE_call, dE_bi, dE_isi, dE_ix, dE_slU, dE_slL, dE_slB, dE_rev, dE_olen, dE_oix, dE_fld, dE_new, dE_meth, nox_ok, ins_ins, fld_0, fld_1, fld_2, dT_tr, dT_otr, dT_cmp, dT_chain, dT_bop, dT_not, dS_try, try_nx, try_ret, dE_index, dE_split, dE_join, dE_trng, dT_chain3, dS_newll, lt_lst, lt_tup, dI_val, dI_own, dI_enum, dI_zip, dS_expr, dS_asg, dS_newl, dS_par, dS_par3, dS_unp, dS_ret, dS_ite, dS_rai, dS_frz, dS_mt, dS_seti, dS_aug, dEs_nil, dEs_cons, dB_one, dB_cons, dTs_nil, dTs_cons, dSs_nil, dSs_cons, b_add, b_sub, b_mul, b_fdiv, b_mod, b_pow, b_addT, b_addL, b_addS, c_lt, c_le, c_gt, c_ge, c_eq, c_ne, c_is, c_isnot, c_isB, c_isnotB, t_non, t_bl, t_int, t_lst, t_tup, n_neg, n_not, ix_tup, ix_lst, ix_scr, at_0, at_1, at_2, io_int, rv_lst, rv_tup, sl_lst, sl_tup, is_int, is_int_b, is_bl_b, is_bl_i, is_tup, is_lst, is_tup_l, is_lst_t, len_lst, len_tup, len_scr, bi_abs', bi_min', bi_max', bi_tupL, bi_tupT, bi_lstL, bi_lstT, sq_lst, sq_tup, ls_lst, s_one, s_two, g_app, ix_fr0, ix_fr1, is_fr, len_fr, ownAt, okB, excB, badB, out_ok, out_exc, then_nx, then_ret, then_exc, List.getElem?_cons_zero, List.getElem?_cons_succ, List.set_cons_zero, List.set_cons_succ, big, Nat.reduceLeDiff, Nat.reduceLT, fin_ret, fin_nx, fin_exc, ls, c1, c2, decide_true, if_true, Bool.not_true, Bool.false_eq_true, if_false]
  rw [comp_eq (hstr h).cps.toList (fun c => D.str ⟨#[c]⟩) (fun _ => false) (fun c => D.str ⟨#[c]⟩) (by simp only [List.map_cons, List.map_nil, List.length_cons, List.length_nil, List.replicate_zero, List.replicate_succ, List.append_nil, List.nil_append, List.cons_append, Nat.sub_self, Nat.reduceSub, Nat.reduceAdd, ifT, len_ld, is_ld, rv_ld, sq_ld, dE_var, dE_int, dE_bl, dE_non, dE_str, dE_glob, dE_neg, dE_not, dE_bin, dE_cmp, dE_chain, dE_bop, dE_ite, dE_tup, dE_lst, dE_call, dE_bi, dE_isi, dE_ix, dE_slU, dE_slL, dE_slB, dE_rev, dE_olen, dE_oix, dE_fld, dE_new, dE_meth, nox_ok, ins_ins, fld_0, fld_1, fld_2, dT_tr, dT_otr, dT_cmp, dT_chain, dT_bop, dT_not, dS_try, try_nx, try_ret, dE_index, dE_split, dE_join, dE_trng, dT_chain3, dS_newll, lt_lst, lt_tup, dI_val, dI_own, dI_enum, dI_zip, dS_expr, dS_asg, dS_newl, dS_par, dS_par3, dS_unp, dS_ret, dS_ite, dS_rai, dS_frz, dS_mt, dS_seti, dS_aug, dEs_nil, dEs_cons, dB_one, dB_cons, dTs_nil, dTs_cons, dSs_nil, dSs_cons, b_add, b_sub, b_mul, b_fdiv, b_mod, b_pow, b_addT, b_addL, b_addS, c_lt, c_le, c_gt, c_ge, c_eq, c_ne, c_is, c_isnot, c_isB, c_isnotB, t_non, t_bl, t_int, t_lst, t_tup, n_neg, n_not, ix_tup, ix_lst, ix_scr, at_0, at_1, at_2, io_int, rv_lst, rv_tup, sl_lst, sl_tup, is_int, is_int_b, is_bl_b, is_bl_i, is_tup, is_lst, is_tup_l, is_lst_t, len_lst, len_tup, len_scr, bi_abs', bi_min', bi_max', bi_tupL, bi_tupT, bi_lstL, bi_lstT, sq_lst, sq_tup, ls_lst, s_one, s_two, g_app, ix_fr0, ix_fr1, is_fr, len_fr, ownAt, okB, excB, badB, out_ok, out_exc, then_nx, then_ret, then_exc, List.getElem?_cons_zero, List.getElem?_cons_succ, List.set_cons_zero, List.set_cons_succ, big, Nat.reduceLeDiff, Nat.reduceLT, fin_ret, fin_nx, fin_exc, sq_str]) (by
    have : (hstr h).cps.toList.length = (hstr h).length := Array.length_toList
    rw [this]; unfold big; omega) (by
    intro c hc
    have hd := hstr_digits h0 c hc
    refine ⟨?_, fun z => by cases z⟩
    simp only [List.map_cons, List.map_nil, List.length_cons, List.length_nil, List.replicate_zero, List.replicate_succ, List.append_nil, List.nil_append, List.cons_append, Nat.sub_self, Nat.reduceSub, Nat.reduceAdd, ifT, len_ld, is_ld, rv_ld, sq_ld, dE_var, dE_int, dE_bl, dE_non, dE_str, dE_glob, dE_neg, dE_not, dE_bin, dE_cmp, dE_chain, dE_bop, dE_ite, dE_tup, dE_lst, dE_call, dE_bi, dE_isi, dE_ix, dE_slU, dE_slL, dE_slB, dE_rev, dE_olen, dE_oix, dE_fld, dE_new, dE_meth, nox_ok, ins_ins, fld_0, fld_1, fld_2, dT_tr, dT_otr, dT_cmp, dT_chain, dT_bop, dT_not, dS_try, try_nx, try_ret, dE_index, dE_split, dE_join, dE_trng, dT_chain3, dS_newll, lt_lst, lt_tup, dI_val, dI_own, dI_enum, dI_zip, dS_expr, dS_asg, dS_newl, dS_par, dS_par3, dS_unp, dS_ret, dS_ite, dS_rai, dS_frz, dS_mt, dS_seti, dS_aug, dEs_nil, dEs_cons, dB_one, dB_cons, dTs_nil, dTs_cons, dSs_nil, dSs_cons, b_add, b_sub, b_mul, b_fdiv, b_mod, b_pow, b_addT, b_addL, b_addS, c_lt, c_le, c_gt, c_ge, c_eq, c_ne, c_is, c_isnot, c_isB, c_isnotB, t_non, t_bl, t_int, t_lst, t_tup, n_neg, n_not, ix_tup, ix_lst, ix_scr, at_0, at_1, at_2, io_int, rv_lst, rv_tup, sl_lst, sl_tup, is_int, is_int_b, is_bl_b, is_bl_i, is_tup, is_lst, is_tup_l, is_lst_t, len_lst, len_tup, len_scr, bi_abs', bi_min', bi_max', bi_tupL, bi_tupT, bi_lstL, bi_lstT, sq_lst, sq_tup, ls_lst, s_one, s_two, g_app, ix_fr0, ix_fr1, is_fr, len_fr, ownAt, okB, excB, badB, out_ok, out_exc, then_nx, then_ret, then_exc, List.getElem?_cons_zero, List.getElem?_cons_succ, List.set_cons_zero, List.set_cons_succ, big, Nat.reduceLeDiff, Nat.reduceLT, fin_ret, fin_nx, fin_exc, gl_FIGURES, ef, notin_fig, inFig_dig hd.1 hd.2, Bool.not_true, Bool.false_eq_true, if_false])]
  have e2 : (hstr h).cps.toList.filter (fun _ => false) = [] := by simp
  rw [e2]
  simp only [List.map_cons, List.map_nil, List.length_cons, List.length_nil, List.replicate_zero, List.replicate_succ, List.append_nil, List.nil_append, List.cons_append, Nat.sub_self, Nat.reduceSub, Nat.reduceAdd, ifT, len_ld, is_ld, rv_ld, sq_ld, dE_var, dE_int, dE_bl, dE_non, dE_str, dE_glob, dE_neg, dE_not, dE_bin, dE_cmp, dE_chain, dE_bop, dE_ite, dE_tup, dE_lst, dE_call, dE_bi, dE_isi, dE_ix, dE_slU, dE_slL, dE_slB, dE_rev, dE_olen, dE_oix, dE_fld, dE_new, dE_meth, nox_ok, ins_ins, fld_0, fld_1, fld_2, dT_tr, dT_otr, dT_cmp, dT_chain, dT_bop, dT_not, dS_try, try_nx, try_ret, dE_index, dE_split, dE_join, dE_trng, dT_chain3, dS_newll, lt_lst, lt_tup, dI_val, dI_own, dI_enum, dI_zip, dS_expr, dS_asg, dS_newl, dS_par, dS_par3, dS_unp, dS_ret, dS_ite, dS_rai, dS_frz, dS_mt, dS_seti, dS_aug, dEs_nil, dEs_cons, dB_one, dB_cons, dTs_nil, dTs_cons, dSs_nil, dSs_cons, b_add, b_sub, b_mul, b_fdiv, b_mod, b_pow, b_addT, b_addL, b_addS, c_lt, c_le, c_gt, c_ge, c_eq, c_ne, c_is, c_isnot, c_isB, c_isnotB, t_non, t_bl, t_int, t_lst, t_tup, n_neg, n_not, ix_tup, ix_lst, ix_scr, at_0, at_1, at_2, io_int, rv_lst, rv_tup, sl_lst, sl_tup, is_int, is_int_b, is_bl_b, is_bl_i, is_tup, is_lst, is_tup_l, is_lst_t, len_lst, len_tup, len_scr, bi_abs', bi_min', bi_max', bi_tupL, bi_tupT, bi_lstL, bi_lstT, sq_lst, sq_tup, ls_lst, s_one, s_two, g_app, ix_fr0, ix_fr1, is_fr, len_fr, ownAt, okB, excB, badB, out_ok, out_exc, then_nx, then_ret, then_exc, List.getElem?_cons_zero, List.getElem?_cons_succ, List.set_cons_zero, List.set_cons_succ, big, Nat.reduceLeDiff, Nat.reduceLT, fin_ret, fin_nx, fin_exc, List.isEmpty_nil, Bool.not_true, Bool.false_eq_true, if_false, bi]
def TxtOk (s : Str) : Prop := s.length ≤ 200 ∧ ∀ c ∈ s.cps.toList, c < 1114112
theorem figs_list : figs.cps.toList = [48, 49, 50, 51, 52, 53, 54, 55, 56, 57] := by decide +kernel
theorem inFig_iff (c : Nat) : inFig c = decide (48 ≤ c ∧ c ≤ 57) := by
  unfold inFig
  rw [StrLaws.found_one, figs_list, decide_eq_decide]
  simp only [List.mem_cons, List.not_mem_nil, or_false]
  omega
def okI (o : Option Int) : Bool := match o with | some v => decide (0 ≤ v) && decide (v ≤ 999) | none => false
theorem dg1 : ∀ a : Fin 10, okI (PySem.intText? ⟨#[48 + a.1]⟩) = true := by decide +kernel
theorem dg2 : ∀ a b : Fin 10, okI (PySem.intText? ⟨#[48 + a.1, 48 + b.1]⟩) = true := by decide +kernel
theorem dg3 : ∀ a b c : Fin 10, okI (PySem.intText? ⟨#[48 + a.1, 48 + b.1, 48 + c.1]⟩) = true := by decide +kernel
theorem okI_of {o : Option Int} (h : okI o = true) : ∃ v, o = some v ∧ 0 ≤ v ∧ v ≤ 999 := by
  unfold okI at h
  split at h
  · rename_i v
    simp only [Bool.and_eq_true, decide_eq_true_eq] at h
    exact ⟨v, rfl, h⟩
  · cases h
theorem fin_of {a : Nat} (h0 : 48 ≤ a) (h1 : a ≤ 57) : ∃ i : Fin 10, a = 48 + i.1 := ⟨⟨a - 48, by omega⟩, by simp only; omega⟩
theorem dig_reads {w : Str} (h1 : 1 ≤ w.length) (h3 : w.length ≤ 3) (hd : ∀ c ∈ w.cps.toList, 48 ≤ c ∧ c ≤ 57) : ∃ v, PySem.intText? w = some v ∧ 0 ≤ v ∧ v ≤ 999 := by
  obtain ⟨⟨l⟩⟩ := w
  have h1 : 1 ≤ l.length := h1
  have h3 : l.length ≤ 3 := h3
  have hd : ∀ c ∈ l, 48 ≤ c ∧ c ≤ 57 := hd
  match l, h1, h3, hd with
  | [a], _, _, hd =>
    obtain ⟨i, rfl⟩ := fin_of (hd a (by simp)).1 (hd a (by simp)).2
    exact okI_of (dg1 i)
  | [a, b], _, _, hd =>
    obtain ⟨i, rfl⟩ := fin_of (hd a (by simp)).1 (hd a (by simp)).2
    obtain ⟨j, rfl⟩ := fin_of (hd b (by simp)).1 (hd b (by simp)).2
    exact okI_of (dg2 i j)
  | [a, b, c], _, _, hd =>
    obtain ⟨i, rfl⟩ := fin_of (hd a (by simp)).1 (hd a (by simp)).2
    obtain ⟨j, rfl⟩ := fin_of (hd b (by simp)).1 (hd b (by simp)).2
    obtain ⟨k, rfl⟩ := fin_of (hd c (by simp)).1 (hd c (by simp)).2
    exact okI_of (dg3 i j k)
  | a :: b :: c :: d :: l, _, h3, _ => exact absurd h3 (by simp)
theorem height_any (n : Nat) (w : Str) (hl : w.length ≤ 200) : interp P (n + 1) i_height_in [.str w] = .exc e_BadText ∨ ∃ v, 0 ≤ v ∧ v ≤ 999 ∧ interp P (n + 1) i_height_in [.str w] = .ok (.int v) := by
  have ls := len_str (s := w) (by omega)
  have ef : (D.str "0123456789" : D) = .str figs := rfl
  rw [run_fn' f_height_in]
  by_cases c1 : (1 : Int) ≤ (w.length : Int)
  · by_cases c2 : (w.length : Int) ≤ 3
    · simp only [D_height_in, env0, List.map_cons, List.map_nil, List.length_cons, List.length_nil, List.replicate_zero, List.replicate_succ, List.append_nil, List.nil_append, List.cons_append, Nat.sub_self, Nat.reduceSub, Nat.reduceAdd, ifT, len_ld, is_ld, rv_ld, sq_ld, dE_var, dE_int, dE_bl, dE_non, dE_str, dE_glob, dE_neg, dE_not, dE_bin, dE_cmp, dE_chain, dE_bop, dE_ite, dE_tup, dE_lst, dE_call, dE_bi, dE_isi, dE_ix, dE_slU, dE_slL, dE_slB, dE_rev, dE_olen, dE_oix, dE_fld, dE_new, dE_meth, nox_ok, ins_ins, fld_0, fld_1, fld_2, dT_tr, dT_otr, dT_cmp, dT_chain, dT_bop, dT_not, dS_try, try_nx, try_ret, dE_index, dE_split, dE_join, dE_trng, dT_chain3, dS_newll, lt_lst, lt_tup, dI_val, dI_own, dI_enum, dI_zip, dS_expr, dS_asg, dS_newl, dS_par, dS_par3, dS_unp, dS_ret, dS_ite, dS_rai, dS_frz, dS_mt, dS_seti, dS_aug, dEs_nil, dEs_cons, dB_one, dB_cons, dTs_nil, dTs_cons, dSs_nil, dSs_cons, b_add, b_sub, b_mul, b_fdiv, b_mod, b_pow, b_addT, b_addL, b_addS, c_lt, c_le, c_gt, c_ge, c_eq, c_ne, c_is, c_isnot, c_isB, c_isnotB, t_non, t_bl, t_int, t_lst, t_tup, n_neg, n_not, ix_tup, ix_lst, ix_scr, at_0, at_1, at_2, io_int, rv_lst, rv_tup, sl_lst, sl_tup, is_int, is_int_b, is_bl_b, is_bl_i, is_tup, is_lst, is_tup_l, is_lst_t, len_lst, len_tup, len_scr, bi_abs', bi_min', bi_max', bi_tupL, bi_tupT, bi_lstL, bi_lstT, sq_lst, sq_tup, ls_lst, s_one, s_two, g_app, ix_fr0, ix_fr1, is_fr, len_fr, ownAt, okB, excB, badB, out_ok, out_exc, then_nx, then_ret, then_exc, List.getElem?_cons_zero, List.getElem?_cons_succ, List.set_cons_zero, List.set_cons_succ, big, Nat.reduceLeDiff, Nat.reduceLT, fin_ret, fin_nx, fin_exc, ls, c1, c2, decide_true, if_true, Bool.not_true, Bool.false_eq_true, if_false]
      rw [comp_eq w.cps.toList (fun c => D.str ⟨#[c]⟩) (fun c => !inFig c) (fun c => D.str ⟨#[c]⟩) (by simp only [List.map_cons, List.map_nil, List.length_cons, List.length_nil, List.replicate_zero, List.replicate_succ, List.append_nil, List.nil_append, List.cons_append, Nat.sub_self, Nat.reduceSub, Nat.reduceAdd, ifT, len_ld, is_ld, rv_ld, sq_ld, dE_var, dE_int, dE_bl, dE_non, dE_str, dE_glob, dE_neg, dE_not, dE_bin, dE_cmp, dE_chain, dE_bop, dE_ite, dE_tup, dE_lst, dE_call, dE_bi, dE_isi, dE_ix, dE_slU, dE_slL, dE_slB, dE_rev, dE_olen, dE_oix, dE_fld, dE_new, dE_meth, nox_ok, ins_ins, fld_0, fld_1, fld_2, dT_tr, dT_otr, dT_cmp, dT_chain, dT_bop, dT_not, dS_try, try_nx, try_ret, dE_index, dE_split, dE_join, dE_trng, dT_chain3, dS_newll, lt_lst, lt_tup, dI_val, dI_own, dI_enum, dI_zip, dS_expr, dS_asg, dS_newl, dS_par, dS_par3, dS_unp, dS_ret, dS_ite, dS_rai, dS_frz, dS_mt, dS_seti, dS_aug, dEs_nil, dEs_cons, dB_one, dB_cons, dTs_nil, dTs_cons, dSs_nil, dSs_cons, b_add, b_sub, b_mul, b_fdiv, b_mod, b_pow, b_addT, b_addL, b_addS, c_lt, c_le, c_gt, c_ge, c_eq, c_ne, c_is, c_isnot, c_isB, c_isnotB, t_non, t_bl, t_int, t_lst, t_tup, n_neg, n_not, ix_tup, ix_lst, ix_scr, at_0, at_1, at_2, io_int, rv_lst, rv_tup, sl_lst, sl_tup, is_int, is_int_b, is_bl_b, is_bl_i, is_tup, is_lst, is_tup_l, is_lst_t, len_lst, len_tup, len_scr, bi_abs', bi_min', bi_max', bi_tupL, bi_tupT, bi_lstL, bi_lstT, sq_lst, sq_tup, ls_lst, s_one, s_two, g_app, ix_fr0, ix_fr1, is_fr, len_fr, ownAt, okB, excB, badB, out_ok, out_exc, then_nx, then_ret, then_exc, List.getElem?_cons_zero, List.getElem?_cons_succ, List.set_cons_zero, List.set_cons_succ, big, Nat.reduceLeDiff, Nat.reduceLT, fin_ret, fin_nx, fin_exc, sq_str]) (by
        have : w.cps.toList.length = w.length := Array.length_toList
        rw [this]; unfold big; omega) (by
        intro c hc
        refine ⟨?_, fun z => by simp only [List.map_cons, List.map_nil, List.length_cons, List.length_nil, List.replicate_zero, List.replicate_succ, List.append_nil, List.nil_append, List.cons_append, Nat.sub_self, Nat.reduceSub, Nat.reduceAdd, ifT, len_ld, is_ld, rv_ld, sq_ld, dE_var, dE_int, dE_bl, dE_non, dE_str, dE_glob, dE_neg, dE_not, dE_bin, dE_cmp, dE_chain, dE_bop, dE_ite, dE_tup, dE_lst, dE_call, dE_bi, dE_isi, dE_ix, dE_slU, dE_slL, dE_slB, dE_rev, dE_olen, dE_oix, dE_fld, dE_new, dE_meth, nox_ok, ins_ins, fld_0, fld_1, fld_2, dT_tr, dT_otr, dT_cmp, dT_chain, dT_bop, dT_not, dS_try, try_nx, try_ret, dE_index, dE_split, dE_join, dE_trng, dT_chain3, dS_newll, lt_lst, lt_tup, dI_val, dI_own, dI_enum, dI_zip, dS_expr, dS_asg, dS_newl, dS_par, dS_par3, dS_unp, dS_ret, dS_ite, dS_rai, dS_frz, dS_mt, dS_seti, dS_aug, dEs_nil, dEs_cons, dB_one, dB_cons, dTs_nil, dTs_cons, dSs_nil, dSs_cons, b_add, b_sub, b_mul, b_fdiv, b_mod, b_pow, b_addT, b_addL, b_addS, c_lt, c_le, c_gt, c_ge, c_eq, c_ne, c_is, c_isnot, c_isB, c_isnotB, t_non, t_bl, t_int, t_lst, t_tup, n_neg, n_not, ix_tup, ix_lst, ix_scr, at_0, at_1, at_2, io_int, rv_lst, rv_tup, sl_lst, sl_tup, is_int, is_int_b, is_bl_b, is_bl_i, is_tup, is_lst, is_tup_l, is_lst_t, len_lst, len_tup, len_scr, bi_abs', bi_min', bi_max', bi_tupL, bi_tupT, bi_lstL, bi_lstT, sq_lst, sq_tup, ls_lst, s_one, s_two, g_app, ix_fr0, ix_fr1, is_fr, len_fr, ownAt, okB, excB, badB, out_ok, out_exc, then_nx, then_ret, then_exc, List.getElem?_cons_zero, List.getElem?_cons_succ, List.set_cons_zero, List.set_cons_succ, big, Nat.reduceLeDiff, Nat.reduceLT, fin_ret, fin_nx, fin_exc]⟩
        simp only [List.map_cons, List.map_nil, List.length_cons, List.length_nil, List.replicate_zero, List.replicate_succ, List.append_nil, List.nil_append, List.cons_append, Nat.sub_self, Nat.reduceSub, Nat.reduceAdd, ifT, len_ld, is_ld, rv_ld, sq_ld, dE_var, dE_int, dE_bl, dE_non, dE_str, dE_glob, dE_neg, dE_not, dE_bin, dE_cmp, dE_chain, dE_bop, dE_ite, dE_tup, dE_lst, dE_call, dE_bi, dE_isi, dE_ix, dE_slU, dE_slL, dE_slB, dE_rev, dE_olen, dE_oix, dE_fld, dE_new, dE_meth, nox_ok, ins_ins, fld_0, fld_1, fld_2, dT_tr, dT_otr, dT_cmp, dT_chain, dT_bop, dT_not, dS_try, try_nx, try_ret, dE_index, dE_split, dE_join, dE_trng, dT_chain3, dS_newll, lt_lst, lt_tup, dI_val, dI_own, dI_enum, dI_zip, dS_expr, dS_asg, dS_newl, dS_par, dS_par3, dS_unp, dS_ret, dS_ite, dS_rai, dS_frz, dS_mt, dS_seti, dS_aug, dEs_nil, dEs_cons, dB_one, dB_cons, dTs_nil, dTs_cons, dSs_nil, dSs_cons, b_add, b_sub, b_mul, b_fdiv, b_mod, b_pow, b_addT, b_addL, b_addS, c_lt, c_le, c_gt, c_ge, c_eq, c_ne, c_is, c_isnot, c_isB, c_isnotB, t_non, t_bl, t_int, t_lst, t_tup, n_neg, n_not, ix_tup, ix_lst, ix_scr, at_0, at_1, at_2, io_int, rv_lst, rv_tup, sl_lst, sl_tup, is_int, is_int_b, is_bl_b, is_bl_i, is_tup, is_lst, is_tup_l, is_lst_t, len_lst, len_tup, len_scr, bi_abs', bi_min', bi_max', bi_tupL, bi_tupT, bi_lstL, bi_lstT, sq_lst, sq_tup, ls_lst, s_one, s_two, g_app, ix_fr0, ix_fr1, is_fr, len_fr, ownAt, okB, excB, badB, out_ok, out_exc, then_nx, then_ret, then_exc, List.getElem?_cons_zero, List.getElem?_cons_succ, List.set_cons_zero, List.set_cons_succ, big, Nat.reduceLeDiff, Nat.reduceLT, fin_ret, fin_nx, fin_exc, gl_FIGURES, ef, notin_fig]
        cases inFig c <;> rfl)]
      cases q : (w.cps.toList.filter fun c => !inFig c) with
      | nil =>
        have hd : ∀ c ∈ w.cps.toList, 48 ≤ c ∧ c ≤ 57 := by
          intro c hc
          have := List.filter_eq_nil_iff.mp q c hc
          rw [inFig_iff] at this
          simpa using this
        obtain ⟨v, e, v0, v1⟩ := dig_reads (by omega) (by omega) hd
        have bi := bi_int_str e (by omega)
        refine .inr ⟨v, v0, v1, ?_⟩
        simp only [List.map_cons, List.map_nil, List.length_cons, List.length_nil, List.replicate_zero, List.replicate_succ, List.append_nil, List.nil_append, List.cons_append, Nat.sub_self, Nat.reduceSub, Nat.reduceAdd, ifT, len_ld, is_ld, rv_ld, sq_ld, dE_var, dE_int, dE_bl, dE_non, dE_str, dE_glob, dE_neg, dE_not, dE_bin, dE_cmp, dE_chain, dE_bop, dE_ite, dE_tup, dE_lst, dE_call, dE_bi, dE_isi, dE_ix, dE_slU, dE_slL, dE_slB, dE_rev, dE_olen, dE_oix, dE_fld, dE_new, dE_meth, nox_ok, ins_ins, fld_0, fld_1, fld_2, dT_tr, dT_otr, dT_cmp, dT_chain, dT_bop, dT_not, dS_try, try_nx, try_ret, dE_index, dE_split, dE_join, dE_trng, dT_chain3, dS_newll, lt_lst, lt_tup, dI_val, dI_own, dI_enum, dI_zip, dS_expr, dS_asg, dS_newl, dS_par, dS_par3, dS_unp, dS_ret, dS_ite, dS_rai, dS_frz, dS_mt, dS_seti, dS_aug, dEs_nil, dEs_cons, dB_one, dB_cons, dTs_nil, dTs_cons, dSs_nil, dSs_cons, b_add, b_sub, b_mul, b_fdiv, b_mod, b_pow, b_addT, b_addL, b_addS, c_lt, c_le, c_gt, c_ge, c_eq, c_ne, c_is, c_isnot, c_isB, c_isnotB, t_non, t_bl, t_int, t_lst, t_tup, n_neg, n_not, ix_tup, ix_lst, ix_scr, at_0, at_1, at_2, io_int, rv_lst, rv_tup, sl_lst, sl_tup, is_int, is_int_b, is_bl_b, is_bl_i, is_tup, is_lst, is_tup_l, is_lst_t, len_lst, len_tup, len_scr, bi_abs', bi_min', bi_max', bi_tupL, bi_tupT, bi_lstL, bi_lstT, sq_lst, sq_tup, ls_lst, s_one, s_two, g_app, ix_fr0, ix_fr1, is_fr, len_fr, ownAt, okB, excB, badB, out_ok, out_exc, then_nx, then_ret, then_exc, List.getElem?_cons_zero, List.getElem?_cons_succ, List.set_cons_zero, List.set_cons_succ, big, Nat.reduceLeDiff, Nat.reduceLT, fin_ret, fin_nx, fin_exc, List.isEmpty_nil, Bool.not_true, Bool.false_eq_true, if_false, bi]
      | cons a l =>
        refine .inl ?_
        simp only [List.map_cons, List.map_nil, List.length_cons, List.length_nil, List.replicate_zero, List.replicate_succ, List.append_nil, List.nil_append, List.cons_append, Nat.sub_self, Nat.reduceSub, Nat.reduceAdd, ifT, len_ld, is_ld, rv_ld, sq_ld, dE_var, dE_int, dE_bl, dE_non, dE_str, dE_glob, dE_neg, dE_not, dE_bin, dE_cmp, dE_chain, dE_bop, dE_ite, dE_tup, dE_lst, dE_call, dE_bi, dE_isi, dE_ix, dE_slU, dE_slL, dE_slB, dE_rev, dE_olen, dE_oix, dE_fld, dE_new, dE_meth, nox_ok, ins_ins, fld_0, fld_1, fld_2, dT_tr, dT_otr, dT_cmp, dT_chain, dT_bop, dT_not, dS_try, try_nx, try_ret, dE_index, dE_split, dE_join, dE_trng, dT_chain3, dS_newll, lt_lst, lt_tup, dI_val, dI_own, dI_enum, dI_zip, dS_expr, dS_asg, dS_newl, dS_par, dS_par3, dS_unp, dS_ret, dS_ite, dS_rai, dS_frz, dS_mt, dS_seti, dS_aug, dEs_nil, dEs_cons, dB_one, dB_cons, dTs_nil, dTs_cons, dSs_nil, dSs_cons, b_add, b_sub, b_mul, b_fdiv, b_mod, b_pow, b_addT, b_addL, b_addS, c_lt, c_le, c_gt, c_ge, c_eq, c_ne, c_is, c_isnot, c_isB, c_isnotB, t_non, t_bl, t_int, t_lst, t_tup, n_neg, n_not, ix_tup, ix_lst, ix_scr, at_0, at_1, at_2, io_int, rv_lst, rv_tup, sl_lst, sl_tup, is_int, is_int_b, is_bl_b, is_bl_i, is_tup, is_lst, is_tup_l, is_lst_t, len_lst, len_tup, len_scr, bi_abs', bi_min', bi_max', bi_tupL, bi_tupT, bi_lstL, bi_lstT, sq_lst, sq_tup, ls_lst, s_one, s_two, g_app, ix_fr0, ix_fr1, is_fr, len_fr, ownAt, okB, excB, badB, out_ok, out_exc, then_nx, then_ret, then_exc, List.getElem?_cons_zero, List.getElem?_cons_succ, List.set_cons_zero, List.set_cons_succ, big, Nat.reduceLeDiff, Nat.reduceLT, fin_ret, fin_nx, fin_exc, List.isEmpty_cons, Bool.not_false, Bool.false_eq_true, Bool.true_eq_false, if_false, if_true]
    · refine .inl ?_
      simp only [D_height_in, env0, List.map_cons, List.map_nil, List.length_cons, List.length_nil, List.replicate_zero, List.replicate_succ, List.append_nil, List.nil_append, List.cons_append, Nat.sub_self, Nat.reduceSub, Nat.reduceAdd, ifT, len_ld, is_ld, rv_ld, sq_ld, dE_var, dE_int, dE_bl, dE_non, dE_str, dE_glob, dE_neg, dE_not, dE_bin, dE_cmp, dE_chain, dE_bop, dE_ite, dE_tup, dE_lst, dE_call, dE_bi, dE_isi, dE_ix, dE_slU, dE_slL, dE_slB, dE_rev, dE_olen, dE_oix, dE_fld, dE_new, dE_meth, nox_ok, ins_ins, fld_0, fld_1, fld_2, dT_tr, dT_otr, dT_cmp, dT_chain, dT_bop, dT_not, dS_try, try_nx, try_ret, dE_index, dE_split, dE_join, dE_trng, dT_chain3, dS_newll, lt_lst, lt_tup, dI_val, dI_own, dI_enum, dI_zip, dS_expr, dS_asg, dS_newl, dS_par, dS_par3, dS_unp, dS_ret, dS_ite, dS_rai, dS_frz, dS_mt, dS_seti, dS_aug, dEs_nil, dEs_cons, dB_one, dB_cons, dTs_nil, dTs_cons, dSs_nil, dSs_cons, b_add, b_sub, b_mul, b_fdiv, b_mod, b_pow, b_addT, b_addL, b_addS, c_lt, c_le, c_gt, c_ge, c_eq, c_ne, c_is, c_isnot, c_isB, c_isnotB, t_non, t_bl, t_int, t_lst, t_tup, n_neg, n_not, ix_tup, ix_lst, ix_scr, at_0, at_1, at_2, io_int, rv_lst, rv_tup, sl_lst, sl_tup, is_int, is_int_b, is_bl_b, is_bl_i, is_tup, is_lst, is_tup_l, is_lst_t, len_lst, len_tup, len_scr, bi_abs', bi_min', bi_max', bi_tupL, bi_tupT, bi_lstL, bi_lstT, sq_lst, sq_tup, ls_lst, s_one, s_two, g_app, ix_fr0, ix_fr1, is_fr, len_fr, ownAt, okB, excB, badB, out_ok, out_exc, then_nx, then_ret, then_exc, List.getElem?_cons_zero, List.getElem?_cons_succ, List.set_cons_zero, List.set_cons_succ, big, Nat.reduceLeDiff, Nat.reduceLT, fin_ret, fin_nx, fin_exc, ls, c1, c2, decide_true, decide_false, if_true, Bool.not_false, Bool.false_eq_true, Bool.true_eq_false, if_false]
  · refine .inl ?_
    simp only [D_height_in, env0, List.map_cons, List.map_nil, List.length_cons, List.length_nil, List.replicate_zero, List.replicate_succ, List.append_nil, List.nil_append, List.cons_append, Nat.sub_self, Nat.reduceSub, Nat.reduceAdd, ifT, len_ld, is_ld, rv_ld, sq_ld, dE_var, dE_int, dE_bl, dE_non, dE_str, dE_glob, dE_neg, dE_not, dE_bin, dE_cmp, dE_chain, dE_bop, dE_ite, dE_tup, dE_lst, dE_call, dE_bi, dE_isi, dE_ix, dE_slU, dE_slL, dE_slB, dE_rev, dE_olen, dE_oix, dE_fld, dE_new, dE_meth, nox_ok, ins_ins, fld_0, fld_1, fld_2, dT_tr, dT_otr, dT_cmp, dT_chain, dT_bop, dT_not, dS_try, try_nx, try_ret, dE_index, dE_split, dE_join, dE_trng, dT_chain3, dS_newll, lt_lst, lt_tup, dI_val, dI_own, dI_enum, dI_zip, dS_expr, dS_asg, dS_newl, dS_par, dS_par3, dS_unp, dS_ret, dS_ite, dS_rai, dS_frz, dS_mt, dS_seti, dS_aug, dEs_nil, dEs_cons, dB_one, dB_cons, dTs_nil, dTs_cons, dSs_nil, dSs_cons, b_add, b_sub, b_mul, b_fdiv, b_mod, b_pow, b_addT, b_addL, b_addS, c_lt, c_le, c_gt, c_ge, c_eq, c_ne, c_is, c_isnot, c_isB, c_isnotB, t_non, t_bl, t_int, t_lst, t_tup, n_neg, n_not, ix_tup, ix_lst, ix_scr, at_0, at_1, at_2, io_int, rv_lst, rv_tup, sl_lst, sl_tup, is_int, is_int_b, is_bl_b, is_bl_i, is_tup, is_lst, is_tup_l, is_lst_t, len_lst, len_tup, len_scr, bi_abs', bi_min', bi_max', bi_tupL, bi_tupT, bi_lstL, bi_lstT, sq_lst, sq_tup, ls_lst, s_one, s_two, g_app, ix_fr0, ix_fr1, is_fr, len_fr, ownAt, okB, excB, badB, out_ok, out_exc, then_nx, then_ret, then_exc, List.getElem?_cons_zero, List.getElem?_cons_succ, List.set_cons_zero, List.set_cons_succ, big, Nat.reduceLeDiff, Nat.reduceLT, fin_ret, fin_nx, fin_exc, ls, c1, decide_true, decide_false, if_true, Bool.not_false, Bool.false_eq_true, Bool.true_eq_false, if_false]
theorem mapX_any {f : D → R D} {c : Nat} {ws : List Str} (h : ∀ w ∈ ws, f (.str w) = .exc c ∨ ∃ v, 0 ≤ v ∧ v ≤ 999 ∧ f (.str w) = .ok (.int v)) :
    mapX f (ws.map D.str) = .exc c ∨ ∃ vs : List Int, (∀ v ∈ vs, 0 ≤ v ∧ v ≤ 999) ∧ vs.length = ws.length ∧ mapX f (ws.map D.str) = .ok (vs.map D.int) := by
  induction ws with
  | nil => exact .inr ⟨[], by simp, rfl, rfl⟩
  | cons w ws ih =>
    simp only [List.map_cons, mapX]
    rcases h w List.mem_cons_self with e | ⟨v, v0, v1, e⟩
    · rw [e]; exact .inl rfl
    · rw [e]
      rcases ih fun w' hw => h w' (List.mem_cons_of_mem _ hw) with i | ⟨vs, h1, h2, i⟩
      · rw [i]; exact .inl rfl
      · rw [i]
        refine .inr ⟨v :: vs, ?_, by simp [h2], rfl⟩
        intro x hx
        rcases List.mem_cons.mp hx with rfl | hx
        · exact ⟨v0, v1⟩
        · exact h1 x hx
theorem join_lens {c : Nat} : ∀ {ws : List Str}, ws.length ≤ (Str.join ⟨#[c]⟩ ws).length + 1 ∧ ∀ w ∈ ws, w.length ≤ (Str.join ⟨#[c]⟩ ws).length
  | [] => ⟨by simp, fun w hw => absurd hw List.not_mem_nil⟩
  | [x] => ⟨by simp, fun w hw => by rw [List.mem_singleton.mp hw]; exact Nat.le_refl _⟩
  | x :: y :: r => by
    obtain ⟨i1, i2⟩ := join_lens (c := c) (ws := y :: r)
    have e : (Str.join ⟨#[c]⟩ (x :: y :: r)).length = x.length + (1 + (Str.join ⟨#[c]⟩ (y :: r)).length) := by
      have := congrArg List.length (join_two c x y r)
      rw [List.length_append, List.length_cons] at this
      have e1 : ∀ s : Str, s.cps.toList.length = s.length := fun s => Array.length_toList
      rw [e1, e1, e1] at this
      omega
    refine ⟨by rw [e, List.length_cons]; omega, fun w hw => ?_⟩
    rcases List.mem_cons.mp hw with rfl | hw
    · rw [e]; omega
    · have := i2 w hw
      rw [e]; omega
theorem pl_ldK {vs : List Int} (h : vs.length ≤ 1000) : PlL (ld vs) := by
  refine ⟨rfl, fun ds e => ?_⟩
  have e : D.tup (vs.map D.int) = D.tup ds := e
  cases e
  refine ⟨by rw [List.length_map]; exact h, fun x hx => ?_⟩
  obtain ⟨v, _, rfl⟩ := List.mem_map.mp hx
  rfl
theorem read_any (n : Nat) (s : Str) (h : TxtOk s) : interp P (n + 5) i_read [.str s] = .exc e_BadText ∨ ∃ L : List Int, Land L ∧ s = landT L ∧ interp P (n + 5) i_read [.str s] = .ok (ld L) := by
  obtain ⟨hl, hc⟩ := h
  have es : (" " : Str) = spc := rfl
  have js : Str.join ⟨#[32]⟩ (Txt.split s ⟨#[32]⟩) = s := StrLaws.join_split _ _
  obtain ⟨j1, j2⟩ := join_lens (c := 32) (ws := Txt.split s ⟨#[32]⟩)
  rw [js] at j1 j2
  have sp : splitD s (.str spc) = .ok (.lst ((Txt.split s ⟨#[32]⟩).map D.str)) := by
    unfold splitD
    simp only [spc_len]
    have c : ((!((1 : Nat) == 0)) && decide (s.length ≤ big)) = true := by rw [decide_eq_true (show s.length ≤ big by unfold big; omega)]; rfl
    rw [if_pos c, spc_eq]
  generalize Txt.split s ⟨#[32]⟩ = ws at j1 j2 sp
  have so := shp_str (str_ok_of hc)
  rw [run_fn' f_read]
  simp only [D_read, env0, List.map_cons, List.map_nil, List.length_cons, List.length_nil, List.replicate_zero, List.replicate_succ, List.append_nil, List.nil_append, List.cons_append, Nat.sub_self, Nat.reduceSub, Nat.reduceAdd, ifT, len_ld, is_ld, rv_ld, sq_ld, dE_var, dE_int, dE_bl, dE_non, dE_str, dE_glob, dE_neg, dE_not, dE_bin, dE_cmp, dE_chain, dE_bop, dE_ite, dE_tup, dE_lst, dE_call, dE_bi, dE_isi, dE_ix, dE_slU, dE_slL, dE_slB, dE_rev, dE_olen, dE_oix, dE_fld, dE_new, dE_meth, nox_ok, ins_ins, fld_0, fld_1, fld_2, dT_tr, dT_otr, dT_cmp, dT_chain, dT_bop, dT_not, dS_try, try_nx, try_ret, dE_index, dE_split, dE_join, dE_trng, dT_chain3, dS_newll, lt_lst, lt_tup, dI_val, dI_own, dI_enum, dI_zip, dS_expr, dS_asg, dS_newl, dS_par, dS_par3, dS_unp, dS_ret, dS_ite, dS_rai, dS_frz, dS_mt, dS_seti, dS_aug, dEs_nil, dEs_cons, dB_one, dB_cons, dTs_nil, dTs_cons, dSs_nil, dSs_cons, b_add, b_sub, b_mul, b_fdiv, b_mod, b_pow, b_addT, b_addL, b_addS, c_lt, c_le, c_gt, c_ge, c_eq, c_ne, c_is, c_isnot, c_isB, c_isnotB, t_non, t_bl, t_int, t_lst, t_tup, n_neg, n_not, ix_tup, ix_lst, ix_scr, at_0, at_1, at_2, io_int, rv_lst, rv_tup, sl_lst, sl_tup, is_int, is_int_b, is_bl_b, is_bl_i, is_tup, is_lst, is_tup_l, is_lst_t, len_lst, len_tup, len_scr, bi_abs', bi_min', bi_max', bi_tupL, bi_tupT, bi_lstL, bi_lstT, sq_lst, sq_tup, ls_lst, s_one, s_two, g_app, ix_fr0, ix_fr1, is_fr, len_fr, ownAt, okB, excB, badB, out_ok, out_exc, then_nx, then_ret, then_exc, List.getElem?_cons_zero, List.getElem?_cons_succ, List.set_cons_zero, List.set_cons_succ, big, Nat.reduceLeDiff, Nat.reduceLT, fin_ret, fin_nx, fin_exc, is_str, Bool.not_true, Bool.false_eq_true, if_false]
  rw [dS_asgX]
  have eI : denI (interp P (n + 4)) P.gl (.val (.split (.var 0) (.str " "))) [.val (.str s), .un, .un] = .ok (ws.map D.str) := by
    simp only [List.map_cons, List.map_nil, List.length_cons, List.length_nil, List.replicate_zero, List.replicate_succ, List.append_nil, List.nil_append, List.cons_append, Nat.sub_self, Nat.reduceSub, Nat.reduceAdd, ifT, len_ld, is_ld, rv_ld, sq_ld, dE_var, dE_int, dE_bl, dE_non, dE_str, dE_glob, dE_neg, dE_not, dE_bin, dE_cmp, dE_chain, dE_bop, dE_ite, dE_tup, dE_lst, dE_call, dE_bi, dE_isi, dE_ix, dE_slU, dE_slL, dE_slB, dE_rev, dE_olen, dE_oix, dE_fld, dE_new, dE_meth, nox_ok, ins_ins, fld_0, fld_1, fld_2, dT_tr, dT_otr, dT_cmp, dT_chain, dT_bop, dT_not, dS_try, try_nx, try_ret, dE_index, dE_split, dE_join, dE_trng, dT_chain3, dS_newll, lt_lst, lt_tup, dI_val, dI_own, dI_enum, dI_zip, dS_expr, dS_asg, dS_newl, dS_par, dS_par3, dS_unp, dS_ret, dS_ite, dS_rai, dS_frz, dS_mt, dS_seti, dS_aug, dEs_nil, dEs_cons, dB_one, dB_cons, dTs_nil, dTs_cons, dSs_nil, dSs_cons, b_add, b_sub, b_mul, b_fdiv, b_mod, b_pow, b_addT, b_addL, b_addS, c_lt, c_le, c_gt, c_ge, c_eq, c_ne, c_is, c_isnot, c_isB, c_isnotB, t_non, t_bl, t_int, t_lst, t_tup, n_neg, n_not, ix_tup, ix_lst, ix_scr, at_0, at_1, at_2, io_int, rv_lst, rv_tup, sl_lst, sl_tup, is_int, is_int_b, is_bl_b, is_bl_i, is_tup, is_lst, is_tup_l, is_lst_t, len_lst, len_tup, len_scr, bi_abs', bi_min', bi_max', bi_tupL, bi_tupT, bi_lstL, bi_lstT, sq_lst, sq_tup, ls_lst, s_one, s_two, g_app, ix_fr0, ix_fr1, is_fr, len_fr, ownAt, okB, excB, badB, out_ok, out_exc, then_nx, then_ret, then_exc, List.getElem?_cons_zero, List.getElem?_cons_succ, List.set_cons_zero, List.set_cons_succ, big, Nat.reduceLeDiff, Nat.reduceLT, fin_ret, fin_nx, fin_exc, strD, es, sp]
  rw [eI]
  have hm := mapX_any (f := fun d => denE (interp P (n + 4)) P.gl (.call i_height_in (.cons (.var 2) .nil)) ((wipeE [.val (.str s), .un, .un] [2]).set 2 (.val d))) (c := e_BadText) (ws := ws) (by
    intro w hw
    have := height_any (n + 3) w (by have := j2 w hw; omega)
    simp only [wipeE, List.map_cons, List.map_nil, List.length_cons, List.length_nil, List.replicate_zero, List.replicate_succ, List.append_nil, List.nil_append, List.cons_append, Nat.sub_self, Nat.reduceSub, Nat.reduceAdd, ifT, len_ld, is_ld, rv_ld, sq_ld, dE_var, dE_int, dE_bl, dE_non, dE_str, dE_glob, dE_neg, dE_not, dE_bin, dE_cmp, dE_chain, dE_bop, dE_ite, dE_tup, dE_lst, dE_call, dE_bi, dE_isi, dE_ix, dE_slU, dE_slL, dE_slB, dE_rev, dE_olen, dE_oix, dE_fld, dE_new, dE_meth, nox_ok, ins_ins, fld_0, fld_1, fld_2, dT_tr, dT_otr, dT_cmp, dT_chain, dT_bop, dT_not, dS_try, try_nx, try_ret, dE_index, dE_split, dE_join, dE_trng, dT_chain3, dS_newll, lt_lst, lt_tup, dI_val, dI_own, dI_enum, dI_zip, dS_expr, dS_asg, dS_newl, dS_par, dS_par3, dS_unp, dS_ret, dS_ite, dS_rai, dS_frz, dS_mt, dS_seti, dS_aug, dEs_nil, dEs_cons, dB_one, dB_cons, dTs_nil, dTs_cons, dSs_nil, dSs_cons, b_add, b_sub, b_mul, b_fdiv, b_mod, b_pow, b_addT, b_addL, b_addS, c_lt, c_le, c_gt, c_ge, c_eq, c_ne, c_is, c_isnot, c_isB, c_isnotB, t_non, t_bl, t_int, t_lst, t_tup, n_neg, n_not, ix_tup, ix_lst, ix_scr, at_0, at_1, at_2, io_int, rv_lst, rv_tup, sl_lst, sl_tup, is_int, is_int_b, is_bl_b, is_bl_i, is_tup, is_lst, is_tup_l, is_lst_t, len_lst, len_tup, len_scr, bi_abs', bi_min', bi_max', bi_tupL, bi_tupT, bi_lstL, bi_lstT, sq_lst, sq_tup, ls_lst, s_one, s_two, g_app, ix_fr0, ix_fr1, is_fr, len_fr, ownAt, okB, excB, badB, out_ok, out_exc, then_nx, then_ret, then_exc, List.getElem?_cons_zero, List.getElem?_cons_succ, List.set_cons_zero, List.set_cons_succ, big, Nat.reduceLeDiff, Nat.reduceLT, fin_ret, fin_nx, fin_exc]
    rcases this with e | ⟨v, v0, v1, e⟩
    · rw [e]; exact .inl rfl
    · rw [e]; exact .inr ⟨v, v0, v1, rfl⟩)
  unfold cmpX
  rw [R.ok_bind, List.length_map, if_pos (by unfold big; omega)]
  rcases hm with hm | ⟨vs, v0, vl, hm⟩
  · rw [hm]; exact .inl rfl
  · rw [hm]
    have el : D.tup (vs.map D.int) = ld vs := rfl
    have il := is_land_d (n + 2) (ld vs) (pl_ldK (by omega))
    by_cases hld : isLd (ld vs) = true
    · haveI := land_of hld
      have sh := shown_ok n vs
      have so' := shp_str (landT_ok (L := vs) fun x hx => (v0 x hx).1)
      rw [hld] at il
      by_cases heq : landT vs = s
      · refine .inr ⟨vs, this, heq.symm, ?_⟩
        have hb : (landT vs == s) = true := by simp [heq]
        simp only [List.map_cons, List.map_nil, List.length_cons, List.length_nil, List.replicate_zero, List.replicate_succ, List.append_nil, List.nil_append, List.cons_append, Nat.sub_self, Nat.reduceSub, Nat.reduceAdd, ifT, len_ld, is_ld, rv_ld, sq_ld, dE_var, dE_int, dE_bl, dE_non, dE_str, dE_glob, dE_neg, dE_not, dE_bin, dE_cmp, dE_chain, dE_bop, dE_ite, dE_tup, dE_lst, dE_call, dE_bi, dE_isi, dE_ix, dE_slU, dE_slL, dE_slB, dE_rev, dE_olen, dE_oix, dE_fld, dE_new, dE_meth, nox_ok, ins_ins, fld_0, fld_1, fld_2, dT_tr, dT_otr, dT_cmp, dT_chain, dT_bop, dT_not, dS_try, try_nx, try_ret, dE_index, dE_split, dE_join, dE_trng, dT_chain3, dS_newll, lt_lst, lt_tup, dI_val, dI_own, dI_enum, dI_zip, dS_expr, dS_asg, dS_newl, dS_par, dS_par3, dS_unp, dS_ret, dS_ite, dS_rai, dS_frz, dS_mt, dS_seti, dS_aug, dEs_nil, dEs_cons, dB_one, dB_cons, dTs_nil, dTs_cons, dSs_nil, dSs_cons, b_add, b_sub, b_mul, b_fdiv, b_mod, b_pow, b_addT, b_addL, b_addS, c_lt, c_le, c_gt, c_ge, c_eq, c_ne, c_is, c_isnot, c_isB, c_isnotB, t_non, t_bl, t_int, t_lst, t_tup, n_neg, n_not, ix_tup, ix_lst, ix_scr, at_0, at_1, at_2, io_int, rv_lst, rv_tup, sl_lst, sl_tup, is_int, is_int_b, is_bl_b, is_bl_i, is_tup, is_lst, is_tup_l, is_lst_t, len_lst, len_tup, len_scr, bi_abs', bi_min', bi_max', bi_tupL, bi_tupT, bi_lstL, bi_lstT, sq_lst, sq_tup, ls_lst, s_one, s_two, g_app, ix_fr0, ix_fr1, is_fr, len_fr, ownAt, okB, excB, badB, out_ok, out_exc, then_nx, then_ret, then_exc, List.getElem?_cons_zero, List.getElem?_cons_succ, List.set_cons_zero, List.set_cons_succ, big, Nat.reduceLeDiff, Nat.reduceLT, fin_ret, fin_nx, fin_exc, el, il, Bool.not_true, Bool.false_eq_true, if_false, sh, so, so', Bool.and_self, if_true, eqv_str, hb]
      · refine .inl ?_
        have hb : (landT vs == s) = false := by simp [heq]
        simp only [List.map_cons, List.map_nil, List.length_cons, List.length_nil, List.replicate_zero, List.replicate_succ, List.append_nil, List.nil_append, List.cons_append, Nat.sub_self, Nat.reduceSub, Nat.reduceAdd, ifT, len_ld, is_ld, rv_ld, sq_ld, dE_var, dE_int, dE_bl, dE_non, dE_str, dE_glob, dE_neg, dE_not, dE_bin, dE_cmp, dE_chain, dE_bop, dE_ite, dE_tup, dE_lst, dE_call, dE_bi, dE_isi, dE_ix, dE_slU, dE_slL, dE_slB, dE_rev, dE_olen, dE_oix, dE_fld, dE_new, dE_meth, nox_ok, ins_ins, fld_0, fld_1, fld_2, dT_tr, dT_otr, dT_cmp, dT_chain, dT_bop, dT_not, dS_try, try_nx, try_ret, dE_index, dE_split, dE_join, dE_trng, dT_chain3, dS_newll, lt_lst, lt_tup, dI_val, dI_own, dI_enum, dI_zip, dS_expr, dS_asg, dS_newl, dS_par, dS_par3, dS_unp, dS_ret, dS_ite, dS_rai, dS_frz, dS_mt, dS_seti, dS_aug, dEs_nil, dEs_cons, dB_one, dB_cons, dTs_nil, dTs_cons, dSs_nil, dSs_cons, b_add, b_sub, b_mul, b_fdiv, b_mod, b_pow, b_addT, b_addL, b_addS, c_lt, c_le, c_gt, c_ge, c_eq, c_ne, c_is, c_isnot, c_isB, c_isnotB, t_non, t_bl, t_int, t_lst, t_tup, n_neg, n_not, ix_tup, ix_lst, ix_scr, at_0, at_1, at_2, io_int, rv_lst, rv_tup, sl_lst, sl_tup, is_int, is_int_b, is_bl_b, is_bl_i, is_tup, is_lst, is_tup_l, is_lst_t, len_lst, len_tup, len_scr, bi_abs', bi_min', bi_max', bi_tupL, bi_tupT, bi_lstL, bi_lstT, sq_lst, sq_tup, ls_lst, s_one, s_two, g_app, ix_fr0, ix_fr1, is_fr, len_fr, ownAt, okB, excB, badB, out_ok, out_exc, then_nx, then_ret, then_exc, List.getElem?_cons_zero, List.getElem?_cons_succ, List.set_cons_zero, List.set_cons_succ, big, Nat.reduceLeDiff, Nat.reduceLT, fin_ret, fin_nx, fin_exc, el, il, Bool.not_true, Bool.false_eq_true, if_false, sh, so, so', Bool.and_self, if_true, eqv_str, hb, Bool.not_false, Bool.true_eq_false]
    · refine .inl ?_
      rw [Bool.not_eq_true] at hld
      rw [hld] at il
      simp only [List.map_cons, List.map_nil, List.length_cons, List.length_nil, List.replicate_zero, List.replicate_succ, List.append_nil, List.nil_append, List.cons_append, Nat.sub_self, Nat.reduceSub, Nat.reduceAdd, ifT, len_ld, is_ld, rv_ld, sq_ld, dE_var, dE_int, dE_bl, dE_non, dE_str, dE_glob, dE_neg, dE_not, dE_bin, dE_cmp, dE_chain, dE_bop, dE_ite, dE_tup, dE_lst, dE_call, dE_bi, dE_isi, dE_ix, dE_slU, dE_slL, dE_slB, dE_rev, dE_olen, dE_oix, dE_fld, dE_new, dE_meth, nox_ok, ins_ins, fld_0, fld_1, fld_2, dT_tr, dT_otr, dT_cmp, dT_chain, dT_bop, dT_not, dS_try, try_nx, try_ret, dE_index, dE_split, dE_join, dE_trng, dT_chain3, dS_newll, lt_lst, lt_tup, dI_val, dI_own, dI_enum, dI_zip, dS_expr, dS_asg, dS_newl, dS_par, dS_par3, dS_unp, dS_ret, dS_ite, dS_rai, dS_frz, dS_mt, dS_seti, dS_aug, dEs_nil, dEs_cons, dB_one, dB_cons, dTs_nil, dTs_cons, dSs_nil, dSs_cons, b_add, b_sub, b_mul, b_fdiv, b_mod, b_pow, b_addT, b_addL, b_addS, c_lt, c_le, c_gt, c_ge, c_eq, c_ne, c_is, c_isnot, c_isB, c_isnotB, t_non, t_bl, t_int, t_lst, t_tup, n_neg, n_not, ix_tup, ix_lst, ix_scr, at_0, at_1, at_2, io_int, rv_lst, rv_tup, sl_lst, sl_tup, is_int, is_int_b, is_bl_b, is_bl_i, is_tup, is_lst, is_tup_l, is_lst_t, len_lst, len_tup, len_scr, bi_abs', bi_min', bi_max', bi_tupL, bi_tupT, bi_lstL, bi_lstT, sq_lst, sq_tup, ls_lst, s_one, s_two, g_app, ix_fr0, ix_fr1, is_fr, len_fr, ownAt, okB, excB, badB, out_ok, out_exc, then_nx, then_ret, then_exc, List.getElem?_cons_zero, List.getElem?_cons_succ, List.set_cons_zero, List.set_cons_succ, big, Nat.reduceLeDiff, Nat.reduceLT, fin_ret, fin_nx, fin_exc, el, il, Bool.not_false, Bool.false_eq_true, Bool.true_eq_false, if_false, if_true]
theorem refused_yes (n : Nat) (d : D) (h : interp P n i_read [d] = .exc e_BadText) : interp P (n + 1) i_law_refused [d] = .ok (.bl true) := by
  rw [run_fn' f_law_refused]
  simp only [D_law_refused, env0, List.map_cons, List.map_nil, List.length_cons, List.length_nil, List.replicate_zero, List.replicate_succ, List.append_nil, List.nil_append, List.cons_append, Nat.sub_self, Nat.reduceSub, Nat.reduceAdd, ifT, len_ld, is_ld, rv_ld, sq_ld, dE_var, dE_int, dE_bl, dE_non, dE_str, dE_glob, dE_neg, dE_not, dE_bin, dE_cmp, dE_chain, dE_bop, dE_ite, dE_tup, dE_lst, dE_call, dE_bi, dE_isi, dE_ix, dE_slU, dE_slL, dE_slB, dE_rev, dE_olen, dE_oix, dE_fld, dE_new, dE_meth, nox_ok, ins_ins, fld_0, fld_1, fld_2, dT_tr, dT_otr, dT_cmp, dT_chain, dT_bop, dT_not, dS_try, try_nx, try_ret, dE_index, dE_split, dE_join, dE_trng, dT_chain3, dS_newll, lt_lst, lt_tup, dI_val, dI_own, dI_enum, dI_zip, dS_expr, dS_asg, dS_newl, dS_par, dS_par3, dS_unp, dS_ret, dS_ite, dS_rai, dS_frz, dS_mt, dS_seti, dS_aug, dEs_nil, dEs_cons, dB_one, dB_cons, dTs_nil, dTs_cons, dSs_nil, dSs_cons, b_add, b_sub, b_mul, b_fdiv, b_mod, b_pow, b_addT, b_addL, b_addS, c_lt, c_le, c_gt, c_ge, c_eq, c_ne, c_is, c_isnot, c_isB, c_isnotB, t_non, t_bl, t_int, t_lst, t_tup, n_neg, n_not, ix_tup, ix_lst, ix_scr, at_0, at_1, at_2, io_int, rv_lst, rv_tup, sl_lst, sl_tup, is_int, is_int_b, is_bl_b, is_bl_i, is_tup, is_lst, is_tup_l, is_lst_t, len_lst, len_tup, len_scr, bi_abs', bi_min', bi_max', bi_tupL, bi_tupT, bi_lstL, bi_lstT, sq_lst, sq_tup, ls_lst, s_one, s_two, g_app, ix_fr0, ix_fr1, is_fr, len_fr, ownAt, okB, excB, badB, out_ok, out_exc, then_nx, then_ret, then_exc, List.getElem?_cons_zero, List.getElem?_cons_succ, List.set_cons_zero, List.set_cons_succ, big, Nat.reduceLeDiff, Nat.reduceLT, fin_ret, fin_nx, fin_exc, h]
  rfl
theorem base_yes (n : Nat) (d : D) (h : interp P n i_read [d] = .exc e_BadText) : interp P (n + 1) i_law_by_base [d] = .ok (.bl true) := by
  rw [run_fn' f_law_by_base]
  simp only [D_law_by_base, env0, List.map_cons, List.map_nil, List.length_cons, List.length_nil, List.replicate_zero, List.replicate_succ, List.append_nil, List.nil_append, List.cons_append, Nat.sub_self, Nat.reduceSub, Nat.reduceAdd, ifT, len_ld, is_ld, rv_ld, sq_ld, dE_var, dE_int, dE_bl, dE_non, dE_str, dE_glob, dE_neg, dE_not, dE_bin, dE_cmp, dE_chain, dE_bop, dE_ite, dE_tup, dE_lst, dE_call, dE_bi, dE_isi, dE_ix, dE_slU, dE_slL, dE_slB, dE_rev, dE_olen, dE_oix, dE_fld, dE_new, dE_meth, nox_ok, ins_ins, fld_0, fld_1, fld_2, dT_tr, dT_otr, dT_cmp, dT_chain, dT_bop, dT_not, dS_try, try_nx, try_ret, dE_index, dE_split, dE_join, dE_trng, dT_chain3, dS_newll, lt_lst, lt_tup, dI_val, dI_own, dI_enum, dI_zip, dS_expr, dS_asg, dS_newl, dS_par, dS_par3, dS_unp, dS_ret, dS_ite, dS_rai, dS_frz, dS_mt, dS_seti, dS_aug, dEs_nil, dEs_cons, dB_one, dB_cons, dTs_nil, dTs_cons, dSs_nil, dSs_cons, b_add, b_sub, b_mul, b_fdiv, b_mod, b_pow, b_addT, b_addL, b_addS, c_lt, c_le, c_gt, c_ge, c_eq, c_ne, c_is, c_isnot, c_isB, c_isnotB, t_non, t_bl, t_int, t_lst, t_tup, n_neg, n_not, ix_tup, ix_lst, ix_scr, at_0, at_1, at_2, io_int, rv_lst, rv_tup, sl_lst, sl_tup, is_int, is_int_b, is_bl_b, is_bl_i, is_tup, is_lst, is_tup_l, is_lst_t, len_lst, len_tup, len_scr, bi_abs', bi_min', bi_max', bi_tupL, bi_tupT, bi_lstL, bi_lstT, sq_lst, sq_tup, ls_lst, s_one, s_two, g_app, ix_fr0, ix_fr1, is_fr, len_fr, ownAt, okB, excB, badB, out_ok, out_exc, then_nx, then_ret, then_exc, List.getElem?_cons_zero, List.getElem?_cons_succ, List.set_cons_zero, List.set_cons_succ, big, Nat.reduceLeDiff, Nat.reduceLT, fin_ret, fin_nx, fin_exc, h]
  rfl
theorem refused_no (n : Nat) (d x : D) (h : interp P n i_read [d] = .ok x) : interp P (n + 1) i_law_refused [d] = .ok (.bl false) := by
  rw [run_fn' f_law_refused]
  simp only [D_law_refused, env0, List.map_cons, List.map_nil, List.length_cons, List.length_nil, List.replicate_zero, List.replicate_succ, List.append_nil, List.nil_append, List.cons_append, Nat.sub_self, Nat.reduceSub, Nat.reduceAdd, ifT, len_ld, is_ld, rv_ld, sq_ld, dE_var, dE_int, dE_bl, dE_non, dE_str, dE_glob, dE_neg, dE_not, dE_bin, dE_cmp, dE_chain, dE_bop, dE_ite, dE_tup, dE_lst, dE_call, dE_bi, dE_isi, dE_ix, dE_slU, dE_slL, dE_slB, dE_rev, dE_olen, dE_oix, dE_fld, dE_new, dE_meth, nox_ok, ins_ins, fld_0, fld_1, fld_2, dT_tr, dT_otr, dT_cmp, dT_chain, dT_bop, dT_not, dS_try, try_nx, try_ret, dE_index, dE_split, dE_join, dE_trng, dT_chain3, dS_newll, lt_lst, lt_tup, dI_val, dI_own, dI_enum, dI_zip, dS_expr, dS_asg, dS_newl, dS_par, dS_par3, dS_unp, dS_ret, dS_ite, dS_rai, dS_frz, dS_mt, dS_seti, dS_aug, dEs_nil, dEs_cons, dB_one, dB_cons, dTs_nil, dTs_cons, dSs_nil, dSs_cons, b_add, b_sub, b_mul, b_fdiv, b_mod, b_pow, b_addT, b_addL, b_addS, c_lt, c_le, c_gt, c_ge, c_eq, c_ne, c_is, c_isnot, c_isB, c_isnotB, t_non, t_bl, t_int, t_lst, t_tup, n_neg, n_not, ix_tup, ix_lst, ix_scr, at_0, at_1, at_2, io_int, rv_lst, rv_tup, sl_lst, sl_tup, is_int, is_int_b, is_bl_b, is_bl_i, is_tup, is_lst, is_tup_l, is_lst_t, len_lst, len_tup, len_scr, bi_abs', bi_min', bi_max', bi_tupL, bi_tupT, bi_lstL, bi_lstT, sq_lst, sq_tup, ls_lst, s_one, s_two, g_app, ix_fr0, ix_fr1, is_fr, len_fr, ownAt, okB, excB, badB, out_ok, out_exc, then_nx, then_ret, then_exc, List.getElem?_cons_zero, List.getElem?_cons_succ, List.set_cons_zero, List.set_cons_succ, big, Nat.reduceLeDiff, Nat.reduceLT, fin_ret, fin_nx, fin_exc, h]
theorem mapX_all {α : Type} {f : D → R D} {m e : α → D} {l : List α} (h : ∀ x ∈ l, f (m x) = .ok (e x)) : mapX f (l.map m) = .ok (l.map e) := by
  induction l with
  | nil => rfl
  | cons a l ih =>
    simp only [List.map_cons, mapX]
    rw [h a List.mem_cons_self, ih fun x hx => h x (List.mem_cons_of_mem _ hx)]; rfl
theorem read_okX (n : Nat) (L : List Int) [hL : Land L] : interp P (n + 5) i_read [.str (landT L)] = .ok (ld L) := by
  have hi := hL.hi
  have lo := hL.lo
  have sh := shown_ok n L
  have il := is_land_ok (n + 2) L
  have sl := split_land (L := L) (by intro z; rw [z] at lo; simp at lo) hL.h (by omega)
  have es : (" " : Str) = spc := rfl
  have so := shp_str (landT_ok (L := L) fun x hx => (hL.h x hx).1)
  have el : D.tup (L.map fun x => D.int x) = ld L := rfl
  rw [run_fn' f_read]
  simp only [D_read, env0, List.map_cons, List.map_nil, List.length_cons, List.length_nil, List.replicate_zero, List.replicate_succ, List.append_nil, List.nil_append, List.cons_append, Nat.sub_self, Nat.reduceSub, Nat.reduceAdd, ifT, len_ld, is_ld, rv_ld, sq_ld, dE_var, dE_int, dE_bl, dE_non, dE_str, dE_glob, dE_neg, dE_not, dE_bin, dE_cmp, dE_chain, dE_bop, dE_ite, dE_tup, dE_lst, dE_call, dE_bi, dE_isi, dE_ix, dE_slU, dE_slL, dE_slB, dE_rev, dE_olen, dE_oix, dE_fld, dE_new, dE_meth, nox_ok, ins_ins, fld_0, fld_1, fld_2, dT_tr, dT_otr, dT_cmp, dT_chain, dT_bop, dT_not, dS_try, try_nx, try_ret, dE_index, dE_split, dE_join, dE_trng, dT_chain3, dS_newll, lt_lst, lt_tup, dI_val, dI_own, dI_enum, dI_zip, dS_expr, dS_asg, dS_newl, dS_par, dS_par3, dS_unp, dS_ret, dS_ite, dS_rai, dS_frz, dS_mt, dS_seti, dS_aug, dEs_nil, dEs_cons, dB_one, dB_cons, dTs_nil, dTs_cons, dSs_nil, dSs_cons, b_add, b_sub, b_mul, b_fdiv, b_mod, b_pow, b_addT, b_addL, b_addS, c_lt, c_le, c_gt, c_ge, c_eq, c_ne, c_is, c_isnot, c_isB, c_isnotB, t_non, t_bl, t_int, t_lst, t_tup, n_neg, n_not, ix_tup, ix_lst, ix_scr, at_0, at_1, at_2, io_int, rv_lst, rv_tup, sl_lst, sl_tup, is_int, is_int_b, is_bl_b, is_bl_i, is_tup, is_lst, is_tup_l, is_lst_t, len_lst, len_tup, len_scr, bi_abs', bi_min', bi_max', bi_tupL, bi_tupT, bi_lstL, bi_lstT, sq_lst, sq_tup, ls_lst, s_one, s_two, g_app, ix_fr0, ix_fr1, is_fr, len_fr, ownAt, okB, excB, badB, out_ok, out_exc, then_nx, then_ret, then_exc, List.getElem?_cons_zero, List.getElem?_cons_succ, List.set_cons_zero, List.set_cons_succ, big, Nat.reduceLeDiff, Nat.reduceLT, fin_ret, fin_nx, fin_exc, is_str, Bool.not_true, Bool.false_eq_true, if_false]
  rw [dS_asgX]
  have eI : denI (interp P (n + 4)) P.gl (.val (.split (.var 0) (.str " "))) [.val (.str (landT L)), .un, .un] = .ok (L.map fun x => D.str (hstr x)) := by
    have e2 : (L.map hstr).map D.str = L.map fun x => D.str (hstr x) := by rw [List.map_map]; rfl
    simp only [List.map_cons, List.map_nil, List.length_cons, List.length_nil, List.replicate_zero, List.replicate_succ, List.append_nil, List.nil_append, List.cons_append, Nat.sub_self, Nat.reduceSub, Nat.reduceAdd, ifT, len_ld, is_ld, rv_ld, sq_ld, dE_var, dE_int, dE_bl, dE_non, dE_str, dE_glob, dE_neg, dE_not, dE_bin, dE_cmp, dE_chain, dE_bop, dE_ite, dE_tup, dE_lst, dE_call, dE_bi, dE_isi, dE_ix, dE_slU, dE_slL, dE_slB, dE_rev, dE_olen, dE_oix, dE_fld, dE_new, dE_meth, nox_ok, ins_ins, fld_0, fld_1, fld_2, dT_tr, dT_otr, dT_cmp, dT_chain, dT_bop, dT_not, dS_try, try_nx, try_ret, dE_index, dE_split, dE_join, dE_trng, dT_chain3, dS_newll, lt_lst, lt_tup, dI_val, dI_own, dI_enum, dI_zip, dS_expr, dS_asg, dS_newl, dS_par, dS_par3, dS_unp, dS_ret, dS_ite, dS_rai, dS_frz, dS_mt, dS_seti, dS_aug, dEs_nil, dEs_cons, dB_one, dB_cons, dTs_nil, dTs_cons, dSs_nil, dSs_cons, b_add, b_sub, b_mul, b_fdiv, b_mod, b_pow, b_addT, b_addL, b_addS, c_lt, c_le, c_gt, c_ge, c_eq, c_ne, c_is, c_isnot, c_isB, c_isnotB, t_non, t_bl, t_int, t_lst, t_tup, n_neg, n_not, ix_tup, ix_lst, ix_scr, at_0, at_1, at_2, io_int, rv_lst, rv_tup, sl_lst, sl_tup, is_int, is_int_b, is_bl_b, is_bl_i, is_tup, is_lst, is_tup_l, is_lst_t, len_lst, len_tup, len_scr, bi_abs', bi_min', bi_max', bi_tupL, bi_tupT, bi_lstL, bi_lstT, sq_lst, sq_tup, ls_lst, s_one, s_two, g_app, ix_fr0, ix_fr1, is_fr, len_fr, ownAt, okB, excB, badB, out_ok, out_exc, then_nx, then_ret, then_exc, List.getElem?_cons_zero, List.getElem?_cons_succ, List.set_cons_zero, List.set_cons_succ, big, Nat.reduceLeDiff, Nat.reduceLT, fin_ret, fin_nx, fin_exc, strD, es, sl, e2]
  rw [eI]
  unfold cmpX
  rw [R.ok_bind, List.length_map, if_pos (by unfold big; omega), mapX_all (m := fun x => D.str (hstr x)) (e := fun x => D.int x) (l := L) (by
    intro x hx
    have := hL.h x hx
    have hh := height_in_ok (n + 3) x this.1 this.2
    simp only [wipeE, List.map_cons, List.map_nil, List.length_cons, List.length_nil, List.replicate_zero, List.replicate_succ, List.append_nil, List.nil_append, List.cons_append, Nat.sub_self, Nat.reduceSub, Nat.reduceAdd, ifT, len_ld, is_ld, rv_ld, sq_ld, dE_var, dE_int, dE_bl, dE_non, dE_str, dE_glob, dE_neg, dE_not, dE_bin, dE_cmp, dE_chain, dE_bop, dE_ite, dE_tup, dE_lst, dE_call, dE_bi, dE_isi, dE_ix, dE_slU, dE_slL, dE_slB, dE_rev, dE_olen, dE_oix, dE_fld, dE_new, dE_meth, nox_ok, ins_ins, fld_0, fld_1, fld_2, dT_tr, dT_otr, dT_cmp, dT_chain, dT_bop, dT_not, dS_try, try_nx, try_ret, dE_index, dE_split, dE_join, dE_trng, dT_chain3, dS_newll, lt_lst, lt_tup, dI_val, dI_own, dI_enum, dI_zip, dS_expr, dS_asg, dS_newl, dS_par, dS_par3, dS_unp, dS_ret, dS_ite, dS_rai, dS_frz, dS_mt, dS_seti, dS_aug, dEs_nil, dEs_cons, dB_one, dB_cons, dTs_nil, dTs_cons, dSs_nil, dSs_cons, b_add, b_sub, b_mul, b_fdiv, b_mod, b_pow, b_addT, b_addL, b_addS, c_lt, c_le, c_gt, c_ge, c_eq, c_ne, c_is, c_isnot, c_isB, c_isnotB, t_non, t_bl, t_int, t_lst, t_tup, n_neg, n_not, ix_tup, ix_lst, ix_scr, at_0, at_1, at_2, io_int, rv_lst, rv_tup, sl_lst, sl_tup, is_int, is_int_b, is_bl_b, is_bl_i, is_tup, is_lst, is_tup_l, is_lst_t, len_lst, len_tup, len_scr, bi_abs', bi_min', bi_max', bi_tupL, bi_tupT, bi_lstL, bi_lstT, sq_lst, sq_tup, ls_lst, s_one, s_two, g_app, ix_fr0, ix_fr1, is_fr, len_fr, ownAt, okB, excB, badB, out_ok, out_exc, then_nx, then_ret, then_exc, List.getElem?_cons_zero, List.getElem?_cons_succ, List.set_cons_zero, List.set_cons_succ, big, Nat.reduceLeDiff, Nat.reduceLT, fin_ret, fin_nx, fin_exc, hh])]
  simp only [List.map_cons, List.map_nil, List.length_cons, List.length_nil, List.replicate_zero, List.replicate_succ, List.append_nil, List.nil_append, List.cons_append, Nat.sub_self, Nat.reduceSub, Nat.reduceAdd, ifT, len_ld, is_ld, rv_ld, sq_ld, dE_var, dE_int, dE_bl, dE_non, dE_str, dE_glob, dE_neg, dE_not, dE_bin, dE_cmp, dE_chain, dE_bop, dE_ite, dE_tup, dE_lst, dE_call, dE_bi, dE_isi, dE_ix, dE_slU, dE_slL, dE_slB, dE_rev, dE_olen, dE_oix, dE_fld, dE_new, dE_meth, nox_ok, ins_ins, fld_0, fld_1, fld_2, dT_tr, dT_otr, dT_cmp, dT_chain, dT_bop, dT_not, dS_try, try_nx, try_ret, dE_index, dE_split, dE_join, dE_trng, dT_chain3, dS_newll, lt_lst, lt_tup, dI_val, dI_own, dI_enum, dI_zip, dS_expr, dS_asg, dS_newl, dS_par, dS_par3, dS_unp, dS_ret, dS_ite, dS_rai, dS_frz, dS_mt, dS_seti, dS_aug, dEs_nil, dEs_cons, dB_one, dB_cons, dTs_nil, dTs_cons, dSs_nil, dSs_cons, b_add, b_sub, b_mul, b_fdiv, b_mod, b_pow, b_addT, b_addL, b_addS, c_lt, c_le, c_gt, c_ge, c_eq, c_ne, c_is, c_isnot, c_isB, c_isnotB, t_non, t_bl, t_int, t_lst, t_tup, n_neg, n_not, ix_tup, ix_lst, ix_scr, at_0, at_1, at_2, io_int, rv_lst, rv_tup, sl_lst, sl_tup, is_int, is_int_b, is_bl_b, is_bl_i, is_tup, is_lst, is_tup_l, is_lst_t, len_lst, len_tup, len_scr, bi_abs', bi_min', bi_max', bi_tupL, bi_tupT, bi_lstL, bi_lstT, sq_lst, sq_tup, ls_lst, s_one, s_two, g_app, ix_fr0, ix_fr1, is_fr, len_fr, ownAt, okB, excB, badB, out_ok, out_exc, then_nx, then_ret, then_exc, List.getElem?_cons_zero, List.getElem?_cons_succ, List.set_cons_zero, List.set_cons_succ, big, Nat.reduceLeDiff, Nat.reduceLT, fin_ret, fin_nx, fin_exc, el, il, Bool.not_true, Bool.false_eq_true, if_false, sh, so, Bool.and_self, if_true, eqv_str, BEq.rfl]
theorem sl_str {s : Str} (h : s.length ≤ 1000000) (lo hi : Option Int) : slD (.str s) lo hi = .ok (.str (L2.cutS s lo hi)) := by
  show (if s.length ≤ big then R.ok (D.str (L2.cutS s lo hi)) else .bad) = _
  rw [if_pos (by unfold big; exact h)]
theorem cut_mem {s : Str} {lo hi : Option Int} {c : Nat} (h : c ∈ (L2.cutS s lo hi).cps.toList) : c ∈ s.cps.toList := by
  unfold L2.cutS at h
  exact List.mem_of_mem_drop (List.mem_of_mem_take h)
theorem app_len (a b : Str) : (a ++ b).length = a.length + b.length := by
  show (a.cps ++ b.cps).size = _
  rw [Array.size_append]; rfl
theorem app_mem {a b : Str} {c : Nat} (h : c ∈ (a ++ b).cps.toList) : c ∈ a.cps.toList ∨ c ∈ b.cps.toList := by
  have e : (a ++ b).cps.toList = a.cps.toList ++ b.cps.toList := by
    show (a.cps ++ b.cps).toList = _
    simp
  rw [e] at h
  exact List.mem_append.mp h
theorem ch_at {i : Int} (h0 : 0 ≤ i) (h1 : i < 8) : ∃ c, c < 128 ∧ ixD (.str "0179 -\nx") (.int i) = .ok (.str ⟨#[c]⟩) := by
  have : i = 0 ∨ i = 1 ∨ i = 2 ∨ i = 3 ∨ i = 4 ∨ i = 5 ∨ i = 6 ∨ i = 7 := by omega
  rcases this with rfl | rfl | rfl | rfl | rfl | rfl | rfl | rfl
  · exact ⟨48, by decide, by kernel_rfl⟩
  · exact ⟨49, by decide, by kernel_rfl⟩
  · exact ⟨55, by decide, by kernel_rfl⟩
  · exact ⟨57, by decide, by kernel_rfl⟩
  · exact ⟨32, by decide, by kernel_rfl⟩
  · exact ⟨45, by decide, by kernel_rfl⟩
  · exact ⟨10, by decide, by kernel_rfl⟩
  · exact ⟨120, by decide, by kernel_rfl⟩
def badL : List D := [.str "", .str "5", .str "5  6", .str "05 6", .str "5 6 ", .str "5 1000", .non, .int 7, .str "5\n6"]
theorem bad_at {i : Int} (h0 : 0 ≤ i) (h1 : i < 9) : ∃ d, ixD (.lst badL) (.int i) = .ok d ∧ interp P 38 i_read [d] = .exc e_BadText := by
  have : i = 0 ∨ i = 1 ∨ i = 2 ∨ i = 3 ∨ i = 4 ∨ i = 5 ∨ i = 6 ∨ i = 7 ∨ i = 8 := by omega
  rcases this with rfl | rfl | rfl | rfl | rfl | rfl | rfl | rfl | rfl
  · exact ⟨.str "", by kernel_rfl, by kernel_rfl⟩
  · exact ⟨.str "5", by kernel_rfl, by kernel_rfl⟩
  · exact ⟨.str "5  6", by kernel_rfl, by kernel_rfl⟩
  · exact ⟨.str "05 6", by kernel_rfl, by kernel_rfl⟩
  · exact ⟨.str "5 6 ", by kernel_rfl, by kernel_rfl⟩
  · exact ⟨.str "5 1000", by kernel_rfl, by kernel_rfl⟩
  · exact ⟨.non, by kernel_rfl, by kernel_rfl⟩
  · exact ⟨.int 7, by kernel_rfl, by kernel_rfl⟩
  · exact ⟨.str "5\n6", by kernel_rfl, by kernel_rfl⟩
theorem law_bad_ok (n : Nat) (ns : List Int) (s : Str) (l0 : 1 ≤ s.length) (l1 : s.length ≤ 48) (hc : ∀ c ∈ s.cps.toList, c < 1114112) :
    ∃ d, interp P (n + 2) i_law_bad [.scr ns, .str s] = .ok d ∧ ((cell ns 0 / 3 % 4 < 3 ∧ ∃ t, d = .str t ∧ TxtOk t) ∨ interp P 38 i_read [d] = .exc e_BadText) := by
  have c0 : interp P (n + 1) i_law_cell [.scr ns, .int 0] = .ok (.int (cell ns 0)) := law_cell_ok n ns 0
  have c1 : interp P (n + 1) i_law_cell [.scr ns, .int 1] = .ok (.int (cell ns 1)) := law_cell_ok n ns 1
  have c2 : interp P (n + 1) i_law_cell [.scr ns, .int 2] = .ok (.int (cell ns 2)) := law_cell_ok n ns 2
  generalize cell ns 0 = d0 at c0
  generalize cell ns 1 = d1 at c1
  generalize cell ns 2 = d2 at c2
  have ls := len_str (s := s) (by omega)
  have lp : (0 : Int) < (s.length : Int) := by omega
  have log3 : ((3 : Int)).natAbs.log2 < 9000 := by decide
  generalize hp : d1 % (s.length : Int) = sp
  have w0 : 0 ≤ d0 / 3 % 4 := by omega
  have w1 : d0 / 3 % 4 < 4 := by omega
  generalize hw : d0 / 3 % 4 = w at w0 w1
  have sl := fun lo hi => sl_str (s := s) (by omega) lo hi
  have cl := fun lo hi => L2.cutS_length s lo hi
  have add := fun lo hi lo' hi' => (show (L2.cutS s lo hi).length + (L2.cutS s lo' hi').length ≤ 1000000 by have := cl lo hi; have := cl lo' hi'; omega)
  rw [run_fn' f_law_bad]
  simp only [D_law_bad, env0, List.map_cons, List.map_nil, List.length_cons, List.length_nil, List.replicate_zero, List.replicate_succ, List.append_nil, List.nil_append, List.cons_append, Nat.sub_self, Nat.reduceSub, Nat.reduceAdd, ifT, len_ld, is_ld, rv_ld, sq_ld, dE_var, dE_int, dE_bl, dE_non, dE_str, dE_glob, dE_neg, dE_not, dE_bin, dE_cmp, dE_chain, dE_bop, dE_ite, dE_tup, dE_lst, dE_call, dE_bi, dE_isi, dE_ix, dE_slU, dE_slL, dE_slB, dE_rev, dE_olen, dE_oix, dE_fld, dE_new, dE_meth, nox_ok, ins_ins, fld_0, fld_1, fld_2, dT_tr, dT_otr, dT_cmp, dT_chain, dT_bop, dT_not, dS_try, try_nx, try_ret, dE_index, dE_split, dE_join, dE_trng, dT_chain3, dS_newll, lt_lst, lt_tup, dI_val, dI_own, dI_enum, dI_zip, dS_expr, dS_asg, dS_newl, dS_par, dS_par3, dS_unp, dS_ret, dS_ite, dS_rai, dS_frz, dS_mt, dS_seti, dS_aug, dEs_nil, dEs_cons, dB_one, dB_cons, dTs_nil, dTs_cons, dSs_nil, dSs_cons, b_add, b_sub, b_mul, b_fdiv, b_mod, b_pow, b_addT, b_addL, b_addS, c_lt, c_le, c_gt, c_ge, c_eq, c_ne, c_is, c_isnot, c_isB, c_isnotB, t_non, t_bl, t_int, t_lst, t_tup, n_neg, n_not, ix_tup, ix_lst, ix_scr, at_0, at_1, at_2, io_int, rv_lst, rv_tup, sl_lst, sl_tup, is_int, is_int_b, is_bl_b, is_bl_i, is_tup, is_lst, is_tup_l, is_lst_t, len_lst, len_tup, len_scr, bi_abs', bi_min', bi_max', bi_tupL, bi_tupT, bi_lstL, bi_lstT, sq_lst, sq_tup, ls_lst, s_one, s_two, g_app, ix_fr0, ix_fr1, is_fr, len_fr, ownAt, okB, excB, badB, out_ok, out_exc, then_nx, then_ret, then_exc, List.getElem?_cons_zero, List.getElem?_cons_succ, List.set_cons_zero, List.set_cons_succ, big, Nat.reduceLeDiff, Nat.reduceLT, fin_ret, fin_nx, fin_exc, c0, c1, ls, lp, log3, show (0 : Int) < 3 by decide, show (0 : Int) < 4 by decide, decide_true, Bool.and_self, if_true, hp, hw]
  have hcs : w = 0 ∨ w = 1 ∨ w = 2 ∨ w = 3 := by omega
  rcases hcs with rfl | rfl | rfl | rfl
  · refine ⟨.str (L2.cutS s none (some sp) ++ L2.cutS s (some (sp + 1)) none), ?_, .inl ⟨by decide, _, rfl, ?_, ?_⟩⟩
    · simp only [List.map_cons, List.map_nil, List.length_cons, List.length_nil, List.replicate_zero, List.replicate_succ, List.append_nil, List.nil_append, List.cons_append, Nat.sub_self, Nat.reduceSub, Nat.reduceAdd, ifT, len_ld, is_ld, rv_ld, sq_ld, dE_var, dE_int, dE_bl, dE_non, dE_str, dE_glob, dE_neg, dE_not, dE_bin, dE_cmp, dE_chain, dE_bop, dE_ite, dE_tup, dE_lst, dE_call, dE_bi, dE_isi, dE_ix, dE_slU, dE_slL, dE_slB, dE_rev, dE_olen, dE_oix, dE_fld, dE_new, dE_meth, nox_ok, ins_ins, fld_0, fld_1, fld_2, dT_tr, dT_otr, dT_cmp, dT_chain, dT_bop, dT_not, dS_try, try_nx, try_ret, dE_index, dE_split, dE_join, dE_trng, dT_chain3, dS_newll, lt_lst, lt_tup, dI_val, dI_own, dI_enum, dI_zip, dS_expr, dS_asg, dS_newl, dS_par, dS_par3, dS_unp, dS_ret, dS_ite, dS_rai, dS_frz, dS_mt, dS_seti, dS_aug, dEs_nil, dEs_cons, dB_one, dB_cons, dTs_nil, dTs_cons, dSs_nil, dSs_cons, b_add, b_sub, b_mul, b_fdiv, b_mod, b_pow, b_addT, b_addL, b_addS, c_lt, c_le, c_gt, c_ge, c_eq, c_ne, c_is, c_isnot, c_isB, c_isnotB, t_non, t_bl, t_int, t_lst, t_tup, n_neg, n_not, ix_tup, ix_lst, ix_scr, at_0, at_1, at_2, io_int, rv_lst, rv_tup, sl_lst, sl_tup, is_int, is_int_b, is_bl_b, is_bl_i, is_tup, is_lst, is_tup_l, is_lst_t, len_lst, len_tup, len_scr, bi_abs', bi_min', bi_max', bi_tupL, bi_tupT, bi_lstL, bi_lstT, sq_lst, sq_tup, ls_lst, s_one, s_two, g_app, ix_fr0, ix_fr1, is_fr, len_fr, ownAt, okB, excB, badB, out_ok, out_exc, then_nx, then_ret, then_exc, List.getElem?_cons_zero, List.getElem?_cons_succ, List.set_cons_zero, List.set_cons_succ, big, Nat.reduceLeDiff, Nat.reduceLT, fin_ret, fin_nx, fin_exc, shp_int, eqv_int, BEq.rfl, Bool.and_self, if_true, sl, add]
    · rw [app_len]; have := cl none (some sp); have := cl (some (sp + 1)) none; omega
    · intro c h
      rcases app_mem h with h | h <;> exact hc c (cut_mem h)
  · have e1 : ((1 : Int) == 0) = false := by decide
    refine ⟨.str (L2.cutS s none (some (sp + 1)) ++ L2.cutS s (some sp) none), ?_, .inl ⟨by decide, _, rfl, ?_, ?_⟩⟩
    · simp only [List.map_cons, List.map_nil, List.length_cons, List.length_nil, List.replicate_zero, List.replicate_succ, List.append_nil, List.nil_append, List.cons_append, Nat.sub_self, Nat.reduceSub, Nat.reduceAdd, ifT, len_ld, is_ld, rv_ld, sq_ld, dE_var, dE_int, dE_bl, dE_non, dE_str, dE_glob, dE_neg, dE_not, dE_bin, dE_cmp, dE_chain, dE_bop, dE_ite, dE_tup, dE_lst, dE_call, dE_bi, dE_isi, dE_ix, dE_slU, dE_slL, dE_slB, dE_rev, dE_olen, dE_oix, dE_fld, dE_new, dE_meth, nox_ok, ins_ins, fld_0, fld_1, fld_2, dT_tr, dT_otr, dT_cmp, dT_chain, dT_bop, dT_not, dS_try, try_nx, try_ret, dE_index, dE_split, dE_join, dE_trng, dT_chain3, dS_newll, lt_lst, lt_tup, dI_val, dI_own, dI_enum, dI_zip, dS_expr, dS_asg, dS_newl, dS_par, dS_par3, dS_unp, dS_ret, dS_ite, dS_rai, dS_frz, dS_mt, dS_seti, dS_aug, dEs_nil, dEs_cons, dB_one, dB_cons, dTs_nil, dTs_cons, dSs_nil, dSs_cons, b_add, b_sub, b_mul, b_fdiv, b_mod, b_pow, b_addT, b_addL, b_addS, c_lt, c_le, c_gt, c_ge, c_eq, c_ne, c_is, c_isnot, c_isB, c_isnotB, t_non, t_bl, t_int, t_lst, t_tup, n_neg, n_not, ix_tup, ix_lst, ix_scr, at_0, at_1, at_2, io_int, rv_lst, rv_tup, sl_lst, sl_tup, is_int, is_int_b, is_bl_b, is_bl_i, is_tup, is_lst, is_tup_l, is_lst_t, len_lst, len_tup, len_scr, bi_abs', bi_min', bi_max', bi_tupL, bi_tupT, bi_lstL, bi_lstT, sq_lst, sq_tup, ls_lst, s_one, s_two, g_app, ix_fr0, ix_fr1, is_fr, len_fr, ownAt, okB, excB, badB, out_ok, out_exc, then_nx, then_ret, then_exc, List.getElem?_cons_zero, List.getElem?_cons_succ, List.set_cons_zero, List.set_cons_succ, big, Nat.reduceLeDiff, Nat.reduceLT, fin_ret, fin_nx, fin_exc, shp_int, eqv_int, e1, BEq.rfl, Bool.and_self, Bool.false_eq_true, if_false, if_true, sl, add]
    · rw [app_len]; have := cl none (some (sp + 1)); have := cl (some sp) none; omega
    · intro c h
      rcases app_mem h with h | h <;> exact hc c (cut_mem h)
  · have e1 : ((2 : Int) == 0) = false := by decide
    have e2 : ((2 : Int) == 1) = false := by decide
    obtain ⟨ch, hch, ec⟩ := ch_at (i := d2 % 8) (by omega) (by omega)
    have lc : (⟨#[ch]⟩ : Str).length = 1 := rfl
    have ad1 : (L2.cutS s none (some sp)).length + (⟨#[ch]⟩ : Str).length ≤ 1000000 := by have := cl none (some sp); rw [lc]; omega
    have ad2 : (L2.cutS s none (some sp) ++ ⟨#[ch]⟩).length + (L2.cutS s (some (sp + 1)) none).length ≤ 1000000 := by rw [app_len, lc]; have := cl none (some sp); have := cl (some (sp + 1)) none; omega
    refine ⟨.str (L2.cutS s none (some sp) ++ ⟨#[ch]⟩ ++ L2.cutS s (some (sp + 1)) none), ?_, .inl ⟨by decide, _, rfl, ?_, ?_⟩⟩
    · simp only [List.map_cons, List.map_nil, List.length_cons, List.length_nil, List.replicate_zero, List.replicate_succ, List.append_nil, List.nil_append, List.cons_append, Nat.sub_self, Nat.reduceSub, Nat.reduceAdd, ifT, len_ld, is_ld, rv_ld, sq_ld, dE_var, dE_int, dE_bl, dE_non, dE_str, dE_glob, dE_neg, dE_not, dE_bin, dE_cmp, dE_chain, dE_bop, dE_ite, dE_tup, dE_lst, dE_call, dE_bi, dE_isi, dE_ix, dE_slU, dE_slL, dE_slB, dE_rev, dE_olen, dE_oix, dE_fld, dE_new, dE_meth, nox_ok, ins_ins, fld_0, fld_1, fld_2, dT_tr, dT_otr, dT_cmp, dT_chain, dT_bop, dT_not, dS_try, try_nx, try_ret, dE_index, dE_split, dE_join, dE_trng, dT_chain3, dS_newll, lt_lst, lt_tup, dI_val, dI_own, dI_enum, dI_zip, dS_expr, dS_asg, dS_newl, dS_par, dS_par3, dS_unp, dS_ret, dS_ite, dS_rai, dS_frz, dS_mt, dS_seti, dS_aug, dEs_nil, dEs_cons, dB_one, dB_cons, dTs_nil, dTs_cons, dSs_nil, dSs_cons, b_add, b_sub, b_mul, b_fdiv, b_mod, b_pow, b_addT, b_addL, b_addS, c_lt, c_le, c_gt, c_ge, c_eq, c_ne, c_is, c_isnot, c_isB, c_isnotB, t_non, t_bl, t_int, t_lst, t_tup, n_neg, n_not, ix_tup, ix_lst, ix_scr, at_0, at_1, at_2, io_int, rv_lst, rv_tup, sl_lst, sl_tup, is_int, is_int_b, is_bl_b, is_bl_i, is_tup, is_lst, is_tup_l, is_lst_t, len_lst, len_tup, len_scr, bi_abs', bi_min', bi_max', bi_tupL, bi_tupT, bi_lstL, bi_lstT, sq_lst, sq_tup, ls_lst, s_one, s_two, g_app, ix_fr0, ix_fr1, is_fr, len_fr, ownAt, okB, excB, badB, out_ok, out_exc, then_nx, then_ret, then_exc, List.getElem?_cons_zero, List.getElem?_cons_succ, List.set_cons_zero, List.set_cons_succ, big, Nat.reduceLeDiff, Nat.reduceLT, fin_ret, fin_nx, fin_exc, shp_int, eqv_int, e1, e2, BEq.rfl, Bool.and_self, Bool.false_eq_true, if_false, if_true, sl, c2, show (0 : Int) < 8 by decide, ec, ad1, ad2]
    · rw [app_len, app_len, lc]; have := cl none (some sp); have := cl (some (sp + 1)) none; omega
    · intro c h
      rcases app_mem h with h | h
      · rcases app_mem h with h | h
        · exact hc c (cut_mem h)
        · have : c = ch := by simpa using h
          omega
      · exact hc c (cut_mem h)
  · have e1 : ((3 : Int) == 0) = false := by decide
    have e2 : ((3 : Int) == 1) = false := by decide
    have e3 : ((3 : Int) == 2) = false := by decide
    obtain ⟨d, ed, rd⟩ := bad_at (i := d1 % 9) (by omega) (by omega)
    unfold badL at ed
    refine ⟨d, ?_, .inr rd⟩
    simp only [List.map_cons, List.map_nil, List.length_cons, List.length_nil, List.replicate_zero, List.replicate_succ, List.append_nil, List.nil_append, List.cons_append, Nat.sub_self, Nat.reduceSub, Nat.reduceAdd, ifT, len_ld, is_ld, rv_ld, sq_ld, dE_var, dE_int, dE_bl, dE_non, dE_str, dE_glob, dE_neg, dE_not, dE_bin, dE_cmp, dE_chain, dE_bop, dE_ite, dE_tup, dE_lst, dE_call, dE_bi, dE_isi, dE_ix, dE_slU, dE_slL, dE_slB, dE_rev, dE_olen, dE_oix, dE_fld, dE_new, dE_meth, nox_ok, ins_ins, fld_0, fld_1, fld_2, dT_tr, dT_otr, dT_cmp, dT_chain, dT_bop, dT_not, dS_try, try_nx, try_ret, dE_index, dE_split, dE_join, dE_trng, dT_chain3, dS_newll, lt_lst, lt_tup, dI_val, dI_own, dI_enum, dI_zip, dS_expr, dS_asg, dS_newl, dS_par, dS_par3, dS_unp, dS_ret, dS_ite, dS_rai, dS_frz, dS_mt, dS_seti, dS_aug, dEs_nil, dEs_cons, dB_one, dB_cons, dTs_nil, dTs_cons, dSs_nil, dSs_cons, b_add, b_sub, b_mul, b_fdiv, b_mod, b_pow, b_addT, b_addL, b_addS, c_lt, c_le, c_gt, c_ge, c_eq, c_ne, c_is, c_isnot, c_isB, c_isnotB, t_non, t_bl, t_int, t_lst, t_tup, n_neg, n_not, ix_tup, ix_scr, at_0, at_1, at_2, io_int, rv_lst, rv_tup, sl_lst, sl_tup, is_int, is_int_b, is_bl_b, is_bl_i, is_tup, is_lst, is_tup_l, is_lst_t, len_lst, len_tup, len_scr, bi_abs', bi_min', bi_max', bi_tupL, bi_tupT, bi_lstL, bi_lstT, sq_lst, sq_tup, ls_lst, s_one, s_two, g_app, ix_fr0, ix_fr1, is_fr, len_fr, ownAt, okB, excB, badB, out_ok, out_exc, then_nx, then_ret, then_exc, List.getElem?_cons_zero, List.getElem?_cons_succ, List.set_cons_zero, List.set_cons_succ, big, Nat.reduceLeDiff, Nat.reduceLT, fin_ret, fin_nx, fin_exc, shp_int, eqv_int, e1, e2, e3, BEq.rfl, Bool.and_self, Bool.false_eq_true, if_false, if_true, c1, show (0 : Int) < 9 by decide, ed]
theorem law_ok (ns : List Int) : interp P 40 i_law [.scr ns] = .ok (.bl true) := by
  have l1 : interp P 39 i_law_land [.scr ns, .int 3] = .ok (ld (lawLand ns 3)) := law_land_ok 37 ns 3
  haveI hL : Land (lawLand ns 3) := inferInstance
  have c0 : interp P 39 i_law_cell [.scr ns, .int 0] = .ok (.int (cell ns 0)) := law_cell_ok 38 ns 0
  generalize lawLand ns 3 = L at l1 hL
  have hi := hL.hi
  have lo := hL.lo
  have sh := shown_ok 35 L
  have rd := read_okX 34 L
  have tl := landT_len hL.h
  have t1 : 1 ≤ (landT L).length := by
    by_cases z : 1 ≤ (landT L).length
    · exact z
    · have j := (join_lens (c := 32) (ws := L.map hstr)).1
      rw [← spc_eq] at j
      have j : (L.map hstr).length ≤ (landT L).length + 1 := j
      rw [List.length_map] at j; omega
  have tc : ∀ c ∈ (landT L).cps.toList, c < 1114112 := by
    intro c hc
    unfold landT at hc
    rw [spc_eq] at hc
    rcases join_cps hc with rfl | ⟨w, hw, hcw⟩
    · decide
    · obtain ⟨x, hx, rfl⟩ := List.mem_map.mp hw
      have := hstr_digits (hL.h x hx).1 c hcw
      omega
  obtain ⟨d, bd, hd⟩ := law_bad_ok 37 ns (landT L) t1 (by omega) tc
  have so := shp_str (str_ok_of tc)
  have jl := join_land (L := L) hL.h (by omega)
  have es : (" " : Str) = spc := rfl
  generalize hT : landT L = T at *
  generalize cell ns 0 = d0 at *
  have log3 : ((3 : Int)).natAbs.log2 < 9000 := by decide
  rw [run_fn' f_law]
  simp only [D_law, env0, List.map_cons, List.map_nil, List.length_cons, List.length_nil, List.replicate_zero, List.replicate_succ, List.append_nil, List.nil_append, List.cons_append, Nat.sub_self, Nat.reduceSub, Nat.reduceAdd, ifT, len_ld, is_ld, rv_ld, sq_ld, dE_var, dE_int, dE_bl, dE_non, dE_str, dE_glob, dE_neg, dE_not, dE_bin, dE_cmp, dE_chain, dE_bop, dE_ite, dE_tup, dE_lst, dE_call, dE_bi, dE_isi, dE_ix, dE_slU, dE_slL, dE_slB, dE_rev, dE_olen, dE_oix, dE_fld, dE_new, dE_meth, nox_ok, ins_ins, fld_0, fld_1, fld_2, dT_tr, dT_otr, dT_cmp, dT_chain, dT_bop, dT_not, dS_try, try_nx, try_ret, dE_index, dE_split, dE_join, dE_trng, dT_chain3, dS_newll, lt_lst, lt_tup, dI_val, dI_own, dI_enum, dI_zip, dS_expr, dS_asg, dS_newl, dS_par, dS_par3, dS_unp, dS_ret, dS_ite, dS_rai, dS_frz, dS_mt, dS_seti, dS_aug, dEs_nil, dEs_cons, dB_one, dB_cons, dTs_nil, dTs_cons, dSs_nil, dSs_cons, b_add, b_sub, b_mul, b_fdiv, b_mod, b_pow, b_addT, b_addL, b_addS, c_lt, c_le, c_gt, c_ge, c_eq, c_ne, c_is, c_isnot, c_isB, c_isnotB, t_non, t_bl, t_int, t_lst, t_tup, n_neg, n_not, ix_tup, ix_lst, ix_scr, at_0, at_1, at_2, io_int, rv_lst, rv_tup, sl_lst, sl_tup, is_int, is_int_b, is_bl_b, is_bl_i, is_tup, is_lst, is_tup_l, is_lst_t, len_lst, len_tup, len_scr, bi_abs', bi_min', bi_max', bi_tupL, bi_tupT, bi_lstL, bi_lstT, sq_lst, sq_tup, ls_lst, s_one, s_two, g_app, ix_fr0, ix_fr1, is_fr, len_fr, ownAt, okB, excB, badB, out_ok, out_exc, then_nx, then_ret, then_exc, List.getElem?_cons_zero, List.getElem?_cons_succ, List.set_cons_zero, List.set_cons_succ, big, Nat.reduceLeDiff, Nat.reduceLT, fin_ret, fin_nx, fin_exc, l1, sh]
  rw [comp_all L D.int (fun x => D.str (hstr x)) (by simp only [List.map_cons, List.map_nil, List.length_cons, List.length_nil, List.replicate_zero, List.replicate_succ, List.append_nil, List.nil_append, List.cons_append, Nat.sub_self, Nat.reduceSub, Nat.reduceAdd, ifT, len_ld, is_ld, rv_ld, sq_ld, dE_var, dE_int, dE_bl, dE_non, dE_str, dE_glob, dE_neg, dE_not, dE_bin, dE_cmp, dE_chain, dE_bop, dE_ite, dE_tup, dE_lst, dE_call, dE_bi, dE_isi, dE_ix, dE_slU, dE_slL, dE_slB, dE_rev, dE_olen, dE_oix, dE_fld, dE_new, dE_meth, nox_ok, ins_ins, fld_0, fld_1, fld_2, dT_tr, dT_otr, dT_cmp, dT_chain, dT_bop, dT_not, dS_try, try_nx, try_ret, dE_index, dE_split, dE_join, dE_trng, dT_chain3, dS_newll, lt_lst, lt_tup, dI_val, dI_own, dI_enum, dI_zip, dS_expr, dS_asg, dS_newl, dS_par, dS_par3, dS_unp, dS_ret, dS_ite, dS_rai, dS_frz, dS_mt, dS_seti, dS_aug, dEs_nil, dEs_cons, dB_one, dB_cons, dTs_nil, dTs_cons, dSs_nil, dSs_cons, b_add, b_sub, b_mul, b_fdiv, b_mod, b_pow, b_addT, b_addL, b_addS, c_lt, c_le, c_gt, c_ge, c_eq, c_ne, c_is, c_isnot, c_isB, c_isnotB, t_non, t_bl, t_int, t_lst, t_tup, n_neg, n_not, ix_tup, ix_lst, ix_scr, at_0, at_1, at_2, io_int, rv_lst, rv_tup, sl_lst, sl_tup, is_int, is_int_b, is_bl_b, is_bl_i, is_tup, is_lst, is_tup_l, is_lst_t, len_lst, len_tup, len_scr, bi_abs', bi_min', bi_max', bi_tupL, bi_tupT, bi_lstL, bi_lstT, sq_lst, sq_tup, ls_lst, s_one, s_two, g_app, ix_fr0, ix_fr1, is_fr, len_fr, ownAt, okB, excB, badB, out_ok, out_exc, then_nx, then_ret, then_exc, List.getElem?_cons_zero, List.getElem?_cons_succ, List.set_cons_zero, List.set_cons_succ, big, Nat.reduceLeDiff, Nat.reduceLT, fin_ret, fin_nx, fin_exc]) (by unfold big; omega) (by
    intro x hx
    have := hL.h x hx
    simp only [List.map_cons, List.map_nil, List.length_cons, List.length_nil, List.replicate_zero, List.replicate_succ, List.append_nil, List.nil_append, List.cons_append, Nat.sub_self, Nat.reduceSub, Nat.reduceAdd, ifT, len_ld, is_ld, rv_ld, sq_ld, dE_var, dE_int, dE_bl, dE_non, dE_str, dE_glob, dE_neg, dE_not, dE_bin, dE_cmp, dE_chain, dE_bop, dE_ite, dE_tup, dE_lst, dE_call, dE_bi, dE_isi, dE_ix, dE_slU, dE_slL, dE_slB, dE_rev, dE_olen, dE_oix, dE_fld, dE_new, dE_meth, nox_ok, ins_ins, fld_0, fld_1, fld_2, dT_tr, dT_otr, dT_cmp, dT_chain, dT_bop, dT_not, dS_try, try_nx, try_ret, dE_index, dE_split, dE_join, dE_trng, dT_chain3, dS_newll, lt_lst, lt_tup, dI_val, dI_own, dI_enum, dI_zip, dS_expr, dS_asg, dS_newl, dS_par, dS_par3, dS_unp, dS_ret, dS_ite, dS_rai, dS_frz, dS_mt, dS_seti, dS_aug, dEs_nil, dEs_cons, dB_one, dB_cons, dTs_nil, dTs_cons, dSs_nil, dSs_cons, b_add, b_sub, b_mul, b_fdiv, b_mod, b_pow, b_addT, b_addL, b_addS, c_lt, c_le, c_gt, c_ge, c_eq, c_ne, c_is, c_isnot, c_isB, c_isnotB, t_non, t_bl, t_int, t_lst, t_tup, n_neg, n_not, ix_tup, ix_lst, ix_scr, at_0, at_1, at_2, io_int, rv_lst, rv_tup, sl_lst, sl_tup, is_int, is_int_b, is_bl_b, is_bl_i, is_tup, is_lst, is_tup_l, is_lst_t, len_lst, len_tup, len_scr, bi_abs', bi_min', bi_max', bi_tupL, bi_tupT, bi_lstL, bi_lstT, sq_lst, sq_tup, ls_lst, s_one, s_two, g_app, ix_fr0, ix_fr1, is_fr, len_fr, ownAt, okB, excB, badB, out_ok, out_exc, then_nx, then_ret, then_exc, List.getElem?_cons_zero, List.getElem?_cons_succ, List.set_cons_zero, List.set_cons_succ, big, Nat.reduceLeDiff, Nat.reduceLT, fin_ret, fin_nx, fin_exc, bi_str_int this.1 this.2])]
  simp only [List.map_cons, List.map_nil, List.length_cons, List.length_nil, List.replicate_zero, List.replicate_succ, List.append_nil, List.nil_append, List.cons_append, Nat.sub_self, Nat.reduceSub, Nat.reduceAdd, ifT, len_ld, is_ld, rv_ld, sq_ld, dE_var, dE_int, dE_bl, dE_non, dE_str, dE_glob, dE_neg, dE_not, dE_bin, dE_cmp, dE_chain, dE_bop, dE_ite, dE_tup, dE_lst, dE_call, dE_bi, dE_isi, dE_ix, dE_slU, dE_slL, dE_slB, dE_rev, dE_olen, dE_oix, dE_fld, dE_new, dE_meth, nox_ok, ins_ins, fld_0, fld_1, fld_2, dT_tr, dT_otr, dT_cmp, dT_chain, dT_bop, dT_not, dS_try, try_nx, try_ret, dE_index, dE_split, dE_join, dE_trng, dT_chain3, dS_newll, lt_lst, lt_tup, dI_val, dI_own, dI_enum, dI_zip, dS_expr, dS_asg, dS_newl, dS_par, dS_par3, dS_unp, dS_ret, dS_ite, dS_rai, dS_frz, dS_mt, dS_seti, dS_aug, dEs_nil, dEs_cons, dB_one, dB_cons, dTs_nil, dTs_cons, dSs_nil, dSs_cons, b_add, b_sub, b_mul, b_fdiv, b_mod, b_pow, b_addT, b_addL, b_addS, c_lt, c_le, c_gt, c_ge, c_eq, c_ne, c_is, c_isnot, c_isB, c_isnotB, t_non, t_bl, t_int, t_lst, t_tup, n_neg, n_not, ix_tup, ix_lst, ix_scr, at_0, at_1, at_2, io_int, rv_lst, rv_tup, sl_lst, sl_tup, is_int, is_int_b, is_bl_b, is_bl_i, is_tup, is_lst, is_tup_l, is_lst_t, len_lst, len_tup, len_scr, bi_abs', bi_min', bi_max', bi_tupL, bi_tupT, bi_lstL, bi_lstT, sq_lst, sq_tup, ls_lst, s_one, s_two, g_app, ix_fr0, ix_fr1, is_fr, len_fr, ownAt, okB, excB, badB, out_ok, out_exc, then_nx, then_ret, then_exc, List.getElem?_cons_zero, List.getElem?_cons_succ, List.set_cons_zero, List.set_cons_succ, big, Nat.reduceLeDiff, Nat.reduceLT, fin_ret, fin_nx, fin_exc, strD, es, jl, so, Bool.and_self, if_true, eqv_str, BEq.rfl, Bool.not_true, Bool.false_eq_true, if_false, rd, shp_ld, eqv_ld, decide_true, c0, show (0 : Int) < 3 by decide, shp_int, eqv_int]
  by_cases h3 : (d0 % 3 == 0) = true
  · simp only [h3, if_true, List.map_cons, List.map_nil, List.length_cons, List.length_nil, List.replicate_zero, List.replicate_succ, List.append_nil, List.nil_append, List.cons_append, Nat.sub_self, Nat.reduceSub, Nat.reduceAdd, ifT, len_ld, is_ld, rv_ld, sq_ld, dE_var, dE_int, dE_bl, dE_non, dE_str, dE_glob, dE_neg, dE_not, dE_bin, dE_cmp, dE_chain, dE_bop, dE_ite, dE_tup, dE_lst, dE_call, dE_bi, dE_isi, dE_ix, dE_slU, dE_slL, dE_slB, dE_rev, dE_olen, dE_oix, dE_fld, dE_new, dE_meth, nox_ok, ins_ins, fld_0, fld_1, fld_2, dT_tr, dT_otr, dT_cmp, dT_chain, dT_bop, dT_not, dS_try, try_nx, try_ret, dE_index, dE_split, dE_join, dE_trng, dT_chain3, dS_newll, lt_lst, lt_tup, dI_val, dI_own, dI_enum, dI_zip, dS_expr, dS_asg, dS_newl, dS_par, dS_par3, dS_unp, dS_ret, dS_ite, dS_rai, dS_frz, dS_mt, dS_seti, dS_aug, dEs_nil, dEs_cons, dB_one, dB_cons, dTs_nil, dTs_cons, dSs_nil, dSs_cons, b_add, b_sub, b_mul, b_fdiv, b_mod, b_pow, b_addT, b_addL, b_addS, c_lt, c_le, c_gt, c_ge, c_eq, c_ne, c_is, c_isnot, c_isB, c_isnotB, t_non, t_bl, t_int, t_lst, t_tup, n_neg, n_not, ix_tup, ix_lst, ix_scr, at_0, at_1, at_2, io_int, rv_lst, rv_tup, sl_lst, sl_tup, is_int, is_int_b, is_bl_b, is_bl_i, is_tup, is_lst, is_tup_l, is_lst_t, len_lst, len_tup, len_scr, bi_abs', bi_min', bi_max', bi_tupL, bi_tupT, bi_lstL, bi_lstT, sq_lst, sq_tup, ls_lst, s_one, s_two, g_app, ix_fr0, ix_fr1, is_fr, len_fr, ownAt, okB, excB, badB, out_ok, out_exc, then_nx, then_ret, then_exc, List.getElem?_cons_zero, List.getElem?_cons_succ, List.set_cons_zero, List.set_cons_succ, big, Nat.reduceLeDiff, Nat.reduceLT, fin_ret, fin_nx, fin_exc, is_str]
  · rw [Bool.not_eq_true] at h3
    simp only [h3, Bool.false_eq_true, if_false, List.map_cons, List.map_nil, List.length_cons, List.length_nil, List.replicate_zero, List.replicate_succ, List.append_nil, List.nil_append, List.cons_append, Nat.sub_self, Nat.reduceSub, Nat.reduceAdd, ifT, len_ld, is_ld, rv_ld, sq_ld, dE_var, dE_int, dE_bl, dE_non, dE_str, dE_glob, dE_neg, dE_not, dE_bin, dE_cmp, dE_chain, dE_bop, dE_ite, dE_tup, dE_lst, dE_call, dE_bi, dE_isi, dE_ix, dE_slU, dE_slL, dE_slB, dE_rev, dE_olen, dE_oix, dE_fld, dE_new, dE_meth, nox_ok, ins_ins, fld_0, fld_1, fld_2, dT_tr, dT_otr, dT_cmp, dT_chain, dT_bop, dT_not, dS_try, try_nx, try_ret, dE_index, dE_split, dE_join, dE_trng, dT_chain3, dS_newll, lt_lst, lt_tup, dI_val, dI_own, dI_enum, dI_zip, dS_expr, dS_asg, dS_newl, dS_par, dS_par3, dS_unp, dS_ret, dS_ite, dS_rai, dS_frz, dS_mt, dS_seti, dS_aug, dEs_nil, dEs_cons, dB_one, dB_cons, dTs_nil, dTs_cons, dSs_nil, dSs_cons, b_add, b_sub, b_mul, b_fdiv, b_mod, b_pow, b_addT, b_addL, b_addS, c_lt, c_le, c_gt, c_ge, c_eq, c_ne, c_is, c_isnot, c_isB, c_isnotB, t_non, t_bl, t_int, t_lst, t_tup, n_neg, n_not, ix_tup, ix_lst, ix_scr, at_0, at_1, at_2, io_int, rv_lst, rv_tup, sl_lst, sl_tup, is_int, is_int_b, is_bl_b, is_bl_i, is_tup, is_lst, is_tup_l, is_lst_t, len_lst, len_tup, len_scr, bi_abs', bi_min', bi_max', bi_tupL, bi_tupT, bi_lstL, bi_lstT, sq_lst, sq_tup, ls_lst, s_one, s_two, g_app, ix_fr0, ix_fr1, is_fr, len_fr, ownAt, okB, excB, badB, out_ok, out_exc, then_nx, then_ret, then_exc, List.getElem?_cons_zero, List.getElem?_cons_succ, List.set_cons_zero, List.set_cons_succ, big, Nat.reduceLeDiff, Nat.reduceLT, fin_ret, fin_nx, fin_exc, bd]
    have key : interp P 38 i_read [d] = .exc e_BadText ∨ ((d0 / 3 % 4 < 3) ∧ ∃ M : List Int, Land M ∧ d = .str (landT M)) := by
      rcases hd with ⟨hw, t, rfl, ht⟩ | hr
      · rcases read_any 33 t ht with e | ⟨M, hM, e, _⟩
        · exact .inl e
        · exact .inr ⟨hw, M, hM, by rw [e]⟩
      · exact .inl hr
    rcases key with e | ⟨hw, M, hM, rfl⟩
    · simp only [refused_yes 38 d e, base_yes 38 d e, List.map_cons, List.map_nil, List.length_cons, List.length_nil, List.replicate_zero, List.replicate_succ, List.append_nil, List.nil_append, List.cons_append, Nat.sub_self, Nat.reduceSub, Nat.reduceAdd, ifT, len_ld, is_ld, rv_ld, sq_ld, dE_var, dE_int, dE_bl, dE_non, dE_str, dE_glob, dE_neg, dE_not, dE_bin, dE_cmp, dE_chain, dE_bop, dE_ite, dE_tup, dE_lst, dE_call, dE_bi, dE_isi, dE_ix, dE_slU, dE_slL, dE_slB, dE_rev, dE_olen, dE_oix, dE_fld, dE_new, dE_meth, nox_ok, ins_ins, fld_0, fld_1, fld_2, dT_tr, dT_otr, dT_cmp, dT_chain, dT_bop, dT_not, dS_try, try_nx, try_ret, dE_index, dE_split, dE_join, dE_trng, dT_chain3, dS_newll, lt_lst, lt_tup, dI_val, dI_own, dI_enum, dI_zip, dS_expr, dS_asg, dS_newl, dS_par, dS_par3, dS_unp, dS_ret, dS_ite, dS_rai, dS_frz, dS_mt, dS_seti, dS_aug, dEs_nil, dEs_cons, dB_one, dB_cons, dTs_nil, dTs_cons, dSs_nil, dSs_cons, b_add, b_sub, b_mul, b_fdiv, b_mod, b_pow, b_addT, b_addL, b_addS, c_lt, c_le, c_gt, c_ge, c_eq, c_ne, c_is, c_isnot, c_isB, c_isnotB, t_non, t_bl, t_int, t_lst, t_tup, n_neg, n_not, ix_tup, ix_lst, ix_scr, at_0, at_1, at_2, io_int, rv_lst, rv_tup, sl_lst, sl_tup, is_int, is_int_b, is_bl_b, is_bl_i, is_tup, is_lst, is_tup_l, is_lst_t, len_lst, len_tup, len_scr, bi_abs', bi_min', bi_max', bi_tupL, bi_tupT, bi_lstL, bi_lstT, sq_lst, sq_tup, ls_lst, s_one, s_two, g_app, ix_fr0, ix_fr1, is_fr, len_fr, ownAt, okB, excB, badB, out_ok, out_exc, then_nx, then_ret, then_exc, List.getElem?_cons_zero, List.getElem?_cons_succ, List.set_cons_zero, List.set_cons_succ, big, Nat.reduceLeDiff, Nat.reduceLT, fin_ret, fin_nx, fin_exc, if_true]
    · have r1 := refused_no 38 _ _ (read_okX 33 M)
      have r2 := read_okX 34 M
      have ck := checked_ok 36 M
      have sm := shown_ok 35 M
      have som := shp_str (landT_ok (L := M) fun x hx => (hM.h x hx).1)
      simp only [r1, r2, List.map_cons, List.map_nil, List.length_cons, List.length_nil, List.replicate_zero, List.replicate_succ, List.append_nil, List.nil_append, List.cons_append, Nat.sub_self, Nat.reduceSub, Nat.reduceAdd, ifT, len_ld, is_ld, rv_ld, sq_ld, dE_var, dE_int, dE_bl, dE_non, dE_str, dE_glob, dE_neg, dE_not, dE_bin, dE_cmp, dE_chain, dE_bop, dE_ite, dE_tup, dE_lst, dE_call, dE_bi, dE_isi, dE_ix, dE_slU, dE_slL, dE_slB, dE_rev, dE_olen, dE_oix, dE_fld, dE_new, dE_meth, nox_ok, ins_ins, fld_0, fld_1, fld_2, dT_tr, dT_otr, dT_cmp, dT_chain, dT_bop, dT_not, dS_try, try_nx, try_ret, dE_index, dE_split, dE_join, dE_trng, dT_chain3, dS_newll, lt_lst, lt_tup, dI_val, dI_own, dI_enum, dI_zip, dS_expr, dS_asg, dS_newl, dS_par, dS_par3, dS_unp, dS_ret, dS_ite, dS_rai, dS_frz, dS_mt, dS_seti, dS_aug, dEs_nil, dEs_cons, dB_one, dB_cons, dTs_nil, dTs_cons, dSs_nil, dSs_cons, b_add, b_sub, b_mul, b_fdiv, b_mod, b_pow, b_addT, b_addL, b_addS, c_lt, c_le, c_gt, c_ge, c_eq, c_ne, c_is, c_isnot, c_isB, c_isnotB, t_non, t_bl, t_int, t_lst, t_tup, n_neg, n_not, ix_tup, ix_lst, ix_scr, at_0, at_1, at_2, io_int, rv_lst, rv_tup, sl_lst, sl_tup, is_int, is_int_b, is_bl_b, is_bl_i, is_tup, is_lst, is_tup_l, is_lst_t, len_lst, len_tup, len_scr, bi_abs', bi_min', bi_max', bi_tupL, bi_tupT, bi_lstL, bi_lstT, sq_lst, sq_tup, ls_lst, s_one, s_two, g_app, ix_fr0, ix_fr1, is_fr, len_fr, ownAt, okB, excB, badB, out_ok, out_exc, then_nx, then_ret, then_exc, List.getElem?_cons_zero, List.getElem?_cons_succ, List.set_cons_zero, List.set_cons_succ, big, Nat.reduceLeDiff, Nat.reduceLT, fin_ret, fin_nx, fin_exc, Bool.false_eq_true, if_false, c0, log3, show (0 : Int) < 3 by decide, show (0 : Int) < 4 by decide, decide_true, Bool.and_self, if_true, hw, ck, shp_ld, eqv_ld, sm, som, eqv_str, BEq.rfl]

end RS

theorem PySem.Challenge.cw_ridgesight_k16_texts_holds : PySem.Challenge.rw_ridgesight_k16_texts.Holds := by
  exact RS.law_end fun ns _ => RS.law_ok ns
