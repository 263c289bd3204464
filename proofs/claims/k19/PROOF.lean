import PyProof.Rows.All
import Wide.All
import OpenK.AllK
import Wide.FinOn
import HandS.ForMost
import HandS.Walk
import HandS.Property
import HandS.IsInst
import HandS.Defaults
import HandS.Gcd
import HandS.Wide
import HandS.WideBits
import HandS.Style
import HandS.Codes
import HandS.ListEq
import HandS.OwnEq
import HandS.Flow
import KE.KStateDown
import HandS.Head0
import HandS.Head1
import HandS.Head2
import HandS.Head3
import HandS.HeadEnd
import HandS.HeadHook1
import HandS.HeadHook2
import KE.KOpsOwn
import PySem.Challenge.RW_wholefillrows_k19_whole_solutions_all_of
set_option Elab.async false
set_option linter.all false
set_option maxRecDepth 100000
set_option maxHeartbeats 4000000
/-! Readings by what they denote: RP a meaning of a value over a growing known heap; Den, Tr: an expression's, a statement's. -/
namespace Dn
open PySem L2

/-- what a value means over a known heap -/
structure RP where
  R : Hp → V → Prop
  mono : ∀ {F F' : Hp} {v : V}, Same F F' → R F v → R F' v
abbrev Rho := List (Option RP)

def Vrs (F : Hp) : List V → List RP → Prop
  | [], [] => True
  | v :: vs, r :: rs => r.R F v ∧ Vrs F vs rs
  | _, _ => False
theorem Vrs.len {F : Hp} : ∀ {vs : List V} {rs : List RP}, Vrs F vs rs → vs.length = rs.length
  | [], [], _ => rfl
  | _ :: _, _ :: _, h => congrArg Nat.succ (Vrs.len h.2)
  | [], _ :: _, h => h.elim
  | _ :: _, [], h => h.elim
theorem Vrs.mono {F F' : Hp} (e : Same F F') : ∀ {vs : List V} {rs : List RP}, Vrs F vs rs → Vrs F' vs rs
  | [], [], _ => trivial
  | _ :: _, _ :: _, h => ⟨RP.mono _ e h.1, Vrs.mono e h.2⟩
  | [], _ :: _, h => h.elim
  | _ :: _, [], h => h.elim
theorem Vrs.get {F : Hp} : ∀ {vs : List V} {rs : List RP} {i : Nat} {r : RP}, Vrs F vs rs → rs[i]? = some r → ∃ v, vs[i]? = some v ∧ r.R F v
  | [], [], i, r, _, e => by simp at e
  | v :: _, _ :: _, 0, r, h, e => by
    obtain rfl := Option.some.inj e
    exact ⟨v, rfl, h.1⟩
  | _ :: _, _ :: _, i + 1, r, h, e => Vrs.get (i := i) h.2 (by simpa using e)
  | [], _ :: _, _, _, h, _ => h.elim
  | _ :: _, [], _, _, h, _ => h.elim
theorem Vrs.back {F : Hp} : ∀ {vs : List V} {rs : List RP} {i : Nat} {v : V}, Vrs F vs rs → vs[i]? = some v → ∃ r, rs[i]? = some r ∧ r.R F v
  | [], [], i, v, _, e => by simp at e
  | _ :: _, r :: _, 0, v, h, e => by
    obtain rfl := Option.some.inj e
    exact ⟨r, rfl, h.1⟩
  | _ :: _, _ :: _, i + 1, v, h, e => Vrs.back (i := i) h.2 (by simpa using e)
  | [], _ :: _, _, _, h, _ => h.elim
  | _ :: _, [], _, _, h, _ => h.elim
theorem Vrs.app {F : Hp} : ∀ {vs : List V} {rs : List RP} {ws : List V} {ss : List RP}, Vrs F vs rs → Vrs F ws ss → Vrs F (vs ++ ws) (rs ++ ss)
  | [], [], _, _, _, g => g
  | _ :: _, _ :: _, _, _, h, g => ⟨h.1, Vrs.app h.2 g⟩
  | [], _ :: _, _, _, h, _ => h.elim
  | _ :: _, [], _, _, h, _ => h.elim
theorem Vrs.drop {F : Hp} : ∀ (n : Nat) {vs : List V} {rs : List RP}, Vrs F vs rs → Vrs F (vs.drop n) (rs.drop n)
  | 0, _, _, h => h
  | _ + 1, [], [], _ => trivial
  | n + 1, _ :: _, _ :: _, h => Vrs.drop n h.2
  | _ + 1, [], _ :: _, h => h.elim
  | _ + 1, _ :: _, [], h => h.elim
theorem Vrs.take {F : Hp} : ∀ (n : Nat) {vs : List V} {rs : List RP}, Vrs F vs rs → Vrs F (vs.take n) (rs.take n)
  | 0, _, _, _ => trivial
  | _ + 1, [], [], _ => trivial
  | n + 1, _ :: _, _ :: _, h => ⟨h.1, Vrs.take n h.2⟩
  | _ + 1, [], _ :: _, h => h.elim
  | _ + 1, _ :: _, [], h => h.elim
theorem Vrs.rev {F : Hp} : ∀ {vs : List V} {rs : List RP}, Vrs F vs rs → Vrs F vs.reverse rs.reverse
  | [], [], _ => trivial
  | v :: vs, r :: rs, h => by
    rw [List.reverse_cons, List.reverse_cons]
    exact Vrs.app (Vrs.rev h.2) ⟨h.1, trivial⟩
  | [], _ :: _, h => h.elim
  | _ :: _, [], h => h.elim
theorem Vrs.set {F : Hp} {v : V} {r : RP} (hr : r.R F v) : ∀ {vs : List V} {rs : List RP} (i : Nat), Vrs F vs rs → Vrs F (vs.set i v) (rs.set i r)
  | [], [], _, _ => trivial
  | _ :: _, _ :: _, 0, h => ⟨hr, h.2⟩
  | _ :: _, _ :: _, i + 1, h => ⟨h.1, Vrs.set hr i h.2⟩
  | [], _ :: _, _, h => h.elim
  | _ :: _, [], _, h => h.elim
theorem Vrs.rep {F : Hp} {vs : List V} {rs : List RP} (h : Vrs F vs rs) : ∀ n : Nat, Vrs F (List.replicate n vs).flatten (List.replicate n rs).flatten
  | 0 => trivial
  | n + 1 => by
    rw [List.replicate_succ, List.replicate_succ, List.flatten_cons, List.flatten_cons]
    exact Vrs.app h (Vrs.rep h n)

/-! ### meanings -/
def pV (w : V) : RP := ⟨fun _ v => v = w, fun _ h => h⟩
abbrev pI (i : Int) : RP := pV (.int i)
abbrev pB (b : Bool) : RP := pV (.bl b)
abbrev pNon : RP := pV .non
def pL (rs : List RP) : RP := ⟨fun F v => ∃ a vs, v = .ref a ∧ F a = some (.lst vs) ∧ Vrs F vs rs, fun e ⟨a, vs, h1, h2, h3⟩ => ⟨a, vs, h1, e _ _ h2, h3.mono e⟩⟩
def pT (rs : List RP) : RP := ⟨fun F v => ∃ a vs, v = .ref a ∧ F a = some (.tup vs) ∧ Vrs F vs rs, fun e ⟨a, vs, h1, h2, h3⟩ => ⟨a, vs, h1, e _ _ h2, h3.mono e⟩⟩
/-- an instance of the class at C with just these attributes -/
def pO (C : Addr) (fs : List (Str × RP)) : RP :=
  ⟨fun F v => ∃ a dx vs, v = .ref a ∧ F a = some (.ins C dx ((fs.map Prod.fst).zip vs)) ∧ Vrs F vs (fs.map Prod.snd), by
    rintro F F' v e ⟨a, dx, vs, h1, h2, h3⟩
    exact ⟨a, dx, vs, h1, e _ _ h2, h3.mono e⟩⟩
/-- one of some -/
def pX {α : Type} (P : α → Prop) (f : α → RP) : RP := ⟨fun F v => ∃ x, P x ∧ (f x).R F v, fun e ⟨x, h1, h2⟩ => ⟨x, h1, (f x).mono e h2⟩⟩
abbrev pLm {α : Type} (f : α → RP) (xs : List α) : RP := pL (xs.map f)
abbrev pIs (ns : List Int) : RP := pLm pI ns
abbrev pIss (rows : List (List Int)) : RP := pLm pIs rows

/-! ### the names' meanings -/
structure EnvOk (F : Hp) (σ : L2.St) (ρ : Rho) : Prop where
  len : σ.length = ρ.length
  at_ : ∀ (i : Nat) (r : RP), ρ[i]? = some (some r) → ∃ v, σ[i]? = some (some v) ∧ r.R F v
theorem EnvOk.mono {F F' : Hp} {σ : L2.St} {ρ : Rho} (h : EnvOk F σ ρ) (e : Same F F') : EnvOk F' σ ρ :=
  ⟨h.len, fun i r q => by
    obtain ⟨v, h1, h2⟩ := h.at_ i r q
    exact ⟨v, h1, r.mono e h2⟩⟩
theorem EnvOk.set {F : Hp} {σ : L2.St} {ρ : Rho} {v : V} {r : RP} (h : EnvOk F σ ρ) (i : Nat) (hr : r.R F v) : EnvOk F (σ.set i (some v)) (ρ.set i (some r)) := by
  refine ⟨by rw [List.length_set, List.length_set]; exact h.len, fun j r' q => ?_⟩
  by_cases hij : i = j
  · subst hij
    by_cases hl : i < ρ.length
    · rw [List.getElem?_set_self hl] at q
      obtain rfl := Option.some.inj (Option.some.inj q)
      exact ⟨v, List.getElem?_set_self (by rw [h.len]; exact hl), hr⟩
    · rw [List.getElem?_eq_none (by rw [List.length_set]; omega)] at q
      cases q
  · rw [List.getElem?_set_ne hij] at q
    obtain ⟨w, h1, h2⟩ := h.at_ j r' q
    exact ⟨w, by rw [List.getElem?_set_ne hij]; exact h1, h2⟩
theorem EnvOk.unset {F : Hp} {σ : L2.St} {ρ : Rho} {o : Option V} (h : EnvOk F σ ρ) (i : Nat) : EnvOk F (σ.set i o) (ρ.set i none) := by
  refine ⟨by rw [List.length_set, List.length_set]; exact h.len, fun j r' q => ?_⟩
  by_cases hij : i = j
  · subst hij
    by_cases hl : i < ρ.length
    · rw [List.getElem?_set_self hl] at q
      cases q
    · rw [List.getElem?_eq_none (by rw [List.length_set]; omega)] at q
      cases q
  · rw [List.getElem?_set_ne hij] at q
    obtain ⟨w, h1, h2⟩ := h.at_ j r' q
    exact ⟨w, by rw [List.getElem?_set_ne hij]; exact h1, h2⟩
def wipeR (ρ : Rho) : List Nat → Rho
  | [] => ρ
  | v :: vs => (wipeR ρ vs).set v none
theorem EnvOk.wipe {F : Hp} {σ : L2.St} {ρ : Rho} (h : EnvOk F σ ρ) : ∀ vs : List Nat, EnvOk F (L2.wipe σ vs) (wipeR ρ vs)
  | [] => h
  | v :: vs => (EnvOk.wipe h vs).unset v
theorem wipe_set {σ : L2.St} {j : Nat} {o : Option V} : ∀ {vs : List Nat}, j ∈ vs → L2.wipe (σ.set j o) vs = L2.wipe σ vs
  | v :: vs, h => by
    show (L2.wipe (σ.set j o) vs).set v none = (L2.wipe σ vs).set v none
    by_cases e : j ∈ vs
    · rw [wipe_set e]
    · have e2 : j = v := by
        rcases List.mem_cons.mp h with q | q
        · exact q
        · exact absurd q e
      subst e2
      have k : ∀ us : List Nat, ¬ j ∈ us → L2.wipe (σ.set j o) us = (L2.wipe σ us).set j o := by
        intro us
        induction us with
        | nil => intro _; rfl
        | cons u us ih =>
          intro hu
          show (L2.wipe (σ.set j o) us).set u none = ((L2.wipe σ us).set u none).set j o
          rw [ih (fun q => hu (List.mem_cons_of_mem _ q)), List.set_comm _ _ (fun q => hu (by rw [q]; exact List.mem_cons_self))]
      rw [k vs e, List.set_set]

/-! ### steps -/
/-- the known heap grows from F to F', the heap goes from H to H'; T: what may be written -/
structure Go (T : Addr → Prop) (F H F' H' : Hp) : Prop where
  ff : Same F F'
  hh : ∀ b o, ¬ T b → H b = some o → H' b = some o
  gr : ∀ b o, F' b = some o → F b = some o ∨ H b = none ∨ T b
  dm : ∀ b, H b ≠ none → H' b ≠ none
abbrev Go0 : Hp → Hp → Hp → Hp → Prop := Go fun _ => False
theorem Go.refl {T : Addr → Prop} (F H : Hp) : Go T F H F H := ⟨fun _ _ h => h, fun _ _ _ h => h, fun _ _ h => .inl h, fun _ h => h⟩
theorem none_back {H H' : Hp} {b : Addr} (dm : H b ≠ none → H' b ≠ none) (h : H' b = none) : H b = none := Classical.byContradiction fun q => dm q h
theorem Go.trans {T : Addr → Prop} {F H F1 H1 F2 H2 : Hp} (a : Go T F H F1 H1) (b : Go T F1 H1 F2 H2) : Go T F H F2 H2 :=
  ⟨a.ff.trans b.ff, fun x o t h => b.hh x o t (a.hh x o t h), fun x o h => by
    rcases b.gr x o h with q | q | q
    · exact a.gr x o q
    · exact .inr (.inl (none_back (a.dm x) q))
    · exact .inr (.inr q), fun x h => b.dm x (a.dm x h)⟩
theorem Go.weak {T T' : Addr → Prop} {F H F' H' : Hp} (t : ∀ b, T b → T' b) (a : Go T F H F' H') : Go T' F H F' H' :=
  ⟨a.ff, fun x o q h => a.hh x o (fun z => q (t x z)) h, fun x o h => by
    rcases a.gr x o h with q | q | q
    · exact .inl q
    · exact .inr (.inl q)
    · exact .inr (.inr (t x q)), a.dm⟩
theorem Go0.same {F H F' H' : Hp} (a : Go0 F H F' H') : Same H H' := fun b o h => a.hh b o (fun z => z) h
/-- a new object, known from now on -/
theorem Go.new {T : Addr → Prop} {F H : Hp} {p : Addr} {o : HO} (s : Same F H) (h : H p = none) : Go T F H (upd F p o) (upd H p o) := by
  have hF : F p = none := s.free h
  refine ⟨fun b u e => by rw [upd_ne (ne_of_none e hF)]; exact e, fun b u _ e => by rw [upd_ne (ne_of_none e h)]; exact e, fun b u e => ?_, fun b e => ?_⟩
  · by_cases q : b = p
    · subst q
      exact .inr (.inl h)
    · rw [upd_ne q] at e
      exact .inl e
  · by_cases q : b = p
    · subst q
      exact absurd h e
    · rw [upd_ne q]
      exact e
/-- a new object that is not known -/
theorem Go.new' {T : Addr → Prop} {F H : Hp} {p : Addr} {o : HO} (h : H p = none) : Go T F H F (upd H p o) := by
  refine ⟨fun _ _ e => e, fun b u _ e => by rw [upd_ne (ne_of_none e h)]; exact e, fun b u e => .inl e, fun b e => ?_⟩
  by_cases q : b = p
  · subst q
    exact absurd h e
  · rw [upd_ne q]
    exact e
theorem same_new {F H : Hp} {p : Addr} {o : HO} (s : Same F H) (h : H p = none) : Same (upd F p o) (upd H p o) := by
  intro b u e
  by_cases q : b = p
  · subst q
    rw [upd_same] at e
    rw [upd_same]
    exact e
  · rw [upd_ne q] at e
    rw [upd_ne q]
    exact s b u e
theorem same_new' {F H : Hp} {p : Addr} {o : HO} (s : Same F H) (h : H p = none) : Same F (upd H p o) := fun b u e => by
  rw [upd_ne (ne_of_none (s b u e) h)]
  exact s b u e

/-- what an impure expression may write, and what stays true of it -/
structure Zx where
  T : Addr → Prop
  J : Hp → Prop
  stay : ∀ {H H' : Hp}, (∀ b, T b → H' b = H b) → J H → J H'
  has : ∀ {H : Hp} {b : Addr}, J H → T b → H b ≠ none
theorem Zx.mono (Z : Zx) {H H' : Hp} (s : Same H H') (j : Z.J H) : Z.J H' := Z.stay (fun b t => by
  cases q : H b with
  | none => exact absurd q (Z.has j t)
  | some o => exact s b o q) j
def Z0 : Zx := ⟨fun _ => False, fun _ => True, fun _ _ => trivial, fun _ h => h.elim⟩
structure Ok (Z : Zx) (F H : Hp) : Prop where
  fh : Same F H
  fr : ∀ b, Z.T b → F b = none
  j : Z.J H
theorem Ok.z0 {F H : Hp} (h : Same F H) : Ok Z0 F H := ⟨h, fun _ q => q.elim, trivial⟩
theorem Ok.step {Z : Zx} {F H F' H' : Hp} (k : Ok Z F H) (g : Go0 F H F' H') (s : Same F' H') : Go Z.T F H F' H' ∧ Ok Z F' H' := by
  refine ⟨g.weak fun _ q => q.elim, s, fun b t => ?_, Z.mono g.same k.j⟩
  cases q : F' b with
  | none => rfl
  | some o =>
    rcases g.gr b o q with z | z | z
    · rw [k.fr b t] at z
      cases z
    · exact absurd z (Z.has k.j t)
    · exact z.elim

/-! ### denotations -/
def Den (Z : Zx) (te : TE) (ρ : Rho) (r : RP) : Prop :=
  ∀ F H σ, EnvOk F σ ρ → Ok Z F H → ∀ Q : VK, (∀ v F' H', Go Z.T F H F' H' → Ok Z F' H' → r.R F' v → Q v H') → te σ H Q
def DenT (Z : Zx) (tt : TT) (ρ : Rho) (P : Bool → Prop) : Prop :=
  ∀ F H σ, EnvOk F σ ρ → Ok Z F H → ∀ Q : Bool → Hp → Prop, (∀ b F' H', Go Z.T F H F' H' → Ok Z F' H' → P b → Q b H') → tt σ H Q
def DenA (Z : Zx) (ta : TA) (ρ : Rho) (rs : List RP) : Prop :=
  ∀ F H σ, EnvOk F σ ρ → Ok Z F H → ∀ Q : List V → Hp → Prop, (∀ vs F' H', Go Z.T F H F' H' → Ok Z F' H' → Vrs F' vs rs → Q vs H') → ta σ H Q
def DenO (Z : Zx) (to : TO) (ρ : Rho) (o : Option Int) : Prop :=
  ∀ F H σ, EnvOk F σ ρ → Ok Z F H → ∀ Q : Option Int → Hp → Prop, (∀ F' H', Go Z.T F H F' H' → Ok Z F' H' → Q o H') → to σ H Q
/-- an operator, a built-in on values -/
def OpD (op : R2) (r1 r2 r : RP) : Prop :=
  ∀ F H x y, Same F H → r1.R F x → r2.R F y → ∀ Q : VK, (∀ v F' H', Go0 F H F' H' → Same F' H' → r.R F' v → Q v H') → op x y H Q
def CD (c : List V → Hp → VK → Prop) (rs : List RP) (r : RP) : Prop :=
  ∀ F H vs, Same F H → Vrs F vs rs → ∀ Q : VK, (∀ v F' H', Go0 F H F' H' → Same F' H' → r.R F' v → Q v H') → c vs H Q
def UnD (c : V → Hp → VK → Prop) (r1 r : RP) : Prop :=
  ∀ F H x, Same F H → r1.R F x → ∀ Q : VK, (∀ v F' H', Go0 F H F' H' → Same F' H' → r.R F' v → Q v H') → c x H Q
def SlD (c : V → Option Int → Option Int → Hp → VK → Prop) (r1 : RP) (lo hi : Option Int) (r : RP) : Prop :=
  ∀ F H x, Same F H → r1.R F x → ∀ Q : VK, (∀ v F' H', Go0 F H F' H' → Same F' H' → r.R F' v → Q v H') → c x lo hi H Q

/-- a new list that nobody knows yet -/
def DenF (Z : Zx) (te : TE) (ρ : Rho) (rs : List RP) : Prop :=
  ∀ F H σ, EnvOk F σ ρ → Ok Z F H → ∀ Q : VK, (∀ p vs F' H', H p = none → Go Z.T F H F' H' → Ok Z F' H' → F' p = none → H' p = some (.lst vs) → Vrs F' vs rs → Q (.ref p) H') → te σ H Q

section
variable {Z : Zx} {ρ : Rho} {ta tb tc te : TE} {tt tu : TT} {tas : TA} {r r1 r2 r3 : RP} {rs : List RP} {K : PySem.W.Frag} {P P1 P2 : Bool → Prop}
/-- from now on it is known -/
theorem freeze {Z : Zx} {F H F' H' : Hp} {p : Addr} {o : HO} (hp : H p = none) (k : Z.J H) (g : Go Z.T F H F' H') (ok : Ok Z F' H') (fp : F' p = none) (ho : H' p = some o) :
    Go Z.T F H (upd F' p o) H' ∧ Ok Z (upd F' p o) H' ∧ Same F' (upd F' p o) := by
  have sm : Same F' (upd F' p o) := fun b u e => by rw [upd_ne (fun q => by rw [q, fp] at e; cases e)]; exact e
  have nt : ¬ Z.T p := fun t => Z.has k t hp
  refine ⟨⟨g.ff.trans sm, g.hh, fun b u e => ?_, g.dm⟩, ⟨fun b u e => ?_, fun b t => ?_, ok.j⟩, sm⟩
  · by_cases hb : b = p
    · subst hb; exact .inr (.inl hp)
    · rw [upd_ne hb] at e; exact g.gr b u e
  · by_cases hb : b = p
    · subst hb; rw [upd_same] at e; rw [ho]; exact e
    · rw [upd_ne hb] at e; exact ok.fh b u e
  · rw [upd_ne (fun q => nt (by rw [← q]; exact t))]; exact ok.fr b t
theorem den_of_f (h : DenF Z te ρ rs) : Den Z te ρ (pL rs) := fun F H σ env ok Q q =>
  h F H σ env ok Q fun p vs F' H' hp g k fp ho hv => by
    obtain ⟨g2, k2, sm⟩ := freeze hp ok.j g k fp ho
    exact q _ _ _ g2 k2 ⟨p, vs, rfl, upd_same, hv.mono sm⟩
theorem den_var {i : Nat} (h : ρ[i]? = some (some r)) : Den Z (tVar i) ρ r := fun F H σ env ok Q q => by
  obtain ⟨v, h1, h2⟩ := env.at_ i r h
  exact ⟨v, h1, q v F H (Go.refl F H) ok h2⟩
theorem den_c {v : V} (h : ∀ F, r.R F v) : Den Z (tC v) ρ r := fun F H σ _ ok Q q => q v F H (Go.refl F H) ok (h F)
theorem den_v {v : V} : Den Z (tC v) ρ (pV v) := den_c fun _ => rfl
theorem den_imp (h : Den Z te ρ r) (k : ∀ F v, r.R F v → r1.R F v) : Den Z te ρ r1 := fun F H σ env ok Q q => h F H σ env ok Q fun v F' H' g k' rv => q v F' H' g k' (k _ _ rv)
theorem den_op {op : R2} (ha : Den Z ta ρ r1) (hb : Den Z tb ρ r2) (ho : OpD op r1 r2 r) : Den Z (tOp op ta tb) ρ r := fun F H σ env ok Q q =>
  ha F H σ env ok _ fun x F1 H1 g1 k1 x1 => hb F1 H1 σ (env.mono g1.ff) k1 _ fun y F2 H2 g2 k2 y2 => ho F2 H2 x y k2.fh (r1.mono g2.ff x1) y2 Q fun v F3 H3 g3 s3 v3 => by
    obtain ⟨g3', k3⟩ := k2.step g3 s3
    exact q v F3 H3 ((g1.trans g2).trans g3') k3 v3
theorem den_un {op : V → Hp → VK → Prop} (ha : Den Z ta ρ r1) (ho : UnD op r1 r) : Den Z (tUn op ta) ρ r := fun F H σ env ok Q q =>
  ha F H σ env ok _ fun x F1 H1 g1 k1 x1 => ho F1 H1 x k1.fh x1 Q fun v F3 H3 g3 s3 v3 => by
    obtain ⟨g3', k3⟩ := k1.step g3 s3
    exact q v F3 H3 (g1.trans g3') k3 v3
theorem den_nil : DenA Z tNil ρ [] := fun F H σ _ ok Q q => q [] F H (Go.refl F H) ok trivial
theorem den_cons (ha : Den Z ta ρ r) (hs : DenA Z tas ρ rs) : DenA Z (tCons ta tas) ρ (r :: rs) := fun F H σ env ok Q q =>
  ha F H σ env ok _ fun x F1 H1 g1 k1 x1 => hs F1 H1 σ (env.mono g1.ff) k1 _ fun xs F2 H2 g2 k2 x2 => q (x :: xs) F2 H2 (g1.trans g2) k2 ⟨r.mono g2.ff x1, x2⟩
theorem den_tup (ha : DenA Z tas ρ rs) (hz : rs.length ≤ sizeLine) : Den Z (tTup tas) ρ (pT rs) := fun F H σ env ok Q q =>
  ha F H σ env ok _ fun xs F1 H1 g1 k1 x1 => ⟨by rw [x1.len]; exact hz, fun p hp => by
    have g2 : Go0 F1 H1 (upd F1 p (.tup xs)) (upd H1 p (.tup xs)) := Go.new k1.fh hp
    obtain ⟨g3, k3⟩ := k1.step g2 (same_new k1.fh hp)
    exact q _ _ _ (g1.trans g3) k3 ⟨p, xs, rfl, upd_same, x1.mono g2.ff⟩⟩
theorem den_lst (ha : DenA Z tas ρ rs) (hz : rs.length ≤ sizeLine) : Den Z (tLst tas) ρ (pL rs) := fun F H σ env ok Q q =>
  ha F H σ env ok _ fun xs F1 H1 g1 k1 x1 => ⟨by rw [x1.len]; exact hz, fun p hp => by
    have g2 : Go0 F1 H1 (upd F1 p (.lst xs)) (upd H1 p (.lst xs)) := Go.new k1.fh hp
    obtain ⟨g3, k3⟩ := k1.step g2 (same_new k1.fh hp)
    exact q _ _ _ (g1.trans g3) k3 ⟨p, xs, rfl, upd_same, x1.mono g2.ff⟩⟩
theorem denf_lst (ha : DenA Z tas ρ rs) (hz : rs.length ≤ sizeLine) : DenF Z (tLst tas) ρ rs := fun F H σ env ok Q q =>
  ha F H σ env ok _ fun xs F1 H1 g1 k1 x1 => ⟨by rw [x1.len]; exact hz, fun p hp => by
    have hp0 : H p = none := none_back (g1.dm p) hp
    have nt : ¬ Z.T p := fun t => Z.has ok.j t hp0
    refine q p xs F1 (upd H1 p (.lst xs)) hp0 (g1.trans (Go.new' hp)) ⟨same_new' k1.fh hp, k1.fr, Z.stay (fun b t => ?_) k1.j⟩ (k1.fh.free hp) upd_same x1
    rw [upd_ne (fun e => nt (by rw [← e]; exact t))]⟩
theorem den_callB {c : List V → Hp → VK → Prop} (ha : DenA Z tas ρ rs) (hc : CD c rs r) : Den Z (tCB c tas) ρ r := fun F H σ env ok Q q =>
  ha F H σ env ok _ fun xs F1 H1 g1 k1 x1 => hc F1 H1 xs k1.fh x1 Q fun v F3 H3 g3 s3 v3 => by
    obtain ⟨g3', k3⟩ := k1.step g3 s3
    exact q v F3 H3 (g1.trans g3') k3 v3
theorem den_if (ht : DenT Z tt ρ P) (h1 : P true → Den Z ta ρ r) (h2 : P false → Den Z tb ρ r) : Den Z (tIf tt ta tb) ρ r := fun F H σ env ok Q q =>
  ht F H σ env ok _ fun b F1 H1 g1 k1 p => by
    cases b with
    | true =>
      rw [if_pos rfl]
      exact h1 p F1 H1 σ (env.mono g1.ff) k1 Q fun v F2 H2 g2 k2 r2 => q v F2 H2 (g1.trans g2) k2 r2
    | false =>
      rw [if_neg Bool.false_ne_true]
      exact h2 p F1 H1 σ (env.mono g1.ff) k1 Q fun v F2 H2 g2 k2 r2 => q v F2 H2 (g1.trans g2) k2 r2
theorem den_isN {b : Bool} (ha : Den Z ta ρ r) (h : ∀ F v, r.R F v → decide (v = .non) = b) : Den Z (tIsN ta) ρ (pB b) := fun F H σ env ok Q q =>
  ha F H σ env ok _ fun x F1 H1 g1 k1 x1 => q _ F1 H1 g1 k1 (by rw [h _ _ x1]; exact rfl)
theorem den_notN {b : Bool} (ha : Den Z ta ρ r) (h : ∀ F v, r.R F v → decide (v = .non) = b) : Den Z (tNotN ta) ρ (pB (!b)) := fun F H σ env ok Q q =>
  ha F H σ env ok _ fun x F1 H1 g1 k1 x1 => q _ F1 H1 g1 k1 (by rw [h _ _ x1]; exact rfl)
theorem den_notV {b : Bool} (ha : Den Z ta ρ (pB b)) : Den Z (tNotV ta) ρ (pB (!b)) := fun F H σ env ok Q q =>
  ha F H σ env ok _ fun x F1 H1 g1 k1 x1 => ⟨b, x1, q _ F1 H1 g1 k1 rfl⟩
theorem den_andV {b c : Bool} (ha : Den Z ta ρ (pB b)) (hb : b = true → Den Z tb ρ (pB c)) : Den Z (tAndV ta tb) ρ (pB (b && c)) := fun F H σ env ok Q q =>
  ha F H σ env ok _ fun x F1 H1 g1 k1 x1 => ⟨b, x1, by
    cases b with
    | true =>
      rw [if_pos rfl]
      exact hb rfl F1 H1 σ (env.mono g1.ff) k1 Q fun v F2 H2 g2 k2 r2 => q v F2 H2 (g1.trans g2) k2 r2
    | false =>
      rw [if_neg Bool.false_ne_true]
      exact q _ F1 H1 g1 k1 rfl⟩
theorem den_orV {b c : Bool} (ha : Den Z ta ρ (pB b)) (hb : b = false → Den Z tb ρ (pB c)) : Den Z (tOrV ta tb) ρ (pB (b || c)) := fun F H σ env ok Q q =>
  ha F H σ env ok _ fun x F1 H1 g1 k1 x1 => ⟨b, x1, by
    cases b with
    | true =>
      rw [if_pos rfl]
      exact q _ F1 H1 g1 k1 rfl
    | false =>
      rw [if_neg Bool.false_ne_true]
      exact hb rfl F1 H1 σ (env.mono g1.ff) k1 Q fun v F2 H2 g2 k2 r2 => q v F2 H2 (g1.trans g2) k2 r2⟩
theorem den_slice {c : V → Option Int → Option Int → Hp → VK → Prop} {tl th : TO} {lo hi : Option Int} (ha : Den Z ta ρ r1) (hl : DenO Z tl ρ lo) (hh : DenO Z th ρ hi) (hc : SlD c r1 lo hi r) : Den Z (tSl c ta tl th) ρ r := fun F H σ env ok Q q =>
  ha F H σ env ok _ fun x F1 H1 g1 k1 x1 => hl F1 H1 σ (env.mono g1.ff) k1 _ fun F2 H2 g2 k2 => hh F2 H2 σ (env.mono (g1.trans g2).ff) k2 _ fun F3 H3 g3 k3 =>
    hc F3 H3 x k3.fh (r1.mono (g2.trans g3).ff x1) Q fun v F4 H4 g4 s4 v4 => by
      obtain ⟨g4', k4⟩ := k3.step g4 s4
      exact q v F4 H4 (((g1.trans g2).trans g3).trans g4') k4 v4
theorem deno_none : DenO Z tNoPart ρ none := fun F H σ _ ok Q q => q F H (Go.refl F H) ok
theorem deno_some {i : Int} (ha : Den Z ta ρ (pI i)) : DenO Z (tPart ta) ρ (some i) := fun F H σ env ok Q q =>
  ha F H σ env ok _ fun x F1 H1 g1 k1 x1 => ⟨i, x1, q F1 H1 g1 k1⟩
/-- xs[::-1] -/
theorem den_revL (ha : Den Z ta ρ (pL rs)) : Den Z (tRevL K ta) ρ (pL rs.reverse) := fun F H σ env ok Q q =>
  ha F H σ env ok _ fun x F1 H1 g1 k1 ⟨a, vs, e, h, hv⟩ => ⟨a, vs, e, SqL.of (k1.fh _ _ h), fun p hp => by
    have g2 : Go0 F1 H1 (upd F1 p (.lst vs.reverse)) (upd H1 p (.lst vs.reverse)) := Go.new k1.fh hp
    obtain ⟨g3, k3⟩ := k1.step g2 (same_new k1.fh hp)
    exact q _ _ _ (g1.trans g3) k3 ⟨p, _, rfl, upd_same, hv.rev.mono g2.ff⟩⟩
/-! tests -/
theorem dent_imp (h : DenT Z tt ρ P) (k : ∀ b, P b → P1 b) : DenT Z tt ρ P1 := fun F H σ env ok Q q => h F H σ env ok Q fun b F' H' g k' p => q b F' H' g k' (k b p)
theorem dent_val {b : Bool} (ha : Den Z ta ρ (pB b)) : DenT Z (tB ta) ρ (· = b) := fun F H σ env ok Q q =>
  ha F H σ env ok _ fun x F1 H1 g1 k1 x1 => ⟨b, x1, q b F1 H1 g1 k1 rfl⟩
theorem dent_valX (ha : Den Z ta ρ (pX P pB)) : DenT Z (tB ta) ρ P := fun F H σ env ok Q q =>
  ha F H σ env ok _ fun x F1 H1 g1 k1 ⟨b, p, x1⟩ => ⟨b, x1, q b F1 H1 g1 k1 p⟩
theorem dent_test {b : Bool} (ha : Den Z ta ρ (pB b)) : DenT Z (tTest ta) ρ (· = b) := fun F H σ env ok Q q =>
  ha F H σ env ok _ fun x F1 H1 g1 k1 x1 => ⟨b, x1, q b F1 H1 g1 k1 rfl⟩
theorem dent_testX (ha : Den Z ta ρ (pX P pB)) : DenT Z (tTest ta) ρ P := fun F H σ env ok Q q =>
  ha F H σ env ok _ fun x F1 H1 g1 k1 ⟨b, p, x1⟩ => ⟨b, x1, q b F1 H1 g1 k1 p⟩
theorem dent_not {b : Bool} (ht : DenT Z tt ρ (· = b)) : DenT Z (tNot tt) ρ (· = !b) := fun F H σ env ok Q q =>
  ht F H σ env ok _ fun c F1 H1 g1 k1 e => q _ F1 H1 g1 k1 (by rw [e])
theorem dent_and {b c : Bool} (ht : DenT Z tt ρ (· = b)) (hu : b = true → DenT Z tu ρ (· = c)) : DenT Z (tAnd tt tu) ρ (· = (b && c)) := fun F H σ env ok Q q =>
  ht F H σ env ok _ fun d F1 H1 g1 k1 e => by
    subst e
    cases d with
    | true =>
      rw [if_pos rfl]
      exact hu rfl F1 H1 σ (env.mono g1.ff) k1 Q fun d F2 H2 g2 k2 e => q d F2 H2 (g1.trans g2) k2 e
    | false =>
      rw [if_neg Bool.false_ne_true]
      exact q _ F1 H1 g1 k1 rfl
theorem dent_or {b c : Bool} (ht : DenT Z tt ρ (· = b)) (hu : b = false → DenT Z tu ρ (· = c)) : DenT Z (tOr tt tu) ρ (· = (b || c)) := fun F H σ env ok Q q =>
  ht F H σ env ok _ fun d F1 H1 g1 k1 e => by
    subst e
    cases d with
    | true =>
      rw [if_pos rfl]
      exact q _ F1 H1 g1 k1 rfl
    | false =>
      rw [if_neg Bool.false_ne_true]
      exact hu rfl F1 H1 σ (env.mono g1.ff) k1 Q fun d F2 H2 g2 k2 e => q d F2 H2 (g1.trans g2) k2 e
/-- a first test whose answer may be one of some -/
theorem dent_andX (ht : DenT Z tt ρ P1) (hu : P1 true → DenT Z tu ρ P) (h0 : P1 false → P false) : DenT Z (tAnd tt tu) ρ P := fun F H σ env ok Q q =>
  ht F H σ env ok _ fun d F1 H1 g1 k1 e => by
    cases d with
    | true =>
      rw [if_pos rfl]
      exact hu e F1 H1 σ (env.mono g1.ff) k1 Q fun d F2 H2 g2 k2 e => q d F2 H2 (g1.trans g2) k2 e
    | false =>
      rw [if_neg Bool.false_ne_true]
      exact q _ F1 H1 g1 k1 (h0 e)
theorem dent_orX (ht : DenT Z tt ρ P1) (hu : P1 false → DenT Z tu ρ P) (h0 : P1 true → P true) : DenT Z (tOr tt tu) ρ P := fun F H σ env ok Q q =>
  ht F H σ env ok _ fun d F1 H1 g1 k1 e => by
    cases d with
    | true =>
      rw [if_pos rfl]
      exact q _ F1 H1 g1 k1 (h0 e)
    | false =>
      rw [if_neg Bool.false_ne_true]
      exact hu e F1 H1 σ (env.mono g1.ff) k1 Q fun d F2 H2 g2 k2 e => q d F2 H2 (g1.trans g2) k2 e
theorem dent_yes : DenT Z tYes ρ (· = true) := fun F H σ _ ok Q q => q true F H (Go.refl F H) ok rfl
/-- a op b op' c -/
theorem den_chain {op op' : R2} {b c : Bool} (ha : Den Z ta ρ r1) (hb : Den Z tb ρ r2) (hc : Den Z tc ρ r3) (h1 : OpD op r1 r2 (pB b)) (h2 : OpD op' r2 r3 (pB c)) : Den Z (tChain op op' ta tb tc) ρ (pB (b && c)) := fun F H σ env ok Q q =>
  ha F H σ env ok _ fun x F1 H1 g1 k1 x1 => hb F1 H1 σ (env.mono g1.ff) k1 _ fun y F2 H2 g2 k2 y2 => h1 F2 H2 x y k2.fh (r1.mono g2.ff x1) y2 _ fun v F3 H3 g3 s3 v3 => ⟨b, v3, by
    obtain ⟨g3', k3⟩ := k2.step g3 s3
    cases b with
    | true =>
      rw [if_pos rfl]
      exact hc F3 H3 σ (env.mono ((g1.trans g2).trans g3').ff) k3 _ fun w F4 H4 g4 k4 w4 => h2 F4 H4 y w k4.fh (r2.mono (g3'.trans g4).ff y2) w4 Q fun v' F5 H5 g5 s5 v5 => by
        obtain ⟨g5', k5⟩ := k4.step g5 s5
        exact q v' F5 H5 ((((g1.trans g2).trans g3').trans g4).trans g5') k5 v5
    | false =>
      rw [if_neg Bool.false_ne_true]
      exact q _ F3 H3 ((g1.trans g2).trans g3') k3 rfl⟩
/-! operators on values -/
theorem opd_I {C : Int → Int → Prop} {g : Int → Int → V} {i j : Int} (hc : C i j) : OpD (rI C g) (pI i) (pI j) (pV (g i j)) := fun F H x y s hx hy Q q => ⟨i, j, hx, hy, hc, q _ F H (Go.refl F H) s rfl⟩
theorem opd_I0 {g : Int → Int → V} {i j : Int} : OpD (rI0 g) (pI i) (pI j) (pV (g i j)) := fun F H x y s hx hy Q q => ⟨i, j, hx, hy, q _ F H (Go.refl F H) s rfl⟩
theorem opd_eq {x y : V} (h : scal x y = true) : OpD rEq (pV x) (pV y) (pB (decide (x = y))) := fun F H x y s hx hy Q q => by
  cases hx
  cases hy
  exact ⟨h, q _ F H (Go.refl F H) s rfl⟩
theorem opd_ne {x y : V} (h : scal x y = true) : OpD rNe (pV x) (pV y) (pB (!decide (x = y))) := fun F H x y s hx hy Q q => by
  cases hx
  cases hy
  exact ⟨h, q _ F H (Go.refl F H) s rfl⟩
theorem und_neg {i : Int} : UnD (rU fun i => .int (-i)) (pI i) (pI (-i)) := fun F H x s hx Q q => ⟨i, hx, q _ F H (Go.refl F H) s rfl⟩
theorem opd_cat {xs ys : List RP} (hz : xs.length + ys.length ≤ sizeLine) : OpD rCat (pL xs) (pL ys) (pL (xs ++ ys)) := fun F H x y s ⟨a, vs, e1, h1, v1⟩ ⟨b, ws, e2, h2, v2⟩ Q q =>
  ⟨a, b, vs, ws, e1, e2, s _ _ h1, s _ _ h2, by rw [v1.len, v2.len]; exact hz, fun p hp => by
    have g : Go0 F H (upd F p (.lst (vs ++ ws))) (upd H p (.lst (vs ++ ws))) := Go.new s hp
    exact q _ _ _ g (same_new s hp) ⟨p, _, rfl, upd_same, (v1.app v2).mono g.ff⟩⟩
theorem opd_rep {xs : List RP} {k : Int} (h1 : -(2 ^ 63) ≤ k) (h2 : k < 2 ^ 63) (hz : xs.length * k.toNat ≤ sizeLine) : OpD rRep (pL xs) (pI k) (pL (List.replicate k.toNat xs).flatten) := fun F H x y s ⟨a, vs, e1, hh, v1⟩ hy Q q =>
  ⟨a, k, vs, e1, hy, s _ _ hh, h1, h2, by rw [v1.len]; exact hz, fun p hp => by
    have g : Go0 F H (upd F p (.lst (List.replicate k.toNat vs).flatten)) (upd H p (.lst (List.replicate k.toNat vs).flatten)) := Go.new s hp
    exact q _ _ _ g (same_new s hp) ⟨p, _, rfl, upd_same, (v1.rep _).mono g.ff⟩⟩
theorem opd_ixL {xs : List RP} {i : Int} {j : Nat} (e : i = (j : Int)) (h : xs[j]? = some r) : OpD (rIxL K) (pL xs) (pI i) r := fun F H x y s ⟨a, vs, e1, hh, v1⟩ hy Q q => by
  obtain ⟨v, h2, h3⟩ := v1.get h
  exact ⟨a, vs, i, v, e1, hy, SqL.of (s _ _ hh), at_of e h2, q v F H (Go.refl F H) s h3⟩
theorem opd_ixT {xs : List RP} {i : Int} {j : Nat} (e : i = (j : Int)) (h : xs[j]? = some r) : OpD (rIxT K) (pT xs) (pI i) r := fun F H x y s ⟨a, vs, e1, hh, v1⟩ hy Q q => by
  obtain ⟨v, h2, h3⟩ := v1.get h
  exact ⟨a, vs, i, v, e1, hy, SqT.of (s _ _ hh), at_of e h2, q v F H (Go.refl F H) s h3⟩
theorem sld_list {xs : List RP} {lo hi : Option Int} : SlD (rSlL K) (pL xs) lo hi (pL ((xs.drop (HT.sIx xs.length 0 lo)).take (HT.sIx xs.length xs.length hi - HT.sIx xs.length 0 lo))) := fun F H x s ⟨a, vs, e1, hh, v1⟩ Q q =>
  ⟨a, vs, e1, SqL.of (s _ _ hh), fun p hp => by
    have g : Go0 F H (upd F p (.lst (cutV vs lo hi))) (upd H p (.lst (cutV vs lo hi))) := Go.new s hp
    refine q _ _ _ g (same_new s hp) ⟨p, cutV vs lo hi, rfl, upd_same, ?_⟩
    have c : Vrs F (cutV vs lo hi) ((xs.drop (HT.sIx xs.length 0 lo)).take (HT.sIx xs.length xs.length hi - HT.sIx xs.length 0 lo)) := by
      unfold cutV
      rw [v1.len]
      exact (v1.drop _).take _
    exact c.mono g.ff⟩
end
end Dn
set_option Elab.async false
set_option linter.all false
set_option maxRecDepth 100000
set_option maxHeartbeats 4000000
namespace Dn
open PySem L2

/-! ### what is walked -/
def ItOk (J : It) (rs : List RP) (F : Hp) : Prop :=
  ∃ (G : Hp → Prop) (Y : Nat → Hp → V → Hp → Prop), Walk J rs.length G Y ∧ (∀ H, Same F H → G H) ∧
    ∀ (i : Nat) (H : Hp) (x : V) (H1 : Hp) (r : RP) (F1 : Hp), Y i H x H1 → rs[i]? = some r → Same F F1 → Same F1 H → ∃ F2, Go0 F1 H F2 H1 ∧ Same F2 H1 ∧ r.R F2 x
def DenI (Z : Zx) (wi : TI) (ρ : Rho) (rs : List RP) : Prop :=
  ∀ F H σ, EnvOk F σ ρ → Ok Z F H → ∀ R : It → Hp → Prop, (∀ J F' H', Go Z.T F H F' H' → Ok Z F' H' → ItOk J rs F' → R J H') → wi σ H R
/-- a target takes a value: vs its slots, up what it makes of the names' meanings -/
def DenG (vs : List Nat) (g : TG) (r : RP) (up : Rho → Rho) : Prop :=
  ∀ F H σ ρ v (Q : L2.St → Hp → Prop), EnvOk F σ ρ → Same F H → r.R F v → (∀ σ', EnvOk F σ' (up ρ) → L2.wipe σ' vs = L2.wipe σ vs → Q σ' H) → g v σ H Q
section
variable {Z : Zx} {ρ : Rho} {ta tb tc te tl : TE} {tt tu : TT} {tas : TA} {r r1 r2 r3 : RP} {rs : List RP} {K : PySem.W.Frag} {P P1 P2 : Bool → Prop}
theorem deni_listR (h : Den Z tl ρ (pL rs)) : DenI Z (iList K tl) ρ rs := fun F H σ env ok R q =>
  h F H σ env ok _ fun x F1 H1 g1 k1 ⟨a, vs, e, ha, hv⟩ => ⟨a, e, ⟨vs, SqL.of (k1.fh _ _ ha)⟩, q _ F1 H1 g1 k1 ⟨fun H => SqL K H a vs, YAt vs, by
    have w := walk_list (K := K) (a := a) (xs := vs)
    rw [hv.len] at w
    exact w, fun H s => SqL.of (s _ _ ha), fun i H x H' r F2 ⟨y1, y2⟩ er s1 s2 => by
      obtain ⟨v, h1, h2⟩ := hv.get er
      rw [h1] at y2
      obtain rfl := Option.some.inj y2
      subst y1
      exact ⟨F2, Go.refl _ _, s2, r.mono s1 h2⟩⟩⟩
theorem deni_list {α : Type} {xs : List α} {f : α → RP} (h : Den Z tl ρ (pLm f xs)) : DenI Z (iList K tl) ρ (xs.map f) := deni_listR h
theorem deni_tupR (h : Den Z tl ρ (pT rs)) : DenI Z (iTup K tl) ρ rs := fun F H σ env ok R q =>
  h F H σ env ok _ fun x F1 H1 g1 k1 ⟨a, vs, e, ha, hv⟩ => ⟨a, e, ⟨vs, SqT.of (k1.fh _ _ ha)⟩, q _ F1 H1 g1 k1 ⟨fun H => SqT K H a vs, YAt vs, by
    have w := walk_tup (K := K) (a := a) (xs := vs)
    rw [hv.len] at w
    exact w, fun H s => SqT.of (s _ _ ha), fun i H x H' r F2 ⟨y1, y2⟩ er s1 s2 => by
      obtain ⟨v, h1, h2⟩ := hv.get er
      rw [h1] at y2
      obtain rfl := Option.some.inj y2
      subst y1
      exact ⟨F2, Go.refl _ _, s2, r.mono s1 h2⟩⟩⟩
theorem itok_range {lo : Int} {n : Nat} {F : Hp} : ItOk (Itr lo n) ((List.range n).map fun k : Nat => pI (lo + (k : Int))) F := by
  refine ⟨fun _ => True, YFn fun i => .int (lo + i), by
    have w := walk_range (lo := lo) (n := n)
    rw [show ((List.range n).map fun k : Nat => pI (lo + (k : Int))).length = n by simp]
    exact w, fun _ _ => trivial, fun i H x H' r F2 ⟨y1, y2⟩ er s1 s2 => ?_⟩
  subst y1 y2
  rw [List.getElem?_map] at er
  have hi : (List.range n)[i]? = some i := by
    cases q : (List.range n)[i]? with
    | none => rw [q] at er; cases er
    | some j =>
      obtain ⟨h1, h2⟩ := List.getElem?_eq_some_iff.mp q
      rw [List.getElem_range] at h2
      rw [h2]
  rw [hi] at er
  obtain rfl := Option.some.inj er
  exact ⟨F2, Go.refl _ _, s2, rfl⟩
theorem deni_rng1 {n : Int} (h : DenA Z tas ρ [pI n]) (h1 : -(2 ^ 62) ≤ n) (h2 : n < 2 ^ 62) : DenI Z (iRng1 tas) ρ ((List.range n.toNat).map fun k : Nat => pI (k : Int)) := fun F H σ env ok R q =>
  h F H σ env ok _ fun vs F1 H1 g1 k1 hv => by
    match vs, hv with
    | [v], ⟨e, _⟩ =>
      refine ⟨n, by rw [show v = V.int n from e], h1, h2, q _ F1 H1 g1 k1 ?_⟩
      have w := itok_range (lo := 0) (n := n.toNat) (F := F1)
      rw [show (fun k : Nat => pI (0 + (k : Int))) = fun k : Nat => pI (k : Int) by funext k; rw [Int.zero_add]] at w
      exact w
theorem deni_rng2 {lo n : Int} (h : DenA Z tas ρ [pI lo, pI n]) (h1 : -(2 ^ 62) ≤ lo ∧ lo < 2 ^ 62 ∧ -(2 ^ 62) ≤ n ∧ n < 2 ^ 62) : DenI Z (iRng2 tas) ρ ((List.range (n - lo).toNat).map fun k : Nat => pI (lo + (k : Int))) := fun F H σ env ok R q =>
  h F H σ env ok _ fun vs F1 H1 g1 k1 hv => by
    match vs, hv with
    | [v, u], ⟨e, e2, _⟩ => exact ⟨lo, n, by rw [show v = V.int lo from e, show u = V.int n from e2], h1, q _ F1 H1 g1 k1 itok_range⟩
theorem deni_enum {α : Type} {xs : List α} {f : α → RP} (h : DenA Z tas ρ [pLm f xs]) : DenI Z (iEnum K tas) ρ (xs.zipIdx.map fun p => pT [pI (p.2 : Int), f p.1]) := fun F H σ env ok R q =>
  h F H σ env ok _ fun us F1 H1 g1 k1 hu => by
    match us, hu with
    | [u], ⟨⟨a, vs, e, ha, hv⟩, _⟩ =>
      refine ⟨a, vs, by rw [e], SqL.of (k1.fh _ _ ha), q _ F1 H1 g1 k1 ⟨_, _, by
        have w := walk_enum (K := K) (a := a) (xs := vs)
        rw [show (xs.zipIdx.map fun p => pT [pI (p.2 : Int), f p.1]).length = vs.length by rw [hv.len]; simp]
        exact w, fun H s => SqL.of (s _ _ ha), fun i H x H' r F2 y er s1 s2 => ?_⟩⟩
      obtain ⟨T, x1, y1, ex, hT, eH, ei, ey⟩ := y
      subst ex eH
      obtain rfl := Option.some.inj ei
      rw [List.getElem?_map, List.getElem?_zipIdx] at er
      obtain ⟨r0, h1, h2⟩ := hv.back ey
      rw [List.getElem?_map] at h1
      cases hx : xs[i]? with
      | none => rw [hx] at h1; cases h1
      | some x0 =>
        rw [hx] at h1 er
        obtain rfl := Option.some.inj h1
        obtain rfl := Option.some.inj er
        refine ⟨upd F2 T (.tup [.int (i : Nat), y1]), Go.new s2 hT, same_new s2 hT, T, _, rfl, upd_same, ?_, ?_, trivial⟩
        · show V.int _ = V.int _
          rw [Nat.zero_add]
        · exact (f x0).mono (s1.trans fun b o e => by rw [upd_ne (ne_of_none (s2 b o e) hT)]; exact e) h2
theorem deni_zip {α β : Type} {xs : List α} {ys : List β} {f : α → RP} {g : β → RP} (h : DenA Z tas ρ [pLm f xs, pLm g ys]) : DenI Z (iZip K tas) ρ ((xs.zip ys).map fun p => pT [f p.1, g p.2]) := fun F H σ env ok R q =>
  h F H σ env ok _ fun us F1 H1 g1 k1 hu => by
    match us, hu with
    | [u, u'], ⟨⟨a, vs, e, ha, hv⟩, ⟨b, ws, e', hb, hw⟩, _⟩ =>
      have l1 := hv.len
      have l2 := hw.len
      rw [List.length_map] at l1 l2
      refine ⟨a, b, vs, ws, by rw [e, e'], SqL.of (k1.fh _ _ ha), SqL.of (k1.fh _ _ hb), q _ F1 H1 g1 k1 ⟨fun H => SqL K H a vs ∧ SqL K H b ws, YPair (fun i => vs[i]?) (fun i => ws[i]?), by
        have w := walk_zip (K := K) (a := a) (b := b) (xs := vs) (ys := ws) (n := ((xs.zip ys).map fun p => pT [f p.1, g p.2]).length) (by simp [l1, l2])
        exact w, fun H s => ⟨SqL.of (s _ _ ha), SqL.of (s _ _ hb)⟩, fun i H x H' r F2 y er s1 s2 => ?_⟩⟩
      obtain ⟨T, x1, y1, ex, hT, eH, e1, e2⟩ := y
      subst ex eH
      rw [List.getElem?_map] at er
      obtain ⟨r1, h1, h2⟩ := hv.back e1
      obtain ⟨r2, h3, h4⟩ := hw.back e2
      rw [List.getElem?_map] at h1 h3
      cases hx : xs[i]? with
      | none => rw [hx] at h1; cases h1
      | some x0 =>
        cases hy : ys[i]? with
        | none => rw [hy] at h3; cases h3
        | some y0 =>
          rw [hx] at h1
          rw [hy] at h3
          have hz : (xs.zip ys)[i]? = some (x0, y0) := by
            rw [List.getElem?_zip_eq_some]
            exact ⟨hx, hy⟩
          rw [hz] at er
          obtain rfl := Option.some.inj h1
          obtain rfl := Option.some.inj h3
          obtain rfl := Option.some.inj er
          have s3 : Same F1 (upd F2 T (.tup [x1, y1])) := s1.trans fun b o e => by rw [upd_ne (ne_of_none (s2 b o e) hT)]; exact e
          exact ⟨upd F2 T (.tup [x1, y1]), Go.new s2 hT, same_new s2 hT, T, _, rfl, upd_same, (f x0).mono s3 h2, (g y0).mono s3 h4, trivial⟩
/-! targets -/
theorem deng_name {vs : List Nat} {j : Nat} (h : j ∈ vs) : DenG vs (gName j) r fun ρ => ρ.set j (some r) := fun F H σ ρ v Q env s hr q => q _ (env.set j hr) (wipe_set h)
theorem deng_tup2 {vs : List Nat} {i j : Nat} (hi : i ∈ vs) (hj : j ∈ vs) : DenG vs (gTup K 2 (gCons (gName i) (gCons (gName j) gNil))) (pT [r1, r2]) fun ρ => (ρ.set i (some r1)).set j (some r2) := fun F H σ ρ v Q env s hr q => by
  obtain ⟨a, us, e, ha, hv⟩ := hr
  match us, hv with
  | [u, w], ⟨h1, h2, _⟩ => exact ⟨a, [u, w], e, SqT.of (s _ _ ha), rfl, u, [w], rfl, w, [], rfl, rfl, q _ ((env.set i h1).set j h2) (by rw [wipe_set hj, wipe_set hi])⟩
theorem deng_tup3 {vs : List Nat} {i j k : Nat} (hi : i ∈ vs) (hj : j ∈ vs) (hk : k ∈ vs) : DenG vs (gTup K 3 (gCons (gName i) (gCons (gName j) (gCons (gName k) gNil)))) (pT [r1, r2, r3]) fun ρ => ((ρ.set i (some r1)).set j (some r2)).set k (some r3) := fun F H σ ρ v Q env s hr q => by
  obtain ⟨a, us, e, ha, hv⟩ := hr
  match us, hv with
  | [u, w, y], ⟨h1, h2, h3, _⟩ => exact ⟨a, [u, w, y], e, SqT.of (s _ _ ha), rfl, u, [w, y], rfl, w, [y], rfl, y, [], rfl, rfl, q _ (((env.set i h1).set j h2).set k h3) (by rw [wipe_set hk, wipe_set hj, wipe_set hi])⟩

/-! ### comprehensions -/
theorem denf_lc {α : Type} {wi : TI} {g : TG} {vs : List Nat} (xs : List α) (item : α → RP) (keep : α → Bool) (out : α → RP) (hi : DenI Z wi ρ (xs.map item))
    (hx : ∀ x ∈ xs, ∃ up, DenG vs g (item x) up ∧ DenT Z tt (up (wipeR ρ vs)) (· = keep x) ∧ (keep x = true → Den Z te (up (wipeR ρ vs)) (out x))) (hz : xs.length ≤ sizeLine) :
    DenF Z (tLc wi g tt te vs) ρ ((xs.filter keep).map out) := fun F H σ env ok Q q =>
  hi F H σ env ok _ fun J F1 H1 g1 k1 it D hD => by
    obtain ⟨G, Y, w, hG, hY⟩ := it
    rw [List.length_map] at w
    refine lc_it w (fun i Hi => ∃ Fi vsi, Go Z.T F1 H1 Fi Hi ∧ Ok Z Fi Hi ∧ Fi D = none ∧ Hi D = some (.lst vsi) ∧ Vrs Fi vsi (((xs.take i).filter keep).map out)) ?_ ?_ ?_ ?_
    · refine ⟨F1, [], Go.new' hD, ?_, k1.fh.free hD, upd_same, trivial⟩
      exact ⟨same_new' k1.fh hD, k1.fr, Z.mono (same_new' (fun _ _ e => e) hD) k1.j⟩
    · rintro i Hi _ ⟨Fi, vsi, gi, ki, _⟩
      exact hG Hi (gi.ff.trans ki.fh)
    · rintro i x Hi Hi' hi ⟨Fi, vsi, gi, ki, dF, dH, hv⟩ y
      have hxi : xs[i]? = some xs[i] := List.getElem?_eq_getElem hi
      obtain ⟨F2, g2, s2, rx⟩ := hY i Hi x Hi' (item xs[i]) Fi y (by rw [List.getElem?_map, hxi]; rfl) gi.ff ki.fh
      obtain ⟨g2', k2⟩ := ki.step g2 s2
      obtain ⟨up, hg, ht, he⟩ := hx xs[i] (List.getElem_mem hi)
      have dF2 : F2 D = none := by
        cases e : F2 D with
        | none => rfl
        | some o =>
          rcases g2.gr D o e with z | z | z
          · rw [dF] at z; cases z
          · rw [dH] at z; cases z
          · exact z.elim
      have dH2 : Hi' D = some (.lst vsi) := g2.same _ _ dH
      have notT : ∀ {Fx Hx : Hp} {z : HO}, Ok Z Fx Hx → ¬ Z.T D := fun {Fx Hx z} _ t => Z.has k1.j t hD
      have ntD : ¬ Z.T D := fun t => Z.has k1.j t hD
      have etake : (xs.take (i + 1)).filter keep = (xs.take i).filter keep ++ (if keep xs[i] = true then [xs[i]] else []) := by
        rw [List.take_succ_eq_append_getElem hi, List.filter_append]
        cases hk : keep xs[i] with
        | true => rw [List.filter_cons, if_pos hk, if_pos rfl]; rfl
        | false => rw [List.filter_cons, if_neg (by rw [hk]; decide), if_neg (by decide)]; rfl
      refine hg F2 Hi' (L2.wipe σ vs) (wipeR ρ vs) x _ ((env.wipe vs).mono (g1.ff.trans (gi.ff.trans g2.ff))) s2 rx fun σ' env' ew => ?_
      have eww : L2.wipe σ' vs = L2.wipe σ vs := by
        rw [ew]
        have idem : ∀ us : List Nat, (∀ u ∈ us, u ∈ vs) → L2.wipe (L2.wipe σ vs) us = L2.wipe σ vs := by
          intro us
          induction us with
          | nil => intro _; rfl
          | cons u us ih =>
            intro hu
            show (L2.wipe (L2.wipe σ vs) us).set u none = L2.wipe σ vs
            rw [ih fun z hz => hu z (List.mem_cons_of_mem _ hz)]
            apply List.ext_getElem?
            intro m
            by_cases hm : u = m
            · subst hm
              have huv : u ∈ vs := hu u List.mem_cons_self
              by_cases hl : u < (L2.wipe σ vs).length
              · rw [List.getElem?_set_self hl]
                cases hq : (L2.wipe σ vs)[u]? with
                | none =>
                  rw [List.getElem?_eq_none_iff] at hq
                  omega
                | some o =>
                  cases o with
                  | none => rfl
                  | some v => exact absurd huv (wipe_some hq).2
              · rw [List.getElem?_eq_none (by simpa using hl), List.getElem?_eq_none (by simpa using hl)]
            · rw [List.getElem?_set_ne hm]
        exact idem vs fun _ h => h
      refine ⟨eww, ?_⟩
      refine ht F2 Hi' σ' env' k2 _ fun b F3 H3 g3 k3 eb => ?_
      subst eb
      have dF3 : F3 D = none := by
        cases e : F3 D with
        | none => rfl
        | some o =>
          rcases g3.gr D o e with z | z | z
          · rw [dF2] at z; cases z
          · rw [dH2] at z; cases z
          · exact absurd z ntD
      have dH3 : H3 D = some (.lst vsi) := g3.hh _ _ ntD dH2
      have gi3 : Go Z.T F1 H1 F3 H3 := (gi.trans g2').trans g3
      cases hk : keep xs[i] with
      | false =>
        rw [if_neg Bool.false_ne_true]
        refine ⟨F3, vsi, gi3, k3, dF3, dH3, ?_⟩
        rw [etake, hk, if_neg Bool.false_ne_true, List.append_nil]
        exact hv.mono (g2.ff.trans g3.ff)
      | true =>
        rw [if_pos rfl]
        refine he hk F3 H3 σ' (env'.mono g3.ff) k3 _ fun z F4 H4 g4 k4 rz => ?_
        have dF4 : F4 D = none := by
          cases e : F4 D with
          | none => rfl
          | some o =>
            rcases g4.gr D o e with z | z | z
            · rw [dF3] at z; cases z
            · rw [dH3] at z; cases z
            · exact absurd z ntD
        have dH4 : H4 D = some (.lst vsi) := g4.hh _ _ ntD dH3
        have lv : vsi.length < sizeLine := by
          have l1 := hv.len
          rw [List.length_map] at l1
          have l2 := List.length_filter_le keep (xs.take i)
          rw [List.length_take] at l2
          omega
        have gi4 := gi3.trans g4
        refine ⟨vsi, dH4, lv, F4, vsi ++ [z], ⟨gi4.ff, fun b o t e => ?_, gi4.gr, fun b e => ?_⟩, ⟨fun b o e => ?_, k4.fr, ?_⟩, dF4, upd_same, ?_⟩
        · have hbD : b ≠ D := fun q => by rw [q, hD] at e; cases e
          rw [upd_ne hbD]
          exact gi4.hh b o t e
        · by_cases hbD : b = D
          · subst hbD; exact absurd hD e
          · rw [upd_ne hbD]; exact gi4.dm b e
        · have hbD : b ≠ D := fun q => by rw [q, dF4] at e; cases e
          rw [upd_ne hbD]
          exact k4.fh b o e
        · have kD : Z.J H1 := k1.j
          exact Z.stay (fun b t => by
            have hbD : b ≠ D := fun q => ntD (by rw [← q]; exact t)
            rw [upd_ne hbD]) k4.j
        · rw [etake, hk, if_pos rfl, List.map_append]
          exact (hv.mono ((g2.ff.trans g3.ff).trans g4.ff)).app ⟨rz, trivial⟩
    · rintro Hn ⟨Fn, vsn, gn, kn, dF, dH, hv⟩
      rw [List.take_length] at hv
      exact q D vsn Fn Hn (none_back (g1.dm D) hD) (g1.trans gn) kn dF dH hv
theorem den_lc {α : Type} {wi : TI} {g : TG} {vs : List Nat} (xs : List α) (item : α → RP) (keep : α → Bool) (out : α → RP) (hi : DenI Z wi ρ (xs.map item))
    (hx : ∀ x ∈ xs, ∃ up, DenG vs g (item x) up ∧ DenT Z tt (up (wipeR ρ vs)) (· = keep x) ∧ (keep x = true → Den Z te (up (wipeR ρ vs)) (out x))) (hz : xs.length ≤ sizeLine) :
    Den Z (tLc wi g tt te vs) ρ (pLm out (xs.filter keep)) := den_of_f (denf_lc xs item keep out hi hx hz)
/-- without tests -/
theorem denf_map {α : Type} {wi : TI} {g : TG} {vs : List Nat} (xs : List α) (item : α → RP) (out : α → RP) (hi : DenI Z wi ρ (xs.map item))
    (hx : ∀ x ∈ xs, ∃ up, DenG vs g (item x) up ∧ Den Z te (up (wipeR ρ vs)) (out x)) (hz : xs.length ≤ sizeLine) : DenF Z (tLc wi g tYes te vs) ρ (xs.map out) := by
  have h := denf_lc (tt := tYes) xs item (fun _ => true) out hi (fun x m => by
    obtain ⟨up, h1, h2⟩ := hx x m
    exact ⟨up, h1, dent_yes, fun _ => h2⟩) hz
  rw [List.filter_eq_self.mpr (fun _ _ => rfl)] at h
  exact h
theorem den_map {α : Type} {wi : TI} {g : TG} {vs : List Nat} (xs : List α) (item : α → RP) (out : α → RP) (hi : DenI Z wi ρ (xs.map item))
    (hx : ∀ x ∈ xs, ∃ up, DenG vs g (item x) up ∧ Den Z te (up (wipeR ρ vs)) (out x)) (hz : xs.length ≤ sizeLine) : Den Z (tLc wi g tYes te vs) ρ (pLm out xs) := den_of_f (denf_map xs item out hi hx hz)
end
end Dn
set_option Elab.async false
set_option linter.all false
set_option maxRecDepth 100000
set_option maxHeartbeats 4000000
namespace Dn
open PySem L2

/-! ### statements -/
/-- a list of one's own that nobody else knows: it may be written -/
structure Mt where
  p : Addr
  rs : List RP
abbrev pRef (p : Addr) : RP := pV (.ref p)
def MutOk (F H : Hp) (m : Mt) : Prop := F m.p = none ∧ ∃ vs, H m.p = some (.lst vs) ∧ Vrs F vs m.rs
structure S8 (Z : Zx) (F H : Hp) (σ : L2.St) (ρ : Rho) (ms : List Mt) : Prop where
  env : EnvOk F σ ρ
  ok : Ok Z F H
  mu : ∀ m ∈ ms, MutOk F H m
  nz : ∀ m ∈ ms, ¬ Z.T m.p
  nd : (ms.map Mt.p).Nodup
def tch (Z : Zx) (ms : List Mt) : Addr → Prop := fun b => Z.T b ∨ b ∈ ms.map Mt.p
def Sub (H : Hp) (ms' ms : List Mt) : Prop := ∀ m ∈ ms', m.p ∈ ms.map Mt.p ∨ H m.p = none
theorem Sub.refl {H : Hp} {ms : List Mt} : Sub H ms ms := fun m h => .inl (List.mem_map_of_mem h)
theorem go_seq {Z : Zx} {ms ms1 : List Mt} {F H F1 H1 F2 H2 : Hp} (a : Go (tch Z ms) F H F1 H1) (s : Sub H ms1 ms) (b : Go (tch Z ms1) F1 H1 F2 H2) : Go (tch Z ms) F H F2 H2 := by
  have k : ∀ x, tch Z ms1 x → tch Z ms x ∨ H x = none := fun x t => by
    rcases t with t | t
    · exact .inl (.inl t)
    · obtain ⟨m, hm, rfl⟩ := List.mem_map.mp t
      rcases s m hm with q | q
      · exact .inl (.inr q)
      · exact .inr q
  refine ⟨a.ff.trans b.ff, fun x o t h => b.hh x o (fun t1 => ?_) (a.hh x o t h), fun x o h => ?_, fun x h => b.dm x (a.dm x h)⟩
  · rcases k x t1 with q | q
    · exact t q
    · rw [q] at h; cases h
  · rcases b.gr x o h with q | q | q
    · exact a.gr x o q
    · exact .inr (.inl (none_back (a.dm x) q))
    · rcases k x q with z | z
      · exact .inr (.inr z)
      · exact .inr (.inl z)
theorem sub_seq {Z : Zx} {ms ms1 ms2 : List Mt} {F H F1 H1 : Hp} (a : Go (tch Z ms) F H F1 H1) (s : Sub H ms1 ms) (t : Sub H1 ms2 ms1) : Sub H ms2 ms := fun m hm => by
  rcases t m hm with q | q
  · obtain ⟨m1, h1, e⟩ := List.mem_map.mp q
    rw [← e]
    exact s m1 h1
  · exact .inr (none_back (a.dm m.p) q)
theorem S8.step {Z : Zx} {F H F' H' : Hp} {σ : L2.St} {ρ : Rho} {ms : List Mt} (s : S8 Z F H σ ρ ms) (g : Go Z.T F H F' H') (k : Ok Z F' H') : S8 Z F' H' σ ρ ms := by
  refine ⟨s.env.mono g.ff, k, fun m hm => ?_, s.nz, s.nd⟩
  obtain ⟨h1, vs, h2, h3⟩ := s.mu m hm
  refine ⟨?_, vs, g.hh _ _ (s.nz m hm) h2, h3.mono g.ff⟩
  cases q : F' m.p with
  | none => rfl
  | some o =>
    rcases g.gr _ o q with z | z | z
    · rw [h1] at z; cases z
    · rw [h2] at z; cases z
    · exact absurd z (s.nz m hm)
theorem go_t {Z : Zx} {ms : List Mt} {F H F' H' : Hp} (g : Go Z.T F H F' H') : Go (tch Z ms) F H F' H' := g.weak fun _ t => .inl t
def Tr (Z : Zx) (ts : TS) (ρ : Rho) (ms : List Mt) (N : Rho → List Mt → Prop) (R : RP) : Prop :=
  ∀ F H σ, S8 Z F H σ ρ ms → ∀ D : Ends,
    (∀ F' H' σ' ρ' ms', N ρ' ms' → Go (tch Z ms) F H F' H' → S8 Z F' H' σ' ρ' ms' → Sub H ms' ms → D.nx σ' H') →
    (∀ v F' H', Go (tch Z ms) F H F' H' → Ok Z F' H' → R.R F' v → D.rt v H') → ts D σ H
/-- just these -/
def Is (ρ : Rho) (ms : List Mt) : Rho → List Mt → Prop := fun ρ' ms' => ρ' = ρ ∧ ms' = ms
def No : Rho → List Mt → Prop := fun _ _ => False
section
variable {Z : Zx} {ρ ρ1 : Rho} {ms ms1 : List Mt} {N N1 M : Rho → List Mt → Prop} {R r r1 r2 r3 : RP} {rs rs1 rs2 : List RP} {ts tu tb : TS} {te ta tc tl : TE} {tt : TT} {tas : TA} {P : Bool → Prop} {K : PySem.W.Frag}
theorem tr_seq (a : Tr Z ts ρ ms M R) (b : ∀ ρ' ms', M ρ' ms' → Tr Z tu ρ' ms' N R) : Tr Z (tSeq ts tu) ρ ms N R := fun F H σ s D q w =>
  a F H σ s { D with nx := tu D } (fun F1 H1 σ1 ρ1 ms1 m1 g1 s1 u1 => b ρ1 ms1 m1 F1 H1 σ1 s1 D
    (fun F2 H2 σ2 ρ2 ms2 m2 g2 s2 u2 => q F2 H2 σ2 ρ2 ms2 m2 (go_seq g1 u1 g2) s2 (sub_seq g1 u1 u2)) fun v F2 H2 g2 k2 r2 => w v F2 H2 (go_seq g1 u1 g2) k2 r2) w
theorem tr_seqI (a : Tr Z ts ρ ms (Is ρ1 ms1) R) (b : Tr Z tu ρ1 ms1 N R) : Tr Z (tSeq ts tu) ρ ms N R := tr_seq a fun ρ' ms' ⟨e1, e2⟩ => by rw [e1, e2]; exact b
theorem tr_imp (a : Tr Z ts ρ ms M R) (h : ∀ ρ' ms', M ρ' ms' → N ρ' ms') : Tr Z ts ρ ms N R := fun F H σ s D q w =>
  a F H σ s D (fun F1 H1 σ1 ρ1 ms1 m1 => q F1 H1 σ1 ρ1 ms1 (h _ _ m1)) w
theorem tr_next (h : N ρ ms) : Tr Z tNext ρ ms N R := fun F H σ s D q w => q F H σ ρ ms h (Go.refl F H) s Sub.refl
/-- a name's meaning said otherwise -/
theorem tr_re (h : ∀ F σ, EnvOk F σ ρ → EnvOk F σ ρ1) (a : Tr Z ts ρ1 ms N R) : Tr Z ts ρ ms N R := fun F H σ s D q w => a F H σ ⟨h F σ s.env, s.ok, s.mu, s.nz, s.nd⟩ D q w
/-- one of some, told -/
theorem tr_open {α : Type} {i : Nat} {Pa : α → Prop} {f : α → RP} (hi : ρ[i]? = some (some (pX Pa f))) (a : ∀ x, Pa x → Tr Z ts (ρ.set i (some (f x))) ms N R) : Tr Z ts ρ ms N R := fun F H σ s D q w => by
  obtain ⟨v, h1, x, h2, h3⟩ := s.env.at_ i _ hi
  have e := s.env.set i h3
  have e2 : σ.set i (some v) = σ := by
    obtain ⟨hl, e3⟩ := List.getElem?_eq_some_iff.mp h1
    rw [← e3]
    exact List.set_getElem_self ..
  rw [e2] at e
  exact a x h2 F H σ ⟨e, s.ok, s.mu, s.nz, s.nd⟩ D q w
theorem tr_asgG {g : TG} {vs : List Nat} {up : Rho → Rho} (h : Den Z te ρ r) (hg : DenG vs g r up) : Tr Z (tAsg te g) ρ ms (Is (up ρ) ms) R := fun F H σ s D q w =>
  h F H σ s.env s.ok _ fun v F1 H1 g1 k1 r1 => by
    have s1 := s.step g1 k1
    exact hg F1 H1 σ ρ v _ s1.env k1.fh r1 fun σ' e _ => q F1 H1 σ' (up ρ) ms ⟨rfl, rfl⟩ (go_t g1) ⟨e, s1.ok, s1.mu, s1.nz, s1.nd⟩ Sub.refl
theorem tr_asg {i : Nat} (h : Den Z te ρ r) : Tr Z (tAsg te (gName i)) ρ ms (Is (ρ.set i (some r)) ms) R := tr_asgG h (deng_name (vs := [i]) (by simp))
theorem tr_drop (h : Den Z te ρ r) : Tr Z (tDrop te) ρ ms (Is ρ ms) R := fun F H σ s D q w =>
  h F H σ s.env s.ok _ fun v F1 H1 g1 k1 _ => q F1 H1 σ ρ ms ⟨rfl, rfl⟩ (go_t g1) (s.step g1 k1) Sub.refl
theorem tr_ret (h : Den Z te ρ R) : Tr Z (tRet te) ρ ms N R := fun F H σ s D q w =>
  h F H σ s.env s.ok _ fun v F1 H1 g1 k1 r1 => w v F1 H1 (go_t g1) k1 r1
theorem tr_retN (h : ∀ F, R.R F .non) : Tr Z tRetN ρ ms N R := fun F H σ s D q w => w .non F H (Go.refl F H) s.ok (h F)
theorem tr_if (h : DenT Z tt ρ P) (a : P true → Tr Z ts ρ ms N R) (b : P false → Tr Z tu ρ ms N R) : Tr Z (tIfS tt ts tu) ρ ms N R := fun F H σ s D q w =>
  h F H σ s.env s.ok _ fun c F1 H1 g1 k1 p => by
    have s1 := s.step g1 k1
    have q1 : ∀ F' H' σ' ρ' ms', N ρ' ms' → Go (tch Z ms) F1 H1 F' H' → S8 Z F' H' σ' ρ' ms' → Sub H1 ms' ms → D.nx σ' H' := fun F' H' σ' ρ' ms' n g s u => q F' H' σ' ρ' ms' n ((go_t g1).trans g) s (sub_seq (go_t g1) Sub.refl u)
    have w1 : ∀ v F' H', Go (tch Z ms) F1 H1 F' H' → Ok Z F' H' → R.R F' v → D.rt v H' := fun v F' H' g => w v F' H' ((go_t g1).trans g)
    cases c with
    | true => rw [if_pos rfl]; exact a p F1 H1 σ s1 D q1 w1
    | false => rw [if_neg Bool.false_ne_true]; exact b p F1 H1 σ s1 D q1 w1
/-- a new list of one's own -/
theorem tr_asgF {i : Nat} (h : DenF Z te ρ rs) : Tr Z (tAsg te (gName i)) ρ ms (fun ρ' ms' => ∃ p, ρ' = ρ.set i (some (pRef p)) ∧ ms' = ⟨p, rs⟩ :: ms) R := fun F H σ s D q w =>
  h F H σ s.env s.ok _ fun p vs F1 H1 hp g1 k1 fp ho hv => by
    have s1 := s.step g1 k1
    refine q F1 H1 _ _ _ ⟨p, rfl, rfl⟩ (go_t g1) ⟨s1.env.set i rfl, k1, fun m hm => ?_, fun m hm => ?_, ?_⟩ fun m hm => ?_
    · rcases List.mem_cons.mp hm with e | e
      · rw [e]; exact ⟨fp, vs, ho, hv⟩
      · exact s1.mu m e
    · rcases List.mem_cons.mp hm with e | e
      · rw [e]; exact fun t => Z.has s.ok.j t hp
      · exact s1.nz m e
    · rw [List.map_cons, List.nodup_cons]
      refine ⟨fun z => ?_, s1.nd⟩
      obtain ⟨m, hm, e⟩ := List.mem_map.mp z
      obtain ⟨_, us, h2, _⟩ := s.mu m hm
      rw [e, hp] at h2
      cases h2
    · rcases List.mem_cons.mp hm with e | e
      · rw [e]; exact .inr hp
      · exact .inl (List.mem_map_of_mem e)
/-- a, b = x, y -/
theorem tr_par {i j : Nat} (h1 : Den Z ta ρ r1) (h2 : Den Z te ρ r2) : Tr Z (tPar i j (tCons ta (tCons te tNil))) ρ ms (Is ((ρ.set i (some r1)).set j (some r2)) ms) R := fun F H σ s D q w =>
  h1 F H σ s.env s.ok _ fun v F1 H1 g1 k1 x1 => h2 F1 H1 σ (s.env.mono g1.ff) k1 _ fun u F2 H2 g2 k2 x2 => ⟨v, u, rfl, by
    have s2 := s.step (g1.trans g2) k2
    exact q F2 H2 _ _ ms ⟨rfl, rfl⟩ (go_t (g1.trans g2)) ⟨(s2.env.set i (r1.mono g2.ff x1)).set j x2, k2, s2.mu, s2.nz, s2.nd⟩ Sub.refl⟩
/-- a, b = x, a new list -/
theorem tr_parF {i j : Nat} (h1 : Den Z ta ρ r1) (h2 : DenF Z te ρ rs) : Tr Z (tPar i j (tCons ta (tCons te tNil))) ρ ms (fun ρ' ms' => ∃ p, ρ' = (ρ.set i (some r1)).set j (some (pRef p)) ∧ ms' = ⟨p, rs⟩ :: ms) R := fun F H σ s D q w =>
  h1 F H σ s.env s.ok _ fun v F1 H1 g1 k1 x1 => h2 F1 H1 σ (s.env.mono g1.ff) k1 _ fun p vs F2 H2 hp g2 k2 fp ho hv => ⟨v, .ref p, rfl, by
    have s2 := s.step (g1.trans g2) k2
    have hp0 : H p = none := none_back (g1.dm p) hp
    refine q F2 H2 _ _ _ ⟨p, rfl, rfl⟩ (go_t (g1.trans g2)) ⟨(s2.env.set i (r1.mono g2.ff x1)).set j rfl, k2, fun m hm => ?_, fun m hm => ?_, ?_⟩ fun m hm => ?_
    · rcases List.mem_cons.mp hm with e | e
      · rw [e]; exact ⟨fp, vs, ho, hv⟩
      · exact s2.mu m e
    · rcases List.mem_cons.mp hm with e | e
      · rw [e]; exact fun t => Z.has s.ok.j t hp0
      · exact s2.nz m e
    · rw [List.map_cons, List.nodup_cons]
      refine ⟨fun z => ?_, s2.nd⟩
      obtain ⟨m, hm, e⟩ := List.mem_map.mp z
      obtain ⟨_, us, h2, _⟩ := s.mu m hm
      rw [e, hp0] at h2
      cases h2
    · rcases List.mem_cons.mp hm with e | e
      · rw [e]; exact .inr hp0
      · exact .inl (List.mem_map_of_mem e)⟩
/-- a, b, c = x, y, a new list -/
theorem tr_par3F {i j l : Nat} (h1 : Den Z ta ρ r1) (h2 : Den Z tc ρ r2) (h3 : DenF Z te ρ rs) :
    Tr Z (tPar3 i j l (tCons ta (tCons tc (tCons te tNil)))) ρ ms (fun ρ' ms' => ∃ p, ρ' = ((ρ.set i (some r1)).set j (some r2)).set l (some (pRef p)) ∧ ms' = ⟨p, rs⟩ :: ms) R := fun F H σ s D q w =>
  h1 F H σ s.env s.ok _ fun v F1 H1 g1 k1 x1 => h2 F1 H1 σ (s.env.mono g1.ff) k1 _ fun u F2 H2 g2 k2 x2 => h3 F2 H2 σ (s.env.mono (g1.trans g2).ff) k2 _ fun p vs F3 H3 hp g3 k3 fp ho hv => ⟨v, u, .ref p, rfl, by
    have g13 := (g1.trans g2).trans g3
    have s2 := s.step g13 k3
    have hp0 : H p = none := none_back ((g1.trans g2).dm p) hp
    refine q F3 H3 _ _ _ ⟨p, rfl, rfl⟩ (go_t g13) ⟨((s2.env.set i (r1.mono (g2.trans g3).ff x1)).set j (r2.mono g3.ff x2)).set l rfl, k3, fun m hm => ?_, fun m hm => ?_, ?_⟩ fun m hm => ?_
    · rcases List.mem_cons.mp hm with e | e
      · rw [e]; exact ⟨fp, vs, ho, hv⟩
      · exact s2.mu m e
    · rcases List.mem_cons.mp hm with e | e
      · rw [e]; exact fun t => Z.has s.ok.j t hp0
      · exact s2.nz m e
    · rw [List.map_cons, List.nodup_cons]
      refine ⟨fun z => ?_, s2.nd⟩
      obtain ⟨m, hm, e⟩ := List.mem_map.mp z
      obtain ⟨_, us, h2, _⟩ := s.mu m hm
      rw [e, hp0] at h2
      cases h2
    · rcases List.mem_cons.mp hm with e | e
      · rw [e]; exact .inr hp0
      · exact .inl (List.mem_map_of_mem e)⟩
theorem nodup_set {α : Type} {f : α → Addr} : ∀ {l : List α} {k : Nat} {x y : α}, l[k]? = some x → f y = f x → (l.set k y).map f = l.map f
  | [], k, x, y, h, _ => by simp at h
  | a :: l, 0, x, y, h, e => by
    obtain rfl := Option.some.inj h
    show f y :: l.map f = f a :: l.map f
    rw [e]
  | a :: l, k + 1, x, y, h, e => by
    show f a :: (l.set k y).map f = f a :: l.map f
    rw [nodup_set (l := l) (by simpa using h) e]
/-- a list of one's own is written: its new items vs stand in the known heap -/
theorem S8.wr {F H : Hp} {σ : L2.St} {k : Nat} {p : Addr} {vs : List V} (s : S8 Z F H σ ρ ms) (hk : ms[k]? = some ⟨p, rs⟩) (hv : Vrs F vs rs1) :
    Go (tch Z ms) F H F (upd H p (.lst vs)) ∧ S8 Z F (upd H p (.lst vs)) σ ρ (ms.set k ⟨p, rs1⟩) := by
  have hm : (⟨p, rs⟩ : Mt) ∈ ms := List.mem_of_getElem? hk
  obtain ⟨fp, us, hp, _⟩ := s.mu _ hm
  have fp : F p = none := fp
  have hp : H p = some (.lst us) := hp
  have nz : ¬ Z.T p := s.nz _ hm
  have em : (ms.set k ⟨p, rs1⟩).map Mt.p = ms.map Mt.p := nodup_set hk rfl
  have ne : ∀ m ∈ ms.set k ⟨p, rs1⟩, m.p = p → m = ⟨p, rs1⟩ := fun m hm' e => by
    obtain ⟨j, hj⟩ := List.mem_iff_getElem?.mp hm'
    by_cases hjk : k = j
    · subst hjk
      have hl : k < ms.length := (List.getElem?_eq_some_iff.mp hk).1
      rw [List.getElem?_set_self hl] at hj
      exact (Option.some.inj hj).symm
    · rw [List.getElem?_set_ne hjk] at hj
      have nd := s.nd
      have h1 : (ms.map Mt.p)[j]? = some p := by rw [List.getElem?_map, hj]; show some m.p = some p; rw [e]
      have h2 : (ms.map Mt.p)[k]? = some p := by rw [List.getElem?_map, hk]; rfl
      exact absurd (nd_ix nd h2 h1) hjk
  refine ⟨⟨fun _ _ e => e, fun b o t e => ?_, fun b o e => .inl e, fun b e => ?_⟩, ⟨s.env, ⟨fun b o e => ?_, s.ok.fr, Z.stay (fun b t => ?_) s.ok.j⟩, fun m hm' => ?_, fun m hm' => ?_, by rw [em]; exact s.nd⟩⟩
  · rw [upd_ne (fun z => t (.inr (by rw [z]; exact List.mem_map_of_mem hm)))]; exact e
  · by_cases hb : b = p
    · subst hb; rw [upd_same]; exact fun z => by cases z
    · rw [upd_ne hb]; exact e
  · rw [upd_ne (fun z => by rw [z, fp] at e; cases e)]; exact s.ok.fh b o e
  · rw [upd_ne (fun z => nz (by rw [← z]; exact t))]
  · by_cases hb : m.p = p
    · rw [ne m hm' hb]; exact ⟨fp, vs, upd_same, hv⟩
    · have hm2 : m ∈ ms := by
        obtain ⟨j, hj⟩ := List.mem_iff_getElem?.mp hm'
        by_cases hjk : k = j
        · subst hjk
          rw [List.getElem?_set_self (List.getElem?_eq_some_iff.mp hk).1] at hj
          obtain rfl := Option.some.inj hj
          exact absurd rfl hb
        · rw [List.getElem?_set_ne hjk] at hj
          exact List.mem_of_getElem? hj
      obtain ⟨h1, us', h2, h3⟩ := s.mu m hm2
      exact ⟨h1, us', by rw [upd_ne hb]; exact h2, h3⟩
  · have : m.p ∈ ms.map Mt.p := by rw [← em]; exact List.mem_map_of_mem hm'
    obtain ⟨m2, h2, e2⟩ := List.mem_map.mp this
    rw [← e2]; exact s.nz m2 h2
theorem sub_set {H : Hp} {k : Nat} {p : Addr} (hk : ms[k]? = some ⟨p, rs⟩) : Sub H (ms.set k ⟨p, rs1⟩) ms := fun m hm => by
  have em : (ms.set k ⟨p, rs1⟩).map Mt.p = ms.map Mt.p := nodup_set hk rfl
  exact .inl (by rw [← em]; exact List.mem_map_of_mem hm)
theorem tr_append {i k : Nat} {p : Addr} (hi : ρ[i]? = some (some (pRef p))) (hk : ms[k]? = some ⟨p, rs⟩) (h : Den Z te ρ r) (hz : rs.length < sizeLine) :
    Tr Z (tDrop (tBM K "list" rAppend (tVar i) (tCons te tNil))) ρ ms (Is ρ (ms.set k ⟨p, rs ++ [r]⟩)) R := fun F H σ s D q w => by
  obtain ⟨v, h1, h2⟩ := s.env.at_ i _ hi
  have e2 : v = .ref p := h2
  subst e2
  obtain ⟨fp, vs, hp, hv⟩ := s.mu _ (List.mem_of_getElem? hk)
  have hp : H p = some (.lst vs) := hp
  refine ⟨.ref p, h1, .inl ⟨rfl, vs, SqL.of hp⟩, ?_⟩
  refine h F H σ s.env s.ok _ fun y F1 H1 g1 k1 x1 => ?_
  have s1 := s.step g1 k1
  obtain ⟨_, vs1, hp1, hv1⟩ := s1.mu _ (List.mem_of_getElem? hk)
  have hp1 : H1 p = some (.lst vs1) := hp1
  obtain ⟨g2, s2⟩ := s1.wr (vs := vs1 ++ [y]) (rs1 := rs ++ [r]) hk (hv1.app ⟨x1, trivial⟩)
  exact ⟨p, vs1, y, rfl, rfl, hp1, by rw [hv1.len]; exact hz, q F1 _ σ ρ _ ⟨rfl, rfl⟩ ((go_t g1).trans g2) s2 (sub_set hk)⟩
theorem tr_extend {i k : Nat} {p : Addr} (hi : ρ[i]? = some (some (pRef p))) (hk : ms[k]? = some ⟨p, rs⟩) (h : Den Z te ρ (pL rs2)) (hz : rs.length + rs2.length ≤ sizeLine) :
    Tr Z (tDrop (tBM K "list" rExtend (tVar i) (tCons te tNil))) ρ ms (Is ρ (ms.set k ⟨p, rs ++ rs2⟩)) R := fun F H σ s D q w => by
  obtain ⟨v, h1, h2⟩ := s.env.at_ i _ hi
  have e2 : v = .ref p := h2
  subst e2
  obtain ⟨fp, vs, hp, hv⟩ := s.mu _ (List.mem_of_getElem? hk)
  have hp : H p = some (.lst vs) := hp
  refine ⟨.ref p, h1, .inl ⟨rfl, vs, SqL.of hp⟩, ?_⟩
  refine h F H σ s.env s.ok _ fun y F1 H1 g1 k1 ⟨b, ws, eb, hb, hw⟩ => ?_
  subst eb
  have s1 := s.step g1 k1
  obtain ⟨_, vs1, hp1, hv1⟩ := s1.mu _ (List.mem_of_getElem? hk)
  have hp1 : H1 p = some (.lst vs1) := hp1
  obtain ⟨g2, s2⟩ := s1.wr (vs := vs1 ++ ws) (rs1 := rs ++ rs2) hk (hv1.app hw)
  exact ⟨p, b, vs1, ws, rfl, rfl, hp1, k1.fh _ _ hb, by rw [hv1.len, hw.len]; exact hz, q F1 _ σ ρ _ ⟨rfl, rfl⟩ ((go_t g1).trans g2) s2 (sub_set hk)⟩
/-- xs[i] = e -/
theorem tr_setAt {i k : Nat} {p : Addr} {z : Int} {j : Nat} (hi : ρ[i]? = some (some (pRef p))) (hk : ms[k]? = some ⟨p, rs⟩) (h : Den Z te ρ r) (hx : Den Z tc ρ (pI z)) (hj : ixN rs.length z = some j) :
    Tr Z (tAsg te (gSub (tVar i) tc rSetL)) ρ ms (Is ρ (ms.set k ⟨p, rs.set j r⟩)) R := fun F H σ s D q w => by
  refine h F H σ s.env s.ok _ fun y F1 H1 g1 k1 x1 => ?_
  have s1 := s.step g1 k1
  obtain ⟨v, h1, h2⟩ := s1.env.at_ i _ hi
  have e2 : v = .ref p := h2
  subst e2
  refine ⟨.ref p, h1, ?_⟩
  refine hx F1 H1 σ s1.env k1 _ fun zi F2 H2 g2 k2 ez => ?_
  have s2 := s1.step g2 k2
  obtain ⟨_, vs1, hp1, hv1⟩ := s2.mu _ (List.mem_of_getElem? hk)
  have hp1 : H2 p = some (.lst vs1) := hp1
  obtain ⟨g3, s3⟩ := s2.wr (vs := vs1.set j y) (rs1 := rs.set j r) hk (Vrs.set (r.mono g2.ff x1) j hv1)
  exact ⟨p, vs1, z, j, rfl, ez, hp1, by rw [hv1.len]; exact hj, q F2 _ σ ρ _ ⟨rfl, rfl⟩ ((go_t (g1.trans g2)).trans g3) s3 (sub_set hk)⟩
/-- a list of one's own is known from now on -/
theorem tr_freeze {i k : Nat} {p : Addr} (hi : ρ[i]? = some (some (pRef p))) (hk : ms[k]? = some ⟨p, rs⟩) (h : Tr Z ts (ρ.set i (some (pL rs))) (ms.eraseIdx k) N R) : Tr Z ts ρ ms N R := fun F H σ s D q w => by
  obtain ⟨v, h1, h2⟩ := s.env.at_ i _ hi
  have e2 : v = .ref p := h2
  subst e2
  have hm : (⟨p, rs⟩ : Mt) ∈ ms := List.mem_of_getElem? hk
  obtain ⟨fp, vs, hp, hv⟩ := s.mu _ hm
  have fp : F p = none := fp
  have hp : H p = some (.lst vs) := hp
  have hv : Vrs F vs rs := hv
  have sm : Same F (upd F p (.lst vs)) := fun b o e => by rw [upd_ne (fun z => by rw [z, fp] at e; cases e)]; exact e
  have er : ∀ m ∈ ms.eraseIdx k, m ∈ ms := fun m h => List.mem_of_mem_eraseIdx h
  have np : ∀ m ∈ ms.eraseIdx k, m.p ≠ p := fun m h e => by
    obtain ⟨j, hj, e2⟩ := List.mem_eraseIdx_iff_getElem?.mp h
    have a1 : (ms.map Mt.p)[j]? = some p := by rw [List.getElem?_map, e2]; show some m.p = some p; rw [e]
    have a2 : (ms.map Mt.p)[k]? = some p := by rw [List.getElem?_map, hk]; rfl
    exact hj (nd_ix s.nd a1 a2)
  have s' : S8 Z (upd F p (.lst vs)) H σ (ρ.set i (some (pL rs))) (ms.eraseIdx k) := by
    refine ⟨?_, ⟨fun b o e => ?_, fun b t => ?_, s.ok.j⟩, fun m h => ?_, fun m h => s.nz m (er m h), ?_⟩
    · have e3 : σ.set i (some (.ref p)) = σ := by
        obtain ⟨hl, e3⟩ := List.getElem?_eq_some_iff.mp h1
        rw [← e3]
        exact List.set_getElem_self ..
      have e4 := (s.env.mono sm).set i (r := pL rs) (v := .ref p) ⟨p, vs, rfl, upd_same, hv.mono sm⟩
      rw [e3] at e4
      exact e4
    · by_cases hb : b = p
      · subst hb; rw [upd_same] at e; rw [hp]; exact e
      · rw [upd_ne hb] at e; exact s.ok.fh b o e
    · rw [upd_ne (fun z => s.nz _ hm (by show Z.T p; rw [← z]; exact t))]; exact s.ok.fr b t
    · obtain ⟨a1, us, a2, a3⟩ := s.mu m (er m h)
      exact ⟨by rw [upd_ne (np m h)]; exact a1, us, a2, a3.mono sm⟩
    · exact (s.nd).sublist ((List.eraseIdx_sublist ms k).map _)
  have g0 : Go (tch Z ms) F H (upd F p (.lst vs)) H := ⟨sm, fun _ _ _ e => e, fun b o e => by
    by_cases hb : b = p
    · exact .inr (.inr (.inr (by rw [hb]; exact List.mem_map_of_mem hm)))
    · rw [upd_ne hb] at e; exact .inl e, fun _ e => e⟩
  have wk : ∀ {F1 H1}, Go (tch Z (ms.eraseIdx k)) (upd F p (.lst vs)) H F1 H1 → Go (tch Z ms) F H F1 H1 := fun {F1 H1} g => g0.trans (g.weak fun b t => by
    rcases t with t | t
    · exact .inl t
    · obtain ⟨m, h, rfl⟩ := List.mem_map.mp t
      exact .inr (List.mem_map_of_mem (er m h)))
  refine h _ H σ s' D (fun F' H' σ' ρ' ms' n g s u => q F' H' σ' ρ' ms' n (wk g) s fun m hm' => ?_) fun v F' H' g k1 r1 => w v F' H' (wk g) k1 r1
  rcases u m hm' with z | z
  · obtain ⟨m2, h2, e⟩ := List.mem_map.mp z
    exact .inl (by rw [← e]; exact List.mem_map_of_mem (er m2 h2))
  · exact .inr z
/-! loops -/
theorem tr_for {wi : TI} {g : TG} {vs : List Nat} (hi : DenI Z wi ρ rs) (I : Nat → Rho → List Mt → Prop) (h0 : I 0 ρ ms)
    (hs : ∀ (i : Nat) r, rs[i]? = some r → ∃ up, DenG vs g r up ∧ ∀ ρ' ms', I i ρ' ms' → Tr Z tb (up ρ') ms' (I (i + 1)) R) : Tr Z (tFor wi g tb) ρ ms (I rs.length) R := fun F H σ s D q w =>
  hi F H σ s.env s.ok _ fun J F1 H1 g1 k1 it => by
    obtain ⟨G, Y, wk, hG, hY⟩ := it
    have s1 := s.step g1 k1
    refine for_it wk (fun i σi Hi => ∃ Fi ρi msi, I i ρi msi ∧ Go (tch Z ms) F1 H1 Fi Hi ∧ S8 Z Fi Hi σi ρi msi ∧ Sub H1 msi ms) ⟨F1, ρ, ms, h0, Go.refl _ _, s1, Sub.refl⟩ ?_ ?_ ?_
    · rintro i σi Hi _ ⟨Fi, ρi, msi, _, gi, si, _⟩
      exact hG Hi (gi.ff.trans si.ok.fh)
    · rintro i x σi Hi Hi' hlt ⟨Fi, ρi, msi, ii, gi, si, ui⟩ y
      have er : rs[i]? = some rs[i] := List.getElem?_eq_getElem hlt
      obtain ⟨F2, g2, sm2, rx⟩ := hY i Hi x Hi' rs[i] Fi y er gi.ff si.ok.fh
      obtain ⟨g2', k2⟩ := si.ok.step g2 sm2
      have s2 := si.step g2' k2
      obtain ⟨up, hg, ht⟩ := hs i rs[i] er
      refine hg F2 Hi' σi ρi x _ s2.env k2.fh rx fun σ' e' _ => ?_
      refine ht ρi msi ii F2 Hi' σ' ⟨e', s2.ok, s2.mu, s2.nz, s2.nd⟩ _ (fun F3 H3 σ3 ρ3 ms3 i3 g3 s3 u3 => ?_) fun v F3 H3 g3 k3 r3 => ?_
      · have gx : Go (tch Z ms) F1 H1 F2 Hi' := go_seq gi ui (go_t g2')
        refine ⟨F3, ρ3, ms3, i3, go_seq gx ui g3, s3, sub_seq gx ui u3⟩
      · have gx : Go (tch Z ms) F1 H1 F2 Hi' := go_seq gi ui (go_t g2')
        exact w v F3 H3 ((go_t g1).trans (go_seq gx ui g3)) k3 r3
    · rintro σn Hn ⟨Fn, ρn, msn, ii, gn, sn, un⟩
      exact q Fn Hn σn ρn msn ii ((go_t g1).trans gn) sn (sub_seq (go_t g1) Sub.refl un)
theorem tr_while (W : Nat → Rho → List Mt → Prop) (m0 : Nat) (h0 : W m0 ρ ms)
    (hs : ∀ m ρ' ms', W m ρ' ms' → ∃ P : Bool → Prop, DenT Z tt ρ' P ∧ (P true → Tr Z tb ρ' ms' (fun ρ2 ms2 => ∃ m', m' < m ∧ W m' ρ2 ms2) R) ∧ (P false → N ρ' ms')) : Tr Z (tWhile tt tb) ρ ms N R := fun F H σ s D q w => by
  refine ⟨fun m σi Hi => ∃ Fi ρi msi, W m ρi msi ∧ Go (tch Z ms) F H Fi Hi ∧ S8 Z Fi Hi σi ρi msi ∧ Sub H msi ms, ⟨m0, F, ρ, ms, h0, Go.refl _ _, s, Sub.refl⟩, ?_⟩
  rintro m σi Hi ⟨Fi, ρi, msi, wi, gi, si, ui⟩
  obtain ⟨P, ht, h1, h2⟩ := hs m ρi msi wi
  refine ht Fi Hi σi si.env si.ok _ fun b F1 H1 g1 k1 p => ?_
  have s1 := si.step g1 k1
  have gx : Go (tch Z ms) F H F1 H1 := go_seq gi ui (go_t g1)
  cases b with
  | true =>
    rw [if_pos rfl]
    refine ⟨fun σ2 H2 => ∃ m', m' < m ∧ ∃ F2 ρ2 ms2, W m' ρ2 ms2 ∧ Go (tch Z ms) F H F2 H2 ∧ S8 Z F2 H2 σ2 ρ2 ms2 ∧ Sub H ms2 ms, fun σ2 H2 ⟨m', hm, z⟩ => ⟨m', hm, z⟩, ?_⟩
    refine h1 p F1 H1 σi s1 _ (fun F2 H2 σ2 ρ2 ms2 ⟨m', hm, w2⟩ g2 s2 u2 => ⟨m', hm, F2, ρ2, ms2, w2, go_seq gx ui g2, s2, sub_seq gx ui u2⟩) fun v F2 H2 g2 k2 r2 => w v F2 H2 (go_seq gx ui g2) k2 r2
  | false =>
    rw [if_neg Bool.false_ne_true]
    exact q F1 H1 σi ρi msi (h2 p) gx s1 ui
end

/-! ### calls -/
/-- the promise of a def that leaves all as it is and gives what C says -/
def pureSp (C : List RP → RP → Prop) : Sp := fun vs H Q _ => ∃ F rs r, C rs r ∧ Same F H ∧ Vrs F vs rs ∧ ∀ v F' H', Go0 F H F' H' → Same F' H' → r.R F' v → Q v H'
def startR (N : List Str) (rs : List RP) : Rho := rs.map some ++ List.replicate (N.length - rs.length) none
theorem start_ok {F : Hp} {N : List Str} {vs : List V} {rs : List RP} (h : Vrs F vs rs) : EnvOk F (L2.start N vs) (startR N rs) := by
  have l := h.len
  refine ⟨by unfold L2.start startR; simp [l], fun i r e => ?_⟩
  unfold startR at e
  unfold L2.start
  by_cases hi : i < rs.length
  · rw [List.getElem?_append_left (by simpa using hi), List.getElem?_map] at e
    cases q : rs[i]? with
    | none => rw [q] at e; cases e
    | some r' =>
      rw [q] at e
      obtain rfl := Option.some.inj (Option.some.inj e)
      obtain ⟨v, h1, h2⟩ := h.get q
      exact ⟨v, by rw [List.getElem?_append_left (by simpa [l] using hi), List.getElem?_map, h1]; rfl, h2⟩
  · rw [List.getElem?_append_right (by simpa using hi)] at e
    rw [List.getElem?_replicate] at e
    split at e <;> cases e
theorem pure_of {N : List Str} {t : TS} {C : List RP → RP → Prop} {Nx : Rho → List Mt → Prop} {vs : List V} {H : Hp} {Q : VK} {E : XK} (h : pureSp C vs H Q E) (k : ∀ rs r, C rs r → Tr Z0 t (startR N rs) [] Nx r ∧ ∀ ρ' ms', Nx ρ' ms' → ∀ F, r.R F .non) :
    t { nx := fun _ H' => Q .non H', rt := Q } (L2.start N vs) H := by
  obtain ⟨F, rs, r, c, s, hv, q⟩ := h
  obtain ⟨a, b⟩ := k rs r c
  have go0 : ∀ {F' H' : Hp}, Go (tch Z0 []) F H F' H' → Go0 F H F' H' := fun g => g.weak fun b t => by
    rcases t with t | t
    · exact t
    · cases t
  exact a F H _ ⟨start_ok hv, Ok.z0 s, (fun _ h => nomatch h), (fun _ h => nomatch h), List.nodup_nil⟩ _ (fun F' H' σ' ρ' ms' n g s' _ => q _ F' H' (go0 g) s'.ok.fh (b _ _ n F')) fun v F' H' g k' rv => q v F' H' (go0 g) k'.fh rv
theorem pureSp_len {C : List RP → RP → Prop} {n : Nat} (h : ∀ rs r, C rs r → rs.length = n) : ∀ vs H Q E, pureSp C vs H Q E → vs.length = n := fun vs H Q E ⟨F, rs, r, c, s, hv, _⟩ => by rw [hv.len]; exact h rs r c
section
variable {Z : Zx} {ρ : Rho} {ta tb tc te : TE} {tas tks : TA} {r r1 r2 : RP} {rs ks drs : List RP} {K : PySem.W.Frag} {C : List RP → RP → Prop} {E : XK} {dvs : List V}
theorem pure_call {F H : Hp} {vs : List V} {Q : VK} (k : Ok Z F H) (hv : Vrs F vs rs) (hc : C rs r) (q : ∀ v F' H', Go Z.T F H F' H' → Ok Z F' H' → r.R F' v → Q v H') : pureSp C vs H Q E :=
  ⟨F, rs, r, hc, k.fh, hv, fun v F' H' g s rv => by
    obtain ⟨g', k'⟩ := k.step g s
    exact q v F' H' g' k' rv⟩
theorem den_call (ha : DenA Z tas ρ rs) (hc : C rs r) : Den Z (tCall (pureSp C) [] E tas) ρ r := fun F H σ env ok Q q =>
  ha F H σ env ok _ fun vs F1 H1 g1 k1 x1 => by
    rw [List.append_nil]
    exact pure_call k1 x1 hc fun v F' H' g k rv => q v F' H' (g1.trans g) k rv
/-- with defaults -/
theorem den_callD (ha : DenA Z tas ρ rs) (hd : ∀ F, Vrs F dvs drs) (hc : C (rs ++ drs) r) : Den Z (tCall (pureSp C) dvs E tas) ρ r := fun F H σ env ok Q q =>
  ha F H σ env ok _ fun vs F1 H1 g1 k1 x1 => pure_call k1 (x1.app (hd F1)) hc fun v F' H' g k rv => q v F' H' (g1.trans g) k rv
theorem den_callK {gV : List V → List V → List V} {gR : List RP} (ha : DenA Z tas ρ rs) (hk : DenA Z tks ρ ks) (hg : ∀ F vs zs, Vrs F vs rs → Vrs F zs ks → Vrs F (gV vs zs) gR) (hc : C gR r) : Den Z (tCallK (pureSp C) gV E tas tks) ρ r := fun F H σ env ok Q q =>
  ha F H σ env ok _ fun vs F1 H1 g1 k1 x1 => hk F1 H1 σ (env.mono g1.ff) k1 _ fun zs F2 H2 g2 k2 x2 => pure_call k2 (hg F2 vs zs (x1.mono g2.ff) x2) hc fun v F' H' g k rv => q v F' H' ((g1.trans g2).trans g) k rv
theorem look_zip {F : Hp} {f : Str} : ∀ {fs : List (Str × RP)} {vs : List V} {r : RP}, Vrs F vs (fs.map Prod.snd) → fs.lookup f = some r → ∃ v, ((fs.map Prod.fst).zip vs).lookup f = some v ∧ r.R F v
  | [], _, _, _, h => by cases h
  | (n, r0) :: fs, [], _, h, _ => h.elim
  | (n, r0) :: fs, v :: vs, r, h, e => by
    rw [List.lookup_cons] at e
    show ∃ w, ((n, v) :: ((fs.map Prod.fst).zip vs)).lookup f = some w ∧ r.R F w
    rw [List.lookup_cons]
    cases q : f == n with
    | true =>
      rw [q] at e
      obtain rfl := Option.some.inj e
      exact ⟨v, rfl, h.1⟩
    | false =>
      rw [q] at e
      exact look_zip h.2 e
theorem look_none {f : Str} : ∀ {fs : List (Str × RP)} {vs : List V}, (fs.map Prod.fst).contains f = false → ((fs.map Prod.fst).zip vs).lookup f = none
  | [], _, _ => rfl
  | (n, r0) :: fs, [], _ => rfl
  | (n, r0) :: fs, v :: vs, h => by
    rw [List.map_cons, List.contains_cons, Bool.or_eq_false_iff] at h
    show ((n, v) :: ((fs.map Prod.fst).zip vs)).lookup f = none
    rw [List.lookup_cons, h.1]
    exact look_none h.2
variable {Cl : Addr} {fs : List (Str × RP)} {f m : Str}
theorem den_fld (c : Cls K Cl) (n : NoAttr K Cl f) (ha : Den Z ta ρ (pO Cl fs)) (hf : fs.lookup f = some r) : Den Z (tFld K ta f) ρ r := fun F H σ env ok Q q =>
  ha F H σ env ok _ fun x F1 H1 g1 k1 ⟨a, dx, vs, e, h, hv⟩ => by
    obtain ⟨v, h1, h2⟩ := look_zip hv hf
    exact ⟨a, Cl, dx, _, v, e, k1.fh _ _ h, c, n, h1, q v F1 H1 g1 k1 h2⟩
theorem den_meth (ha : Den Z ta ρ (pO Cl fs)) (hn : (fs.map Prod.fst).contains m = false) (hs : DenA Z tas ρ rs) (hc : C (pO Cl fs :: rs) r) : Den Z (tMeth Cl m (pureSp C) [] E ta tas) ρ r := fun F H σ env ok Q q =>
  ha F H σ env ok _ fun x F1 H1 g1 k1 hx => by
    obtain ⟨a, dx, vs, e, h, hv⟩ := id hx
    refine ⟨a, dx, _, e, k1.fh _ _ h, look_none hn, ?_⟩
    refine hs F1 H1 σ (env.mono g1.ff) k1 _ fun us F2 H2 g2 k2 x2 => ?_
    rw [List.append_nil]
    exact pure_call (rs := pO Cl fs :: rs) k2 ⟨(pO Cl fs).mono g2.ff hx, x2⟩ hc fun v F' H' g k rv => q v F' H' ((g1.trans g2).trans g) k rv
theorem den_prop (ha : Den Z ta ρ (pO Cl fs)) (hc : C [pO Cl fs] r) : Den Z (tProp Cl (pureSp C) [] E ta) ρ r := fun F H σ env ok Q q =>
  ha F H σ env ok _ fun x F1 H1 g1 k1 hx => by
    obtain ⟨a, dx, vs, e, h, hv⟩ := id hx
    refine ⟨a, dx, _, e, k1.fh _ _ h, ?_⟩
    rw [← e]
    exact pure_call (rs := [pO Cl fs]) k1 ⟨hx, trivial⟩ hc fun v F' H' g k rv => q v F' H' (g1.trans g) k rv
theorem den_propG (ha : Den Z ta ρ (pO Cl fs)) (hf : fs.lookup f = some r) : Den Z (tProp Cl (getSp Cl f) [] E ta) ρ r := fun F H σ env ok Q q =>
  ha F H σ env ok _ fun x F1 H1 g1 k1 hx => by
    obtain ⟨a, dx, vs, e, h, hv⟩ := id hx
    obtain ⟨v, h1, h2⟩ := look_zip hv hf
    exact ⟨a, dx, _, e, k1.fh _ _ h, a, dx, _, v, rfl, k1.fh _ _ h, h1, q v F1 H1 g1 k1 h2⟩
/-- the promise of an __init__: from these arguments these attributes -/
def initSp (Cl : Addr) (C : List RP → List (Str × RP) → Prop) : Sp := fun vs H Q _ => ∃ x dx F rs fs ws, vs = .ref x :: ws ∧ H x = some (.ins Cl dx []) ∧ H dx = some (.own x) ∧ F x = none ∧ Same F H ∧ Vrs F ws rs ∧ C rs fs ∧
  ∀ F' H' us, Go (fun b => b = x) F H F' H' → Same F' H' → F' x = none → H' x = some (.ins Cl dx ((fs.map Prod.fst).zip us)) → Vrs F' us (fs.map Prod.snd) → Q .non H'
theorem den_make {Ci : List RP → List (Str × RP) → Prop} (ha : DenA Z tas ρ rs) (hd : ∀ F, Vrs F dvs drs) (hc : Ci (rs ++ drs) fs) : Den Z (tMake Cl (initSp Cl Ci) dvs E tas) ρ (pO Cl fs) := fun F H σ env ok Q q =>
  ha F H σ env ok _ fun vs F1 H1 g1 k1 x1 x dx hx hdx hne => by
    have hx' : (upd H1 dx (.own x)) x = none := by rw [upd_ne hne.symm]; exact hx
    have g2 : Go0 F1 H1 F1 (upd (upd H1 dx (.own x)) x (.ins Cl dx [])) := (Go.new' hdx).trans (Go.new' hx')
    have s2 : Same F1 (upd (upd H1 dx (.own x)) x (.ins Cl dx [])) := same_new' (same_new' k1.fh hdx) hx'
    refine ⟨x, dx, F1, rs ++ drs, fs, vs ++ dvs, rfl, upd_same, by rw [upd_ne hne]; exact upd_same, k1.fh.free hx, s2, x1.app (hd F1), hc, fun F' H' us g s fx hi hu => ⟨rfl, ?_⟩⟩
    have g3 : Go0 F1 H1 F' H' := by
      refine ⟨g.ff, fun b o _ e => g.hh b o (fun z => by rw [z, hx] at e; cases e) (g2.hh b o (fun z => z) e), fun b o e => ?_, fun b e => g.dm b (g2.dm b e)⟩
      rcases g.gr b o e with z | z | z
      · exact .inl z
      · exact .inr (.inl (none_back (g2.dm b) z))
      · exact .inr (.inl (by rw [z]; exact hx))
    have g4 : Go0 F1 H1 (upd F' x (.ins Cl dx ((fs.map Prod.fst).zip us))) H' ∧ Same (upd F' x (.ins Cl dx ((fs.map Prod.fst).zip us))) H' ∧ Same F' (upd F' x (.ins Cl dx ((fs.map Prod.fst).zip us))) := by
      obtain ⟨a, b, c⟩ := freeze (Z := Z0) (o := .ins Cl dx ((fs.map Prod.fst).zip us)) hx trivial g3 (Ok.z0 s) fx hi
      exact ⟨a, b.fh, c⟩
    obtain ⟨g5, k5⟩ := k1.step g4.1 g4.2.1
    exact q _ _ _ (g1.trans g5) k5 ⟨x, dx, us, rfl, upd_same, hu.mono g4.2.2⟩
end
end Dn
set_option Elab.async false
set_option linter.all false
set_option maxRecDepth 100000
set_option maxHeartbeats 4000000
/-! the head's facts: any test of the written part, and the defs -/
namespace DnH
open PySem L2
abbrev KB := PySem.W.Frag → Bool
def seen (fa : List KB) (fn : List He.DefD) (K : PySem.W.Frag) : He.AlD := ((fa.all fun f => f K) && fn.all fun d => d.ok K, fn.map fun d => He.fnW K d.at_)
def seenG (n : Nat) (fa : List KB) (fn : List He.DefD) (g : Addr → Option Obj) : He.AlD := seen fa fn (He.frG g (He.asD g n))
def Says (fa : List KB) (fn : List He.DefD) (K : PySem.W.Frag) : Prop := seen fa fn K = He.valD fn
def hook (n : Nat) (fa : List KB) (fn : List He.DefD) : PySem.W.Hook where
  α := He.AlD
  obs := fun s => seenG n fa fn s.heap.get?
  val := fun _ => He.valD fn
  says := fun _ h => ∃ K : PySem.W.Frag, K.In h ∧ Says fa fn K
  of := fun _ _ e => ⟨_, He.frG_in, e⟩
  keeps := fun _ _ _ ⟨K, hK, c⟩ k => ⟨K, PySem.W.Frag.In.keeps hK k, c⟩
theorem seenG_eq {n : Nat} {fa : List KB} {fn : List He.DefD} {g : Addr → Option Obj} {s : Shared} (h : ∀ a, g a = s.heap.get? a) : seenG n fa fn g = (hook n fa fn).obs s := by
  have e : g = s.heap.get? := funext h
  rw [e] <;> rfl
section
variable {fa : List KB} {fn : List He.DefD} {K : PySem.W.Frag}
theorem Says.fact (c : Says fa fn K) (i : Nat) {f : KB} (h : fa[i]? = some f := by rfl) : f K = true := by
  have c0 : ((fa.all fun f => f K) && fn.all fun d => d.ok K) = true := congrArg Prod.fst c
  exact List.all_eq_true.mp (He.ba c0).1 f (List.mem_of_getElem? h)
theorem Says.dfn (c : Says fa fn K) (i : Nat) {d : He.DefD} (h : fn[i]? = some d := by rfl) : ∃ fd, FunD K d.name d.qual d.params d.body d.scope (d.dvs K) (d.kws K) (He.fAd K d.at_) fd := by
  have c0 : ((fa.all fun f => f K) && fn.all fun d => d.ok K) = true := congrArg Prod.fst c
  have e : fn.map (fun d => He.fnW K d.at_) = fn.map He.DefD.val := congrArg Prod.snd c
  have e2 : (fn.map fun d => He.fnW K d.at_)[i]? = (fn.map He.DefD.val)[i]? := by rw [e]
  rw [List.getElem?_map, List.getElem?_map, h] at e2
  exact He.DefD.funD (Option.some.inj e2) (List.all_eq_true.mp (He.ba c0).2 d (List.mem_of_getElem? h))
end
end DnH
set_option Elab.async false
set_option linter.all false
set_option maxRecDepth 100000
set_option maxHeartbeats 4000000
/-! own operators; division of any size; calls by keywords alone; a def at any address -/
namespace Dn
open PySem L2
/-- x op y, x an instance of an own class that has the operator's method: y an int | y of the class too -/
def rOwnI (C : Addr) (sp : Sp) : R2 := fun x y H Q => ∃ a dx fs i, x = .ref a ∧ H a = some (.ins C dx fs) ∧ y = .int i ∧ sp [x, y] H Q E0
def rOwnO (C : Addr) (sp : Sp) : R2 := fun x y H Q => ∃ a dx fs b dy gs, x = .ref a ∧ H a = some (.ins C dx fs) ∧ y = .ref b ∧ H b = some (.ins C dy gs) ∧ sp [x, y] H Q E0
section
variable {X : Cx} {op : Operator} {C f : Addr} {fd : FuncData} {ps : List Str} {sp : Sp} {k : Nat} {fo ro rc : Option Value}
theorem back_of {pins : List (Addr × Obj)} {σ : L2.St} {Q : VK} {v : Value} {s : Shared} (h : EP X pins σ Q v s) : PySem.W.CmpBack (EP X pins σ Q) v s := by
  obtain ⟨x, H', I, r, q⟩ := id h
  cases x <;> (first | (obtain ⟨t, rfl⟩ := r; exact h) | (cases r; exact h))
theorem op_ownI (hc : PySem.W.selfFirst X.K C = true) (hs : PySem.W.findIn X.K (.ref C) (PySem.dunder op.info.2) = some (some (.ref f))) (hf : PySem.W.isFn X.K (.ref f) = true) (hr : PySem.W.findIn X.K (.ref C) (PySem.dunderR op.info.2) = some rc) (hp : rc = none ∨ ∃ g : Addr, rc = some (.ref g))
    (h1 : PySem.W.findIn X.K (.type "int") (PySem.dunder op.info.2) = some fo) (h2 : PySem.W.findIn X.K (.type "int") (PySem.dunderR op.info.2) = some ro) (hsub : PySem.W.subIn X.K (.type "int") (.ref C) = some false)
    (F : FnOk X.prog X.w X.K X.mg X.base CX0 k f fd ps sp) (hR : Room k X.A) (hb : Binds X.K fd ps []) : OpR X (binaryOp op) (rOwnI C sp) := by
  intro pins s σ H x y v u Q I rx ry h
  obtain ⟨a, dx, fs, i, rfl, ha, rfl, q⟩ := h
  cases rx
  obtain ⟨t, rfl⟩ := ry
  obtain ⟨mA, O, _⟩ := ins_get I.hok ha
  obtain ⟨od, J, _⟩ := O.look
  obtain ⟨m, Fm⟩ := I.fr
  exact PySem.W.ksp_binT Fm I.ok.mod.kin J rfl hc hs hf hr hp h1 h2 hsub (thn (run_fn F hR hb .nil pass0 I (.cons (show RelV (V.ref a) (Value.ref a) from rfl) (.cons (show RelV (V.int i) (Value.int i t) from ⟨t, rfl⟩) .nil)) q) fun v s' e => back_of e)
theorem op_ownO (hc : PySem.W.selfFirst X.K C = true) (hs : PySem.W.findIn X.K (.ref C) (PySem.dunder op.info.2) = some (some (.ref f))) (hf : PySem.W.isFn X.K (.ref f) = true)
    (F : FnOk X.prog X.w X.K X.mg X.base CX0 k f fd ps sp) (hR : Room k X.A) (hb : Binds X.K fd ps []) : OpR X (binaryOp op) (rOwnO C sp) := by
  intro pins s σ H x y v u Q I rx ry h
  obtain ⟨a, dx, fs, b, dy, gs, rfl, ha, rfl, hb', q⟩ := h
  cases rx
  cases ry
  obtain ⟨mA, O, _⟩ := ins_get I.hok ha
  obtain ⟨od, J, _⟩ := O.look
  obtain ⟨mB, O2, _⟩ := ins_get I.hok hb'
  obtain ⟨od2, J2, _⟩ := O2.look
  obtain ⟨m, Fm⟩ := I.fr
  exact PySem.W.binop_K Fm I.ok.mod.kin J J2.type hc hs hf (thn (run_fn F hR hb .nil pass0 I (.cons (show RelV (V.ref a) (Value.ref a) from rfl) (.cons (show RelV (V.ref b) (Value.ref b) from rfl) .nil)) q) fun v s' e => back_of e)
end
section
variable {C : Addr} {Cc : List RP → RP → Prop} {fs gs : List (Str × RP)} {r : RP} {i : Int}
theorem opd_ownI (h : Cc [pO C fs, pI i] r) : OpD (rOwnI C (pureSp Cc)) (pO C fs) (pI i) r := fun F H x y s hx hy Q q => by
  obtain ⟨a, dx, vs, e, ha, hv⟩ := id hx
  cases hy
  exact ⟨a, dx, _, i, e, s _ _ ha, rfl, F, _, _, h, s, ⟨hx, rfl, trivial⟩, q⟩
theorem opd_ownO (h : Cc [pO C fs, pO C gs] r) : OpD (rOwnO C (pureSp Cc)) (pO C fs) (pO C gs) r := fun F H x y s hx hy Q q => by
  obtain ⟨a, dx, vs, e, ha, hv⟩ := id hx
  obtain ⟨b, dy, ws, e', hb, hw⟩ := id hy
  exact ⟨a, dx, _, b, dy, _, e, s _ _ ha, e', s _ _ hb, F, _, _, h, s, ⟨hx, hy, trivial⟩, q⟩
end
/-- // by a divisor of less than 9000 bits -/
def CDivA (_ j : Int) : Prop := j ≠ 0 ∧ j.natAbs.log2 < 9000
theorem op_fdivA {X : Cx} : OpR X (binaryOp .FloorDiv) (rI CDivA fun i j => .int (i.fdiv j)) := opI fun i j _ _ _ _ _ hc q => PyProof.Rows.floordiv_int hc.1 q (.inl (PyProof.noPylong_of_log2 hc.2))

/-! f(k = v, ..): keywords alone -/
section
variable {X : Cx} {CX : CXT} {k : Nat} {f : Addr} {fd : FuncData} {ps ks : List Str} {sp : Sp} {E : XK} {x : Str} {p pos : Pos} {kws : List Keyword} {tk : TA} {g : List Value → List Value → List Value} {gV : List V → List V → List V}
theorem pe_callKW (F : FnOk X.prog X.w X.K X.mg X.base CX k f fd ps sp) (hr : Room k X.A) (hg : Gl X x) (hm : X.mg x = some (.ref f)) (hk : PySem.W.keepIn X.K (.ref f) = true) (hb : KBinds X.K fd ps ks g gV) (hx : Passes CX X E)
    (hkw : PK X kws tk) (hall : (backToKw pos (keywordEach kws X.env)).all (·.1.isSome) = true := by rfl) (hks : (backToKw pos (keywordEach kws X.env)).filterMap (·.1) = ks := by rfl)
    (hdb : (x == ("__debug__" : Str)) = false := by decide) (hpl : (backToKw pos (keywordEach kws X.env)).any (·.1.isNone) = false := by rfl) :
    PE X (.Call (.Name x p) [] kws pos) (tCallK sp gV E tNil tk) := by
  refine ⟨fun pins s σ H Q I h => ?_⟩
  refine wpAny_Call_Name_kw (ld_glob I hg hm ?_ hdb)
  refine PySem.W.callWith_KW0 (h₀ := X.base) I.ok.mod.kin hk hall (thn (hkw.run pos pins s σ H _ I h) fun ws s2 ⟨zs, H2, I2, rz, q2⟩ => ⟨I2.kIn, ?_⟩) hpl
  rw [hks]
  exact run_fnk F hr hb hx I2 .nil rz q2
end
end Dn
namespace DnH
open PySem L2
/-! ### a def at any address -/
structure DefX where
  adr : PySem.W.Frag → Addr
  name : Str
  qual : Str
  params : Arguments
  body : List Stmt
  scope : Scope
  dfl : List He.Dv := []
def DefX.val (d : DefX) : He.FnW := some (d.name, d.qual, d.params, .stmts d.body, d.scope, mainGlobals, [], builtinsNs)
def DefX.dvs (K : PySem.W.Frag) (d : DefX) : List V := d.dfl.map (He.Dv.v K)
def fnX (K : PySem.W.Frag) (a : Addr) : He.FnW := match K.lookup a with
  | some o => (match o.data with
    | .func fd => some (fd.name, fd.qualname, fd.params, fd.body, fd.scope, fd.globals, fd.closure, fd.builtins)
    | _ => none)
  | none => none
def DefX.ok (K : PySem.W.Frag) (d : DefX) : Bool := PySem.W.keepIn K (.ref (d.adr K)) && (match K.lookup (d.adr K) with
  | some o => (match o.data with
    | .func fd => PySem.W.codeIn K fd.code d.qual && He.dflB K fd.defaults (d.dvs K)
    | _ => false)
  | none => false)
theorem DefX.funD {K : PySem.W.Frag} {d : DefX} (e : fnX K (d.adr K) = d.val) (c : d.ok K = true) : ∃ fd, FunD K d.name d.qual d.params d.body d.scope (d.dvs K) [] (d.adr K) fd := by
  obtain ⟨kp, c2⟩ := He.ba c
  unfold fnX at e
  cases q : K.lookup (d.adr K) with
  | none => rw [q] at c2; cases c2
  | some o =>
    obtain ⟨oc, od, dt, osl⟩ := o
    rw [q] at c2 e
    cases dt with
    | func fd =>
      obtain ⟨a1, a2, a3, a4, a5, a6, a7, a8, a9, b1, b2, b3, b4, b5, b6⟩ := fd
      have e2 : (some (a1, a2, a3, a4, a5, a6, a7, b6) : He.FnW) = some (d.name, d.qual, d.params, .stmts d.body, d.scope, mainGlobals, [], builtinsNs) := e
      simp only [Option.some.injEq, Prod.mk.injEq] at e2
      obtain ⟨h1, h2, h3, h4, h5, h6, h7, h8⟩ := e2
      subst h1 h2 h3 h4 h5 h6 h7 h8
      have c3 : (PySem.W.codeIn K b4 d.qual && He.dflB K a8 (d.dvs K)) = true := c2
      obtain ⟨k1, k2⟩ := He.ba c3
      exact ⟨_, ⟨oc, od, a8, a9, b1, b2, b3, b4, b5, osl, rfl, q, k1, He.dflB_ok k2, .inl rfl⟩, kp⟩
    | _ => cases c2
def seenX (fa : List KB) (fn : List DefX) (K : PySem.W.Frag) : He.AlD := ((fa.all fun f => f K) && fn.all fun d => d.ok K, fn.map fun d => fnX K (d.adr K))
def valX (fn : List DefX) : He.AlD := (true, fn.map DefX.val)
def seenXG (n : Nat) (fa : List KB) (fn : List DefX) (g : Addr → Option Obj) : He.AlD := seenX fa fn (He.frG g (He.asD g n))
def SaysX (fa : List KB) (fn : List DefX) (K : PySem.W.Frag) : Prop := seenX fa fn K = valX fn
def hookX (n : Nat) (fa : List KB) (fn : List DefX) : PySem.W.Hook where
  α := He.AlD
  obs := fun s => seenXG n fa fn s.heap.get?
  val := fun _ => valX fn
  says := fun _ h => ∃ K : PySem.W.Frag, K.In h ∧ SaysX fa fn K
  of := fun _ _ e => ⟨_, He.frG_in, e⟩
  keeps := fun _ _ _ ⟨K, hK, c⟩ k => ⟨K, PySem.W.Frag.In.keeps hK k, c⟩
theorem seenXG_eq {n : Nat} {fa : List KB} {fn : List DefX} {g : Addr → Option Obj} {s : Shared} (h : ∀ a, g a = s.heap.get? a) : seenXG n fa fn g = (hookX n fa fn).obs s := by
  have e : g = s.heap.get? := funext h
  rw [e] <;> rfl
section
variable {fa : List KB} {fn : List DefX} {K : PySem.W.Frag}
theorem SaysX.fact (c : SaysX fa fn K) (i : Nat) {f : KB} (h : fa[i]? = some f := by rfl) : f K = true := by
  have c0 : ((fa.all fun f => f K) && fn.all fun d => d.ok K) = true := congrArg Prod.fst c
  exact List.all_eq_true.mp (He.ba c0).1 f (List.mem_of_getElem? h)
theorem SaysX.dfn (c : SaysX fa fn K) (i : Nat) {d : DefX} (h : fn[i]? = some d := by rfl) : ∃ fd, FunD K d.name d.qual d.params d.body d.scope (d.dvs K) [] (d.adr K) fd := by
  have c0 : ((fa.all fun f => f K) && fn.all fun d => d.ok K) = true := congrArg Prod.fst c
  have e : fn.map (fun d => fnX K (d.adr K)) = fn.map DefX.val := congrArg Prod.snd c
  have e2 : (fn.map fun d => fnX K (d.adr K))[i]? = (fn.map DefX.val)[i]? := by rw [e]
  rw [List.getElem?_map, List.getElem?_map, h] at e2
  exact DefX.funD (Option.some.inj e2) (List.all_eq_true.mp (He.ba c0).2 d (List.mem_of_getElem? h))
end
/-! ### more facts -/
/-- the property f of the class at C: its object, its getter -/
def getr (K : PySem.W.Frag) (C : Addr) (f : Str) : Addr := match PySem.W.recIn K (He.ma K C f) "property" with
  | some (.ref g :: _) => g
  | _ => 0
def propB (x f : Str) : KB := fun K => He.eqO (PySem.W.findIn K (.ref (He.ga K x)) f) (some (some (.ref (He.ma K (He.ga K x) f)))) && (He.eqO (PySem.W.specialIn K (.ref (He.ma K (He.ga K x) f)) "__get__") (some (some (.builtin "property.__get__"))) &&
  (decide (PySem.W.takesIn K (.ref (He.ma K (He.ga K x) f)) = some true) && (match PySem.W.recIn K (He.ma K (He.ga K x) f) "property" with
    | some (.ref _ :: _) => true
    | _ => false)))
theorem prop_ok {K : PySem.W.Frag} {x f : Str} (c : propB x f K = true) : PropOf K (He.ga K x) f (He.ma K (He.ga K x) f) (getr K (He.ga K x) f) := by
  obtain ⟨c1, c⟩ := He.ba c
  obtain ⟨c2, c⟩ := He.ba c
  obtain ⟨c3, c4⟩ := He.ba c
  refine ⟨He.eqO_ok c1, He.eqO_ok c2, of_decide_eq_true c3, ?_⟩
  unfold getr
  cases q : PySem.W.recIn K (He.ma K (He.ga K x) f) "property" with
  | none => rw [q] at c4; cases c4
  | some l =>
    rw [q] at c4
    match l, c4 with
    | .ref g :: rest, _ => exact ⟨rest, rfl⟩
/-- the own operator's method m (its reflection rm) of the class x -/
def operB (x m rm : Str) : KB := fun K => PySem.W.selfFirst K (He.ga K x) && (He.eqO (PySem.W.findIn K (.ref (He.ga K x)) m) (some (some (.ref (He.ma K (He.ga K x) m)))) && (PySem.W.isFn K (.ref (He.ma K (He.ga K x) m)) &&
  (He.eqO (PySem.W.findIn K (.ref (He.ga K x)) rm) (some (some (.ref (He.ma K (He.ga K x) rm)))) && ((PySem.W.findIn K (.type "int") m).isSome && ((PySem.W.findIn K (.type "int") rm).isSome && decide (PySem.W.subIn K (.type "int") (.ref (He.ga K x)) = some false))))))
theorem oper_ok {K : PySem.W.Frag} {x m rm : Str} (c : operB x m rm K = true) : PySem.W.selfFirst K (He.ga K x) = true ∧ PySem.W.findIn K (.ref (He.ga K x)) m = some (some (.ref (He.ma K (He.ga K x) m))) ∧ PySem.W.isFn K (.ref (He.ma K (He.ga K x) m)) = true ∧
    PySem.W.findIn K (.ref (He.ga K x)) rm = some (some (.ref (He.ma K (He.ga K x) rm))) ∧ (∃ fo, PySem.W.findIn K (.type "int") m = some fo) ∧ (∃ ro, PySem.W.findIn K (.type "int") rm = some ro) ∧ PySem.W.subIn K (.type "int") (.ref (He.ga K x)) = some false := by
  obtain ⟨c1, c⟩ := He.ba c
  obtain ⟨c2, c⟩ := He.ba c
  obtain ⟨c3, c⟩ := He.ba c
  obtain ⟨c4, c⟩ := He.ba c
  obtain ⟨c5, c⟩ := He.ba c
  obtain ⟨c6, c7⟩ := He.ba c
  exact ⟨c1, He.eqO_ok c2, c3, He.eqO_ok c4, Option.isSome_iff_exists.mp c5, Option.isSome_iff_exists.mp c6, of_decide_eq_true c7⟩
/-- the module's name x is the built-in function id -/
def bltB (x : Str) (id : String) : KB := fun K => He.eqO (PySem.W.nsIn K mainGlobals x) (some (some (.builtin id)))
theorem blt_ok {K : PySem.W.Frag} {h : Heap} {mg : Str → Option Value} (X : K.In h) (G : h.Ns mainGlobals mg) {x : Str} {id : String} (c : bltB x id K = true) : mg x = some (.builtin id) := PySem.W.mg_of X G (He.eqO_ok c)
end DnH
set_option Elab.async false
set_option linter.all false
set_option maxRecDepth 100000
set_option maxHeartbeats 4000000
/-! built-ins by what they denote -/
namespace Dn
open PySem L2
def uLen (K : PySem.W.Frag) : List V → Hp → VK → Prop := fun xs H Q => ∃ p ys, xs = [.ref p] ∧ (SqL K H p ys ∨ SqT K H p ys) ∧ Q (.int ys.length) H
def uList (K : PySem.W.Frag) : List V → Hp → VK → Prop := fun xs H Q => ∃ p ys, xs = [.ref p] ∧ (SqL K H p ys ∨ SqT K H p ys) ∧ ∀ l, H l = none → Q (.ref l) (upd H l (.lst ys))
def uAbs : List V → Hp → VK → Prop := fun xs H Q => ∃ i, xs = [.int i] ∧ Q (.int (if i < 0 then -i else i)) H
def uMax : List V → Hp → VK → Prop := fun xs H Q => ∃ i j, xs = [.int i, .int j] ∧ Q (.int (if j > i then j else i)) H
def uMin : List V → Hp → VK → Prop := fun xs H Q => ∃ i j, xs = [.int i, .int j] ∧ Q (.int (if j < i then j else i)) H
def uInt : List V → Hp → VK → Prop := fun xs H Q => (∃ i, xs = [.int i] ∧ Q (.int i) H) ∨ ∃ k, xs = [.bl k] ∧ Q (.int (if k then 1 else 0)) H
def uDivmod : List V → Hp → VK → Prop := fun xs H Q => ∃ i j, xs = [.int i, .int j] ∧ CDiv i j ∧ ∀ p, H p = none → Q (.ref p) (upd H p (.tup [.int (i / j), .int (i % j)]))
section
variable {X : Cx}
theorem cr_len : CallR X (.builtin "len") (uLen X.K) := call_len_seq
theorem cr_list : CallR X (.type "list") (uList X.K) := call_list_of
theorem cr_abs : CallR X (.builtin "abs") uAbs := call_abs
theorem cr_max2 (hc : X.calm = true) : CallR X (.builtin "max") uMax := call_max2 hc
theorem cr_min2 (hc : X.calm = true) : CallR X (.builtin "min") uMin := call_min2 hc
theorem cr_int : CallR X (.type "int") uInt := call_int1
theorem cr_divmod : CallR X (.builtin "divmod") uDivmod := call_divmod
end
theorem vrs_int {F : Hp} : ∀ {vs : List V} {ns : List Int}, Vrs F vs (ns.map pI) → vs = ns.map V.int
  | [], [], _ => rfl
  | v :: vs, n :: ns, h => by
    have e : v = V.int n := h.1
    rw [List.map_cons, ← e, ← vrs_int h.2]
  | [], _ :: _, h => h.elim
  | _ :: _, [], h => h.elim
theorem vrs_bl {F : Hp} : ∀ {vs : List V} {bs : List Bool}, Vrs F vs (bs.map pB) → vs = bs.map V.bl
  | [], [], _ => rfl
  | v :: vs, n :: ns, h => by
    have e : v = V.bl n := h.1
    rw [List.map_cons, ← e, ← vrs_bl h.2]
  | [], _ :: _, h => h.elim
  | _ :: _, [], h => h.elim
section
variable {K : PySem.W.Frag} {rs : List RP} {r r1 : RP} {Z : Zx} {ρ : Rho} {te : TE}
theorem cd_len : CD (uLen K) [pL rs] (pI (rs.length : Int)) := fun F H vs s hv Q q => by
  match vs, hv with
  | [v], ⟨⟨a, us, e, ha, hu⟩, _⟩ =>
    subst e
    exact ⟨a, us, rfl, .inl (SqL.of (s _ _ ha)), q _ F H (Go.refl F H) s (by rw [hu.len]; exact rfl)⟩
theorem cd_lenT : CD (uLen K) [pT rs] (pI (rs.length : Int)) := fun F H vs s hv Q q => by
  match vs, hv with
  | [v], ⟨⟨a, us, e, ha, hu⟩, _⟩ =>
    subst e
    exact ⟨a, us, rfl, .inr (SqT.of (s _ _ ha)), q _ F H (Go.refl F H) s (by rw [hu.len]; exact rfl)⟩
theorem cd_list : CD (uList K) [pL rs] (pL rs) := fun F H vs s hv Q q => by
  match vs, hv with
  | [v], ⟨⟨a, us, e, ha, hu⟩, _⟩ =>
    subst e
    refine ⟨a, us, rfl, .inl (SqL.of (s _ _ ha)), fun p hp => ?_⟩
    have g : Go0 F H (upd F p (.lst us)) (upd H p (.lst us)) := Go.new s hp
    exact q _ _ _ g (same_new s hp) ⟨p, us, rfl, upd_same, hu.mono g.ff⟩
theorem cd_listT : CD (uList K) [pT rs] (pL rs) := fun F H vs s hv Q q => by
  match vs, hv with
  | [v], ⟨⟨a, us, e, ha, hu⟩, _⟩ =>
    subst e
    refine ⟨a, us, rfl, .inr (SqT.of (s _ _ ha)), fun p hp => ?_⟩
    have g : Go0 F H (upd F p (.lst us)) (upd H p (.lst us)) := Go.new s hp
    exact q _ _ _ g (same_new s hp) ⟨p, us, rfl, upd_same, hu.mono g.ff⟩
theorem cd_abs {i : Int} : CD uAbs [pI i] (pI (i.natAbs : Int)) := fun F H vs s hv Q q => by
  match vs, hv with
  | [v], ⟨e, _⟩ =>
    have e : v = V.int i := e
    subst e
    refine ⟨i, rfl, q _ F H (Go.refl F H) s ?_⟩
    show V.int _ = V.int _
    congr 1
    split <;> omega
theorem cd_max {i j : Int} : CD uMax [pI i, pI j] (pI (max i j)) := fun F H vs s hv Q q => by
  match vs, hv with
  | [v, u], ⟨e, e2, _⟩ =>
    have e : v = V.int i := e
    have e2 : u = V.int j := e2
    subst e e2
    refine ⟨i, j, rfl, q _ F H (Go.refl F H) s ?_⟩
    show V.int _ = V.int _
    congr 1
    split <;> omega
theorem cd_min {i j : Int} : CD uMin [pI i, pI j] (pI (min i j)) := fun F H vs s hv Q q => by
  match vs, hv with
  | [v, u], ⟨e, e2, _⟩ =>
    have e : v = V.int i := e
    have e2 : u = V.int j := e2
    subst e e2
    refine ⟨i, j, rfl, q _ F H (Go.refl F H) s ?_⟩
    show V.int _ = V.int _
    congr 1
    split <;> omega
theorem cd_int {i : Int} : CD uInt [pI i] (pI i) := fun F H vs s hv Q q => by
  match vs, hv with
  | [v], ⟨e, _⟩ =>
    have e : v = V.int i := e
    subst e
    exact .inl ⟨i, rfl, q _ F H (Go.refl F H) s rfl⟩
theorem cd_intB {b : Bool} : CD uInt [pB b] (pI (if b then 1 else 0)) := fun F H vs s hv Q q => by
  match vs, hv with
  | [v], ⟨e, _⟩ =>
    have e : v = V.bl b := e
    subst e
    exact .inr ⟨b, rfl, q _ F H (Go.refl F H) s rfl⟩
theorem cd_divmod {i j : Int} (h : CDiv i j) : CD uDivmod [pI i, pI j] (pT [pI (i / j), pI (i % j)]) := fun F H vs s hv Q q => by
  match vs, hv with
  | [v, u], ⟨e, e2, _⟩ =>
    have e : v = V.int i := e
    have e2 : u = V.int j := e2
    subst e e2
    refine ⟨i, j, rfl, h, fun p hp => ?_⟩
    have g : Go0 F H (upd F p (.tup [.int (i / j), .int (i % j)])) (upd H p (.tup [.int (i / j), .int (i % j)])) := Go.new s hp
    exact q _ _ _ g (same_new s hp) ⟨p, _, rfl, upd_same, rfl, rfl, trivial⟩
theorem cd_sum {ns : List Int} : CD (rSum K) [pIs ns] (pI ns.sum) := fun F H vs s hv Q q => by
  match vs, hv with
  | [v], ⟨⟨a, us, e, ha, hu⟩, _⟩ =>
    subst e
    have e2 := vrs_int hu
    subst e2
    exact ⟨a, ns, rfl, SqL.of (s _ _ ha), q _ F H (Go.refl F H) s rfl⟩
theorem cd_all {bs : List Bool} : CD (rAll K) [pLm pB bs] (pB (bs.all id)) := fun F H vs s hv Q q => by
  match vs, hv with
  | [v], ⟨⟨a, us, e, ha, hu⟩, _⟩ =>
    subst e
    have e2 := vrs_bl hu
    subst e2
    exact ⟨a, bs, rfl, SqL.of (s _ _ ha), q _ F H (Go.refl F H) s rfl⟩
theorem cd_any {bs : List Bool} : CD (rAny K) [pLm pB bs] (pB (bs.any id)) := fun F H vs s hv Q q => by
  match vs, hv with
  | [v], ⟨⟨a, us, e, ha, hu⟩, _⟩ =>
    subst e
    have e2 := vrs_bl hu
    subst e2
    exact ⟨a, bs, rfl, SqL.of (s _ _ ha), q _ F H (Go.refl F H) s rfl⟩
/-- a list of the same meaning -/
theorem pLm_map {α β : Type} (f : β → RP) (g : α → β) (xs : List α) : pLm (fun x => f (g x)) xs = pLm f (xs.map g) := by
  show pL _ = pL _
  rw [List.map_map]
  all_goals rfl
theorem cd_gcd {a b : Int} : CD rGcd [pI a, pI b] (pI ((Nat.gcd a.natAbs b.natAbs : Nat) : Int)) := fun F H vs s hv Q q => by
  match vs, hv with
  | [v, u], ⟨e, e2, _⟩ =>
    have e : v = V.int a := e
    have e2 : u = V.int b := e2
    subst e e2
    exact ⟨a, b, rfl, q _ F H (Go.refl F H) s rfl⟩
/-! kinds of values, for isinstance -/
/-- a value's type, whatever the known heap -/
def Kd (K : PySem.W.Frag) (r : RP) (t : Value) : Prop := ∀ F H v, Same F H → r.R F v → TyX K H v t
theorem kd_int {i : Int} : Kd K (pI i) (.type "int") := fun F H v s h => by cases h; exact .base (.int i)
theorem kd_bl {b : Bool} : Kd K (pB b) (.type "bool") := fun F H v s h => by cases h; exact .base (.bl b)
theorem kd_non : Kd K pNon (.type "NoneType") := fun F H v s h => by cases h; exact .base .non
theorem kd_str {z : Str} : Kd K (pV (.str z)) (.type "str") := fun F H v s h => by cases h; exact .base (.str z)
theorem kd_lst : Kd K (pL rs) (.type "list") := fun F H v s ⟨a, us, e, ha, hu⟩ => by subst e; exact .base (.lst (s _ _ ha))
theorem kd_tup : Kd K (pT rs) (.type "tuple") := fun F H v s ⟨a, us, e, ha, hu⟩ => by subst e; exact .base (.tup (s _ _ ha))
/-- what isinstance asks of an own class -/
def insB (x : Str) : DnH.KB := fun K => He.eqO (PySem.W.findIn K (.ref (He.ga K x)) "__class__") (some (some (.builtin "object.__class__"))) && (He.eqO (PySem.W.specialIn K (.builtin "object.__class__") "__get__") (some (some (.builtin "getset_descriptor.__get__"))) &&
  (decide (PySem.W.takesIn K (.builtin "object.__class__") = some true) && decide (PySem.W.mroIn K (He.ga K x) (.type "object") = some true)))
theorem kd_own {x : Str} {fs : List (Str × RP)} (c : Cls K (He.ga K x)) (h : insB x K = true) : Kd K (pO (He.ga K x) fs) (.ref (He.ga K x)) := fun F H v s ⟨a, dx, us, e, ha, hu⟩ => by
  obtain ⟨c1, h⟩ := He.ba h
  obtain ⟨c2, h⟩ := He.ba h
  obtain ⟨c3, c4⟩ := He.ba h
  subst e
  exact .base (.ins (s _ _ ha) c (He.eqO_ok c1) (He.eqO_ok c2) (of_decide_eq_true c3) (of_decide_eq_true c4))
theorem cd_isi {c : V} {t u : Value} {b : Bool} (k : Kd K r t) (hc : ClsV c u) (e : PySem.W.kitOne K t u = some b) : CD (rIsi K) [r, pV c] (pB b) := fun F H vs s hv Q q => by
  match vs, hv with
  | [v, w], ⟨h1, h2, _⟩ =>
    have h2 : w = c := h2
    subst h2
    exact ⟨v, w, t, u, b, rfl, hc, k F H v s h1, e, q _ F H (Go.refl F H) s rfl⟩
theorem cd_isi2 {n m : String} {t : Value} {b : Bool} (k : Kd K r t) (e : PySem.W.kitAny K t [.type n, .type m] = some b) : CD (rIsiT K) [r, pT [pV (.ty n), pV (.ty m)]] (pB b) := fun F H vs s hv Q q => by
  match vs, hv with
  | [v, w], ⟨h1, ⟨a, us, ea, ha, hu⟩, _⟩ =>
    subst ea
    match us, hu with
    | [u1, u2], ⟨e1, e2, _⟩ =>
      have e1 : u1 = .ty n := e1
      have e2 : u2 = .ty m := e2
      subst e1 e2
      exact ⟨v, a, _, t, _, b, rfl, s _ _ ha, .cons (.ty n) (.cons (.ty m) .nil), k F H v s h1, e, q _ F H (Go.refl F H) s rfl⟩
/-! == and != of data -/
def IsD (K : PySem.W.Frag) (r : RP) (d : PyData) : Prop := ∀ F H v, Same F H → r.R F v → Dp K H v d
theorem isd_int {i : Int} : IsD K (pI i) (.int i) := fun F H v s h => by cases h; exact .int i
theorem isd_bl {b : Bool} : IsD K (pB b) (.bool b) := fun F H v s h => by cases h; exact .bl b
theorem isd_non : IsD K pNon .none := fun F H v s h => by cases h; exact .non
theorem isd_all {α : Type} {f : α → RP} {d : α → PyData} (h : ∀ x, IsD K (f x) (d x)) {F H : Hp} (s : Same F H) : ∀ {xs : List α} {vs : List V}, Vrs F vs (xs.map f) → DpAll K H vs (xs.map d)
  | [], [], _ => .nil
  | x :: xs, v :: vs, hv => .cons (h x F H v s hv.1) (isd_all h s hv.2)
  | [], _ :: _, hv => hv.elim
  | _ :: _, [], hv => hv.elim
theorem isd_list {α : Type} {f : α → RP} {d : α → PyData} (h : ∀ x, IsD K (f x) (d x)) {xs : List α} : IsD K (pLm f xs) (.list (xs.map d)) := fun F H v s ⟨a, us, e, ha, hu⟩ => by
  subst e
  exact .lst (SqL.of (s _ _ ha)) (isd_all h s hu)
theorem opd_eqD {r1 r2 : RP} {d e : PyData} {b : Bool} (h1 : IsD K r1 d) (h2 : IsD K r2 e) (s1 : SeqAt.shaped d = true) (s2 : SeqAt.shaped e = true) (hb : PyData.eqv d e = b) : OpD (rEqD K) r1 r2 (pB b) := fun F H x y s hx hy Q q =>
  ⟨d, e, h1 F H x s hx, h2 F H y s hy, s1, s2, q _ F H (Go.refl F H) s (by rw [hb]; exact rfl)⟩
theorem opd_neD {r1 r2 : RP} {d e : PyData} {b : Bool} (h1 : IsD K r1 d) (h2 : IsD K r2 e) (s1 : SeqAt.shaped d = true) (s2 : SeqAt.shaped e = true) (hb : PyData.eqv d e = b) : OpD (rNeD K) r1 r2 (pB (!b)) := fun F H x y s hx hy Q q =>
  ⟨d, e, h1 F H x s hx, h2 F H y s hy, s1, s2, q _ F H (Go.refl F H) s (by rw [hb]; exact rfl)⟩
/-! a list that is written afterwards -/
theorem denf_list {tas : TA} (ha : DenA Z tas ρ [pL rs]) : DenF Z (tCB (uList K) tas) ρ rs := fun F H σ env ok Q q =>
  ha F H σ env ok _ fun us F1 H1 g1 k1 hu => by
    match us, hu with
    | [u], ⟨⟨a, vs, e, h, hv⟩, _⟩ =>
      subst e
      refine ⟨a, vs, rfl, .inl (SqL.of (k1.fh _ _ h)), fun p hp => ?_⟩
      have nt : ¬ Z.T p := fun t => Z.has ok.j t (none_back (g1.dm p) hp)
      refine q p vs F1 _ (none_back (g1.dm p) hp) (g1.trans (Go.new' hp)) ⟨same_new' k1.fh hp, k1.fr, Z.stay (fun b t => ?_) k1.j⟩ (k1.fh.free hp) upd_same hv
      rw [upd_ne (fun e => nt (by rw [← e]; exact t))]
end
/-! ### a def of the module, called -/
def Cal (P : Program) (w : World) (K : PySem.W.Frag) (mg : Str → Option Value) (base : Heap) (x : Str) (k : Nat) (ps : List Str) (sp : Sp) : Prop :=
  ∃ f fd, FnOk P w K mg base CX0 k f fd ps sp ∧ mg x = some (.ref f) ∧ PySem.W.keepIn K (.ref f) = true ∧ Binds K fd ps []
section
variable {X : Cx} {x : Str} {k : Nat} {ps : List Str} {sp : Sp} {p pos : Pos} {e : Expr} {es : List Expr} {t : TA}
theorem pe_cal (c : Cal X.prog X.w X.K X.mg X.base x k ps sp) (hr : Room k X.A) (hg : Gl X x) (ha : PA X (e :: es) t) (hdb : (x == ("__debug__" : Str)) = false := by decide) (he : starEach (e :: es) X.env = (false, eval e X.env) :: starEach es X.env := by rfl)
    (hpl : (backTo pos (starEach es X.env)).any (·.1) = false := by rfl) : PE X (.Call (.Name x p) (e :: es) [] pos) (tCall sp [] E0 t) := by
  obtain ⟨f, fd, F, m, kp, b⟩ := c
  exact pe_call F hr hg m kp b .nil pass0 ha hdb he hpl
end
end Dn
set_option Elab.async false
set_option linter.all false
set_option maxRecDepth 100000
set_option maxHeartbeats 4000000
/-! bundles: what a caller has of a callee -/
namespace Dn
open PySem L2
abbrev oAdd : R2 := rI0 fun i j => .int (i + j)
abbrev oSub : R2 := rI0 fun i j => .int (i - j)
abbrev oMul : R2 := rI CMulW fun i j => .int (i * j)
abbrev oDiv : R2 := rI CDivA fun i j => .int (i.fdiv j)
abbrev oMod : R2 := rI (fun _ j => 0 < j) fun i j => .int (i % j)
abbrev oPow : R2 := rI CPow fun i j => .int (i ^ j.toNat)
abbrev oLt : R2 := rI0 fun i j => .bl (decide (i < j))
abbrev oLe : R2 := rI0 fun i j => .bl (decide (i ≤ j))
abbrev oGt : R2 := rI0 fun i j => .bl (decide (j < i))
abbrev oGe : R2 := rI0 fun i j => .bl (decide (j ≤ i))
abbrev uNeg : V → Hp → VK → Prop := rU fun i => .int (-i)
section
variable (P : Program) (w : World) (K : PySem.W.Frag) (mg : Str → Option Value) (base : Heap)
/-- f(e, ..) with the last defaults dvs -/
def CalD (x : Str) (k : Nat) (ps : List Str) (sp : Sp) (dvs : List V) : Prop :=
  ∃ f fd ds, FnOk P w K mg base CX0 k f fd ps sp ∧ mg x = some (.ref f) ∧ PySem.W.keepIn K (.ref f) = true ∧ Binds K fd ps ds ∧ Vals dvs ds
/-- f(k = v, ..), keywords alone -/
def CalN (x : Str) (k : Nat) (ps : List Str) (sp : Sp) (ks : List Str) (gV : List V → List V → List V) : Prop :=
  ∃ f fd g, FnOk P w K mg base CX0 k f fd ps sp ∧ mg x = some (.ref f) ∧ PySem.W.keepIn K (.ref f) = true ∧ KBn K fd ps 0 ks g gV
def MetC (C : Addr) (m : Str) (k : Nat) (ps : List Str) (sp : Sp) : Prop := ∃ f fd, Meth K C m f ∧ FnOk P w K mg base CX0 k f fd ps sp ∧ Binds K fd ps []
def MkC (x : Str) (C : Addr) (k : Nat) (ps : List Str) (sp : Sp) (dvs : List V) : Prop := ∃ f fd ds, Mk K C f ∧ FnOk P w K mg base CX0 k f fd ps sp ∧ Binds K fd ps ds ∧ Vals dvs ds ∧ mg x = some (.ref C)
def PrC (C : Addr) (x : Str) (k : Nat) (ps : List Str) (sp : Sp) : Prop := ∃ p g fd, PropOf K C x p g ∧ FnOk P w K mg base CX0 k g fd ps sp ∧ Binds K fd ps []
/-- an own operator; fm, rm: the names of its method and the reflected one -/
def OpC (C : Addr) (fm rm : Str) (k : Nat) (ps : List Str) (sp : Sp) : Prop := ∃ f fd fo ro rc, PySem.W.selfFirst K C = true ∧ PySem.W.findIn K (.ref C) fm = some (some (.ref f)) ∧ PySem.W.isFn K (.ref f) = true ∧ PySem.W.findIn K (.ref C) rm = some rc ∧
  (rc = none ∨ ∃ g : Addr, rc = some (.ref g)) ∧ PySem.W.findIn K (.type "int") fm = some fo ∧ PySem.W.findIn K (.type "int") rm = some ro ∧ PySem.W.subIn K (.type "int") (.ref C) = some false ∧ FnOk P w K mg base CX0 k f fd ps sp ∧ Binds K fd ps []
end
section
variable {X : Cx} {CX : CXT} {k : Nat} {f : Addr} {fd : FuncData} {ps ks : List Str} {sp : Sp} {E : XK} {x : Str} {p pos : Pos} {kws : List Keyword} {tk : TA} {g : List Value → List Value → List Value} {gV : List V → List V → List V}
theorem pe_callN0 (F : FnOk X.prog X.w X.K X.mg X.base CX k f fd ps sp) (hr : Room k X.A) (hg : Gl X x) (hm : X.mg x = some (.ref f)) (hk : PySem.W.keepIn X.K (.ref f) = true) (hb : KBn X.K fd ps 0 ks g gV) (hx : Passes CX X E)
    (hkw : PK X kws tk) (hall : (backToKw pos (keywordEach kws X.env)).all (·.1.isSome) = true := by rfl) (hks : (backToKw pos (keywordEach kws X.env)).filterMap (·.1) = ks := by rfl)
    (hdb : (x == ("__debug__" : Str)) = false := by decide) (hpl : (backToKw pos (keywordEach kws X.env)).any (·.1.isNone) = false := by rfl) :
    PE X (.Call (.Name x p) [] kws pos) (tCallN 0 ks.length sp gV E tNil tk) := by
  refine ⟨fun pins s σ H Q I h => ?_⟩
  refine wpAny_Call_Name_kw (ld_glob I hg hm ?_ hdb)
  refine PySem.W.callWith_KW0 (h₀ := X.base) I.ok.mod.kin hk hall (thn (hkw.run pos pins s σ H _ I h) fun ws s2 ⟨zs, H2, I2, rz, l1, l2, q2⟩ => ⟨I2.kIn, ?_⟩) hpl
  rw [hks]
  exact run_fnN F hr hb hx I2 .nil rz rfl l2 q2
end
section
variable {Z : Zx} {ρ : Rho} {tks : TA} {ks : List RP} {C : List RP → RP → Prop} {r : RP} {E : XK} {gV : List V → List V → List V} {gR : List RP} {n : Nat}
theorem den_callN0 (hk : DenA Z tks ρ ks) (hn : ks.length = n) (hg : ∀ F zs, Vrs F zs ks → Vrs F (gV [] zs) gR) (hc : C gR r) : Den Z (tCallN 0 n (pureSp C) gV E tNil tks) ρ r := fun F H σ env ok Q q =>
  hk F H σ env ok _ fun zs F2 H2 g2 k2 x2 => ⟨rfl, by rw [x2.len]; exact hn, pure_call k2 (hg F2 zs x2) hc fun v F' H' g k rv => q v F' H' (g2.trans g) k rv⟩
end
end Dn
set_option linter.all false
/-! whole numbers' rows: what is made of them, ladders, one ladder for what rows make -/
namespace HM

def cel (row : List Int) (i : Nat) : Int := row.getD i 0
def lessRow (row base : List Int) (m : Int) : List Int := (row.zip base).map fun p => p.1 - m * p.2
theorem lessRow_len {row base : List Int} {m : Int} (h : row.length = base.length) : (lessRow row base m).length = row.length := by
  unfold lessRow
  rw [List.length_map, List.length_zip, h, Nat.min_self]
theorem cel_out {row : List Int} {i : Nat} (h : row.length ≤ i) : cel row i = 0 := by
  unfold cel
  rw [List.getD_eq_getElem?_getD, List.getElem?_eq_none h]
  rfl
theorem cel_in {row : List Int} {i : Nat} (h : i < row.length) : row[i]? = some (cel row i) := by
  unfold cel
  rw [List.getD_eq_getElem?_getD, List.getElem?_eq_getElem h]
  rfl
theorem cel_lessRow {row base : List Int} {m : Int} (h : row.length = base.length) (i : Nat) : cel (lessRow row base m) i = cel row i - m * cel base i := by
  by_cases hi : i < row.length
  · have h2 : i < base.length := by omega
    have hz : (row.zip base)[i]? = some (cel row i, cel base i) := by
      rw [List.getElem?_zip_eq_some]
      exact ⟨cel_in hi, cel_in h2⟩
    have e : (lessRow row base m)[i]? = some (cel row i - m * cel base i) := by
      unfold lessRow
      rw [List.getElem?_map, hz]
      rfl
    have h3 : i < (lessRow row base m).length := by rw [lessRow_len h]; exact hi
    have e2 := cel_in h3
    rw [e] at e2
    exact (Option.some.inj e2).symm
  · rw [cel_out (by rw [lessRow_len h]; omega), cel_out (by omega), cel_out (by omega)]
    simp
theorem row_ext {a b : List Int} (h : a.length = b.length) (e : ∀ i, i < a.length → cel a i = cel b i) : a = b := by
  apply List.ext_getElem? 
  intro i
  by_cases hi : i < a.length
  · rw [cel_in hi, cel_in (by omega), e i hi]
  · rw [List.getElem?_eq_none (by omega), List.getElem?_eq_none (by omega)]

/-! ### what rows make -/
abbrev Vec := Nat → Int
inductive Sp (rows : List (List Int)) : Vec → Prop
  | zero : Sp rows fun _ => 0
  | step {r : List Int} {v : Vec} (c : Int) : r ∈ rows → Sp rows v → Sp rows fun i => v i + c * cel r i
theorem Sp.eq {rows : List (List Int)} {v u : Vec} (h : Sp rows v) (e : ∀ i, v i = u i) : Sp rows u := by
  have : v = u := funext e
  rw [← this]
  exact h
theorem Sp.add {rows : List (List Int)} {v u : Vec} (h : Sp rows v) (k : Sp rows u) : Sp rows fun i => v i + u i := by
  induction k with
  | zero => exact h.eq fun i => by simp
  | step c m _ ih => exact (Sp.step c m ih).eq fun i => by dsimp only; omega
theorem Sp.smul {rows : List (List Int)} {v : Vec} (d : Int) (h : Sp rows v) : Sp rows fun i => d * v i := by
  induction h with
  | zero => exact Sp.zero.eq fun i => by simp
  | step c m _ ih => exact (Sp.step (d * c) m ih).eq fun i => by rw [Int.mul_add, Int.mul_assoc]
theorem Sp.sub {rows : List (List Int)} {v u : Vec} (h : Sp rows v) (k : Sp rows u) : Sp rows fun i => v i - u i := (h.add (k.smul (-1))).eq fun i => by omega
theorem Sp.mem {rows : List (List Int)} {r : List Int} (h : r ∈ rows) : Sp rows (cel r) := (Sp.step 1 h Sp.zero).eq fun i => by simp
theorem Sp.mono {rows rows' : List (List Int)} {v : Vec} (h : ∀ r ∈ rows, Sp rows' (cel r)) (k : Sp rows v) : Sp rows' v := by
  induction k with
  | zero => exact .zero
  | step c m _ ih => exact ih.add ((h _ m).smul c)
theorem Sp.sub_list {rows rows' : List (List Int)} {v : Vec} (h : ∀ r ∈ rows, r ∈ rows') (k : Sp rows v) : Sp rows' v := k.mono fun r m => .mem (h r m)
/-- what all rows have, closed under sums, has all that they make -/
theorem Sp.all {rows : List (List Int)} {P : Vec → Prop} (z : P fun _ => 0) (s : ∀ v u c, P v → P u → P fun i => v i + c * u i) (h : ∀ r ∈ rows, P (cel r)) {v : Vec} (k : Sp rows v) : P v := by
  induction k with
  | zero => exact z
  | step c m _ ih => exact s _ _ c ih (h _ m)
theorem Sp.zeroAt {rows : List (List Int)} {p : Nat} (h : ∀ r ∈ rows, cel r p = 0) {v : Vec} (k : Sp rows v) : v p = 0 := by
  refine Sp.all (P := fun v => v p = 0) rfl (fun v u c a b => ?_) h k
  show v p + c * u p = 0
  rw [a, b]; simp
theorem Sp.cons {h : List Int} {t : List (List Int)} {v : Vec} (k : Sp (h :: t) v) : ∃ c, Sp t fun i => v i - c * cel h i := by
  induction k with
  | zero => exact ⟨0, Sp.zero.eq fun i => by simp⟩
  | @step r v c m _ ih =>
    obtain ⟨d, ih⟩ := ih
    rcases List.mem_cons.mp m with e | e
    · subst e
      refine ⟨d + c, ih.eq fun i => ?_⟩
      dsimp only
      rw [Int.add_mul]; omega
    · exact ⟨d, (Sp.step c e ih).eq fun i => by dsimp only; omega⟩
theorem Sp.cons' {h : List Int} {t : List (List Int)} {v : Vec} {c : Int} (k : Sp t fun i => v i - c * cel h i) : Sp (h :: t) v :=
  (Sp.step c List.mem_cons_self (k.sub_list fun r m => List.mem_cons_of_mem _ m)).eq fun i => by omega
/-- they make the same -/
def Same (a b : List (List Int)) : Prop := ∀ v, Sp a v ↔ Sp b v
theorem Same.of {a b : List (List Int)} (h : ∀ r ∈ a, Sp b (cel r)) (k : ∀ r ∈ b, Sp a (cel r)) : Same a b := fun _ => ⟨fun z => z.mono h, fun z => z.mono k⟩
theorem Same.refl (a : List (List Int)) : Same a a := fun _ => Iff.rfl
theorem Same.symm {a b : List (List Int)} (h : Same a b) : Same b a := fun v => (h v).symm
theorem Same.trans {a b c : List (List Int)} (h : Same a b) (k : Same b c) : Same a c := fun v => (h v).trans (k v)
theorem Same.perm {a b : List (List Int)} (h : ∀ r, r ∈ a ↔ r ∈ b) : Same a b := .of (fun r m => .mem ((h r).mp m)) fun r m => .mem ((h r).mpr m)
theorem Same.app {a b c d : List (List Int)} (h : Same a b) (k : Same c d) : Same (a ++ c) (b ++ d) := by
  refine .of (fun r m => ?_) fun r m => ?_
  · rcases List.mem_append.mp m with q | q
    · exact ((h _).mp (.mem q)).sub_list fun _ z => List.mem_append_left _ z
    · exact ((k _).mp (.mem q)).sub_list fun _ z => List.mem_append_right _ z
  · rcases List.mem_append.mp m with q | q
    · exact ((h _).mpr (.mem q)).sub_list fun _ z => List.mem_append_left _ z
    · exact ((k _).mpr (.mem q)).sub_list fun _ z => List.mem_append_right _ z

/-! ### ladders -/
/-- heads with their places: from l on, each with noughts ahead, above 0 at its place; the ones ahead reduced by it -/
def Ech : Nat → List (List Int × Nat) → Prop
  | _, [] => True
  | l, (h, p) :: t => l ≤ p ∧ (∀ i, i < p → cel h i = 0) ∧ 0 < cel h p ∧ (∀ q ∈ t, 0 ≤ cel h q.2 ∧ cel h q.2 < cel q.1 q.2) ∧ Ech (p + 1) t
abbrev rws (E : List (List Int × Nat)) : List (List Int) := E.map Prod.fst
theorem Ech.low : ∀ {E : List (List Int × Nat)} {l : Nat}, Ech l E → ∀ q ∈ E, l ≤ q.2 ∧ (∀ i, i < q.2 → cel q.1 i = 0) ∧ 0 < cel q.1 q.2
  | [], _, _, q, m => by cases m
  | (h, p) :: t, l, ⟨a, b, c, d, e⟩, q, m => by
    rcases List.mem_cons.mp m with z | z
    · subst z
      exact ⟨a, b, c⟩
    · obtain ⟨x, y⟩ := e.low q z
      exact ⟨by omega, y⟩
theorem Ech.zeroBelow {E : List (List Int × Nat)} {l : Nat} (h : Ech l E) {i : Nat} (hi : i < l) {v : Vec} (k : Sp (rws E) v) : v i = 0 :=
  k.zeroAt fun r m => by
    obtain ⟨q, hq, rfl⟩ := List.mem_map.mp m
    obtain ⟨a, b, _⟩ := h.low q hq
    exact b i (by omega)
/-- what noughts at all coordinates below n a ladder makes with rows of noughts there is made of these -/
theorem Ech.drop {n : Nat} {left : List (List Int)} (hl : ∀ r ∈ left, ∀ i, i < n → cel r i = 0) : ∀ {E : List (List Int × Nat)} {l : Nat}, Ech l E → (∀ q ∈ E, q.2 < n) → ∀ {v : Vec}, Sp (rws E ++ left) v → (∀ i, i < n → v i = 0) → Sp left v
  | [], _, _, _, v, k, _ => k
  | (h, p) :: t, l, e, hp, v, k, z => by
    obtain ⟨a, b, c, d, e'⟩ := e
    obtain ⟨c0, k2⟩ := Sp.cons (h := h) (t := rws t ++ left) k
    have hpn : p < n := hp (h, p) List.mem_cons_self
    have zp : (fun i => v i - c0 * cel h i) p = 0 := k2.zeroAt fun r m => by
      rcases List.mem_append.mp m with q | q
      · obtain ⟨x, hx, rfl⟩ := List.mem_map.mp q
        obtain ⟨y1, y2, _⟩ := e'.low x hx
        exact y2 p (by omega)
      · exact hl r q p hpn
    have zp : v p - c0 * cel h p = 0 := zp
    rw [z p hpn] at zp
    have c00 : c0 = 0 := by
      rcases Int.mul_eq_zero.mp (show c0 * cel h p = 0 by omega) with q | q
      · exact q
      · omega
    subst c00
    exact Ech.drop hl e' (fun q m => hp q (List.mem_cons_of_mem _ m)) (k2.eq (u := v) fun i => by simp) z
/-- small at all places and made of a ladder: noughts -/
theorem Ech.small {n : Nat} : ∀ {E : List (List Int × Nat)} {l : Nat}, Ech l E → ∀ {v : Vec}, Sp (rws E) v → (∀ q ∈ E, -(cel q.1 q.2) < v q.2 ∧ v q.2 < cel q.1 q.2) → ∀ i, v i = 0
  | [], _, _, v, k, _ => fun i => k.zeroAt (fun r m => by cases m)
  | (h, p) :: t, l, e, v, k, z => by
    obtain ⟨a, b, c, d, e'⟩ := e
    obtain ⟨c0, k2⟩ := Sp.cons (h := h) (t := rws t) k
    have zp : v p - c0 * cel h p = 0 := e'.zeroBelow (i := p) (by omega) k2
    obtain ⟨z1, z2⟩ := z (h, p) List.mem_cons_self
    have z1 : -(cel h p) < v p := z1
    have z2 : v p < cel h p := z2
    have e1 : v p = c0 * cel h p := by omega
    rw [e1] at z1 z2
    have c00 : c0 = 0 := by
      have l1 : -1 < c0 := by
        apply Int.lt_of_mul_lt_mul_right (a := cel h p) _ (by omega)
        omega
      have l2 : c0 < 1 := by
        apply Int.lt_of_mul_lt_mul_right (a := cel h p) _ (by omega)
        omega
      omega
    subst c00
    exact Ech.small (n := n) e' (k2.eq (u := v) fun i => by simp) fun q m => z q (List.mem_cons_of_mem _ m)
/-- one ladder for what rows make -/
theorem Ech.one {n : Nat} : ∀ {E G : List (List Int × Nat)} {l m : Nat}, Ech l E → Ech m G → (∀ q ∈ E, q.1.length = n) → (∀ q ∈ G, q.1.length = n) → Same (rws E) (rws G) → E = G
  | [], [], _, _, _, _, _, _, _ => rfl
  | [], (g, r) :: u, _, _, _, ⟨_, _, c, _, _⟩, _, _, s => by
    have h := ((s (cel g)).mpr (.mem (by simp))).zeroAt (p := r) (fun r m => by cases m)
    omega
  | (h, p) :: t, [], _, _, ⟨_, _, c, _, _⟩, _, _, _, s => by
    have h := ((s (cel h)).mp (.mem (by simp))).zeroAt (p := p) (fun r m => by cases m)
    omega
  | (h, p) :: t, (g, r) :: u, l, m, e1, e2, l1, l2, s => by
    obtain ⟨a1, b1, c1, d1, t1⟩ := id e1
    obtain ⟨a2, b2, c2, d2, t2⟩ := id e2
    -- the same place
    have hs : Sp (rws ((g, r) :: u)) (cel h) := (s _).mp (.mem (by simp))
    have gs : Sp (rws ((h, p) :: t)) (cel g) := (s _).mpr (.mem (by simp))
    have pr : p = r := by
      have x1 : ¬ p < r := fun q => by
        have : cel h p = 0 := hs.zeroAt fun y m => by
          obtain ⟨z, hz, rfl⟩ := List.mem_map.mp m
          rcases List.mem_cons.mp hz with w | w
          · subst w; exact b2 p q
          · obtain ⟨w1, w2, _⟩ := t2.low z w
            exact w2 p (by omega)
        omega
      have x2 : ¬ r < p := fun q => by
        have : cel g r = 0 := gs.zeroAt fun y m => by
          obtain ⟨z, hz, rfl⟩ := List.mem_map.mp m
          rcases List.mem_cons.mp hz with w | w
          · subst w; exact b1 r q
          · obtain ⟨w1, w2, _⟩ := t1.low z w
            exact w2 r (by omega)
        omega
      omega
    subst pr
    -- the same head
    obtain ⟨x, hx⟩ := Sp.cons hs
    obtain ⟨y, hy⟩ := Sp.cons gs
    have ex : cel h p - x * cel g p = 0 := t2.zeroBelow (i := p) (by omega) hx
    have ey : cel g p - y * cel h p = 0 := t1.zeroBelow (i := p) (by omega) hy
    have hp1 : 0 < x := by
      rcases Int.lt_or_le 0 x with q | q
      · exact q
      · have : x * cel g p ≤ 0 := Int.mul_nonpos_of_nonpos_of_nonneg q (by omega)
        omega
    have hp2 : 0 < y := by
      rcases Int.lt_or_le 0 y with q | q
      · exact q
      · have : y * cel h p ≤ 0 := Int.mul_nonpos_of_nonpos_of_nonneg q (by omega)
        omega
    have g1 : cel g p ≤ x * cel g p := by
      have := Int.mul_le_mul_of_nonneg_right (show (1 : Int) ≤ x by omega) (show 0 ≤ cel g p by omega)
      omega
    have g2 : cel h p ≤ y * cel h p := by
      have := Int.mul_le_mul_of_nonneg_right (show (1 : Int) ≤ y by omega) (show 0 ≤ cel h p by omega)
      omega
    have eh : cel h p = cel g p := by omega
    -- the rest makes the same
    have rest : Same (rws t) (rws u) := fun v => by
      constructor
      · intro k
        have v0 : v p = 0 := t1.zeroBelow (i := p) (by omega) k
        obtain ⟨d, hd⟩ := Sp.cons ((s v).mp (k.sub_list fun r m => List.mem_cons_of_mem _ m))
        have hd0 : v p - d * cel g p = 0 := t2.zeroBelow (i := p) (by omega) hd
        have d0 : d = 0 := by
          rcases Int.mul_eq_zero.mp (show d * cel g p = 0 by omega) with q | q
          · exact q
          · omega
        subst d0
        exact hd.eq fun i => by simp
      · intro k
        have v0 : v p = 0 := t2.zeroBelow (i := p) (by omega) k
        obtain ⟨d, hd⟩ := Sp.cons ((s v).mpr (k.sub_list fun r m => List.mem_cons_of_mem _ m))
        have hd0 : v p - d * cel h p = 0 := t1.zeroBelow (i := p) (by omega) hd
        have d0 : d = 0 := by
          rcases Int.mul_eq_zero.mp (show d * cel h p = 0 by omega) with q | q
          · exact q
          · omega
        subst d0
        exact hd.eq fun i => by simp
    have tu : t = u := Ech.one (n := n) t1 t2 (fun q m => l1 q (List.mem_cons_of_mem _ m)) (fun q m => l2 q (List.mem_cons_of_mem _ m)) rest
    subst tu
    -- h - g is made of the rest, and small
    have k : Sp (rws t) fun i => cel h i - cel g i := by
      have x1 : x = 1 := by
        have : x * cel g p = 1 * cel g p := by omega
        exact Int.eq_of_mul_eq_mul_right (by omega) this
      subst x1
      exact hx.eq fun i => by dsimp only; omega
    have z := Ech.small (n := n) t1 k fun q m => by
      obtain ⟨w1, w2⟩ := d1 q m
      obtain ⟨w3, w4⟩ := d2 q m
      show -(cel q.1 q.2) < cel h q.2 - cel g q.2 ∧ cel h q.2 - cel g q.2 < cel q.1 q.2
      exact ⟨by omega, by omega⟩
    have lh : h.length = n := l1 (h, p) List.mem_cons_self
    have lg : g.length = n := l2 (g, p) List.mem_cons_self
    have hg : h = g := row_ext (by rw [lh, lg]) fun i _ => by
      have z1 : cel h i - cel g i = 0 := z i
      omega
    rw [hg]
end HM
set_option linter.all false
set_option maxHeartbeats 1000000
/-! the program's own steps: least_at, alone_at, laddered as functions, and what holds of them -/
namespace HM

theorem cel_getD_mem {rows : List (List Int)} {i : Nat} (h : i < rows.length) : rows.getD i [] ∈ rows := by
  rw [List.getD_eq_getElem?_getD, List.getElem?_eq_getElem h]
  exact List.getElem_mem h
/-! ### least_at -/
def leastF (rows : List (List Int)) (p : Nat) (found : Nat) (x : List Int × Nat) : Nat := if (cel x.1 p).natAbs < (cel (rows.getD found []) p).natAbs then x.2 else found
def leastAt (rows : List (List Int)) (p : Nat) : Nat := rows.zipIdx.foldl (leastF rows p) 0
theorem least_fold {rows : List (List Int)} {p : Nat} : ∀ (l : List (List Int × Nat)) (a : Nat), a < rows.length → (∀ x ∈ l, rows[x.2]? = some x.1) →
    l.foldl (leastF rows p) a < rows.length ∧ (cel (rows.getD (l.foldl (leastF rows p) a) []) p).natAbs ≤ (cel (rows.getD a []) p).natAbs ∧ ∀ x ∈ l, (cel (rows.getD (l.foldl (leastF rows p) a) []) p).natAbs ≤ (cel x.1 p).natAbs
  | [], a, h, _ => ⟨h, Nat.le_refl _, fun _ m => by cases m⟩
  | x :: l, a, h, hx => by
    have hx0 := hx x List.mem_cons_self
    have ex : rows.getD x.2 [] = x.1 := by rw [List.getD_eq_getElem?_getD, hx0]; rfl
    have hl : x.2 < rows.length := (List.getElem?_eq_some_iff.mp hx0).1
    show (l.foldl (leastF rows p) (leastF rows p a x) < rows.length ∧ _)
    have hb : leastF rows p a x < rows.length := by
      unfold leastF
      split
      · exact hl
      · exact h
    obtain ⟨i1, i2, i3⟩ := least_fold l (leastF rows p a x) hb fun y m => hx y (List.mem_cons_of_mem _ m)
    have b1 : (cel (rows.getD (leastF rows p a x) []) p).natAbs ≤ (cel (rows.getD a []) p).natAbs ∧ (cel (rows.getD (leastF rows p a x) []) p).natAbs ≤ (cel x.1 p).natAbs := by
      unfold leastF
      split
      · rename_i q
        rw [ex]
        exact ⟨Nat.le_of_lt q, Nat.le_refl _⟩
      · rename_i q
        exact ⟨Nat.le_refl _, by omega⟩
    refine ⟨i1, Nat.le_trans i2 b1.1, fun y m => ?_⟩
    rcases List.mem_cons.mp m with e | e
    · subst e
      exact Nat.le_trans i2 b1.2
    · exact i3 y e
theorem zipIdx_get {rows : List (List Int)} {x : List Int × Nat} (h : x ∈ rows.zipIdx) : rows[x.2]? = some x.1 := List.mem_zipIdx_iff_getElem?.mp h
theorem least_ok {rows : List (List Int)} {p : Nat} (h : rows ≠ []) : leastAt rows p < rows.length ∧ ∀ r ∈ rows, (cel (rows.getD (leastAt rows p) []) p).natAbs ≤ (cel r p).natAbs := by
  have h0 : 0 < rows.length := List.length_pos_iff.mpr h
  obtain ⟨i1, _, i3⟩ := least_fold (p := p) rows.zipIdx 0 h0 fun x m => zipIdx_get m
  refine ⟨i1, fun r m => ?_⟩
  obtain ⟨j, hj⟩ := List.mem_iff_getElem?.mp m
  exact i3 (r, j) (List.mem_zipIdx_iff_getElem?.mpr hj)

/-! ### alone_at -/
def red (p : Nat) (base row : List Int) : List Int := lessRow row base ((cel row p).fdiv (cel base p))
def baseOf (p : Nat) (s : List (List Int)) : List Int := s.getD (leastAt s p) []
def restOf (p : Nat) (s : List (List Int)) : List (List Int) := s.take (leastAt s p) ++ s.drop (leastAt s p + 1)
def lateOf (p : Nat) (s : List (List Int)) : List (List Int) := (restOf p s).map (red p (baseOf p s))
def stepS (p : Nat) (s : List (List Int)) : List (List Int) := baseOf p s :: (lateOf p s).filter fun r => !decide (cel r p = 0)
def stepO (p : Nat) (s : List (List Int)) : List (List Int) := (lateOf p s).filter fun r => decide (cel r p = 0)
def mu (p : Nat) (s : List (List Int)) : Nat := (cel (baseOf p s) p).natAbs
def aloneGo (p : Nat) : Nat → List (List Int) → List (List Int) → List (List Int) × List (List Int)
  | 0, s, o => (s, o)
  | f + 1, s, o => if s.length ≤ 1 then (s, o) else aloneGo p f (stepS p s) (o ++ stepO p s)
def aloneAt (rows : List (List Int)) (p : Nat) : List Int × List (List Int) :=
  let r := aloneGo p (mu p rows) rows []
  (if 0 < cel (r.1.getD 0 []) p then r.1.getD 0 [] else (r.1.getD 0 []).map fun x => 0 - x, r.2)
theorem rest_mem {p : Nat} {s : List (List Int)} (h : s ≠ []) {r : List Int} : r ∈ s ↔ r = baseOf p s ∨ r ∈ restOf p s := by
  have hl := (least_ok (p := p) h).1
  have e : s = s.take (leastAt s p) ++ s.drop (leastAt s p) := (List.take_append_drop _ _).symm
  have e2 : s.drop (leastAt s p) = s[leastAt s p] :: s.drop (leastAt s p + 1) := List.drop_eq_getElem_cons hl
  have eb : baseOf p s = s[leastAt s p] := by
    unfold baseOf
    rw [List.getD_eq_getElem?_getD, List.getElem?_eq_getElem hl]
    rfl
  have e3 : s = s.take (leastAt s p) ++ baseOf p s :: s.drop (leastAt s p + 1) := by
    rw [eb, ← e2]
    exact e
  unfold restOf
  constructor
  · intro m
    rw [e3] at m
    rcases List.mem_append.mp m with q | q
    · exact .inr (List.mem_append_left _ q)
    · rcases List.mem_cons.mp q with z | z
      · exact .inl z
      · exact .inr (List.mem_append_right _ z)
  · intro m
    rw [e3]
    rcases m with q | q
    · rw [q]
      exact List.mem_append_right _ List.mem_cons_self
    · rcases List.mem_append.mp q with z | z
      · exact List.mem_append_left _ z
      · exact List.mem_append_right _ (List.mem_cons_of_mem _ z)
theorem rest_len {p : Nat} {s : List (List Int)} (h : s ≠ []) : (restOf p s).length + 1 = s.length := by
  have hl := (least_ok (p := p) h).1
  unfold restOf
  rw [List.length_append, List.length_take, List.length_drop]
  omega
theorem step_len {p : Nat} {s : List (List Int)} (h : s ≠ []) : (stepS p s).length + (stepO p s).length = s.length := by
  have l1 := rest_len (p := p) h
  unfold stepS stepO
  have l2 : ((lateOf p s).filter fun r => decide (cel r p = 0)).length + ((lateOf p s).filter fun r => !decide (cel r p = 0)).length = (lateOf p s).length := by
    generalize lateOf p s = l
    induction l with
    | nil => rfl
    | cons a l ih =>
      rw [List.filter_cons, List.filter_cons]
      cases decide (cel a p = 0) <;> simp <;> omega
  have l3 : (lateOf p s).length = (restOf p s).length := by unfold lateOf; rw [List.length_map]
  rw [List.length_cons]
  omega
/-- all are n long -/
def Len (n : Nat) (s : List (List Int)) : Prop := ∀ r ∈ s, r.length = n
theorem fmod_sub (x b : Int) : x - (x.fdiv b) * b = x.fmod b := by
  have := Int.mul_fdiv_add_fmod x b
  rw [Int.mul_comm] at this
  omega
theorem red_at {p n : Nat} {base row : List Int} (h1 : base.length = n) (h2 : row.length = n) : cel (red p base row) p = (cel row p).fmod (cel base p) := by
  unfold red
  rw [cel_lessRow (by omega), fmod_sub]
theorem red_len {p n : Nat} {base row : List Int} (h1 : base.length = n) (h2 : row.length = n) : (red p base row).length = n := by
  unfold red
  rw [lessRow_len (by omega), h2]
theorem fmod_np (x : Int) {b : Int} (h : b < 0) : x.fmod b ≤ 0 := by
  have e := Int.neg_fmod_neg x b
  have k := Int.fmod_nonneg_of_pos (-x) (show 0 < -b by omega)
  omega
theorem fmod_gt (x : Int) {b : Int} (h : b < 0) : b < x.fmod b := by
  have e := Int.neg_fmod_neg x b
  have k := Int.fmod_lt_of_pos (-x) (show 0 < -b by omega)
  omega
/-- |x fmod b| < |b| -/
theorem fmod_small {x b : Int} (hb : b ≠ 0) : (x.fmod b).natAbs < b.natAbs := by
  rcases Int.lt_or_gt_of_ne hb with q | q
  · have h1 := fmod_np x q
    have h2 := fmod_gt x q
    omega
  · have h1 := Int.fmod_nonneg_of_pos x q
    have h2 := Int.fmod_lt_of_pos x q
    omega
theorem step_same {p n : Nat} {s : List (List Int)} (h : s ≠ []) (hl : Len n s) : Same s (stepS p s ++ stepO p s) := by
  have hb : (baseOf p s).length = n := hl _ ((rest_mem h).mpr (.inl rfl))
  have late : ∀ r ∈ lateOf p s, r ∈ stepS p s ++ stepO p s := fun r m => by
    by_cases q : cel r p = 0
    · exact List.mem_append_right _ (List.mem_filter.mpr ⟨m, by simp [q]⟩)
    · exact List.mem_append_left _ (List.mem_cons_of_mem _ (List.mem_filter.mpr ⟨m, by simp [q]⟩))
  refine .of (fun r m => ?_) fun r m => ?_
  · rcases (rest_mem (p := p) h).mp m with q | q
    · rw [q]
      exact .mem (List.mem_append_left _ List.mem_cons_self)
    · have hr := hl r m
      have m2 : red p (baseOf p s) r ∈ stepS p s ++ stepO p s := late _ (List.mem_map_of_mem q)
      have mb : baseOf p s ∈ stepS p s ++ stepO p s := List.mem_append_left _ List.mem_cons_self
      refine ((Sp.mem m2).add ((Sp.mem mb).smul ((cel r p).fdiv (cel (baseOf p s) p)))).eq fun i => ?_
      unfold red
      rw [cel_lessRow (by omega)]
      omega
  · have key : r = baseOf p s ∨ r ∈ lateOf p s := by
      rcases List.mem_append.mp m with q | q
      · rcases List.mem_cons.mp q with z | z
        · exact .inl z
        · exact .inr (List.mem_filter.mp z).1
      · exact .inr (List.mem_filter.mp q).1
    rcases key with q | q
    · rw [q]
      exact .mem ((rest_mem h).mpr (.inl rfl))
    · obtain ⟨r0, m0, e⟩ := List.mem_map.mp q
      subst e
      have ms : r0 ∈ s := (rest_mem h).mpr (.inr m0)
      have hr := hl r0 ms
      have mb : baseOf p s ∈ s := (rest_mem h).mpr (.inl rfl)
      refine ((Sp.mem ms).sub ((Sp.mem mb).smul ((cel r0 p).fdiv (cel (baseOf p s) p)))).eq fun i => ?_
      unfold red
      rw [cel_lessRow (by omega)]
theorem step_Len {p n : Nat} {s : List (List Int)} (h : s ≠ []) (hl : Len n s) : Len n (stepS p s) ∧ Len n (stepO p s) := by
  have hb : (baseOf p s).length = n := hl _ ((rest_mem h).mpr (.inl rfl))
  have late : ∀ r ∈ lateOf p s, r.length = n := fun r m => by
    obtain ⟨r0, m0, e⟩ := List.mem_map.mp m
    subst e
    exact red_len hb (hl r0 ((rest_mem h).mpr (.inr m0)))
  refine ⟨fun r m => ?_, fun r m => late r (List.mem_filter.mp m).1⟩
  rcases List.mem_cons.mp m with q | q
  · rw [q]; exact hb
  · exact late r (List.mem_filter.mp q).1
def NZ (p : Nat) (s : List (List Int)) : Prop := ∀ r ∈ s, cel r p ≠ 0
theorem step_NZ {p : Nat} {s : List (List Int)} (h : s ≠ []) (hz : NZ p s) : NZ p (stepS p s) ∧ ∀ r ∈ stepO p s, cel r p = 0 := by
  refine ⟨fun r m => ?_, fun r m => by simpa using (List.mem_filter.mp m).2⟩
  rcases List.mem_cons.mp m with q | q
  · rw [q]; exact hz _ ((rest_mem h).mpr (.inl rfl))
  · simpa using (List.mem_filter.mp q).2
theorem step_ne {p : Nat} {s : List (List Int)} : stepS p s ≠ [] := by unfold stepS; exact List.cons_ne_nil _ _
theorem mu_pos {p : Nat} {s : List (List Int)} (h : s ≠ []) (hz : NZ p s) : 0 < mu p s := by
  have := hz _ ((rest_mem (p := p) h).mpr (.inl rfl))
  unfold mu
  omega
theorem step_mu {p n : Nat} {s : List (List Int)} (h : s ≠ []) (hl : Len n s) (hz : NZ p s) (h2 : 1 < (stepS p s).length) : mu p (stepS p s) < mu p s := by
  have hb : (baseOf p s).length = n := hl _ ((rest_mem h).mpr (.inl rfl))
  have nb : cel (baseOf p s) p ≠ 0 := hz _ ((rest_mem h).mpr (.inl rfl))
  unfold stepS at h2
  obtain ⟨r, m⟩ : ∃ r, r ∈ (lateOf p s).filter fun r => !decide (cel r p = 0) := by
    cases q : (lateOf p s).filter fun r => !decide (cel r p = 0) with
    | nil => rw [q] at h2; simp at h2
    | cons a l => exact ⟨a, List.mem_cons_self⟩
  have m1 := (List.mem_filter.mp m).1
  obtain ⟨r0, m0, e⟩ := List.mem_map.mp m1
  have ms : r ∈ stepS p s := List.mem_cons_of_mem _ m
  have l1 := (least_ok (p := p) (step_ne (s := s))).2 r ms
  have l2 : (cel r p).natAbs < (cel (baseOf p s) p).natAbs := by
    rw [← e, red_at hb (hl r0 ((rest_mem h).mpr (.inr m0)))]
    exact fmod_small nb
  unfold mu
  show (cel (baseOf p (stepS p s)) p).natAbs < _
  unfold baseOf at l1 ⊢
  unfold baseOf at l2
  omega

/-! sizes -/
def Bd (N : Nat) (s : List (List Int)) : Prop := ∀ r ∈ s, ∀ i, (cel r i).natAbs ≤ N
theorem Bd.mono {N N' : Nat} {s : List (List Int)} (h : Bd N s) (k : N ≤ N') : Bd N' s := fun r m i => Nat.le_trans (h r m i) k
/-- all of one sign at p -/
def Sg (p : Nat) (s : List (List Int)) : Prop := (∀ r ∈ s, 0 < cel r p) ∨ ∀ r ∈ s, cel r p < 0
/-- behind the first round -/
structure Lt (p M : Nat) (s o : List (List Int)) : Prop where
  ex : ∃ A B N : Nat, 0 < B ∧ B ≤ A ∧ N * A * B ≤ 6 * M ^ 3 ∧ Bd N (s ++ o) ∧ Sg p s ∧ (∃ f t, s = f :: t ∧ (cel f p).natAbs = B ∧ ∀ r ∈ t, (cel r p).natAbs < B ∧ (cel r p).natAbs + B ≤ A)
theorem red_bd {p n N Q : Nat} {base row : List Int} (h1 : base.length = n) (h2 : row.length = n) (hb : ∀ i, (cel base i).natAbs ≤ N) (hr : ∀ i, (cel row i).natAbs ≤ N) (hq : ((cel row p).fdiv (cel base p)).natAbs + 1 ≤ Q) (i : Nat) : (cel (red p base row) i).natAbs ≤ N * Q := by
  unfold red
  rw [cel_lessRow (by omega)]
  generalize (cel row p).fdiv (cel base p) = q at hq ⊢
  have a1 := hr i
  have a2 : (q * cel base i).natAbs ≤ q.natAbs * N := by
    rw [Int.natAbs_mul]
    exact Nat.mul_le_mul_left _ (hb i)
  have a3 : N * (q.natAbs + 1) ≤ N * Q := Nat.mul_le_mul_left _ hq
  have a4 : N * (q.natAbs + 1) = q.natAbs * N + N := by rw [Nat.mul_add, Nat.mul_comm, Nat.mul_one]
  omega
theorem div_up {a b Q : Nat} (hb : 0 < b) (h : a * b ≤ Q) : a ≤ Q / b := (Nat.le_div_iff_mul_le hb).mpr h
/-- x = q b + x', of one sign -/
theorem fdiv_sg {x b : Int} (h : (0 < x ∧ 0 < b) ∨ (x < 0 ∧ b < 0)) : (x.fdiv b).natAbs * b.natAbs + (x.fmod b).natAbs = x.natAbs ∧ (b.natAbs ≤ x.natAbs → 1 ≤ (x.fdiv b).natAbs) ∧ ((0 < b → 0 ≤ x.fmod b) ∧ (b < 0 → x.fmod b ≤ 0)) := by
  have e := Int.mul_fdiv_add_fmod x b
  rcases h with ⟨hx, hb⟩ | ⟨hx, hb⟩
  · have h1 := Int.fmod_nonneg_of_pos x hb
    have h2 := Int.fmod_lt_of_pos x hb
    have hq : 0 ≤ x.fdiv b := by rw [Int.fdiv_eq_ediv_of_nonneg _ (by omega)]; exact Int.ediv_nonneg (by omega) (by omega)
    have en : (b * x.fdiv b).natAbs = (x.fdiv b).natAbs * b.natAbs := by rw [Int.natAbs_mul, Nat.mul_comm]
    have nn : 0 ≤ b * x.fdiv b := Int.mul_nonneg (by omega) hq
    refine ⟨by omega, fun z => ?_, fun _ => h1, fun q => by omega⟩
    rcases Int.lt_or_le 0 (x.fdiv b) with q | q
    · omega
    · have : x.fdiv b = 0 := by omega
      rw [this] at e
      simp at e
      omega
  · have h1 := fmod_np x hb
    have h2 := fmod_gt x hb
    have hq : 0 ≤ x.fdiv b := by
      rcases Int.lt_or_le (x.fdiv b) 0 with q | q
      · have z : 0 < b * x.fdiv b := Int.mul_pos_of_neg_of_neg hb q
        have z2 : -b ≤ b * x.fdiv b := by
          have z3 : 0 ≤ b * (x.fdiv b + 1) := Int.mul_nonneg_of_nonpos_of_nonpos (by omega) (by omega)
          rw [Int.mul_add] at z3
          omega
        omega
      · exact q
    have en : (b * x.fdiv b).natAbs = (x.fdiv b).natAbs * b.natAbs := by rw [Int.natAbs_mul, Nat.mul_comm]
    have nn : b * x.fdiv b ≤ 0 := Int.mul_nonpos_of_nonpos_of_nonneg (by omega) hq
    refine ⟨by omega, fun z => ?_, fun q => by omega, fun _ => h1⟩
    rcases Int.lt_or_le 0 (x.fdiv b) with q | q
    · omega
    · have : x.fdiv b = 0 := by omega
      rw [this] at e
      simp at e
      omega
/-- of any signs -/
theorem fdiv_any {x b : Int} (hb : b ≠ 0) : (x.fdiv b).natAbs * b.natAbs ≤ x.natAbs + b.natAbs := by
  have e := Int.mul_fdiv_add_fmod x b
  have h := fmod_small (x := x) hb
  have en : (b * x.fdiv b).natAbs = (x.fdiv b).natAbs * b.natAbs := by rw [Int.natAbs_mul, Nat.mul_comm]
  omega
theorem mem_step {p : Nat} {s : List (List Int)} {r : List Int} (m : r ∈ stepS p s ++ stepO p s) : r = baseOf p s ∨ ∃ r0 ∈ restOf p s, r = red p (baseOf p s) r0 := by
  have key : r = baseOf p s ∨ r ∈ lateOf p s := by
    rcases List.mem_append.mp m with q | q
    · rcases List.mem_cons.mp q with z | z
      · exact .inl z
      · exact .inr (List.mem_filter.mp z).1
    · exact .inr (List.mem_filter.mp q).1
  rcases key with q | q
  · exact .inl q
  · obtain ⟨r0, m0, e⟩ := List.mem_map.mp q
    exact .inr ⟨r0, m0, e.symm⟩
theorem Lt.first {p n M : Nat} {s : List (List Int)} (h : s ≠ []) (hl : Len n s) (hz : NZ p s) (hb : Bd M s) : Lt p M (stepS p s) (stepO p s) := by
  have mb : baseOf p s ∈ s := (rest_mem h).mpr (.inl rfl)
  have lb := hl _ mb
  have nb := hz _ mb
  have least := (least_ok (p := p) h).2
  have bM := hb _ mb p
  generalize eb : (cel (baseOf p s) p).natAbs = b
  have b0 : 0 < b := by omega
  have hQ : ∀ r ∈ restOf p s, ((cel r p).fdiv (cel (baseOf p s) p)).natAbs + 1 ≤ 3 * M / b := fun r m => by
    have ms : r ∈ s := (rest_mem h).mpr (.inr m)
    have a1 := fdiv_any (x := cel r p) nb
    have a2 := hb r ms p
    rw [eb] at a1
    refine div_up b0 ?_
    rw [Nat.add_mul]
    have l1 : b ≤ (cel r p).natAbs := by
      have := least r ms
      show b ≤ _
      rw [← eb]
      exact this
    omega
  have hQ1 : 1 ≤ 3 * M / b := div_up b0 (by omega)
  refine ⟨2 * b, b, M * (3 * M / b), b0, by omega, ?_, fun r m i => ?_, ?_, baseOf p s, _, rfl, eb, fun r m => ?_⟩
  · have e1 : 3 * M / b * b ≤ 3 * M := Nat.div_mul_le_self _ _
    have e2 : M * (3 * M / b) * (2 * b) * b = M * (3 * M / b * b) * (2 * b) := by
      simp only [Nat.mul_assoc, Nat.mul_comm, Nat.mul_left_comm]
    rw [e2]
    have e3 : M * (3 * M / b * b) * (2 * b) ≤ M * (3 * M) * (2 * M) := Nat.mul_le_mul (Nat.mul_le_mul_left _ e1) (by omega)
    refine Nat.le_trans e3 (Nat.le_of_eq ?_)
    rw [Nat.pow_succ, Nat.pow_succ, Nat.pow_one]
    simp only [Nat.mul_assoc, Nat.mul_comm, Nat.mul_left_comm]
  · rcases mem_step m with q | ⟨r0, m0, q⟩
    · rw [q]
      exact Nat.le_trans (hb _ mb i) (Nat.le_mul_of_pos_right _ hQ1)
    · rw [q]
      have ms : r0 ∈ s := (rest_mem h).mpr (.inr m0)
      exact red_bd lb (hl r0 ms) (hb _ mb) (hb r0 ms) (hQ r0 m0) i
  · rcases Int.lt_or_gt_of_ne nb with q | q
    · refine .inr fun r m => ?_
      rcases List.mem_cons.mp m with z | z
      · rw [z]; exact q
      · obtain ⟨z1, z2⟩ := List.mem_filter.mp z
        obtain ⟨r0, m0, e⟩ := List.mem_map.mp z1
        have z2 : cel r p ≠ 0 := by simpa using z2
        have e2 : cel r p = (cel r0 p).fmod (cel (baseOf p s) p) := by rw [← e, red_at lb (hl r0 ((rest_mem h).mpr (.inr m0)))]
        have := fmod_np (cel r0 p) q
        omega
    · refine .inl fun r m => ?_
      rcases List.mem_cons.mp m with z | z
      · rw [z]; exact q
      · obtain ⟨z1, z2⟩ := List.mem_filter.mp z
        obtain ⟨r0, m0, e⟩ := List.mem_map.mp z1
        have z2 : cel r p ≠ 0 := by simpa using z2
        have e2 : cel r p = (cel r0 p).fmod (cel (baseOf p s) p) := by rw [← e, red_at lb (hl r0 ((rest_mem h).mpr (.inr m0)))]
        have := Int.fmod_nonneg_of_pos (cel r0 p) q
        omega
  · obtain ⟨z1, _⟩ := List.mem_filter.mp m
    obtain ⟨r0, m0, e⟩ := List.mem_map.mp z1
    have e2 : cel r p = (cel r0 p).fmod (cel (baseOf p s) p) := by rw [← e, red_at lb (hl r0 ((rest_mem h).mpr (.inr m0)))]
    have := fmod_small (x := cel r0 p) nb
    rw [e2]
    omega
theorem Lt.next {p n M : Nat} {s o : List (List Int)} (k : Lt p M s o) (hl : Len n s) (hz : NZ p s) (h2 : 1 < s.length) : Lt p M (stepS p s) (o ++ stepO p s) := by
  obtain ⟨A, B, N, B0, BA, hN, hb, hs, f, t, es, ef, ht⟩ := k
  have h : s ≠ [] := by rw [es]; exact List.cons_ne_nil _ _
  have mb : baseOf p s ∈ s := (rest_mem h).mpr (.inl rfl)
  have lb := hl _ mb
  have nb := hz _ mb
  have least := (least_ok (p := p) h).2
  have hbs : Bd N s := fun r m => hb r (List.mem_append_left _ m)
  generalize eb : (cel (baseOf p s) p).natAbs = b
  have b0 : 0 < b := by omega
  have least' : ∀ r ∈ s, b ≤ (cel r p).natAbs := fun r m => by rw [← eb]; exact least r m
  -- the base is not the first one
  obtain ⟨g, hg⟩ : ∃ g, g ∈ t := by
    cases q : t with
    | nil => rw [es, q] at h2; simp at h2
    | cons a l => exact ⟨a, List.mem_cons_self⟩
  have bB : b < B := Nat.lt_of_le_of_lt (least' g (by rw [es]; exact List.mem_cons_of_mem _ hg)) (ht g hg).1
  have hbt : b + B ≤ A := by
    have mb2 : baseOf p s ∈ f :: t := by rw [← es]; exact mb
    rcases List.mem_cons.mp mb2 with q | q
    · rw [q] at eb
      omega
    · have := (ht _ q).2
      rw [eb] at this
      exact this
  have hxB : ∀ r ∈ s, (cel r p).natAbs ≤ B := fun r m => by
    rw [es] at m
    rcases List.mem_cons.mp m with q | q
    · rw [q]; omega
    · exact Nat.le_of_lt (ht r q).1
  have hxA : ∀ r ∈ s, (cel r p).natAbs + b ≤ A := fun r m => by
    have := hxB r m
    omega
  have sg : ∀ r ∈ s, (0 < cel r p ∧ 0 < cel (baseOf p s) p) ∨ (cel r p < 0 ∧ cel (baseOf p s) p < 0) := fun r m => by
    rcases hs with q | q
    · exact .inl ⟨q r m, q _ mb⟩
    · exact .inr ⟨q r m, q _ mb⟩
  have hQ : ∀ r ∈ restOf p s, ((cel r p).fdiv (cel (baseOf p s) p)).natAbs + 1 ≤ A / b := fun r m => by
    have ms : r ∈ s := (rest_mem h).mpr (.inr m)
    obtain ⟨a1, _, _⟩ := fdiv_sg (sg r ms)
    rw [eb] at a1
    refine div_up b0 ?_
    rw [Nat.add_mul]
    have := hxA r ms
    omega
  have hQ1 : 1 ≤ A / b := div_up b0 (by omega)
  refine ⟨B, b, N * (A / b), b0, Nat.le_of_lt bB, ?_, fun r m i => ?_, ?_, baseOf p s, _, rfl, eb, fun r m => ?_⟩
  · have e1 : A / b * b ≤ A := Nat.div_mul_le_self _ _
    have e2 : N * (A / b) * B * b = N * (A / b * b) * B := by simp only [Nat.mul_assoc, Nat.mul_comm, Nat.mul_left_comm]
    rw [e2]
    exact Nat.le_trans (Nat.mul_le_mul_right _ (Nat.mul_le_mul_left _ e1)) hN
  · have key : r ∈ o ∨ r ∈ stepS p s ++ stepO p s := by
      rcases List.mem_append.mp m with q | q
      · exact .inr (List.mem_append_left _ q)
      · rcases List.mem_append.mp q with z | z
        · exact .inl z
        · exact .inr (List.mem_append_right _ z)
    rcases key with q | q
    · exact Nat.le_trans (hb r (List.mem_append_right _ q) i) (Nat.le_mul_of_pos_right _ hQ1)
    · rcases mem_step q with z | ⟨r0, m0, z⟩
      · rw [z]
        exact Nat.le_trans (hbs _ mb i) (Nat.le_mul_of_pos_right _ hQ1)
      · rw [z]
        have ms : r0 ∈ s := (rest_mem h).mpr (.inr m0)
        exact red_bd lb (hl r0 ms) (hbs _ mb) (hbs r0 ms) (hQ r0 m0) i
  · rcases hs with q | q
    · refine .inl fun r m => ?_
      rcases List.mem_cons.mp m with z | z
      · rw [z]; exact q _ mb
      · obtain ⟨z1, z2⟩ := List.mem_filter.mp z
        obtain ⟨r0, m0, e⟩ := List.mem_map.mp z1
        have z2 : cel r p ≠ 0 := by simpa using z2
        have e2 : cel r p = (cel r0 p).fmod (cel (baseOf p s) p) := by rw [← e, red_at lb (hl r0 ((rest_mem h).mpr (.inr m0)))]
        have := Int.fmod_nonneg_of_pos (cel r0 p) (q _ mb)
        omega
    · refine .inr fun r m => ?_
      rcases List.mem_cons.mp m with z | z
      · rw [z]; exact q _ mb
      · obtain ⟨z1, z2⟩ := List.mem_filter.mp z
        obtain ⟨r0, m0, e⟩ := List.mem_map.mp z1
        have z2 : cel r p ≠ 0 := by simpa using z2
        have e2 : cel r p = (cel r0 p).fmod (cel (baseOf p s) p) := by rw [← e, red_at lb (hl r0 ((rest_mem h).mpr (.inr m0)))]
        have := fmod_np (cel r0 p) (q _ mb)
        omega
  · obtain ⟨z1, _⟩ := List.mem_filter.mp m
    obtain ⟨r0, m0, e⟩ := List.mem_map.mp z1
    have ms : r0 ∈ s := (rest_mem h).mpr (.inr m0)
    have e2 : cel r p = (cel r0 p).fmod (cel (baseOf p s) p) := by rw [← e, red_at lb (hl r0 ms)]
    obtain ⟨a1, a2, _⟩ := fdiv_sg (sg r0 ms)
    rw [eb] at a1 a2
    have a3 := a2 (least' r0 ms)
    have a4 := fmod_small (x := cel r0 p) nb
    rw [eb] at a4
    have a5 := hxB r0 ms
    have a6 : 1 * b ≤ ((cel r0 p).fdiv (cel (baseOf p s) p)).natAbs * b := Nat.mul_le_mul_right _ a3
    rw [e2]
    omega
end HM
set_option linter.all false
set_option maxHeartbeats 1000000
namespace HM

/-! ### alone_at, whole -/
/-- what holds at each turn; rows0: what it began with -/
structure AI (p n M : Nat) (rows0 s o : List (List Int)) : Prop where
  ls : Len n s
  lo : Len n o
  nz : NZ p s
  zo : ∀ r ∈ o, cel r p = 0
  sm : Same rows0 (s ++ o)
  ne : s ≠ []
  ct : s.length + o.length = rows0.length
  bd : (s = rows0 ∧ o = [] ∧ Bd M s) ∨ Lt p M s o
theorem AI.start {p n M : Nat} {rows : List (List Int)} (h : rows ≠ []) (hl : Len n rows) (hz : NZ p rows) (hb : Bd M rows) : AI p n M rows rows [] :=
  ⟨hl, (fun _ m => nomatch m), hz, (fun _ m => nomatch m), by rw [List.append_nil]; exact .refl _, h, by simp, .inl ⟨rfl, rfl, hb⟩⟩
theorem AI.next {p n M : Nat} {rows0 s o : List (List Int)} (k : AI p n M rows0 s o) (h2 : 1 < s.length) : AI p n M rows0 (stepS p s) (o ++ stepO p s) := by
  obtain ⟨l1, l2⟩ := step_Len k.ne k.ls
  obtain ⟨z1, z2⟩ := step_NZ k.ne k.nz
  refine ⟨l1, fun r m => ?_, z1, fun r m => ?_, ?_, step_ne, ?_, .inr ?_⟩
  · rcases List.mem_append.mp m with q | q
    · exact k.lo r q
    · exact l2 r q
  · rcases List.mem_append.mp m with q | q
    · exact k.zo r q
    · exact z2 r q
  · refine k.sm.trans ?_
    have a := (step_same (p := p) k.ne k.ls).app (Same.refl o)
    refine a.trans (.perm fun r => ?_)
    simp only [List.mem_append]
    constructor
    · rintro ((q | q) | q)
      · exact .inl q
      · exact .inr (.inr q)
      · exact .inr (.inl q)
    · rintro (q | q | q)
      · exact .inl (.inl q)
      · exact .inr q
      · exact .inl (.inr q)
  · have a := step_len (p := p) k.ne
    have b := k.ct
    rw [List.length_append]
    omega
  · rcases k.bd with ⟨_, e2, e3⟩ | q
    · rw [e2]
      exact Lt.first k.ne k.ls k.nz e3
    · exact q.next k.ls k.nz h2
/-- all numbers are small all along -/
theorem AI.bound {p n M : Nat} {rows0 s o : List (List Int)} (hM : 0 < M) (k : AI p n M rows0 s o) : Bd (6 * M ^ 3) (s ++ o) := by
  rcases k.bd with ⟨e1, e2, e3⟩ | q
  · rw [e2, List.append_nil]
    refine e3.mono ?_
    have a : M ^ 1 ≤ M ^ 3 := Nat.pow_le_pow_right hM (by omega)
    rw [Nat.pow_one] at a
    omega
  · obtain ⟨A, B, N, B0, BA, hN, hb, _⟩ := q
    refine hb.mono ?_
    refine Nat.le_trans ?_ hN
    rw [Nat.mul_assoc]
    exact Nat.le_mul_of_pos_right _ (Nat.mul_pos (by omega) B0)
theorem go_end {p n M : Nat} {rows0 : List (List Int)} : ∀ (f : Nat) {s o : List (List Int)}, AI p n M rows0 s o → (1 < s.length → mu p s ≤ f) → ∃ h, (aloneGo p f s o).1 = [h] ∧ AI p n M rows0 [h] (aloneGo p f s o).2
  | 0, s, o, k, hf => by
    have l : ¬ 1 < s.length := fun q => by
      have a := hf q
      have b := mu_pos k.ne k.nz
      omega
    match s, k, l with
    | [], k, _ => exact absurd rfl k.ne
    | [h], k, _ => exact ⟨h, rfl, k⟩
    | _ :: _ :: _, _, l => simp at l
  | f + 1, s, o, k, hf => by
    unfold aloneGo
    by_cases l : s.length ≤ 1
    · rw [if_pos l]
      match s, k, l with
      | [], k, _ => exact absurd rfl k.ne
      | [h], k, _ => exact ⟨h, rfl, k⟩
      | _ :: _ :: _, _, l => simp at l
    · rw [if_neg l]
      refine go_end f (k.next (by omega)) fun q => ?_
      have a := hf (by omega)
      have b := step_mu k.ne k.ls k.nz q
      omega
/-- what alone_at tells -/
structure Alone (p n M : Nat) (rows : List (List Int)) (h : List Int) (o : List (List Int)) : Prop where
  lh : h.length = n
  lo : Len n o
  pos : 0 < cel h p
  zo : ∀ r ∈ o, cel r p = 0
  sm : Same rows (h :: o)
  ct : 1 + o.length = rows.length
  bh : ∀ i, (cel h i).natAbs ≤ 6 * M ^ 3
  bo : Bd (6 * M ^ 3) o
theorem cel_neg {h : List Int} (i : Nat) : cel (h.map fun x => 0 - x) i = 0 - cel h i := by
  unfold cel
  rw [List.getD_eq_getElem?_getD, List.getD_eq_getElem?_getD, List.getElem?_map]
  cases h[i]? with
  | none => rfl
  | some x => rfl
theorem alone_ok {p n M : Nat} {rows : List (List Int)} (hM : 0 < M) (h : rows ≠ []) (hl : Len n rows) (hz : NZ p rows) (hb : Bd M rows) : Alone p n M rows (aloneAt rows p).1 (aloneAt rows p).2 := by
  obtain ⟨g, eg, k⟩ := go_end (mu p rows) (AI.start h hl hz hb) fun _ => Nat.le_refl _
  have e1 : (aloneAt rows p).2 = (aloneGo p (mu p rows) rows []).2 := rfl
  have e2 : (aloneAt rows p).1 = if 0 < cel g p then g else g.map fun x => 0 - x := by
    show (if 0 < cel ((aloneGo p (mu p rows) rows []).1.getD 0 []) p then (aloneGo p (mu p rows) rows []).1.getD 0 [] else ((aloneGo p (mu p rows) rows []).1.getD 0 []).map fun x => 0 - x) = _
    rw [eg]
    rfl
  have lg : g.length = n := k.ls g List.mem_cons_self
  have ng : cel g p ≠ 0 := k.nz g List.mem_cons_self
  have bd := k.bound hM
  rw [e1, e2]
  have key : ∀ h, (h = g ∨ h = g.map fun x => 0 - x) → 0 < cel h p → Alone p n M rows h (aloneGo p (mu p rows) rows []).2 := by
    intro h hh hp
    refine ⟨?_, k.lo, hp, k.zo, ?_, ?_, fun i => ?_, fun r m => bd r (List.mem_append_right _ m)⟩
    · rcases hh with q | q
      · rw [q]; exact lg
      · rw [q, List.length_map]; exact lg
    · refine k.sm.trans ?_
      refine .of (fun r m => ?_) fun r m => ?_
      · rcases List.mem_append.mp m with q | q
        · have q : r = g := by simpa using q
          rcases hh with z | z
          · rw [q, z]; exact .mem List.mem_cons_self
          · refine ((Sp.mem (rows := h :: (aloneGo p (mu p rows) rows []).2) List.mem_cons_self).smul (-1)).eq fun i => ?_
            rw [z, cel_neg, q]; omega
        · exact .mem (List.mem_cons_of_mem _ q)
      · rcases List.mem_cons.mp m with q | q
        · rcases hh with z | z
          · rw [q, z]; exact .mem (List.mem_append_left _ List.mem_cons_self)
          · refine ((Sp.mem (rows := [g] ++ (aloneGo p (mu p rows) rows []).2) (r := g) (List.mem_append_left _ List.mem_cons_self)).smul (-1)).eq fun i => ?_
            rw [q, z, cel_neg]; omega
        · exact .mem (List.mem_append_right _ q)
    · have := k.ct
      simpa using this
    · have a := bd g (List.mem_append_left _ List.mem_cons_self) i
      rcases hh with q | q
      · rw [q]; exact a
      · rw [q, cel_neg]; omega
  by_cases q : 0 < cel g p
  · rw [if_pos q]
    exact key g (.inl rfl) q
  · rw [if_neg q]
    exact key _ (.inr rfl) (by rw [cel_neg]; omega)

/-! ### laddered -/
structure Lad where
  left : List (List Int)
  found : List (List Int)
  places : List Nat
def ladStep (s : Lad) (p : Nat) : Lad :=
  if s.left.filter (fun r => !decide (cel r p = 0)) = [] then s
  else
    let a := aloneAt (s.left.filter fun r => !decide (cel r p = 0)) p
    ⟨s.left.filter (fun r => decide (cel r p = 0)) ++ a.2, (s.found.map fun r => red p a.1 r) ++ [a.1], s.places ++ [p]⟩
def laddered (rows : List (List Int)) (wide : Nat) : Lad := (List.range wide).foldl ladStep ⟨rows, [], []⟩
def LB (M : Nat) : Nat → Nat
  | 0 => M
  | k + 1 => 6 * LB M k ^ 3
def FB (M : Nat) : Nat → Nat
  | 0 => 1
  | k + 1 => 13 * FB M k * LB M k ^ 3
theorem LB_pos {M : Nat} (h : 0 < M) : ∀ k, 0 < LB M k
  | 0 => h
  | k + 1 => Nat.mul_pos (by omega) (Nat.pow_pos (LB_pos h k))
theorem FB_pos {M : Nat} (h : 0 < M) : ∀ k, 0 < FB M k
  | 0 => Nat.one_pos
  | k + 1 => Nat.mul_pos (Nat.mul_pos (by omega) (FB_pos h k)) (Nat.pow_pos (LB_pos h k))
structure LI (n M : Nat) (rows : List (List Int)) (i : Nat) (s : Lad) : Prop where
  ll : Len n s.left
  lf : Len n s.found
  eq : s.found.length = s.places.length
  sm : Same rows (s.found ++ s.left)
  z : ∀ r ∈ s.left, ∀ j, j < i → cel r j = 0
  ech : Ech 0 (s.found.zip s.places)
  pl : ∀ p ∈ s.places, p < i
  ct : s.found.length + s.left.length = rows.length
  bl : Bd (LB M s.found.length) s.left
  bf : Bd (FB M s.found.length) s.found
theorem LI.start {n M : Nat} {rows : List (List Int)} (hl : Len n rows) (hb : Bd M rows) : LI n M rows 0 ⟨rows, [], []⟩ :=
  ⟨hl, (fun _ m => nomatch m), rfl, .refl _, fun _ _ j h => by omega, trivial, (fun _ m => nomatch m), by simp, hb, (fun _ m => nomatch m)⟩
theorem red_other {p n : Nat} {base row : List Int} (h1 : base.length = n) (h2 : row.length = n) {j : Nat} (h : cel base j = 0) : cel (red p base row) j = cel row j := by
  unfold red
  rw [cel_lessRow (by omega), h]
  simp
/-- a new head behind the others, which are reduced by it -/
theorem Ech.snoc {p n : Nat} {h : List Int} (hl : h.length = n) (hz : ∀ j, j < p → cel h j = 0) (hp : 0 < cel h p) : ∀ {E : List (List Int × Nat)} {l : Nat}, Ech l E → (∀ q ∈ E, q.2 < p ∧ q.1.length = n) → l ≤ p → Ech l ((E.map fun q => (red p h q.1, q.2)) ++ [(h, p)])
  | [], l, _, _, lp => ⟨lp, hz, hp, (fun _ m => nomatch m), trivial⟩
  | (g, q) :: t, l, ⟨a, b, c, d, e⟩, hx, lp => by
    obtain ⟨hq, hg⟩ := hx (g, q) List.mem_cons_self
    have hq : q < p := hq
    have hg : g.length = n := hg
    have sam : ∀ {r : List Int} {j : Nat}, r.length = n → j < p → cel (red p h r) j = cel r j := fun hr hj => red_other hl hr (hz _ hj)
    refine ⟨a, fun i hi => ?_, ?_, fun x m => ?_, ?_⟩
    · rw [sam hg (by omega)]; exact b i hi
    · rw [sam hg hq]; exact c
    · rcases List.mem_append.mp m with z | z
      · obtain ⟨y, hy, ey⟩ := List.mem_map.mp z
        obtain ⟨y1, y2⟩ := hx y (List.mem_cons_of_mem _ hy)
        subst ey
        show 0 ≤ cel (red p h g) y.2 ∧ cel (red p h g) y.2 < cel (red p h y.1) y.2
        rw [sam hg y1, sam y2 y1]
        exact d y hy
      · have z : x = (h, p) := by simpa using z
        subst z
        show 0 ≤ cel (red p h g) p ∧ cel (red p h g) p < cel h p
        rw [red_at hl hg]
        exact ⟨Int.fmod_nonneg_of_pos _ hp, Int.fmod_lt_of_pos _ hp⟩
    · exact Ech.snoc hl hz hp e (fun y m => hx y (List.mem_cons_of_mem _ m)) (by omega)
theorem LI.step {n M : Nat} {rows : List (List Int)} {i : Nat} {s : Lad} (hM : 0 < M) (k : LI n M rows i s) : LI n M rows (i + 1) (ladStep s i) := by
  unfold ladStep
  by_cases e : s.left.filter (fun r => !decide (cel r i = 0)) = []
  · rw [if_pos e]
    refine ⟨k.ll, k.lf, k.eq, k.sm, fun r m j hj => ?_, k.ech, fun p m => by have := k.pl p m; omega, k.ct, k.bl, k.bf⟩
    by_cases q : j = i
    · subst q
      have := List.filter_eq_nil_iff.mp e r m
      simpa using this
    · exact k.z r m j (by omega)
  · rw [if_neg e]
    have hl2 : Len n (s.left.filter fun r => !decide (cel r i = 0)) := fun r m => k.ll r (List.mem_filter.mp m).1
    have hz2 : NZ i (s.left.filter fun r => !decide (cel r i = 0)) := fun r m => by simpa using (List.mem_filter.mp m).2
    have hb2 : Bd (LB M s.found.length) (s.left.filter fun r => !decide (cel r i = 0)) := fun r m => k.bl r (List.mem_filter.mp m).1
    have A := alone_ok (LB_pos hM s.found.length) e hl2 hz2 hb2
    generalize aloneAt (s.left.filter fun r => !decide (cel r i = 0)) i = a at A
    obtain ⟨h, o⟩ := a
    -- all that is below i is noughts
    have zz : ∀ v, Sp (s.left.filter fun r => !decide (cel r i = 0)) v → ∀ j, j < i → v j = 0 := fun v kv j hj => kv.zeroAt fun r m => k.z r (List.mem_filter.mp m).1 j hj
    have hzh : ∀ j, j < i → cel h j = 0 := fun j hj => zz _ ((A.sm _).mpr (.mem List.mem_cons_self)) j hj
    have hzo : ∀ r ∈ o, ∀ j, j < i → cel r j = 0 := fun r m j hj => zz _ ((A.sm _).mpr (.mem (List.mem_cons_of_mem _ m))) j hj
    have lc : (s.left.filter fun r => decide (cel r i = 0)).length + (s.left.filter fun r => !decide (cel r i = 0)).length = s.left.length := by
      generalize s.left = l
      induction l with
      | nil => rfl
      | cons x l ih =>
        rw [List.filter_cons, List.filter_cons]
        cases decide (cel x i = 0) <;> simp <;> omega
    have act : 1 + o.length = (s.left.filter fun r => !decide (cel r i = 0)).length := A.ct
    have kct := k.ct
    show LI n M rows (i + 1) ⟨s.left.filter (fun r => decide (cel r i = 0)) ++ o, (s.found.map fun r => red i h r) ++ [h], s.places ++ [i]⟩
    have lfl : ((s.found.map fun r => red i h r) ++ [h]).length = s.found.length + 1 := by simp
    refine ⟨fun r m => ?_, fun r m => ?_, by simp [k.eq], ?_, fun r m j hj => ?_, ?_, fun p m => ?_, ?_, ?_, ?_⟩
    · rcases List.mem_append.mp m with q | q
      · exact k.ll r (List.mem_filter.mp q).1
      · exact A.lo r q
    · rcases List.mem_append.mp m with q | q
      · obtain ⟨r0, m0, e0⟩ := List.mem_map.mp q
        rw [← e0]
        exact red_len A.lh (k.lf r0 m0)
      · have q : r = h := by simpa using q
        rw [q]; exact A.lh
    · refine k.sm.trans ?_
      -- found, left against the reduced ones with the head, and the rest
      have s1 : Same (s.found ++ s.left) (s.found ++ (h :: ((s.left.filter fun r => decide (cel r i = 0)) ++ o))) := by
        refine (Same.refl s.found).app ?_
        have p1 : Same s.left ((s.left.filter fun r => decide (cel r i = 0)) ++ (s.left.filter fun r => !decide (cel r i = 0))) := .perm fun r => by
          simp only [List.mem_append, List.mem_filter]
          constructor
          · intro m
            by_cases q : cel r i = 0
            · exact .inl ⟨m, by simp [q]⟩
            · exact .inr ⟨m, by simp [q]⟩
          · rintro (q | q)
            · exact q.1
            · exact q.1
        refine p1.trans (((Same.refl _).app A.sm).trans (.perm fun r => ?_))
        simp only [List.mem_append, List.mem_cons]
        constructor
        · rintro (q | q | q)
          · exact .inr (.inl q)
          · exact .inl q
          · exact .inr (.inr q)
        · rintro (q | q | q)
          · exact .inr (.inl q)
          · exact .inl q
          · exact .inr (.inr q)
      refine s1.trans ?_
      have mh : h ∈ (((s.found.map fun r => red i h r) ++ [h]) ++ ((s.left.filter fun r => decide (cel r i = 0)) ++ o)) := List.mem_append_left _ (List.mem_append_right _ List.mem_cons_self)
      have mh' : h ∈ (s.found ++ (h :: ((s.left.filter fun r => decide (cel r i = 0)) ++ o))) := List.mem_append_right _ List.mem_cons_self
      refine .of (fun r m => ?_) fun r m => ?_
      · rcases List.mem_append.mp m with q | q
        · have m2 : red i h r ∈ (((s.found.map fun r => red i h r) ++ [h]) ++ ((s.left.filter fun r => decide (cel r i = 0)) ++ o)) := List.mem_append_left _ (List.mem_append_left _ (List.mem_map_of_mem q))
          refine ((Sp.mem m2).add ((Sp.mem mh).smul ((cel r i).fdiv (cel h i)))).eq fun j => ?_
          unfold red
          rw [cel_lessRow (by rw [k.lf r q, A.lh])]
          omega
        · rcases List.mem_cons.mp q with z | z
          · rw [z]; exact .mem mh
          · exact .mem (List.mem_append_right _ z)
      · rcases List.mem_append.mp m with q | q
        · rcases List.mem_append.mp q with z | z
          · obtain ⟨r0, m0, e0⟩ := List.mem_map.mp z
            have m1 : r0 ∈ (s.found ++ (h :: ((s.left.filter fun r => decide (cel r i = 0)) ++ o))) := List.mem_append_left _ m0
            rw [← e0]
            refine ((Sp.mem m1).sub ((Sp.mem mh').smul ((cel r0 i).fdiv (cel h i)))).eq fun j => ?_
            unfold red
            rw [cel_lessRow (by rw [k.lf r0 m0, A.lh])]
          · have z : r = h := by simpa using z
            rw [z]; exact .mem mh'
        · exact .mem (List.mem_append_right _ (List.mem_cons_of_mem _ q))
    · rcases List.mem_append.mp m with q | q
      · obtain ⟨q1, q2⟩ := List.mem_filter.mp q
        have q2 : cel r i = 0 := by simpa using q2
        by_cases z : j = i
        · rw [z]; exact q2
        · exact k.z r q1 j (by omega)
      · by_cases z : j = i
        · rw [z]; exact A.zo r q
        · exact hzo r q j (by omega)
    · have e3 : ((s.found.map fun r => red i h r) ++ [h]).zip (s.places ++ [i]) = ((s.found.zip s.places).map fun q => (red i h q.1, q.2)) ++ [(h, i)] := by
        rw [List.zip_append (by rw [List.length_map]; exact k.eq), List.zip_map_left]
        rfl
      show Ech 0 (((s.found.map fun r => red i h r) ++ [h]).zip (s.places ++ [i]))
      rw [e3]
      exact Ech.snoc A.lh hzh A.pos k.ech (fun q m => ⟨k.pl _ (List.of_mem_zip m).2, k.lf _ (List.of_mem_zip m).1⟩) (Nat.zero_le _)
    · rcases List.mem_append.mp m with q | q
      · have := k.pl p q
        omega
      · have q : p = i := by simpa using q
        omega
    · show ((s.found.map fun r => red i h r) ++ [h]).length + ((s.left.filter fun r => decide (cel r i = 0)) ++ o).length = rows.length
      rw [lfl, List.length_append]
      omega
    · show Bd (LB M ((s.found.map fun r => red i h r) ++ [h]).length) _
      rw [lfl]
      show Bd (6 * LB M s.found.length ^ 3) _
      intro r m j
      rcases List.mem_append.mp m with q | q
      · have a1 := k.bl r (List.mem_filter.mp q).1 j
        have a2 : LB M s.found.length ^ 1 ≤ LB M s.found.length ^ 3 := Nat.pow_le_pow_right (LB_pos hM _) (by omega)
        rw [Nat.pow_one] at a2
        omega
      · exact A.bo r q j
    · show Bd (FB M ((s.found.map fun r => red i h r) ++ [h]).length) _
      rw [lfl]
      show Bd (13 * FB M s.found.length * LB M s.found.length ^ 3) _
      have hbf : Bd (FB M s.found.length) s.found := k.bf
      have F0 := FB_pos hM s.found.length
      have C0 : 0 < LB M s.found.length ^ 3 := Nat.pow_pos (LB_pos hM _)
      have bh : ∀ i, (cel h i).natAbs ≤ 6 * LB M s.found.length ^ 3 := A.bh
      generalize FB M s.found.length = F at *
      generalize LB M s.found.length ^ 3 = C at *
      have FC : C ≤ F * C := Nat.le_mul_of_pos_left _ F0
      have FF : F ≤ F * C := Nat.le_mul_of_pos_right _ C0
      have e13 : 13 * F * C = 13 * (F * C) := Nat.mul_assoc _ _ _
      intro r m j
      rcases List.mem_append.mp m with q | q
      · obtain ⟨r0, m0, e0⟩ := List.mem_map.mp q
        rw [← e0]
        unfold red
        rw [cel_lessRow (by rw [k.lf r0 m0, A.lh])]
        have a1 := hbf r0 m0 j
        have a2 := hbf r0 m0 i
        have a3 := bh j
        have nb : cel h i ≠ 0 := by have : 0 < cel h i := A.pos; omega
        have a4 := fdiv_any (x := cel r0 i) nb
        have a5 : ((cel r0 i).fdiv (cel h i)).natAbs ≤ F + 1 := by
          have hb0 : 0 < (cel h i).natAbs := by omega
          have a2 : (cel r0 i).natAbs ≤ F := a2
          have : ((cel r0 i).fdiv (cel h i)).natAbs * (cel h i).natAbs ≤ (F + 1) * (cel h i).natAbs := by
            rw [Nat.add_mul, Nat.one_mul]
            have z : F ≤ F * (cel h i).natAbs := Nat.le_mul_of_pos_right _ hb0
            omega
          exact Nat.le_of_mul_le_mul_right this hb0
        have a6 : ((cel r0 i).fdiv (cel h i) * cel h j).natAbs ≤ (F + 1) * (6 * C) := by
          rw [Int.natAbs_mul]
          exact Nat.mul_le_mul a5 a3
        have a7 : (F + 1) * (6 * C) = 6 * (F * C) + 6 * C := by
          rw [Nat.add_mul, Nat.mul_left_comm]; omega
        omega
      · have q : r = h := by simpa using q
        rw [q]
        have := bh j
        omega
theorem lad_upto {n M : Nat} {rows : List (List Int)} (hM : 0 < M) (hl : Len n rows) (hb : Bd M rows) : ∀ i, LI n M rows i ((List.range i).foldl ladStep ⟨rows, [], []⟩)
  | 0 => LI.start hl hb
  | i + 1 => by
    rw [List.range_succ, List.foldl_append]
    exact (lad_upto hM hl hb i).step hM
theorem lad_ok {n M : Nat} {rows : List (List Int)} (hM : 0 < M) (hl : Len n rows) (hb : Bd M rows) (wide : Nat) : LI n M rows wide (laddered rows wide) := lad_upto hM hl hb wide
end HM
set_option linter.all false
set_option maxHeartbeats 1000000
/-! kernels, solutions, what is made -/
namespace HM

/-! ### sums -/
def sumF : Nat → (Nat → Int) → Int
  | 0, _ => 0
  | n + 1, g => g 0 + sumF n fun i => g (i + 1)
theorem sumF_congr : ∀ {n : Nat} {f g : Nat → Int}, (∀ i, i < n → f i = g i) → sumF n f = sumF n g
  | 0, _, _, _ => rfl
  | n + 1, f, g, h => by
    show f 0 + sumF n _ = g 0 + sumF n _
    rw [h 0 (by omega), sumF_congr fun i hi => h (i + 1) (by omega)]
theorem sumF_zero : ∀ {n : Nat} {f : Nat → Int}, (∀ i, i < n → f i = 0) → sumF n f = 0
  | 0, _, _ => rfl
  | n + 1, f, h => by
    show f 0 + sumF n _ = 0
    rw [h 0 (by omega), sumF_zero fun i hi => h (i + 1) (by omega)]
    rfl
theorem sumF_add : ∀ {n : Nat} {f g : Nat → Int}, sumF n (fun i => f i + g i) = sumF n f + sumF n g
  | 0, _, _ => rfl
  | n + 1, f, g => by
    show f 0 + g 0 + sumF n (fun i => f (i + 1) + g (i + 1)) = (f 0 + sumF n fun i => f (i + 1)) + (g 0 + sumF n fun i => g (i + 1))
    rw [sumF_add]; omega
theorem sumF_mul : ∀ {n : Nat} {c : Int} {f : Nat → Int}, sumF n (fun i => c * f i) = c * sumF n f
  | 0, c, _ => by show (0 : Int) = c * 0; simp
  | n + 1, c, f => by
    show c * f 0 + sumF n (fun i => c * f (i + 1)) = c * (f 0 + sumF n fun i => f (i + 1))
    rw [sumF_mul, Int.mul_add]
theorem sumF_delta : ∀ {n : Nat} {f : Nat → Int} {j : Nat}, j < n → sumF n (fun i => f i * (if i = j then 1 else 0)) = f j
  | 0, _, _, h => by omega
  | n + 1, f, 0, _ => by
    show f 0 * (if 0 = 0 then 1 else 0) + sumF n (fun i => f (i + 1) * (if i + 1 = 0 then 1 else 0)) = f 0
    rw [if_pos rfl, sumF_zero (fun i _ => by rw [if_neg (by omega)]; simp)]
    omega
  | n + 1, f, j + 1, h => by
    show f 0 * (if 0 = j + 1 then 1 else 0) + sumF n (fun i => f (i + 1) * (if i + 1 = j + 1 then 1 else 0)) = f (j + 1)
    rw [if_neg (by omega)]
    have e : sumF n (fun i => f (i + 1) * (if i + 1 = j + 1 then 1 else 0)) = sumF n (fun i => (fun k => f (k + 1)) i * (if i = j then 1 else 0)) := sumF_congr fun i _ => by
      by_cases q : i = j
      · rw [if_pos (by omega), if_pos q]
      · rw [if_neg (by omega), if_neg q]
    rw [e, sumF_delta (f := fun k => f (k + 1)) (show j < n by omega)]
    omega
/-- as the program reckons it -/
def dot (row v : List Int) : Int := ((row.zip v).map fun p => p.1 * p.2).sum
/-- by functions -/
def dv (w : Nat) (row v : Vec) : Int := sumF w fun i => row i * v i
theorem dot_eq : ∀ {row v : List Int} {w : Nat}, row.length ≤ w → dot row v = dv w (cel row) (cel v)
  | [], v, w, _ => by
    show (0 : Int) = sumF w _
    exact (sumF_zero fun i _ => by rw [cel_out (by simp)]; simp).symm
  | a :: r, [], w, _ => by
    show (0 : Int) = sumF w _
    exact (sumF_zero fun i _ => by rw [cel_out (row := []) (by simp)]; simp).symm
  | a :: r, b :: s, 0, h => by simp at h
  | a :: r, b :: s, w + 1, h => by
    show (List.map (fun p => p.1 * p.2) ((a, b) :: r.zip s)).sum = cel (a :: r) 0 * cel (b :: s) 0 + sumF w fun i => cel (a :: r) (i + 1) * cel (b :: s) (i + 1)
    rw [List.map_cons, List.sum_cons]
    have ih : dot r s = dv w (cel r) (cel s) := dot_eq (by simpa using h)
    exact congrArg (fun z => a * b + z) ih
theorem dv_lin {w : Nat} {row v u : Vec} {c : Int} : dv w row (fun i => v i + c * u i) = dv w row v + c * dv w row u := by
  unfold dv
  have e : sumF w (fun i => row i * (v i + c * u i)) = sumF w (fun i => row i * v i + c * (row i * u i)) := sumF_congr fun i _ => by
    rw [Int.mul_add, Int.mul_left_comm]
  rw [e, sumF_add, sumF_mul]
theorem dv_linL {w : Nat} {row r2 v : Vec} {c : Int} : dv w (fun i => row i + c * r2 i) v = dv w row v + c * dv w r2 v := by
  unfold dv
  have e : sumF w (fun i => (row i + c * r2 i) * v i) = sumF w (fun i => row i * v i + c * (r2 i * v i)) := sumF_congr fun i _ => by
    rw [Int.add_mul, Int.mul_assoc]
  rw [e, sumF_add, sumF_mul]
theorem dv_zero {w : Nat} {row : Vec} : dv w row (fun _ => 0) = 0 := sumF_zero fun i _ => by simp
theorem dv_congr {w : Nat} {row v u : Vec} (h : ∀ i, i < w → v i = u i) : dv w row v = dv w row u := sumF_congr fun i hi => by rw [h i hi]

/-! ### columns -/
def unitRows (w : Nat) : List (List Int) := (List.range w).map fun a => (List.range w).map fun p => if a = p then 1 else 0
def columns (rows units : List (List Int)) : List (List Int) := units.zipIdx.map fun p => (rows.map fun row => cel row p.2) ++ p.1
theorem unit_get {w j : Nat} (h : j < w) : (unitRows w)[j]? = some ((List.range w).map fun p => if j = p then 1 else 0) := by
  unfold unitRows
  rw [List.getElem?_map, List.getElem?_range h]
  rfl
theorem unit_len {w : Nat} : (unitRows w).length = w := by unfold unitRows; simp
/-- the column of a place -/
def colAt (rows : List (List Int)) (w j : Nat) : List Int := (rows.map fun row => cel row j) ++ (List.range w).map fun p => if j = p then 1 else 0
theorem col_mem {rows : List (List Int)} {w : Nat} {c : List Int} : c ∈ columns rows (unitRows w) ↔ ∃ j, j < w ∧ c = colAt rows w j := by
  unfold columns
  rw [List.mem_map]
  constructor
  · rintro ⟨x, hx, rfl⟩
    have h := List.mem_zipIdx_iff_getElem?.mp hx
    have hl : x.2 < w := by
      have := (List.getElem?_eq_some_iff.mp h).1
      rw [unit_len] at this
      exact this
    rw [unit_get hl] at h
    refine ⟨x.2, hl, ?_⟩
    unfold colAt
    rw [Option.some.inj h]
  · rintro ⟨j, hj, rfl⟩
    exact ⟨(_, j), List.mem_zipIdx_iff_getElem?.mpr (unit_get hj), rfl⟩
theorem col_count {rows : List (List Int)} {w : Nat} : (columns rows (unitRows w)).length = w := by
  unfold columns
  rw [List.length_map, List.length_zipIdx, unit_len]
theorem colAt_len {rows : List (List Int)} {w j : Nat} : (colAt rows w j).length = rows.length + w := by
  unfold colAt
  simp
theorem colAt_hi {rows : List (List Int)} {w j i : Nat} (h : i < rows.length) : cel (colAt rows w j) i = cel (rows.getD i []) j := by
  unfold colAt cel
  rw [List.getD_eq_getElem?_getD, List.getElem?_append_left (by simpa using h), List.getElem?_map, List.getD_eq_getElem?_getD (l := rows)]
  rw [List.getElem?_eq_getElem h]
  rfl
theorem colAt_lo {rows : List (List Int)} {w j i : Nat} (hj : j < w) : cel (colAt rows w j) (rows.length + i) = if i = j then 1 else 0 := by
  by_cases h : i < w
  · unfold colAt cel
    rw [List.getD_eq_getElem?_getD, List.getElem?_append_right (by simp)]
    rw [List.length_map, Nat.add_sub_cancel_left, List.getElem?_map, List.getElem?_range h]
    show (if j = i then (1 : Int) else 0) = _
    by_cases q : j = i
    · rw [if_pos q, if_pos q.symm]
    · rw [if_neg q, if_neg (fun z => q z.symm)]
  · rw [cel_out (by rw [colAt_len]; omega), if_neg (by omega)]
/-- the upper part is led to by the lower one -/
def LinP (rows : List (List Int)) (w : Nat) (u : Vec) : Prop := ∀ i, i < rows.length → u i = dv w (cel (rows.getD i [])) fun j => u (rows.length + j)
theorem LinP.cols {rows : List (List Int)} {w : Nat} {u : Vec} (k : Sp (columns rows (unitRows w)) u) : LinP rows w u := by
  refine Sp.all (P := LinP rows w) (fun i _ => ?_) (fun v u c a b i hi => ?_) (fun r m i hi => ?_) k
  · exact dv_zero.symm
  · show v i + c * u i = dv w _ fun j => v (rows.length + j) + c * u (rows.length + j)
    rw [dv_lin (v := fun j => v (rows.length + j)) (u := fun j => u (rows.length + j)), ← a i hi, ← b i hi]
  · obtain ⟨j, hj, rfl⟩ := col_mem.mp m
    rw [colAt_hi hi]
    unfold dv
    rw [sumF_congr (g := fun k => cel (rows.getD i []) k * (if k = j then 1 else 0)) fun k _ => by dsimp only; rw [colAt_lo hj], sumF_delta hj]
/-- a list with its sums ahead -/
def ext (rows : List (List Int)) (w : Nat) (x : Vec) : Vec := fun i => if i < rows.length then dv w (cel (rows.getD i [])) x else x (i - rows.length)
theorem ext_lin {rows : List (List Int)} {w : Nat} {x y : Vec} {c : Int} (i : Nat) : ext rows w (fun j => x j + c * y j) i = ext rows w x i + c * ext rows w y i := by
  unfold ext
  by_cases h : i < rows.length
  · rw [if_pos h, if_pos h, if_pos h, dv_lin]
  · rw [if_neg h, if_neg h, if_neg h]
theorem ext_unit {rows : List (List Int)} {w j : Nat} (hj : j < w) (i : Nat) : ext rows w (fun k => if k = j then 1 else 0) i = cel (colAt rows w j) i := by
  unfold ext
  by_cases h : i < rows.length
  · rw [if_pos h, colAt_hi h]
    unfold dv
    exact sumF_delta hj
  · rw [if_neg h]
    have e : i = rows.length + (i - rows.length) := by omega
    rw [show cel (colAt rows w j) i = cel (colAt rows w j) (rows.length + (i - rows.length)) by rw [← e], colAt_lo hj]
theorem ext_upto {rows : List (List Int)} {w : Nat} {x : Vec} : ∀ k, k ≤ w → Sp (columns rows (unitRows w)) (ext rows w fun j => if j < k then x j else 0)
  | 0, _ => by
    refine Sp.zero.eq fun i => ?_
    unfold ext
    by_cases h : i < rows.length
    · rw [if_pos h, dv_congr (u := fun _ => 0) (fun j _ => by rw [if_neg (by omega)]), dv_zero]
    · rw [if_neg h]
      show (0 : Int) = if i - rows.length < 0 then x (i - rows.length) else 0
      rw [if_neg (by omega)]
  | k + 1, h => by
    have ih := ext_upto (rows := rows) (w := w) (x := x) k (by omega)
    have m : colAt rows w k ∈ columns rows (unitRows w) := col_mem.mpr ⟨k, by omega, rfl⟩
    refine (Sp.step (x k) m ih).eq fun i => ?_
    rw [← ext_unit (by omega), ← ext_lin]
    unfold ext
    have e : ∀ j, ((if j < k then x j else 0) + x k * (if j = k then 1 else 0)) = if j < k + 1 then x j else 0 := fun j => by
      by_cases q : j < k
      · rw [if_pos q, if_neg (by omega), if_pos (by omega)]; simp
      · by_cases z : j = k
        · rw [if_neg q, if_pos z, if_pos (by omega), z]; simp
        · rw [if_neg q, if_neg z, if_neg (by omega)]; simp
    by_cases h : i < rows.length
    · rw [if_pos h, if_pos h]
      exact dv_congr fun j _ => e j
    · rw [if_neg h, if_neg h]
      exact e _
/-- noughts from w on -/
def Sup (w : Nat) (x : Vec) : Prop := ∀ j, w ≤ j → x j = 0
theorem ext_made {rows : List (List Int)} {w : Nat} {x : Vec} (h : Sup w x) : Sp (columns rows (unitRows w)) (ext rows w x) := by
  have e : (fun j => if j < w then x j else 0) = x := funext fun j => by
    by_cases q : j < w
    · rw [if_pos q]
    · rw [if_neg q, h j (by omega)]
  have k := ext_upto (rows := rows) (x := x) w (Nat.le_refl _)
  rw [e] at k
  exact k

/-! ### kernels -/
def Ker (rows : List (List Int)) (w : Nat) (x : Vec) : Prop := Sup w x ∧ ∀ r ∈ rows, dv w (cel r) x = 0
def kerOf (rows : List (List Int)) (w : Nat) : List (List Int) := (laddered ((laddered (columns rows (unitRows w)) rows.length).left.map fun r => r.drop rows.length) w).found
theorem cel_drop {r : List Int} {m j : Nat} : cel (r.drop m) j = cel r (m + j) := by
  unfold cel
  rw [List.getD_eq_getElem?_getD, List.getD_eq_getElem?_getD, List.getElem?_drop]
theorem Sp.drop {rows : List (List Int)} {m : Nat} {v : Vec} (k : Sp rows v) : Sp (rows.map fun r => r.drop m) fun j => v (m + j) := by
  induction k with
  | zero => exact .zero
  | @step r v c hm _ ih =>
    refine (Sp.step c (List.mem_map_of_mem (f := fun r : List Int => r.drop m) hm) ih).eq fun j => ?_
    rw [cel_drop]
theorem getD_mem {rows : List (List Int)} {r : List Int} (h : r ∈ rows) : ∃ i, i < rows.length ∧ rows.getD i [] = r := by
  obtain ⟨i, hi⟩ := List.mem_iff_getElem?.mp h
  exact ⟨i, (List.getElem?_eq_some_iff.mp hi).1, by rw [List.getD_eq_getElem?_getD, hi]; rfl⟩
theorem cols_Len {rows : List (List Int)} {w : Nat} : Len (rows.length + w) (columns rows (unitRows w)) := fun c m => by
  obtain ⟨j, _, rfl⟩ := col_mem.mp m
  exact colAt_len
theorem cols_Bd {rows : List (List Int)} {w M : Nat} (h : Bd M rows) (hM : 0 < M) : Bd M (columns rows (unitRows w)) := fun c m i => by
  obtain ⟨j, hj, rfl⟩ := col_mem.mp m
  by_cases q : i < rows.length
  · rw [colAt_hi q]
    exact h _ (cel_getD_mem q) j
  · have e : i = rows.length + (i - rows.length) := by omega
    rw [e, colAt_lo hj]
    split <;> simp <;> omega
/-- what the first ladder leaves makes the kernel -/
theorem ker_left {rows : List (List Int)} {w M : Nat} (hM : 0 < M) (hb : Bd M rows) (x : Vec) : Sp ((laddered (columns rows (unitRows w)) rows.length).left.map fun r => r.drop rows.length) x ↔ Ker rows w x := by
  have L := lad_ok hM (cols_Len (rows := rows) (w := w)) (cols_Bd hb hM) rows.length
  generalize laddered (columns rows (unitRows w)) rows.length = s at L
  have ez : rws (s.found.zip s.places) = s.found := by
    unfold rws
    rw [List.map_fst_zip (by rw [L.eq]; exact Nat.le_refl _)]
  constructor
  · intro k
    have P : ∀ r ∈ s.left.map fun r => r.drop rows.length, Ker rows w (cel r) := fun r m => by
      obtain ⟨r0, m0, rfl⟩ := List.mem_map.mp m
      have lp := LinP.cols ((L.sm _).mpr (.mem (List.mem_append_right _ m0)))
      refine ⟨fun j hj => cel_out (by rw [List.length_drop, L.ll r0 m0]; omega), fun q hq => ?_⟩
      obtain ⟨i, hi, rfl⟩ := getD_mem hq
      have e := lp i hi
      rw [L.z r0 m0 i hi] at e
      rw [e]
      exact dv_congr fun j _ => cel_drop
    refine Sp.all (P := Ker rows w) ⟨fun _ _ => rfl, fun _ _ => dv_zero⟩ (fun v u c a b => ⟨fun j hj => ?_, fun r m => ?_⟩) P k
    · show v j + c * u j = 0
      rw [a.1 j hj, b.1 j hj]; simp
    · rw [dv_lin, a.2 r m, b.2 r m]; simp
  · intro k
    have k1 := (L.sm _).mp (ext_made (rows := rows) k.1)
    have z : ∀ i, i < rows.length → ext rows w x i = 0 := fun i hi => by
      unfold ext
      rw [if_pos hi]
      exact k.2 _ (cel_getD_mem hi)
    rw [← ez] at k1
    have k2 := L.ech.drop L.z (fun q m => L.pl _ (List.of_mem_zip m).2) k1 z
    refine k2.drop.eq fun j => ?_
    unfold ext
    rw [if_neg (by omega), Nat.add_sub_cancel_left]
theorem LB_add {M : Nat} (a : Nat) : ∀ b, LB (LB M a) b = LB M (a + b)
  | 0 => rfl
  | b + 1 => by
    show 6 * LB (LB M a) b ^ 3 = 6 * LB M (a + b) ^ 3
    rw [LB_add a b]
theorem FB_add {M : Nat} (a : Nat) : ∀ b, FB M a * FB (LB M a) b = FB M (a + b)
  | 0 => Nat.mul_one _
  | b + 1 => by
    show FB M a * (13 * FB (LB M a) b * LB (LB M a) b ^ 3) = 13 * FB M (a + b) * LB M (a + b) ^ 3
    rw [← FB_add a b, LB_add]
    simp only [Nat.mul_assoc, Nat.mul_left_comm]
theorem LB_mono {M : Nat} (h : 0 < M) {a b : Nat} (k : a ≤ b) : LB M a ≤ LB M b := by
  induction b with
  | zero =>
    have : a = 0 := by omega
    rw [this]; exact Nat.le_refl _
  | succ b ih =>
    by_cases q : a = b + 1
    · rw [q]; exact Nat.le_refl _
    · refine Nat.le_trans (ih (by omega)) ?_
      show _ ≤ 6 * LB M b ^ 3
      have : LB M b ^ 1 ≤ LB M b ^ 3 := Nat.pow_le_pow_right (LB_pos h b) (by omega)
      rw [Nat.pow_one] at this
      omega
theorem FB_mono {M : Nat} (h : 0 < M) {a b : Nat} (k : a ≤ b) : FB M a ≤ FB M b := by
  induction b with
  | zero =>
    have : a = 0 := by omega
    rw [this]; exact Nat.le_refl _
  | succ b ih =>
    by_cases q : a = b + 1
    · rw [q]; exact Nat.le_refl _
    · refine Nat.le_trans (ih (by omega)) ?_
      show _ ≤ 13 * FB M b * LB M b ^ 3
      have : FB M b ≤ FB M b * (13 * LB M b ^ 3) := Nat.le_mul_of_pos_right _ (Nat.mul_pos (by omega) (Nat.pow_pos (LB_pos h b)))
      have e : FB M b * (13 * LB M b ^ 3) = 13 * FB M b * LB M b ^ 3 := by simp only [Nat.mul_assoc, Nat.mul_left_comm, Nat.mul_comm]
      omega
/-- greater beginnings, greater bounds -/
theorem LB_le {M N : Nat} (h : M ≤ N) : ∀ k, LB M k ≤ LB N k
  | 0 => h
  | k + 1 => Nat.mul_le_mul_left _ (Nat.pow_le_pow_left (LB_le h k) 3)
theorem FB_le {M N : Nat} (h : M ≤ N) : ∀ k, FB M k ≤ FB N k
  | 0 => Nat.le_refl _
  | k + 1 => Nat.mul_le_mul (Nat.mul_le_mul_left _ (FB_le h k)) (Nat.pow_le_pow_left (LB_le h k) 3)
/-- the second ladder, of what the first one left -/
theorem ker_lad {rows : List (List Int)} {w M : Nat} (hM : 0 < M) (hb : Bd M rows) : ∃ k, k ≤ w ∧ (laddered (columns rows (unitRows w)) rows.length).left.length + k = w ∧ Len w ((laddered (columns rows (unitRows w)) rows.length).left.map fun r => r.drop rows.length) ∧
    Bd (LB M k) ((laddered (columns rows (unitRows w)) rows.length).left.map fun r => r.drop rows.length) := by
  have L := lad_ok hM (cols_Len (rows := rows) (w := w)) (cols_Bd hb hM) rows.length
  have c := L.ct
  rw [col_count] at c
  refine ⟨(laddered (columns rows (unitRows w)) rows.length).found.length, by omega, by omega, fun r m => ?_, fun r m i => ?_⟩
  · obtain ⟨r0, m0, rfl⟩ := List.mem_map.mp m
    rw [List.length_drop, L.ll r0 m0]; omega
  · obtain ⟨r0, m0, rfl⟩ := List.mem_map.mp m
    rw [cel_drop]
    exact L.bl r0 m0 _
theorem ker_ok {rows : List (List Int)} {w M : Nat} (hM : 0 < M) (hb : Bd M rows) : Len w (kerOf rows w) ∧ (∃ places : List Nat, (kerOf rows w).length = places.length ∧ Ech 0 ((kerOf rows w).zip places) ∧ ∀ p ∈ places, p < w) ∧ ∀ x, Sp (kerOf rows w) x ↔ Ker rows w x := by
  obtain ⟨k, _, _, l, b⟩ := ker_lad (w := w) hM hb
  have L := lad_ok (LB_pos hM k) l b w
  refine ⟨L.lf, ⟨_, L.eq, L.ech, L.pl⟩, fun x => ?_⟩
  rw [← ker_left hM hb]
  unfold kerOf
  rw [L.sm x]
  -- what is left are noughts
  constructor
  · exact fun z => z.sub_list fun _ m => List.mem_append_left _ m
  · intro z
    refine z.mono fun r m => ?_
    rcases List.mem_append.mp m with q | q
    · exact .mem q
    · refine Sp.zero.eq fun i => ?_
      by_cases h : i < w
      · exact (L.z r q i h).symm
      · exact (cel_out (by rw [L.ll r q]; omega)).symm
theorem zip_fst {a : List (List Int)} {b : List Nat} (h : a.length = b.length) : rws (a.zip b) = a := by
  unfold rws
  exact List.map_fst_zip (by rw [h]; exact Nat.le_refl _)
/-- rows of one kernel tell the same lists -/
theorem ker_one {rows rows' : List (List Int)} {w M M' : Nat} (hM : 0 < M) (hM' : 0 < M') (hb : Bd M rows) (hb' : Bd M' rows') (h : ∀ x, Ker rows w x ↔ Ker rows' w x) : kerOf rows w = kerOf rows' w := by
  obtain ⟨l1, ⟨p1, e1, c1, _⟩, s1⟩ := ker_ok (w := w) hM hb
  obtain ⟨l2, ⟨p2, e2, c2, _⟩, s2⟩ := ker_ok (w := w) hM' hb'
  have z := Ech.one (n := w) c1 c2 (fun q m => l1 _ (List.of_mem_zip m).1) (fun q m => l2 _ (List.of_mem_zip m).1) (by
    rw [zip_fst e1, zip_fst e2]
    exact fun v => (s1 v).trans ((h v).trans (s2 v).symm))
  have := congrArg rws z
  rw [zip_fst e1, zip_fst e2] at this
  exact this
end HM
set_option linter.all false
set_option maxHeartbeats 1000000
/-! solutions; what is made, by taking heads off -/
namespace HM

/-! ### fractions -/
def SzQ (q : Rat) : Prop := q.num.natAbs < 2 ^ 4000 ∧ q.den < 2 ^ 4000
def updR (l : List Rat) (s : Rat) (h : List Int) : List Rat := l.zipIdx.map fun y => y.1 - s * ((cel h y.2 : Int) : Rat)
def shareOf (l : List Rat) (h : List Int) (p : Nat) : Rat := l.getD p 0 / ((cel h p : Int) : Rat)
def shStep (st : List Rat × List Rat) (x : List Int × Nat) : List Rat × List Rat := (updR st.1 (shareOf st.1 x.1 x.2) x.1, st.2 ++ [shareOf st.1 x.1 x.2])
/-- the numbers on the way are small enough -/
def ShSz : List (List Int × Nat) → List Rat → Prop
  | [], _ => True
  | (h, p) :: t, l => (p < l.length ∧ l.length ≤ h.length ∧ cel h p ≠ 0) ∧ (∀ x ∈ l, SzQ x) ∧ SzQ (shareOf l h p) ∧ (∀ i, (cel h i).natAbs < 2 ^ 4000) ∧ (∀ i, SzQ (shareOf l h p * ((cel h i : Int) : Rat))) ∧ ShSz t (updR l (shareOf l h p) h)
theorem ShSz.at_ : ∀ {E : List (List Int × Nat)} {l : List Rat} {acc : List Rat} (i : Nat), ShSz E l → ShSz (E.drop i) ((E.take i).foldl shStep (l, acc)).1
  | _, _, _, 0, h => h
  | [], _, _, _ + 1, h => trivial
  | (h, p) :: t, l, acc, i + 1, k => ShSz.at_ (acc := acc ++ [shareOf l h p]) i k.2.2.2.2.2

/-! ### whole ones -/
def updI (l : List Int) (c : Int) (h : List Int) : List Int := l.zipIdx.map fun y => y.1 - c * cel h y.2
def csOf : List (List Int × Nat) → List Int → List Int
  | [], _ => []
  | (h, p) :: t, l => (cel l p).fdiv (cel h p) :: csOf t (updI l ((cel l p).fdiv (cel h p)) h)
def endOf : List (List Int × Nat) → List Int → List Int
  | [], l => l
  | (h, p) :: t, l => endOf t (updI l ((cel l p).fdiv (cel h p)) h)
abbrev toQ (l : List Int) : List Rat := l.map fun z => ((z : Int) : Rat)
theorem updI_len {l h : List Int} {c : Int} : (updI l c h).length = l.length := by unfold updI; simp
theorem cel_updI {l h : List Int} {c : Int} {i : Nat} (hi : i < l.length) : cel (updI l c h) i = cel l i - c * cel h i := by
  have e : (updI l c h)[i]? = some (cel l i - c * cel h i) := by
    unfold updI
    rw [List.getElem?_map, List.getElem?_zipIdx, cel_in hi]
    simp
  have e2 := cel_in (row := updI l c h) (i := i) (by rw [updI_len]; exact hi)
  rw [e] at e2
  exact (Option.some.inj e2).symm
theorem cast_mul_div {c h : Int} (hh : h ≠ 0) : (((c * h : Int) : Int) : Rat) / ((h : Int) : Rat) = ((c : Int) : Rat) := by
  rw [Rat.intCast_mul]
  refine Rat.mul_div_cancel ?_
  intro e
  exact hh (by exact_mod_cast e)
theorem toQ_get {l : List Int} {i : Nat} (h : i < l.length) : (toQ l).getD i 0 = ((cel l i : Int) : Rat) := by
  rw [List.getD_eq_getElem?_getD, List.getElem?_map, cel_in h]
  rfl
theorem upd_toQ {l h : List Int} {c : Int} : updR (toQ l) ((c : Int) : Rat) h = toQ (updI l c h) := by
  unfold updR updI toQ
  rw [List.zipIdx_map, List.map_map, List.map_map]
  apply List.map_congr_left
  intro x _
  show ((x.1 : Int) : Rat) - ((c : Int) : Rat) * ((cel h x.2 : Int) : Rat) = ((x.1 - c * cel h x.2 : Int) : Rat)
  rw [Rat.intCast_sub, Rat.intCast_mul]
/-- each head goes off wholly -/
def Ex : List (List Int × Nat) → List Int → Prop
  | [], _ => True
  | (h, p) :: t, l => p < l.length ∧ cel h p ≠ 0 ∧ cel l p = (cel l p).fdiv (cel h p) * cel h p ∧ Ex t (updI l ((cel l p).fdiv (cel h p)) h)
theorem Ex.fold : ∀ {E : List (List Int × Nat)} {l : List Int} {acc : List Rat}, Ex E l → E.foldl shStep (toQ l, acc) = (toQ (endOf E l), acc ++ toQ (csOf E l))
  | [], l, acc, _ => by show (toQ l, acc) = (toQ l, acc ++ []); rw [List.append_nil]
  | (h, p) :: t, l, acc, ⟨a, b, c, d⟩ => by
    have e : shareOf (toQ l) h p = (((cel l p).fdiv (cel h p) : Int) : Rat) := by
      unfold shareOf
      rw [toQ_get a]
      have z := cast_mul_div (c := (cel l p).fdiv (cel h p)) b
      rw [← c] at z
      exact z
    show t.foldl shStep (updR (toQ l) (shareOf (toQ l) h p) h, acc ++ [shareOf (toQ l) h p]) = (toQ (endOf t _), acc ++ toQ (_ :: csOf t _))
    rw [e, upd_toQ, Ex.fold d]
    show (_, acc ++ [_] ++ toQ (csOf t _)) = (_, acc ++ (_ :: toQ (csOf t _)))
    rw [List.append_assoc]
    rfl
theorem szI {z : Int} (h : z.natAbs < 2 ^ 4000) : SzQ ((z : Int) : Rat) := by
  refine ⟨?_, ?_⟩
  · rw [Rat.num_intCast]; exact h
  · rw [Rat.den_intCast]; exact Nat.one_lt_two_pow (Nat.succ_ne_zero 3999)
/-- sizes of whole ones -/
theorem Ex.sz {F : Nat} : ∀ {E : List (List Int × Nat)} {l : List Int} {G : Nat}, Ex E l → (∀ q ∈ E, l.length ≤ q.1.length ∧ ∀ i, (cel q.1 i).natAbs ≤ F) → (∀ i, (cel l i).natAbs ≤ G) → (1 + F) ^ E.length * (1 + G) * (1 + F) ≤ 2 ^ 4000 → ShSz E (toQ l)
  | [], _, _, _, _, _, _ => trivial
  | (h, p) :: t, l, G, ⟨a, b, c, d⟩, hF, hG, hz => by
    obtain ⟨lh, hh⟩ := hF (h, p) List.mem_cons_self
    have lh : l.length ≤ h.length := lh
    have hh : ∀ i, (cel h i).natAbs ≤ F := hh
    have e : shareOf (toQ l) h p = (((cel l p).fdiv (cel h p) : Int) : Rat) := by
      unfold shareOf
      rw [toQ_get a]
      have z := cast_mul_div (c := (cel l p).fdiv (cel h p)) b
      rw [← c] at z
      exact z
    have cG : ((cel l p).fdiv (cel h p)).natAbs ≤ G := by
      have z1 : (cel l p).natAbs = ((cel l p).fdiv (cel h p)).natAbs * (cel h p).natAbs := by
        rw [← Int.natAbs_mul, ← c]
      have z2 := hG p
      have z3 : 0 < (cel h p).natAbs := by omega
      have z4 := Nat.le_mul_of_pos_right ((cel l p).fdiv (cel h p)).natAbs z3
      omega
    have prod : ∀ i, ((cel l p).fdiv (cel h p) * cel h i).natAbs ≤ G * F := fun i => by
      rw [Int.natAbs_mul]
      exact Nat.mul_le_mul cG (hh i)
    -- the bound
    have hz1 : (1 + F) ^ (t.length + 1) * (1 + G) * (1 + F) ≤ 2 ^ 4000 := hz
    have hp1 : 1 ≤ (1 + F) ^ t.length := Nat.pow_pos (by omega)
    have hz2 : (1 + F) * (1 + G) * (1 + F) ≤ 2 ^ 4000 := by
      refine Nat.le_trans ?_ hz1
      rw [Nat.pow_succ]
      refine Nat.mul_le_mul_right _ (Nat.mul_le_mul_right _ ?_)
      exact Nat.le_mul_of_pos_left _ hp1
    have hz3 : (1 + F) * (1 + G) ≤ 2 ^ 4000 := Nat.le_trans (Nat.le_mul_of_pos_right _ (by omega)) hz2
    have e1 : (1 + F) * (1 + G) = 1 + G + F + G * F := by rw [Nat.add_mul, Nat.one_mul, Nat.mul_add, Nat.mul_one, Nat.mul_comm F G]; omega
    refine ⟨⟨by rw [List.length_map]; exact a, by rw [List.length_map]; exact lh, b⟩, fun x m => ?_, ?_, fun i => ?_, fun i => ?_, ?_⟩
    · obtain ⟨z, hz', rfl⟩ := List.mem_map.mp m
      obtain ⟨i, hi⟩ := List.mem_iff_getElem?.mp hz'
      have hil := (List.getElem?_eq_some_iff.mp hi).1
      rw [cel_in hil] at hi
      have := Option.some.inj hi
      have g := hG i
      rw [this] at g
      exact szI (by omega)
    · rw [e]; exact szI (by omega)
    · have := hh i; omega
    · rw [e, ← Rat.intCast_mul]
      have := prod i
      exact szI (by omega)
    · rw [e, upd_toQ]
      refine Ex.sz (F := F) (G := G + G * F) d (fun q m => ?_) (fun i => ?_) ?_
      · rw [updI_len]
        exact hF q (List.mem_cons_of_mem _ m)
      · by_cases hi : i < l.length
        · rw [cel_updI hi]
          have g1 := hG i
          have g2 := prod i
          omega
        · rw [cel_out (by rw [updI_len]; omega)]
          simp
      · refine Nat.le_trans ?_ hz1
        refine Nat.mul_le_mul_right _ ?_
        rw [Nat.pow_succ, Nat.mul_assoc]
        refine Nat.mul_le_mul_left _ ?_
        rw [e1]; omega
/-- the numbers of a ladder's heads for what it makes -/
theorem ex_of {n : Nat} {left : List (List Int)} (hl : ∀ r ∈ left, ∀ i, i < n → cel r i = 0) : ∀ {E : List (List Int × Nat)} {l0 : Nat} {l : List Int} {u : Vec}, Ech l0 E → (∀ q ∈ E, q.2 < n) → l.length = n → (∀ i, i < n → cel l i = u i) → Sp (rws E ++ left) u →
    Ex E l ∧ ∀ i, i < n → cel (endOf E l) i = 0
  | [], _, l, u, _, _, _, e, k => ⟨trivial, fun i hi => by
      show cel l i = 0
      rw [e i hi]
      exact Sp.zeroAt (fun r m => hl r m i hi) k⟩
  | (h, p) :: t, l0, l, u, ⟨a, b, c, d, t'⟩, hp, ll, e, k => by
    have hpn : p < n := hp (h, p) List.mem_cons_self
    obtain ⟨c0, k2⟩ := Sp.cons (h := h) (t := rws t ++ left) k
    have zp : u p - c0 * cel h p = 0 := Sp.zeroAt (p := p) (fun r m => by
      rcases List.mem_append.mp m with q | q
      · obtain ⟨x, hx, rfl⟩ := List.mem_map.mp q
        obtain ⟨y1, y2, _⟩ := t'.low x hx
        exact y2 p (by omega)
      · exact hl r q p hpn) k2
    have e1 : cel l p = c0 * cel h p := by rw [e p hpn]; omega
    have e2 : (cel l p).fdiv (cel h p) = c0 := by
      rw [e1, Int.fdiv_eq_ediv_of_nonneg _ (by omega)]
      exact Int.mul_ediv_cancel _ (by omega)
    have ih := ex_of hl (l := updI l c0 h) (u := fun i => u i - c0 * cel h i) t' (fun q m => hp q (List.mem_cons_of_mem _ m)) (by rw [updI_len]; exact ll) (fun i hi => by rw [cel_updI (by omega), e i hi]) k2
    refine ⟨⟨by omega, by omega, by rw [e2]; exact e1, by rw [e2]; exact ih.1⟩, fun i hi => ?_⟩
    show cel (endOf t (updI l ((cel l p).fdiv (cel h p)) h)) i = 0
    rw [e2]
    exact ih.2 i hi
/-! ### made -/
def madeStep (m : Nat) (found : List Int) (x : Int × List Int) : List Int := (found.zip (x.2.drop m)).map fun p => p.1 + x.1 * p.2
theorem cel_made {m w : Nat} {found : List Int} {c : Int} {h : List Int} (h1 : found.length = w) (h2 : h.length = m + w) (j : Nat) : (madeStep m found (c, h)).length = w ∧ cel (madeStep m found (c, h)) j = cel found j + c * cel h (m + j) := by
  have l1 : (h.drop m).length = w := by rw [List.length_drop]; omega
  have l2 : (madeStep m found (c, h)).length = w := by
    unfold madeStep
    rw [List.length_map, List.length_zip, l1, h1, Nat.min_self]
  refine ⟨l2, ?_⟩
  by_cases hj : j < w
  · have e : (madeStep m found (c, h))[j]? = some (cel found j + c * cel (h.drop m) j) := by
      unfold madeStep
      rw [List.getElem?_map, show (found.zip (h.drop m))[j]? = some (cel found j, cel (h.drop m) j) by
        rw [List.getElem?_zip_eq_some]
        exact ⟨cel_in (by omega), cel_in (by omega)⟩]
      rfl
    have e2 := cel_in (row := madeStep m found (c, h)) (i := j) (by omega)
    rw [e] at e2
    rw [← Option.some.inj e2, cel_drop]
  · rw [cel_out (by omega), cel_out (by omega), cel_out (by omega)]
    simp
/-- what is made of the heads by their numbers is led to what was taken off -/
theorem made_ok {rows : List (List Int)} {w : Nat} : ∀ {E : List (List Int × Nat)} {l found : List Int} {u : Vec}, Ex E l → (∀ q ∈ E, q.1.length = rows.length + w ∧ Sp (columns rows (unitRows w)) (cel q.1)) → l.length = rows.length → found.length = w →
    Sp (columns rows (unitRows w)) u → (∀ j, u (rows.length + j) = cel found j) →
    (((csOf E l).zip (rws E)).foldl (madeStep rows.length) found).length = w ∧ ∀ i, i < rows.length → dv w (cel (rows.getD i [])) (cel (((csOf E l).zip (rws E)).foldl (madeStep rows.length) found)) = u i + (cel l i - cel (endOf E l) i)
  | [], l, found, u, _, _, _, hf, k, e => ⟨hf, fun i hi => by
      show dv w _ (cel found) = u i + (cel l i - cel l i)
      have := LinP.cols k i hi
      rw [this, Int.sub_self, Int.add_zero]
      exact dv_congr fun j _ => (e j).symm⟩
  | (h, p) :: t, l, found, u, ⟨a, b, c, d⟩, hE, ll, hf, k, e => by
    obtain ⟨lh, kh⟩ := hE (h, p) List.mem_cons_self
    have lh : h.length = rows.length + w := lh
    have kh : Sp (columns rows (unitRows w)) (cel h) := kh
    have ih := made_ok (rows := rows) (w := w) (E := t) (l := updI l ((cel l p).fdiv (cel h p)) h) (found := madeStep rows.length found ((cel l p).fdiv (cel h p), h)) (u := fun i => u i + (cel l p).fdiv (cel h p) * cel h i) d
      (fun q m => hE q (List.mem_cons_of_mem _ m)) (by rw [updI_len]; exact ll) (cel_made hf lh 0).1 (k.add (kh.smul _)) (fun j => by rw [(cel_made hf lh j).2, ← e j])
    refine ⟨ih.1, fun i hi => ?_⟩
    have z := ih.2 i hi
    show dv w _ (cel ((((csOf t (updI l ((cel l p).fdiv (cel h p)) h)).zip (rws t)).foldl (madeStep rows.length) (madeStep rows.length found ((cel l p).fdiv (cel h p), h))))) = u i + (cel l i - cel (endOf t (updI l ((cel l p).fdiv (cel h p)) h)) i)
    rw [z, cel_updI (by omega)]
    omega
/-! ### by taking heads off -/
def offOf (steps : List (List Int × Nat)) (v : List Int) : List Int := steps.foldl (fun l q => red q.2 q.1 l) v
theorem off_iff {w : Nat} : ∀ {E : List (List Int × Nat)} {l : Nat} {v : List Int}, Ech l E → (∀ q ∈ E, q.1.length = w) → v.length = w → ((∀ x ∈ offOf E v, x = 0) ↔ Sp (rws E) (cel v))
  | [], _, v, _, _, _ => by
    show (∀ x ∈ v, x = 0) ↔ _
    constructor
    · intro h
      refine Sp.zero.eq fun i => ?_
      by_cases hi : i < v.length
      · exact (h _ (List.mem_of_getElem? (cel_in hi))).symm
      · exact (cel_out (by omega)).symm
    · intro k x m
      obtain ⟨i, hi⟩ := List.mem_iff_getElem?.mp m
      have hl := (List.getElem?_eq_some_iff.mp hi).1
      rw [cel_in hl] at hi
      rw [← Option.some.inj hi]
      exact k.zeroAt (p := i) fun r m => by cases m
  | (h, p) :: t, l, v, ⟨a, b, c, d, e⟩, hE, lv => by
    have lh : h.length = w := hE (h, p) List.mem_cons_self
    have ih := off_iff (v := red p h v) e (fun q m => hE q (List.mem_cons_of_mem _ m)) (red_len lh lv)
    show (∀ x ∈ offOf t (red p h v), x = 0) ↔ _
    rw [ih]
    have er : ∀ i, cel (red p h v) i = cel v i - (cel v p).fdiv (cel h p) * cel h i := fun i => by
      unfold red
      rw [cel_lessRow (by omega)]
    constructor
    · intro k
      exact Sp.cons' (c := (cel v p).fdiv (cel h p)) (k.eq er)
    · intro k
      obtain ⟨c0, k2⟩ := Sp.cons (h := h) (t := rws t) k
      have zp : cel v p - c0 * cel h p = 0 := e.zeroBelow (i := p) (by omega) k2
      have e2 : (cel v p).fdiv (cel h p) = c0 := by
        rw [show cel v p = c0 * cel h p by omega, Int.fdiv_eq_ediv_of_nonneg _ (by omega)]
        exact Int.mul_ediv_cancel _ (by omega)
      refine k2.eq fun i => ?_
      rw [er, e2]
end HM
set_option Elab.async false
set_option linter.all false
set_option maxRecDepth 100000
set_option maxHeartbeats 4000000
/-! the promises of the program's defs -/
namespace Dn
open PySem L2
/-- o.f = value, as a target -/
def gFld (K : PySem.W.Frag) (to : TE) (f : Str) : TG := fun v σ H Q => to σ H fun x H2 => ∃ a C dx fs, x = .ref a ∧ H2 a = some (.ins C dx fs) ∧ Cls K C ∧ NoAttr K C f ∧ fs.length < 1000 ∧ Q σ (upd H2 a (.ins C dx (putF f v fs)))
theorem pg_fld {X : Cx} {o : Expr} {to : TE} {f : Str} {pos : Pos} (ho : PE X o to)
    (ha : ∀ v, assign (.Attribute o f pos) X.env v = (do
      let ov ← holding [v] (eval o X.env)
      standAt pos.atName
      holding [v, ov] (setAttr ov f v)
      release [v, ov] []) := by intro _; rfl) : PG X (.Attribute o f pos) (gFld X.K to f) := by
  refine ⟨fun pins s σ H v u Q I r h => ?_⟩
  rw [ha]
  refine wpAny_bind (wpAny_holding (thn (ho.run pins s σ H _ I h) fun ov s1 ⟨x, H1, I1, r1, a, C, dx, fs, ex, ea, c, n, l, q⟩ => ?_))
  subst ex
  obtain rfl : ov = Value.ref a := r1
  refine wpAny_bind (wpAny_standAt (wpAny_bind (wpAny_holding (setattr_ok I1 ea c n l r fun s3 I3 => ?_))))
  exact wpAny_release ⟨σ, _, I3, q⟩
end Dn
namespace W
open PySem L2 Dn HM
def spNever : Sp := fun _ _ _ _ => False
abbrev cR (K : PySem.W.Frag) : Addr := He.ga K "Ratio"
abbrev cL (K : PySem.W.Frag) : Addr := He.ga K "Ladder"
/-- a Ratio -/
def pQ (K : PySem.W.Frag) (q : Rat) : RP := pO (cR K) [("own_top", pI q.num), ("own_bottom", pI (q.den : Int))]
abbrev pQs (K : PySem.W.Frag) (l : List Rat) : RP := pLm (pQ K) l
abbrev pNs (l : List Nat) : RP := pLm (fun n : Nat => pI (n : Int)) l
def pLd (K : PySem.W.Frag) (m : Nat) (s : Lad) : RP := pO (cL K) [("own_many", pI (m : Int)), ("own_heads", pIss s.found), ("own_places", pNs s.places), ("own_left", pIss s.left)]
/-! basics -/
def C_is_integer (K : PySem.W.Frag) (rs : List RP) (res : RP) : Prop := ∃ r t b1 b2, rs = [r] ∧ Kd K r t ∧ PySem.W.kitOne K t (.type "int") = some b1 ∧ (b1 = true → PySem.W.kitOne K t (.type "bool") = some b2) ∧ res = pB (b1 && !b2)
def C_is_count (K : PySem.W.Frag) (rs : List RP) (res : RP) : Prop := ∃ i : Int, rs = [pI i] ∧ res = pB (decide (0 ≤ i))
def C_is_list (K : PySem.W.Frag) (rs : List RP) (res : RP) : Prop := ∃ r t b, rs = [r] ∧ Kd K r t ∧ PySem.W.kitAny K t [.type "list", .type "tuple"] = some b ∧ res = pB b
def C_want_many (K : PySem.W.Frag) (rs : List RP) (res : RP) : Prop := ∃ i m l : Int, rs = [pI i, pI m, pI l] ∧ 0 ≤ i ∧ l ≤ i ∧ i ≤ m ∧ res = pNon
/-! ratios -/
def C_divisor_of (K : PySem.W.Frag) (rs : List RP) (res : RP) : Prop := ∃ a b : Int, rs = [pI a, pI b] ∧ res = pI ((Nat.gcd a.natAbs b.natAbs : Nat) : Int)
def C_Ratio_init (K : PySem.W.Frag) (rs : List RP) (fs : List (Str × RP)) : Prop := ∃ t b : Int, rs = [pI t, pI b] ∧ b ≠ 0 ∧ b.natAbs < 2 ^ 8999 ∧ fs = ([("own_top", pI (Rat.divInt t b).num), ("own_bottom", pI ((Rat.divInt t b).den : Int))] : List (Str × RP))
def C_Ratio_top (K : PySem.W.Frag) (rs : List RP) (res : RP) : Prop := ∃ q : Rat, rs = [pQ K q] ∧ res = pI q.num
def C_Ratio_bottom (K : PySem.W.Frag) (rs : List RP) (res : RP) : Prop := ∃ q : Rat, rs = [pQ K q] ∧ res = pI (q.den : Int)
def C_Ratio_sign (K : PySem.W.Frag) (rs : List RP) (res : RP) : Prop := ∃ q : Rat, rs = [pQ K q] ∧ res = pI q.num.sign
def C_Ratio_is_whole (K : PySem.W.Frag) (rs : List RP) (res : RP) : Prop := ∃ q : Rat, rs = [pQ K q] ∧ res = pB (decide (q.den = 1))
def C_told_pair (K : PySem.W.Frag) (rs : List RP) (res : RP) : Prop := (∃ i : Int, rs = [pI i] ∧ res = pT [pI i, pI 1]) ∨ ∃ q : Rat, rs = [pQ K q] ∧ res = pT [pI q.num, pI (q.den : Int)]
/-- a NUMBER: what is told, its worth -/
def Num (K : PySem.W.Frag) (r : RP) (q : Rat) : Prop := (∃ i : Int, r = pI i ∧ q = (i : Rat)) ∨ r = pQ K q
def C_Ratio_mul (K : PySem.W.Frag) (rs : List RP) (res : RP) : Prop := ∃ (a b : Rat) (r : RP), rs = [pQ K a, r] ∧ Num K r b ∧ SzQ a ∧ SzQ b ∧ res = pQ K (a * b)
def C_Ratio_sub (K : PySem.W.Frag) (rs : List RP) (res : RP) : Prop := ∃ (a b : Rat) (r : RP), rs = [pQ K a, r] ∧ Num K r b ∧ SzQ a ∧ SzQ b ∧ res = pQ K (a - b)
def C_Ratio_add (K : PySem.W.Frag) (rs : List RP) (res : RP) : Prop := ∃ (a b : Rat) (r : RP), rs = [pQ K a, r] ∧ Num K r b ∧ SzQ a ∧ SzQ b ∧ res = pQ K (a + b)
def C_Ratio_over (K : PySem.W.Frag) (rs : List RP) (res : RP) : Prop := ∃ (a b : Rat) (r : RP), rs = [pQ K a, r] ∧ Num K r b ∧ b ≠ 0 ∧ SzQ a ∧ SzQ b ∧ res = pQ K (a / b)
def C_Ratio_eq (K : PySem.W.Frag) (rs : List RP) (res : RP) : Prop := ∃ a b : Rat, rs = [pQ K a, pQ K b] ∧ res = pB (decide (a = b))
def C_is_number (K : PySem.W.Frag) (rs : List RP) (res : RP) : Prop := ∃ (q : Rat) (r : RP), rs = [r] ∧ Num K r q ∧ res = pB true
def C_ratio_of (K : PySem.W.Frag) (rs : List RP) (res : RP) : Prop := ∃ (q : Rat) (r : RP), rs = [r] ∧ Num K r q ∧ res = pQ K q
/-! ladders -/
/-- numbers of less than so many bits -/
def Small (b : Nat) (ns : List Int) : Prop := ∀ n ∈ ns, n.natAbs < 2 ^ b
def C_less_row (K : PySem.W.Frag) (rs : List RP) (res : RP) : Prop := ∃ row base m, rs = [pIs row, pIs base, pI m] ∧ res = pIs (lessRow row base m) ∧ row.length ≤ 100000 ∧ Small 100000 base ∧ m.natAbs < 2 ^ 100000
def C_least_at (K : PySem.W.Frag) (rs : List RP) (res : RP) : Prop := ∃ (rows : List (List Int)) (p n : Nat), rs = [pIss rows, pI (p : Int)] ∧ rows ≠ [] ∧ Len n rows ∧ p < n ∧ res = pI (leastAt rows p : Int)
/-- rows that may be led to heads -/
structure Fit (n M : Nat) (rows : List (List Int)) : Prop where
  pos : 0 < M
  len : Len n rows
  bd : Bd M rows
  ct : rows.length ≤ 1000
  nl : n ≤ 1000
def C_alone_at (K : PySem.W.Frag) (rs : List RP) (res : RP) : Prop := ∃ (rows : List (List Int)) (p n M : Nat), rs = [pIss rows, pI (p : Int)] ∧ Fit n M rows ∧ rows ≠ [] ∧ p < n ∧ NZ p rows ∧ 6 * M ^ 3 < 2 ^ 9000 ∧ res = pT [pIs (aloneAt rows p).1, pIss (aloneAt rows p).2]
def C_laddered (K : PySem.W.Frag) (rs : List RP) (res : RP) : Prop := ∃ (rows : List (List Int)) (wide n M : Nat), rs = [pIss rows, pI (wide : Int)] ∧ Fit n M rows ∧ wide ≤ n ∧ LB M rows.length < 2 ^ 9000 ∧ FB M rows.length < 2 ^ 90000 ∧
  res = pT [pIss (laddered rows wide).found, pNs (laddered rows wide).places, pIss (laddered rows wide).left]
def C_unit_rows (K : PySem.W.Frag) (rs : List RP) (res : RP) : Prop := ∃ n : Nat, rs = [pI (n : Int)] ∧ n ≤ 1000 ∧ res = pIss (unitRows n)
/-- rows of a system: w wide -/
structure Sys (w M : Nat) (rows : List (List Int)) : Prop where
  pos : 0 < M
  len : Len w rows
  bd : Bd M rows
  ct : rows.length ≤ 60
  wl : 1 ≤ w ∧ w ≤ 60
  lb : LB M w < 2 ^ 9000
  fb : FB M w < 2 ^ 90000
abbrev ladOf (rows : List (List Int)) (w : Nat) : Lad := laddered (columns rows (unitRows w)) rows.length
def C_Ladder_init (K : PySem.W.Frag) (rs : List RP) (fs : List (Str × RP)) : Prop := ∃ (rows : List (List Int)) (w M : Nat), rs = [pIss rows] ∧ Sys w M rows ∧ rows ≠ [] ∧ 
  fs = ([("own_many", pI (rows.length : Int)), ("own_heads", pIss (ladOf rows w).found), ("own_places", pNs (ladOf rows w).places), ("own_left", pIss (ladOf rows w).left)] : List (Str × RP))
def C_Ladder_shares (K : PySem.W.Frag) (rs : List RP) (res : RP) : Prop := ∃ (m : Nat) (s : Lad) (goals : List Rat), rs = [pLd K m s, pQs K goals] ∧ ShSz (s.found.zip s.places) goals ∧ goals.length ≤ 1000 ∧ s.found.length ≤ 1000 ∧ s.found.length = s.places.length ∧
  res = pT [pQs K ((s.found.zip s.places).foldl shStep (goals, [])).2, pQs K ((s.found.zip s.places).foldl shStep (goals, [])).1]
def C_Ladder_made (K : PySem.W.Frag) (rs : List RP) (res : RP) : Prop := ∃ (m w : Nat) (s : Lad) (cs : List Int), rs = [pLd K m s, pQs K (toQ cs)] ∧ Len (m + w) s.found ∧ m ≤ 1000 ∧ w ≤ 1000 ∧ s.found.length ≤ 1000 ∧ cs.length = s.found.length ∧ Small 4000 cs ∧ (∀ h ∈ s.found, Small 90000 h) ∧
  res = pIs (if s.found = [] then [] else (cs.zip s.found).foldl (madeStep m) (List.replicate w 0))
/-- where all shares are whole and nothing is left -/
def C_Ladder_bar (K : PySem.W.Frag) (rs : List RP) (res : RP) : Prop := ∃ (m : Nat) (s : Lad) (goals : List Rat), rs = [pLd K m s, pQs K goals] ∧ ShSz (s.found.zip s.places) goals ∧ goals.length ≤ 1000 ∧ s.found.length ≤ 1000 ∧ s.found.length = s.places.length ∧
  (∀ x ∈ ((s.found.zip s.places).foldl shStep (goals, [])).2, x.den = 1) ∧ (∀ x ∈ ((s.found.zip s.places).foldl shStep (goals, [])).1, x = 0) ∧ res = pNon
/-- goals that a list of whole numbers has -/
structure Had (rows : List (List Int)) (w M : Nat) (goals : List Int) (x : List Int) : Prop where
  sys : Sys w M rows
  ne : rows ≠ []
  xl : x.length = w
  gl : goals.length = rows.length
  g : ∀ i, i < rows.length → cel goals i = dv w (cel (rows.getD i [])) (cel x)
  sz : ∃ G, (∀ i, (cel goals i).natAbs ≤ G) ∧ (1 + FB M w) ^ w * (1 + G) * (1 + FB M w) ≤ 2 ^ 4000
/-- the solution that is told -/
def solOf (rows : List (List Int)) (w : Nat) (goals : List Int) : List Int :=
  if (ladOf rows w).found = [] then List.replicate w 0 else ((csOf ((ladOf rows w).found.zip (ladOf rows w).places) goals).zip (ladOf rows w).found).foldl (madeStep rows.length) (List.replicate w 0)
def C_solution_for (K : PySem.W.Frag) (rs : List RP) (res : RP) : Prop := ∃ (rows : List (List Int)) (w M : Nat) (goals x : List Int), rs = [pIss rows, pQs K (toQ goals)] ∧ Had rows w M goals x ∧ res = pIs (solOf rows w goals)
def C_bar_for (K : PySem.W.Frag) (rs : List RP) (res : RP) : Prop := ∃ (rows : List (List Int)) (w M : Nat) (goals x : List Int), rs = [pIss rows, pQs K (toQ goals)] ∧ Had rows w M goals x ∧ res = pNon
def C_kernel_for (K : PySem.W.Frag) (rs : List RP) (res : RP) : Prop := ∃ (rows : List (List Int)) (w M : Nat), rs = [pIss rows, pI (w : Int)] ∧ Sys w M rows ∧ res = pIss (kerOf rows w)
/-- rows of a width -/
structure Rw (w : Nat) (rows : List (List Int)) : Prop where
  len : Len w rows
  ct : rows.length ≤ 60
  wl : 1 ≤ w ∧ w ≤ 60
def C_are_whole_rows (K : PySem.W.Frag) (rs : List RP) (res : RP) : Prop := ∃ (rows : List (List Int)) (w : Nat), rs = [pIss rows] ∧ Rw w rows ∧ res = pB true
def C_want_whole_rows (K : PySem.W.Frag) (rs : List RP) (res : RP) : Prop := ∃ (rows : List (List Int)) (w : Nat) (l : Int), rs = [pIss rows, pI l] ∧ Rw w rows ∧ l ≤ (rows.length : Int) ∧ res = pIss rows
def C_want_goals (K : PySem.W.Frag) (rs : List RP) (res : RP) : Prop := ∃ (rows : List (List Int)) (goals : List Int), rs = [pIss rows, pIs goals] ∧ goals.length = rows.length ∧ rows.length ≤ 60 ∧ res = pQs K (toQ goals)
def C_whole_kernel (K : PySem.W.Frag) (rs : List RP) (res : RP) : Prop := ∃ (rows : List (List Int)) (w M : Nat), rs = [pIss rows, pI (w : Int)] ∧ Sys w M rows ∧ res = pIss (kerOf rows w)
def C_whole_solution (K : PySem.W.Frag) (rs : List RP) (res : RP) : Prop := ∃ (rows : List (List Int)) (w M : Nat) (goals x : List Int), rs = [pIss rows, pIs goals] ∧ Had rows w M goals x ∧ res = pIs (solOf rows w goals)
def C_whole_bar (K : PySem.W.Frag) (rs : List RP) (res : RP) : Prop := ∃ (rows : List (List Int)) (w M : Nat) (goals x : List Int), rs = [pIss rows, pIs goals] ∧ Had rows w M goals x ∧ res = pNon
def C_is_whole_solution (K : PySem.W.Frag) (rs : List RP) (res : RP) : Prop := ∃ (rows : List (List Int)) (w : Nat) (goals x : List Int), rs = [pIss rows, pIs goals, pIs x] ∧ Rw w rows ∧ rows ≠ [] ∧ x.length = w ∧ goals.length = rows.length ∧ (∀ r ∈ rows, Small 4000 r) ∧ Small 90000 x ∧
  res = pB (decide (rows.map (fun r => dot r x) = goals))
end W
set_option Elab.async false
set_option linter.all false
set_option maxRecDepth 100000
set_option maxHeartbeats 4000000
/-! == of lists of an own class's instances by their own ==, whatever it answers -/
namespace Oq
open PySem PySem.SeqAt
open AutoSeq1 (wpAny_loadPart')
open MeetsSeq MeetsSeq2 MeetsSeq3 SeqRoads2
section
variable {prog : Program} {w : World} {A : Around} {R : Result → Shared → Prop}
def ListJ (prog : Program) (w : World) (A : Around) (E : Value → Shared → Prop) (l b : Addr) (N : Nat) (e : Nat → Bool) (I : Shared → Prop) : Prop :=
  ∀ s, I s → ∃ (items items2 : Array Value) (n n2 : Nat), s.heap.get? l = some { cls := .type "list", data := .seq items n } ∧ s.heap.get? b = some { cls := .type "list", data := .seq items2 n2 } ∧ items.size = N ∧ items2.size = N ∧
    ∀ i (h1 : i < items.size) (h2 : i < items2.size), wpAny (model prog w) A.in1 (eqBool items[i] items2[i]) (fun r s' => r = e i ∧ I s') E s
theorem eq_loopJ (l b : Addr) (N : Nat) (e : Nat → Bool) (I : Shared → Prop) (hl : ListJ prog w A (fun e s' => R (.error e) s') l b N e I)
    (fin : ∀ s, I s → R (.ok (.ret (.bool ((List.range N).all e)))) s) (k : Nat) :
    ∀ i : Nat, N - i = k → i ≤ N → (∀ j, j < i → e j = true) → ∀ s, I s →
      wpAny (model prog w) A.in1 (Builtin.«list.__eq__.loop» ⟨[.ref l, .ref b, rawInt i, rawInt 2], []⟩) (GQ.FinOf prog w A R) (fun e s' => R (.error e) s') s := by
  induction k with
  | zero =>
    intro i hk hi hj s h
    obtain ⟨items, items2, n, n2, hl1, hb1, hs1, hs2, _⟩ := hl _ h
    have hi' : i = N := by omega
    have hall : (List.range N).all e = true := List.all_eq_true.mpr fun j m => hj j (by rw [hi']; exact List.mem_range.mp m)
    have hR : R (.ok (.ret (.bool true))) s := by
      have := fin s h
      rw [hall] at this
      exact this
    obtain ⟨hp, g, d, tk, os⟩ := s
    wp_walk using wpAny_loadPart' hl1, wpAny_loadPart' hb1
    have hi1 : items[((i : Nat) : Int).toNat]? = none := by simp; omega
    have hi2 : items2[((i : Nat) : Int).toNat]? = none := by simp; omega
    rw [hi1, hi2]
    wp_walk using wpAny_loadPart' hl1, wpAny_loadPart' hb1
    show R (.ok (.ret (.bool (items.size == items2.size)))) _
    rw [hs1, hs2]
    simpa using hR
  | succ k ih =>
    intro i hk hi hj s h
    obtain ⟨items, items2, n, n2, hl1, hb1, hs1, hs2, turn⟩ := hl _ h
    have hlt : i < items.size := by omega
    have hlt2 : i < items2.size := by omega
    have ht := turn i hlt hlt2
    obtain ⟨hp, g, d, tk, os⟩ := s
    wp_walk using wpAny_loadPart' hl1, wpAny_loadPart' hb1
    have hi1 : items[((i : Nat) : Int).toNat]? = some items[i] := by simp [hlt]
    have hi2 : items2[((i : Nat) : Int).toNat]? = some items2[i] := by simp [hlt2]
    have hc : ((i : Int) + 1) = ((i + 1 : Nat) : Int) := by omega
    rw [hi1, hi2]
    refine wpAny_bind (wpAny_mono ht (fun r s2 h2 => ?_) fun _ _ x => x)
    obtain ⟨hr, h2⟩ := h2
    cases hb' : e i with
    | true =>
      rw [hb'] at hr
      subst hr
      have hrec := ih (i + 1) (by omega) (by omega) (fun j m => by
        by_cases q : j = i
        · rw [q]; exact hb'
        · exact hj j (by omega)) s2 h2
      obtain ⟨hp2, g2, d2, tk2, os2⟩ := s2
      wp_walk
      rw [hc]
      exact ⟨plainId_quiet plain_eq_loop _, codeAny_builtin entry_eq_loop (by
        rw [Around.under_plainId plain_eq_loop _]
        exact hrec)⟩
    | false =>
      rw [hb'] at hr
      subst hr
      have hall : (List.range N).all e = false := by
        cases q : (List.range N).all e with
        | false => rfl
        | true =>
          have := List.all_eq_true.mp q i (List.mem_range.mpr (by omega))
          rw [hb'] at this
          cases this
      have hR : R (.ok (.ret (.bool false))) s2 := by
        have := fin s2 h2
        rw [hall] at this
        exact this
      obtain ⟨jtems, jtems2, m, m2, hm1, hn1, ht1, ht2, _⟩ := hl _ h2
      obtain ⟨hp2, g2, d2, tk2, os2⟩ := s2
      wp_walk using wpAny_loadPart' hm1, wpAny_loadPart' hn1
      have hj1 : jtems[((i : Nat) : Int).toNat]? = some jtems[i] := by simp [show i < jtems.size by omega]
      have hj2 : jtems2[((i : Nat) : Int).toNat]? = some jtems2[i] := by simp [show i < jtems2.size by omega]
      rw [hj1, hj2]
      wp_walk
      simpa using hR
theorem list_eqJ (l b : Addr) (N : Nat) (e : Nat → Bool) (I : Shared → Prop) (hl : ListJ prog w A (fun e s' => R (.error e) s') l b N e I)
    (fin : ∀ s, I s → R (.ok (.ret (.bool ((List.range N).all e)))) s) {s : Shared} (h : I s) :
    wpAny (model prog w) A.in1 (Builtin.«list.__eq__» ⟨[.ref l, .ref b], []⟩) (GQ.FinOf prog w A R) (fun e s' => R (.error e) s') s := by
  obtain ⟨items, items2, n, n2, hl1, hb1, hs1, hs2, _⟩ := hl _ h
  have hrec := eq_loopJ (A := A) (R := R) l b N e I hl fin _ 0 rfl (Nat.zero_le _) (fun j m => by omega) s h
  obtain ⟨hp, g, d, tk, os⟩ := s
  have f3 := AutoSeq1.sub_list_list
  have hne : ¬ (items.size != items2.size) = true := by simp [hs1, hs2]
  wp_walk using wpAny_loadPart' hl1, wpAny_loadPart' hb1
  exact ⟨plainId_quiet plain_eq_loop _, codeAny_builtin entry_eq_loop (by
    rw [Around.under_plainId plain_eq_loop _]
    exact hrec)⟩
end
section
variable {prog : Program} {w : World} {A : Around} {E : Value → Shared → Prop} {s : Shared}
theorem rc_listJ {l b : Addr} {N : Nat} {e : Nat → Bool} {Q : Value → Shared → Prop} (hu : A.units < cLine) (I : Shared → Prop) (hl : ListJ prog w A E l b N e I)
    (fin : ∀ s, I s → Q (.bool ((List.range N).all e)) s) (h : I s) : wpAny (model prog w) A (richCompare .Eq (.ref l) (.ref b)) Q E s := by
  obtain ⟨items, items2, n, n2, hl1, hb1, _, _, _⟩ := hl _ h
  refine wpAny_richCompare_same_room (op := .Eq) ⟨_, hl1, rfl⟩ ⟨_, hb1, rfl⟩ F.slot_list_eq (GQ.call_here F.slot_list_eq ⟨_, hl1, rfl⟩ F.entry_list_eq (F.args_list_eq_2 _ _) ?_) hu
  exact list_eqJ (R := wants (fun v s' => v ≠ .notImplemented ∧ Q v s') E) l b N e I hl (fun s' q => ⟨(fun x => nomatch x), fin s' q⟩) h
end
end Oq
namespace Dn
open PySem L2
/-- an own == -/
def EqC (P : Program) (w : World) (K : PySem.W.Frag) (mg : Str → Option Value) (base : Heap) (C : Addr) (k : Nat) (ps : List Str) (sp : Sp) : Prop :=
  ∃ f fd, PySem.W.findIn K (.ref C) "__eq__" = some (some (.ref f)) ∧ PySem.W.isFn K (.ref f) = true ∧ FnOk P w K mg base CX0 k f fd ps sp ∧ Binds K fd ps []
end Dn
namespace W
open PySem L2 Dn HM
theorem pQ_inj {K : PySem.W.Frag} {F : Hp} {v : V} {a b : Rat} (h : (pQ K a).R F v) (k : (pQ K b).R F v) : a = b := by
  obtain ⟨x, dx, us, e1, h1, v1⟩ := h
  obtain ⟨y, dy, ws, e2, h2, v2⟩ := k
  have ex : x = y := by rw [e1] at e2; injection e2
  subst ex
  rw [h1] at h2
  match us, v1, ws, v2 with
  | [u1, u2], ⟨a1, a2, _⟩, [w1, w2], ⟨b1, b2, _⟩ =>
    have a1 : u1 = .int a.num := a1
    have a2 : u2 = .int (a.den : Int) := a2
    have b1 : w1 = .int b.num := b1
    have b2 : w2 = .int (b.den : Int) := b2
    subst a1 a2 b1 b2
    injection h2 with h2
    injection h2 with _ _ h3
    injection h3 with h4 h5
    injection h4 with _ h6
    injection h6 with h6
    injection h5 with h7 _
    injection h7 with _ h8
    injection h8 with h8
    exact Rat.ext h6 (by omega)
def rEqQ (K : PySem.W.Frag) : R2 := fun x y H Q => ∃ F as bs, Same F H ∧ (pQs K as).R F x ∧ (pQs K bs).R F y ∧ as.length = bs.length ∧ ∀ F' H', Go0 F H F' H' → Same F' H' → Q (.bl (decide (as = bs))) H'
theorem opd_eqQ {K : PySem.W.Frag} {as bs : List Rat} (h : as.length = bs.length) : OpD (rEqQ K) (pQs K as) (pQs K bs) (pB (decide (as = bs))) := fun F H x y s hx hy Q q => ⟨F, as, bs, s, hx, hy, h, fun F' H' g s' => q _ F' H' g s' rfl⟩
section
variable {X : Cx} {f : Addr} {fd : FuncData} {k : Nat}
theorem item_eq (F0 : FnOk X.prog X.w X.K X.mg X.base CX0 k f fd ["self", "other"] (pureSp (C_Ratio_eq X.K))) (hs : PySem.W.findIn X.K (.ref (cR X.K)) "__eq__" = some (some (.ref f))) (hf : PySem.W.isFn X.K (.ref f) = true) (hb : Binds X.K fd ["self", "other"] [])
    {A : Around} (sb : L2.Sub X k A) {pins : List (Addr × Obj)} {s : Shared} {σ : L2.St} {F H : Hp} {x y : V} {u v : Value} {q1 q2 : Rat} (I : Inv X pins σ H s) (rx : RelV x u) (ry : RelV y v) (sm : Same F H) (hx : (pQ X.K q1).R F x) (hy : (pQ X.K q2).R F y) :
    wpAny (model X.prog X.w) A (eqBool u v) (fun r s' => r = decide (q1 = q2) ∧ ∃ F' H', Inv X pins σ H' s' ∧ Go0 F H F' H' ∧ Same F' H') X.xe s := by
  obtain ⟨a, dx, us, e1, h1, v1⟩ := id hx
  obtain ⟨b, dy, ws, e2, h2, v2⟩ := id hy
  subst e1 e2
  cases rx
  cases ry
  by_cases hab : a = b
  · subst hab
    have e := pQ_inj hx hy
    refine SeqAt.EqAt.same (A := A) (s := s) (.ref a) X.prog X.w X.xe _ ⟨?_, F, H, I, Go.refl F H, sm⟩
    rw [decide_eq_true e]
  · refine GQ.eqBool_refG hab ?_
    obtain ⟨mA, J, _⟩ := ins_get I.hok (sm _ _ h1)
    obtain ⟨mB, J', _⟩ := ins_get I.hok (sm _ _ h2)
    obtain ⟨od, J, _⟩ := J.look
    obtain ⟨od', J', _⟩ := J'.look
    obtain ⟨m, hF⟩ := I.fr
    refine PySem.W.cmp_K (op := .Eq) (tb := .ref (cR X.K)) sb.room.units0 hF I.ok.mod.kin J J'.type (by simp [PySem.W.notFirst]) hs hf ?_
    have hsp : pureSp (C_Ratio_eq X.K) [.ref a, .ref b] H (fun v H' => v = .bl (decide (q1 = q2)) ∧ ∃ F', Go0 F H F' H' ∧ Same F' H') E0 := ⟨F, _, _, ⟨q1, q2, rfl, rfl⟩, sm, ⟨hx, hy, trivial⟩, fun v F' H' g s' r => ⟨r, F', g, s'⟩⟩
    have e0 : Env0 X.prog X.w X.K X.mg X.base A X.stack s H := by
      have e := I.env0
      exact ⟨by rw [sb.fr]; exact e.frames, e.mod, e.bs, e.bsz, e.funs, e.frf, e.hok, e.bare⟩
    have r2 : Vals [V.ref a, V.ref b] [Value.ref a, Value.ref b] := .cons rfl (.cons rfl .nil)
    refine wpAny_call (codeAny_mono (F0.run A X.stack s H ⟨[.ref a, .ref b], []⟩ [.ref a, .ref b] [.ref a, .ref b] _ E0 sb.room e0 (by
      have := hb s [.ref a, .ref b] I.kIn (by rfl)
      simpa using this) r2 hsp) fun r s' hq => ?_)
    cases r with
    | error e => exact pass0 pins σ H s e s' I hq
    | ok fl =>
      cases fl with
      | ret w =>
        obtain ⟨z, H', I', rz, ez, F', g, s''⟩ := I.after hq
        subst ez
        cases rz
        exact ⟨_, rfl, rfl, F', H', I', g, s''⟩
      | next => exact False.elim hq
      | brk => exact False.elim hq
      | cont => exact False.elim hq
theorem op_eqQ (hs : PySem.W.findIn X.K (.ref (cR X.K)) "__eq__" = some (some (.ref f))) (hf : PySem.W.isFn X.K (.ref f) = true) (F0 : FnOk X.prog X.w X.K X.mg X.base CX0 k f fd ["self", "other"] (pureSp (C_Ratio_eq X.K))) (hr : Room (k + 1) X.A) (hb : Binds X.K fd ["self", "other"] []) :
    OpR X (compareOp .Eq) (rEqQ X.K) := by
  intro pins s σ H x y v u Q I rx ry hq
  obtain ⟨F, as, bs, sm, hx, hy, hl, q⟩ := hq
  obtain ⟨a, xs, e1, h1, v1⟩ := hx
  obtain ⟨b, ys, e2, h2, v2⟩ := hy
  subst e1 e2
  cases rx
  cases ry
  have sb : L2.Sub X (k + 1) X.A := ⟨hr, rfl⟩
  have l1 := v1.len
  have l2 := v2.len
  rw [List.length_map] at l1 l2
  show wpAny (model X.prog X.w) X.A (richCompare .Eq (.ref a) (.ref b)) (EP X pins σ Q) X.xe s
  have eall : (List.range as.length).all (fun i => decide (as.getD i 0 = bs.getD i 0)) = decide (as = bs) := by
    refine Bool.eq_iff_iff.mpr ?_
    rw [List.all_eq_true, decide_eq_true_iff]
    constructor
    · intro z
      refine List.ext_getElem hl fun i h1 h2 => ?_
      have := of_decide_eq_true (z i (List.mem_range.mpr h1))
      rw [List.getD_eq_getElem?_getD, List.getD_eq_getElem?_getD, List.getElem?_eq_getElem h1, List.getElem?_eq_getElem h2] at this
      exact this
    · rintro rfl i _
      exact decide_eq_true rfl
  refine Oq.rc_listJ (N := as.length) (e := fun i => decide (as.getD i 0 = bs.getD i 0)) sb.room.units0 (fun s' => ∃ F' H', Inv X pins σ H' s' ∧ Go0 F H F' H' ∧ Same F' H') (fun s' q' => ?_) (fun s' ⟨F', H', I', g, s2⟩ => ?_) ⟨F, H, I, Go.refl F H, sm⟩
  · obtain ⟨F1, H1, I1, g1, s1⟩ := id q'
    obtain ⟨z, its, k1, r, e⟩ := I1.hok a _ (s1 _ _ (g1.ff _ _ h1))
    obtain ⟨z2, its2, k2, r2, e2⟩ := I1.hok b _ (s1 _ _ (g1.ff _ _ h2))
    refine ⟨its.toArray, its2.toArray, k1, k2, e, e2, by rw [List.size_toArray, ← r.length, l1], by rw [List.size_toArray, ← r2.length, l2, hl], fun i i1 i2 => ?_⟩
    have g1' : its[i]? = some its.toArray[i] := by
      have h1' : i < its.length := by simpa using i1
      rw [List.getElem?_eq_getElem h1'] <;> simp
    have g2' : its2[i]? = some its2.toArray[i] := by
      have h2' : i < its2.length := by simpa using i2
      rw [List.getElem?_eq_getElem h2'] <;> simp
    have k1' : i < xs.length := by rw [r.length]; simpa using i1
    have k2' : i < ys.length := by rw [r2.length]; simpa using i2
    obtain ⟨u, hu, ru⟩ := r.get (List.getElem?_eq_getElem k1')
    obtain ⟨v, hv, rv⟩ := r2.get (List.getElem?_eq_getElem k2')
    rw [g1'] at hu
    rw [g2'] at hv
    rw [Option.some.inj hu, Option.some.inj hv]
    have m1 : (pQ X.K (as.getD i 0)).R F1 xs[i] := by
      obtain ⟨r0, e0, m⟩ := (v1.mono g1.ff).back (List.getElem?_eq_getElem k1')
      rw [List.getElem?_map, List.getElem?_eq_getElem (by omega)] at e0
      rw [List.getD_eq_getElem?_getD, List.getElem?_eq_getElem (by omega)]
      rw [← Option.some.inj e0] at m
      exact m
    have m2 : (pQ X.K (bs.getD i 0)).R F1 ys[i] := by
      obtain ⟨r0, e0, m⟩ := (v2.mono g1.ff).back (List.getElem?_eq_getElem k2')
      rw [List.getElem?_map, List.getElem?_eq_getElem (by omega)] at e0
      rw [List.getD_eq_getElem?_getD, List.getElem?_eq_getElem (by omega)]
      rw [← Option.some.inj e0] at m
      exact m
    refine wpAny_mono (item_eq F0 hs hf hb sb.in1 I1 ru rv s1 m1 m2) (fun r s3 q3 => ?_) fun _ _ x => x
    obtain ⟨er, F2, H2, I2, g2, s2⟩ := q3
    exact ⟨er, F2, H2, I2, g1.trans g2, s2⟩
  · rw [eall]
    exact ⟨.bl _, H', I', rfl, q F' H' g s2⟩
end
end W
set_option Elab.async false
set_option linter.all false
set_option maxRecDepth 100000
set_option maxHeartbeats 4000000
/-! the promises of the law's own defs -/
namespace Dn
open PySem L2
/-- a list of numbers wherever it stands -/
def pSq (K : PySem.W.Frag) (ns : List Int) : RP := ⟨fun F v => ∃ a, v = .ref a ∧ SqL K F a (ns.map V.int), fun e ⟨a, h1, h2⟩ => ⟨a, h1, h2.ext e⟩⟩
theorem vrs_one {F : Hp} {vs : List V} {r : RP} (h : Vrs F vs [r]) : ∃ v, vs = [v] ∧ r.R F v := by
  cases vs with
  | nil => exact h.elim
  | cons v t =>
    cases t with
    | nil => exact ⟨v, rfl, h.1⟩
    | cons u t => exact h.2.elim
theorem cd_lenS {K : PySem.W.Frag} {ns : List Int} : CD (uLen K) [pSq K ns] (pI (ns.length : Int)) := by
  intro F H vs s hv Q q
  obtain ⟨v, e1, a, e2, h⟩ := vrs_one hv
  have el : V.int (((ns.map V.int).length : Nat) : Int) = V.int (ns.length : Int) := by rw [List.length_map]
  have q1 := q (V.int (((ns.map V.int).length : Nat) : Int)) F H (Go.refl F H) s el
  rw [e1, e2]
  exact ⟨a, ns.map V.int, rfl, .inl (h.ext s), q1⟩
theorem opd_ixS {K : PySem.W.Frag} {ns : List Int} {i x : Int} {j : Nat} (e : i = (j : Int)) (h : ns[j]? = some x) : OpD (rIxL K) (pSq K ns) (pI i) (pI x) := fun F H v y s ⟨a, e1, hh⟩ hy Q q =>
  ⟨a, ns.map V.int, i, .int x, e1, hy, hh.ext s, at_of e (by rw [List.getElem?_map, h]; rfl), q _ F H (Go.refl F H) s rfl⟩
end Dn
namespace W
open PySem L2 Dn HM
def spPot (K : PySem.W.Frag) : Sp := fun vs H Q _ => ∃ (F : Hp) (script : List Int) (k : Nat), Same F H ∧ Vrs F vs [pSq K script, pI (k : Int)] ∧ k ≤ 1 ∧
  ∀ (p : Addr) (F' H' : Hp) (a b : Int), H p = none → Go0 F H F' H' → Same F' H' → F' p = none → H' p = some (.lst [.int a, .int b]) → 0 ≤ a → 0 ≤ b → b < 4294967296 → Q (.ref p) H'
def spDraw : Sp := fun vs H Q _ => ∃ (p : Addr) (a b many : Int), vs = [.ref p, .int many] ∧ H p = some (.lst [.int a, .int b]) ∧ 0 ≤ a ∧ 0 ≤ b ∧ b < 4294967296 ∧ 1 ≤ many ∧ many ≤ 1000 ∧
  ∀ (a' b' r : Int) (H' : Hp), 0 ≤ a' → 0 ≤ b' → b' < 4294967296 → 0 ≤ r → r < many → (∀ c o, c ≠ p → H c = some o → H' c = some o) → (∀ c, H c ≠ none → H' c ≠ none) → H' p = some (.lst [.int a', .int b']) → Q (.int r) H'
def spRight : Sp := fun vs H Q _ => ∃ (F : Hp) (p : Addr) (a b : Int), vs = [.ref p] ∧ Same F H ∧ F p = none ∧ H p = some (.lst [.int a, .int b]) ∧ 0 ≤ a ∧ 0 ≤ b ∧ b < 4294967296 ∧
  ∀ F' H', Go (fun c => c = p) F H F' H' → Same F' H' → F' p = none → Q (.bl true) H'
def spLaw (K : PySem.W.Frag) : Sp := fun vs H Q _ => ∃ (a : Addr) (ns : List Int), vs = [.ref a] ∧ ns.length ≤ 63 ∧ SqL K H a (ns.map V.int) ∧ ∀ H', Q (.bl true) H'
/-- all lists of a width with numbers from -3 to 3 -/
def listsOf : Nat → List (List Int)
  | 0 => [[]]
  | n + 1 => ((listsOf n).map fun low => (List.range 7).map fun k : Nat => low ++ [(-3 : Int) + (k : Int)]).flatten
def C_law_lists (K : PySem.W.Frag) (rs : List RP) (res : RP) : Prop := ∃ n : Nat, rs = [pI (n : Int)] ∧ n ≤ 4 ∧ res = pIss (listsOf n)
def C_law_is_made (K : PySem.W.Frag) (rs : List RP) (res : RP) : Prop := ∃ (row : List Int) (E : List (List Int × Nat)) (w l : Nat), rs = [pIs row, pIss (rws E)] ∧ Ech l E ∧ (∀ q ∈ E, q.1.length = w ∧ q.2 < w ∧ Small 9000 q.1) ∧ row.length = w ∧ w ≤ 60 ∧ E.length ≤ 60 ∧ Small 9000 row ∧
  (∀ i, Small 90000 (offOf (E.take i) row)) ∧ res = pB (decide (∀ x ∈ offOf E row, x = 0))
end W
set_option Elab.async false
set_option linter.all false
set_option maxRecDepth 100000
set_option maxHeartbeats 4000000
namespace W
open PySem L2 Dn
def top (i : Nat) : Stmt := PySem.Challenge.pw_wholefillrows_k19_whole_solutions_all_of.main.body.getD i (.Pass ⟨0, 0, 0, 0⟩)
structure Txt (K : PySem.W.Frag) (mg : Str → Option Value) : Prop where
  b_gcd : mg "gcd" = some (.builtin "math.gcd")
  f_abs : mg "abs" = none
  f_all : mg "all" = none
  f_bool : mg "bool" = none
  f_divmod : mg "divmod" = none
  f_enumerate : mg "enumerate" = none
  f_int : mg "int" = none
  f_isinstance : mg "isinstance" = none
  f_len : mg "len" = none
  f_list : mg "list" = none
  f_max : mg "max" = none
  f_min : mg "min" = none
  f_range : mg "range" = none
  f_sum : mg "sum" = none
  f_tuple : mg "tuple" = none
  f_zip : mg "zip" = none
  g_Ladder : mg "Ladder" = some (.ref (He.ga K "Ladder"))
  g_Ratio : mg "Ratio" = some (.ref (He.ga K "Ratio"))
  i_MOST_ROWS : ∃ t, mg "MOST_ROWS" = some (.int 60 t)
  i_MOST_WIDE : ∃ t, mg "MOST_WIDE" = some (.int 60 t)
  c_Ratio : Cls K (He.ga K "Ratio")
  c_Ladder : Cls K (He.ga K "Ladder")
  n_own_top : NoAttr K (He.ga K "Ratio") "own_top"
  n_own_bottom : NoAttr K (He.ga K "Ratio") "own_bottom"
  n_own_many : NoAttr K (He.ga K "Ladder") "own_many"
  n_own_heads : NoAttr K (He.ga K "Ladder") "own_heads"
  n_own_places : NoAttr K (He.ga K "Ladder") "own_places"
  n_own_left : NoAttr K (He.ga K "Ladder") "own_left"

abbrev s_is_integer : Stmt := top 10
theorem sc_is_integer : FnScope ["value"] ["value"] (defScope s_is_integer) := ⟨rfl, rfl, rfl, by decide +kernel, rfl, by decide +kernel, by decide +kernel⟩
def t_is_integer (K : PySem.W.Frag) : TS :=
    (tRet (tAndV (tCB (rIsi K) (tCons (tVar 0) (tCons (tC (.ty "int")) tNil))) (tNotV (tCB (rIsi K) (tCons (tVar 0) (tCons (tC (.ty "bool")) tNil))))))
theorem body_is_integer {P : Program} {w : World} {K : PySem.W.Frag} {mg : Str → Option Value} {base : Heap} (T : Txt K mg) 
    {f : Addr} {cdv : Value} {A : Around} {outer : List Env} {s : Shared} {H : Hp} {E : XK} (hr : Room 0 (A.deeper (PyProof.Rows.envOfC "is_integer" (defScope s_is_integer) s.heap.objs.size f cdv))) :
    PSs (cxOf CX0 P w K mg base ["value"] "is_integer" (defScope s_is_integer) f cdv A outer s H E) (defBody s_is_integer) (t_is_integer K) := by
  exact PSs.nox (pss_one (ps_ret (pe_and (pe_callB call_isi (by rfl) T.f_isinstance (by decide +kernel) (pa_cons (pv 0) (pa_cons (pe_bltn (v := .ty "int") (by rfl) T.f_int (by decide +kernel) rfl) pa_nil))) (pe_one (pe_not (pe_callB call_isi (by rfl) T.f_isinstance (by decide +kernel) (pa_cons (pv 0) (pa_cons (pe_bltn (v := .ty "bool") (by rfl) T.f_bool (by decide +kernel) rfl) pa_nil))))))))
abbrev s_is_count : Stmt := top 11
theorem sc_is_count : FnScope ["value"] ["value"] (defScope s_is_count) := ⟨rfl, rfl, rfl, by decide +kernel, rfl, by decide +kernel, by decide +kernel⟩
def t_is_count (K : PySem.W.Frag) : TS :=
    (tRet (tAndV (tCall (pureSp (C_is_integer K)) [] E0 (tCons (tVar 0) tNil)) (tOp oGe (tVar 0) (tC (.int 0)))))
theorem body_is_count {P : Program} {w : World} {K : PySem.W.Frag} {mg : Str → Option Value} {base : Heap} (T : Txt K mg) (c0 : Cal P w K mg base "is_integer" 1 ["value"] (pureSp (C_is_integer K)))
    {f : Addr} {cdv : Value} {A : Around} {outer : List Env} {s : Shared} {H : Hp} {E : XK} (hr : Room 1 (A.deeper (PyProof.Rows.envOfC "is_count" (defScope s_is_count) s.heap.objs.size f cdv))) :
    PSs (cxOf CX0 P w K mg base ["value"] "is_count" (defScope s_is_count) f cdv A outer s H E) (defBody s_is_count) (t_is_count K) := by
  obtain ⟨_, _, h0_G, h0_m, h0_k, h0_b⟩ := c0
  exact PSs.nox (pss_one (ps_ret (pe_and (pe_call h0_G hr rfl h0_m h0_k h0_b .nil pass0 (pa_cons (pv 0) pa_nil)) (pe_one (pe_cmpR op_ge (pv 0) pe_int (nomark _))))))
abbrev s_is_list : Stmt := top 12
theorem sc_is_list : FnScope ["value"] ["value"] (defScope s_is_list) := ⟨rfl, rfl, rfl, by decide +kernel, rfl, by decide +kernel, by decide +kernel⟩
def t_is_list (K : PySem.W.Frag) : TS :=
    (tRet (tCB (rIsiT K) (tCons (tVar 0) (tCons (tTup (tCons (tC (.ty "list")) (tCons (tC (.ty "tuple")) tNil))) tNil))))
theorem body_is_list {P : Program} {w : World} {K : PySem.W.Frag} {mg : Str → Option Value} {base : Heap} (T : Txt K mg) 
    {f : Addr} {cdv : Value} {A : Around} {outer : List Env} {s : Shared} {H : Hp} {E : XK} (hr : Room 0 (A.deeper (PyProof.Rows.envOfC "is_list" (defScope s_is_list) s.heap.objs.size f cdv))) :
    PSs (cxOf CX0 P w K mg base ["value"] "is_list" (defScope s_is_list) f cdv A outer s H E) (defBody s_is_list) (t_is_list K) := by
  exact PSs.nox (pss_one (ps_ret (pe_callB call_isiT (by rfl) T.f_isinstance (by decide +kernel) (pa_cons (pv 0) (pa_cons (pe_tup (pa_cons (pe_bltn (v := .ty "list") (by rfl) T.f_list (by decide +kernel) rfl) (pa_cons (pe_bltn (v := .ty "tuple") (by rfl) T.f_tuple (by decide +kernel) rfl) pa_nil))) pa_nil)))))
abbrev s_want_many : Stmt := top 13
theorem sc_want_many : FnScope ["value", "most", "least"] ["value", "most", "least"] (defScope s_want_many) := ⟨rfl, rfl, rfl, by decide +kernel, rfl, by decide +kernel, by decide +kernel⟩
def t_want_many (K : PySem.W.Frag) : TS :=
    (tSeq (tIfS (tOr (tNot (tB (tCall (pureSp (C_is_count K)) [] E0 (tCons (tVar 0) tNil)))) (tTest (tOp oLt (tVar 0) (tVar 2)))) tNever tNext)
    (tIfS (tAnd (tB (tNotN (tVar 1))) (tTest (tOp oGt (tVar 0) (tVar 1)))) tNever tNext))
theorem body_want_many {P : Program} {w : World} {K : PySem.W.Frag} {mg : Str → Option Value} {base : Heap} (T : Txt K mg) (c0 : Cal P w K mg base "is_count" 2 ["value"] (pureSp (C_is_count K)))
    {f : Addr} {cdv : Value} {A : Around} {outer : List Env} {s : Shared} {H : Hp} {E : XK} (hr : Room 2 (A.deeper (PyProof.Rows.envOfC "want_many" (defScope s_want_many) s.heap.objs.size f cdv))) :
    PSs (cxOf CX0 P w K mg base ["value", "most", "least"] "want_many" (defScope s_want_many) f cdv A outer s H E) (defBody s_want_many) (t_want_many K) := by
  obtain ⟨_, _, h0_G, h0_m, h0_k, h0_b⟩ := c0
  exact PSs.nox (pss_cons (ps_if (PW.pt (pw_or (pt_not (pt_val (pe_call h0_G hr rfl h0_m h0_k h0_b .nil pass0 (pa_cons (pv 0) pa_nil)))) (pw_or1 (pt_cmpR op_lt (pv 0) (pv 2) (nomark _))))) (pss_one ps_never) pss_nil)
    (pss_one (ps_if (PW.pt (pw_and (pt_cmp (pc_notN (pv 1))) (pw_and1 (pt_cmpR op_gt (pv 0) (pv 1) (nomark _))))) (pss_one ps_never) pss_nil)))
abbrev s_divisor_of : Stmt := top 17
theorem sc_divisor_of : FnScope ["one", "other"] ["one", "other"] (defScope s_divisor_of) := ⟨rfl, rfl, rfl, by decide +kernel, rfl, by decide +kernel, by decide +kernel⟩
def t_divisor_of (K : PySem.W.Frag) : TS :=
    (tRet (tCB rGcd (tCons (tVar 0) (tCons (tVar 1) tNil))))
theorem body_divisor_of {P : Program} {w : World} {K : PySem.W.Frag} {mg : Str → Option Value} {base : Heap} (T : Txt K mg) 
    {f : Addr} {cdv : Value} {A : Around} {outer : List Env} {s : Shared} {H : Hp} {E : XK} (hr : Room 0 (A.deeper (PyProof.Rows.envOfC "divisor_of" (defScope s_divisor_of) s.heap.objs.size f cdv))) :
    PSs (cxOf CX0 P w K mg base ["one", "other"] "divisor_of" (defScope s_divisor_of) f cdv A outer s H E) (defBody s_divisor_of) (t_divisor_of K) := by
  exact PSs.nox (pss_one (ps_ret (pe_callBfun cr_gcd (by rfl) T.b_gcd (pa_cons (pv 0) (pa_cons (pv 1) pa_nil)))))
abbrev s_Ratio_init : Stmt := inClass (top 18) 0
theorem sc_Ratio_init : FnScope ["self", "top", "bottom", "common"] ["self", "top", "bottom"] (defScope s_Ratio_init) := ⟨rfl, rfl, rfl, by decide +kernel, rfl, by decide +kernel, by decide +kernel⟩
def t_Ratio_init (K : PySem.W.Frag) : TS :=
    (tSeq (tIfS (tNot (tB (tCall (pureSp (C_is_integer K)) [] E0 (tCons (tVar 1) tNil)))) tNever tNext)
    (tSeq (tIfS (tOr (tNot (tB (tCall (pureSp (C_is_integer K)) [] E0 (tCons (tVar 2) tNil)))) (tTest (tOp rEq (tVar 2) (tC (.int 0))))) tNever tNext)
    (tSeq (tAsg (tCall (pureSp (C_divisor_of K)) [] E0 (tCons (tVar 1) (tCons (tVar 2) tNil))) (gName 3))
    (tSeq (tIfS (tTest (tOp oLt (tVar 2) (tC (.int 0)))) (tAsg (tOp oSub (tC (.int 0)) (tVar 3)) (gName 3)) tNext)
    (tSeq (sFld K (tVar 0) (tOp oDiv (tVar 1) (tVar 3)) "own_top")
    (sFld K (tVar 0) (tOp oDiv (tVar 2) (tVar 3)) "own_bottom"))))))
theorem body_Ratio_init {P : Program} {w : World} {K : PySem.W.Frag} {mg : Str → Option Value} {base : Heap} (T : Txt K mg) (c0 : Cal P w K mg base "is_integer" 1 ["value"] (pureSp (C_is_integer K))) (c1 : Cal P w K mg base "divisor_of" 1 ["one", "other"] (pureSp (C_divisor_of K)))
    {f : Addr} {cdv : Value} {A : Around} {outer : List Env} {s : Shared} {H : Hp} {E : XK} (hr : Room 1 (A.deeper (PyProof.Rows.envOfC "Ratio.__init__" (defScope s_Ratio_init) s.heap.objs.size f cdv))) :
    PSs (cxOf CX0 P w K mg base ["self", "top", "bottom", "common"] "Ratio.__init__" (defScope s_Ratio_init) f cdv A outer s H E) (defBody s_Ratio_init) (t_Ratio_init K) := by
  obtain ⟨_, _, h0_G, h0_m, h0_k, h0_b⟩ := c0
  obtain ⟨_, _, h1_G, h1_m, h1_k, h1_b⟩ := c1
  exact PSs.nox (pss_cons (ps_if (pt_not (pt_val (pe_call h0_G hr rfl h0_m h0_k h0_b .nil pass0 (pa_cons (pv 1) pa_nil)))) (pss_one ps_never) pss_nil)
    (pss_cons (ps_if (PW.pt (pw_or (pt_not (pt_val (pe_call h0_G hr rfl h0_m h0_k h0_b .nil pass0 (pa_cons (pv 2) pa_nil)))) (pw_or1 (pt_cmpR op_eq (pv 2) pe_int (nomark _))))) (pss_one ps_never) pss_nil)
    (pss_cons (ps_set (i := 3) sc_Ratio_init.nd rfl (Or.inl rfl) (pe_call h1_G hr rfl h1_m h1_k h1_b .nil pass0 (pa_cons (pv 1) (pa_cons (pv 2) pa_nil))))
    (pss_cons (ps_if (pt_cmpR op_lt (pv 2) pe_int (nomark _)) (pss_one (ps_set (i := 3) sc_Ratio_init.nd rfl (Or.inl rfl) (pe_op op_sub pe_int (pv 3)))) pss_nil)
    (pss_cons (ps_fld (pv 0) (pe_op op_fdivA (pv 1) (pv 3)) rfl)
    (pss_one (ps_fld (pv 0) (pe_op op_fdivA (pv 2) (pv 3)) rfl)))))))
abbrev s_Ratio_top : Stmt := inClass (top 18) 1
theorem sc_Ratio_top : FnScope ["self"] ["self"] (defScope s_Ratio_top) := ⟨rfl, rfl, rfl, by decide +kernel, rfl, by decide +kernel, by decide +kernel⟩
def t_Ratio_top (K : PySem.W.Frag) : TS :=
    (tRet (tFld K (tVar 0) "own_top"))
theorem body_Ratio_top {P : Program} {w : World} {K : PySem.W.Frag} {mg : Str → Option Value} {base : Heap} (T : Txt K mg) 
    {f : Addr} {cdv : Value} {A : Around} {outer : List Env} {s : Shared} {H : Hp} {E : XK} (hr : Room 0 (A.deeper (PyProof.Rows.envOfC "Ratio.top" (defScope s_Ratio_top) s.heap.objs.size f cdv))) :
    PSs (cxOf CX0 P w K mg base ["self"] "Ratio.top" (defScope s_Ratio_top) f cdv A outer s H E) (defBody s_Ratio_top) (t_Ratio_top K) := by
  exact PSs.nox (pss_one (ps_ret (pe_fld (pv 0) rfl)))
abbrev s_Ratio_bottom : Stmt := inClass (top 18) 2
theorem sc_Ratio_bottom : FnScope ["self"] ["self"] (defScope s_Ratio_bottom) := ⟨rfl, rfl, rfl, by decide +kernel, rfl, by decide +kernel, by decide +kernel⟩
def t_Ratio_bottom (K : PySem.W.Frag) : TS :=
    (tRet (tFld K (tVar 0) "own_bottom"))
theorem body_Ratio_bottom {P : Program} {w : World} {K : PySem.W.Frag} {mg : Str → Option Value} {base : Heap} (T : Txt K mg) 
    {f : Addr} {cdv : Value} {A : Around} {outer : List Env} {s : Shared} {H : Hp} {E : XK} (hr : Room 0 (A.deeper (PyProof.Rows.envOfC "Ratio.bottom" (defScope s_Ratio_bottom) s.heap.objs.size f cdv))) :
    PSs (cxOf CX0 P w K mg base ["self"] "Ratio.bottom" (defScope s_Ratio_bottom) f cdv A outer s H E) (defBody s_Ratio_bottom) (t_Ratio_bottom K) := by
  exact PSs.nox (pss_one (ps_ret (pe_fld (pv 0) rfl)))
abbrev s_Ratio_sign : Stmt := inClass (top 18) 3
theorem sc_Ratio_sign : FnScope ["self"] ["self"] (defScope s_Ratio_sign) := ⟨rfl, rfl, rfl, by decide +kernel, rfl, by decide +kernel, by decide +kernel⟩
def t_Ratio_sign (K : PySem.W.Frag) : TS :=
    (tRet (tOp oSub (tCB uInt (tCons (tOp oGt (tFld K (tVar 0) "own_top") (tC (.int 0))) tNil)) (tCB uInt (tCons (tOp oLt (tFld K (tVar 0) "own_top") (tC (.int 0))) tNil))))
theorem body_Ratio_sign {P : Program} {w : World} {K : PySem.W.Frag} {mg : Str → Option Value} {base : Heap} (T : Txt K mg) 
    {f : Addr} {cdv : Value} {A : Around} {outer : List Env} {s : Shared} {H : Hp} {E : XK} (hr : Room 0 (A.deeper (PyProof.Rows.envOfC "Ratio.sign" (defScope s_Ratio_sign) s.heap.objs.size f cdv))) :
    PSs (cxOf CX0 P w K mg base ["self"] "Ratio.sign" (defScope s_Ratio_sign) f cdv A outer s H E) (defBody s_Ratio_sign) (t_Ratio_sign K) := by
  exact PSs.nox (pss_one (ps_ret (pe_op op_sub (pe_callTy cr_int (by rfl) T.f_int (by decide +kernel) (pa_cons (pe_cmpR op_gt (pe_fld (pv 0) rfl) pe_int (nomark _)) pa_nil)) (pe_callTy cr_int (by rfl) T.f_int (by decide +kernel) (pa_cons (pe_cmpR op_lt (pe_fld (pv 0) rfl) pe_int (nomark _)) pa_nil)))))
abbrev s_Ratio_is_whole : Stmt := inClass (top 18) 4
theorem sc_Ratio_is_whole : FnScope ["self"] ["self"] (defScope s_Ratio_is_whole) := ⟨rfl, rfl, rfl, by decide +kernel, rfl, by decide +kernel, by decide +kernel⟩
def t_Ratio_is_whole (K : PySem.W.Frag) : TS :=
    (tRet (tOp rEq (tFld K (tVar 0) "own_bottom") (tC (.int 1))))
theorem body_Ratio_is_whole {P : Program} {w : World} {K : PySem.W.Frag} {mg : Str → Option Value} {base : Heap} (T : Txt K mg) 
    {f : Addr} {cdv : Value} {A : Around} {outer : List Env} {s : Shared} {H : Hp} {E : XK} (hr : Room 0 (A.deeper (PyProof.Rows.envOfC "Ratio.is_whole" (defScope s_Ratio_is_whole) s.heap.objs.size f cdv))) :
    PSs (cxOf CX0 P w K mg base ["self"] "Ratio.is_whole" (defScope s_Ratio_is_whole) f cdv A outer s H E) (defBody s_Ratio_is_whole) (t_Ratio_is_whole K) := by
  exact PSs.nox (pss_one (ps_ret (pe_cmpR op_eq (pe_fld (pv 0) rfl) pe_int (nomark _))))
abbrev s_told_pair : Stmt := top 19
theorem sc_told_pair : FnScope ["value"] ["value"] (defScope s_told_pair) := ⟨rfl, rfl, rfl, by decide +kernel, rfl, by decide +kernel, by decide +kernel⟩
def t_told_pair (K : PySem.W.Frag) : TS :=
    (tSeq (tIfS (tB (tCB (rIsi K) (tCons (tVar 0) (tCons (tC (.ref (He.ga K "Ratio"))) tNil)))) (tRet (tTup (tCons (tFld K (tVar 0) "own_top") (tCons (tFld K (tVar 0) "own_bottom") tNil)))) tNext)
    (tSeq (tIfS (tNot (tB (tCall (pureSp (C_is_integer K)) [] E0 (tCons (tVar 0) tNil)))) tNever tNext)
    (tRet (tTup (tCons (tVar 0) (tCons (tC (.int 1)) tNil))))))
theorem body_told_pair {P : Program} {w : World} {K : PySem.W.Frag} {mg : Str → Option Value} {base : Heap} (T : Txt K mg) (c0 : Cal P w K mg base "is_integer" 1 ["value"] (pureSp (C_is_integer K)))
    {f : Addr} {cdv : Value} {A : Around} {outer : List Env} {s : Shared} {H : Hp} {E : XK} (hr : Room 1 (A.deeper (PyProof.Rows.envOfC "told_pair" (defScope s_told_pair) s.heap.objs.size f cdv))) :
    PSs (cxOf CX0 P w K mg base ["value"] "told_pair" (defScope s_told_pair) f cdv A outer s H E) (defBody s_told_pair) (t_told_pair K) := by
  obtain ⟨_, _, h0_G, h0_m, h0_k, h0_b⟩ := c0
  exact PSs.nox (pss_cons (ps_if (pt_val (pe_callB call_isi (by rfl) T.f_isinstance (by decide +kernel) (pa_cons (pv 0) (pa_cons (pe_glob (v := .ref (He.ga K "Ratio")) rfl T.g_Ratio rfl) pa_nil)))) (pss_one (ps_ret (pe_tup (pa_cons (pe_fld (pv 0) rfl) (pa_cons (pe_fld (pv 0) rfl) pa_nil))))) pss_nil)
    (pss_cons (ps_if (pt_not (pt_val (pe_call h0_G hr rfl h0_m h0_k h0_b .nil pass0 (pa_cons (pv 0) pa_nil)))) (pss_one ps_never) pss_nil)
    (pss_one (ps_ret (pe_tup (pa_cons (pv 0) (pa_cons pe_int pa_nil)))))))
abbrev s_Ratio_mul : Stmt := inClass (top 18) 10
theorem sc_Ratio_mul : FnScope ["self", "other", "top", "bottom"] ["self", "other"] (defScope s_Ratio_mul) := ⟨rfl, rfl, rfl, by decide +kernel, rfl, by decide +kernel, by decide +kernel⟩
def t_Ratio_mul (K : PySem.W.Frag) : TS :=
    (tSeq (tAsg (tCall (pureSp (C_told_pair K)) [] E0 (tCons (tVar 1) tNil)) (gTup K 2 (gCons (gName 2) (gCons (gName 3) gNil))))
    (tRet (tMake (He.ga K "Ratio") (initSp (He.ga K "Ratio") (C_Ratio_init K)) [] E0 (tCons (tOp oMul (tFld K (tVar 0) "own_top") (tVar 2)) (tCons (tOp oMul (tFld K (tVar 0) "own_bottom") (tVar 3)) tNil)))))
theorem body_Ratio_mul {P : Program} {w : World} {K : PySem.W.Frag} {mg : Str → Option Value} {base : Heap} (T : Txt K mg) (c0 : Cal P w K mg base "told_pair" 2 ["value"] (pureSp (C_told_pair K))) (c1 : MkC P w K mg base "Ratio" (He.ga K "Ratio") 2 ["self", "top", "bottom"] (initSp (He.ga K "Ratio") (C_Ratio_init K)) [])
    {f : Addr} {cdv : Value} {A : Around} {outer : List Env} {s : Shared} {H : Hp} {E : XK} (hr : Room 3 (A.deeper (PyProof.Rows.envOfC "Ratio.__mul__" (defScope s_Ratio_mul) s.heap.objs.size f cdv))) :
    PSs (cxOf CX0 P w K mg base ["self", "other", "top", "bottom"] "Ratio.__mul__" (defScope s_Ratio_mul) f cdv A outer s H E) (defBody s_Ratio_mul) (t_Ratio_mul K) := by
  obtain ⟨_, _, h0_G, h0_m, h0_k, h0_b⟩ := c0
  obtain ⟨_, _, _, h1_M, h1_G, h1_b, h1_v, h1_m⟩ := c1
  exact PSs.nox (pss_cons (ps_asg (pe_call h0_G (hr.mono (by decide)) rfl h0_m h0_k h0_b .nil pass0 (pa_cons (pv 1) pa_nil)) (pg_tup rfl (pgs_cons (pg_name (i := 2) sc_Ratio_mul.nd rfl (Or.inl rfl) (hf := .inl rfl)) (pgs_cons (pg_name (i := 3) sc_Ratio_mul.nd rfl (Or.inl rfl) (hf := .inl rfl)) pgs_nil))))
    (pss_one (ps_ret (pe_make h1_M h1_G hr rfl h1_m h1_b h1_v pass0 (pa_cons (pe_op op_mulW (pe_fld (pv 0) rfl) (pv 2)) (pa_cons (pe_op op_mulW (pe_fld (pv 0) rfl) (pv 3)) pa_nil))))))
abbrev s_Ratio_sub : Stmt := inClass (top 18) 8
theorem sc_Ratio_sub : FnScope ["self", "other", "top", "bottom"] ["self", "other"] (defScope s_Ratio_sub) := ⟨rfl, rfl, rfl, by decide +kernel, rfl, by decide +kernel, by decide +kernel⟩
def t_Ratio_sub (K : PySem.W.Frag) : TS :=
    (tSeq (tAsg (tCall (pureSp (C_told_pair K)) [] E0 (tCons (tVar 1) tNil)) (gTup K 2 (gCons (gName 2) (gCons (gName 3) gNil))))
    (tRet (tMake (He.ga K "Ratio") (initSp (He.ga K "Ratio") (C_Ratio_init K)) [] E0 (tCons (tOp oSub (tOp oMul (tFld K (tVar 0) "own_top") (tVar 3)) (tOp oMul (tVar 2) (tFld K (tVar 0) "own_bottom"))) (tCons (tOp oMul (tFld K (tVar 0) "own_bottom") (tVar 3)) tNil)))))
theorem body_Ratio_sub {P : Program} {w : World} {K : PySem.W.Frag} {mg : Str → Option Value} {base : Heap} (T : Txt K mg) (c0 : Cal P w K mg base "told_pair" 2 ["value"] (pureSp (C_told_pair K))) (c1 : MkC P w K mg base "Ratio" (He.ga K "Ratio") 2 ["self", "top", "bottom"] (initSp (He.ga K "Ratio") (C_Ratio_init K)) [])
    {f : Addr} {cdv : Value} {A : Around} {outer : List Env} {s : Shared} {H : Hp} {E : XK} (hr : Room 3 (A.deeper (PyProof.Rows.envOfC "Ratio.__sub__" (defScope s_Ratio_sub) s.heap.objs.size f cdv))) :
    PSs (cxOf CX0 P w K mg base ["self", "other", "top", "bottom"] "Ratio.__sub__" (defScope s_Ratio_sub) f cdv A outer s H E) (defBody s_Ratio_sub) (t_Ratio_sub K) := by
  obtain ⟨_, _, h0_G, h0_m, h0_k, h0_b⟩ := c0
  obtain ⟨_, _, _, h1_M, h1_G, h1_b, h1_v, h1_m⟩ := c1
  exact PSs.nox (pss_cons (ps_asg (pe_call h0_G (hr.mono (by decide)) rfl h0_m h0_k h0_b .nil pass0 (pa_cons (pv 1) pa_nil)) (pg_tup rfl (pgs_cons (pg_name (i := 2) sc_Ratio_sub.nd rfl (Or.inl rfl) (hf := .inl rfl)) (pgs_cons (pg_name (i := 3) sc_Ratio_sub.nd rfl (Or.inl rfl) (hf := .inl rfl)) pgs_nil))))
    (pss_one (ps_ret (pe_make h1_M h1_G hr rfl h1_m h1_b h1_v pass0 (pa_cons (pe_op op_sub (pe_op op_mulW (pe_fld (pv 0) rfl) (pv 3)) (pe_op op_mulW (pv 2) (pe_fld (pv 0) rfl))) (pa_cons (pe_op op_mulW (pe_fld (pv 0) rfl) (pv 3)) pa_nil))))))
abbrev s_Ratio_over : Stmt := inClass (top 18) 13
theorem sc_Ratio_over : FnScope ["self", "other", "top", "bottom"] ["self", "other"] (defScope s_Ratio_over) := ⟨rfl, rfl, rfl, by decide +kernel, rfl, by decide +kernel, by decide +kernel⟩
def t_Ratio_over (K : PySem.W.Frag) : TS :=
    (tSeq (tAsg (tCall (pureSp (C_told_pair K)) [] E0 (tCons (tVar 1) tNil)) (gTup K 2 (gCons (gName 2) (gCons (gName 3) gNil))))
    (tSeq (tIfS (tTest (tOp rEq (tVar 2) (tC (.int 0)))) tNever tNext)
    (tRet (tMake (He.ga K "Ratio") (initSp (He.ga K "Ratio") (C_Ratio_init K)) [] E0 (tCons (tOp oMul (tFld K (tVar 0) "own_top") (tVar 3)) (tCons (tOp oMul (tFld K (tVar 0) "own_bottom") (tVar 2)) tNil))))))
theorem body_Ratio_over {P : Program} {w : World} {K : PySem.W.Frag} {mg : Str → Option Value} {base : Heap} (T : Txt K mg) (c0 : Cal P w K mg base "told_pair" 2 ["value"] (pureSp (C_told_pair K))) (c1 : MkC P w K mg base "Ratio" (He.ga K "Ratio") 2 ["self", "top", "bottom"] (initSp (He.ga K "Ratio") (C_Ratio_init K)) [])
    {f : Addr} {cdv : Value} {A : Around} {outer : List Env} {s : Shared} {H : Hp} {E : XK} (hr : Room 3 (A.deeper (PyProof.Rows.envOfC "Ratio.over" (defScope s_Ratio_over) s.heap.objs.size f cdv))) :
    PSs (cxOf CX0 P w K mg base ["self", "other", "top", "bottom"] "Ratio.over" (defScope s_Ratio_over) f cdv A outer s H E) (defBody s_Ratio_over) (t_Ratio_over K) := by
  obtain ⟨_, _, h0_G, h0_m, h0_k, h0_b⟩ := c0
  obtain ⟨_, _, _, h1_M, h1_G, h1_b, h1_v, h1_m⟩ := c1
  exact PSs.nox (pss_cons (ps_asg (pe_call h0_G (hr.mono (by decide)) rfl h0_m h0_k h0_b .nil pass0 (pa_cons (pv 1) pa_nil)) (pg_tup rfl (pgs_cons (pg_name (i := 2) sc_Ratio_over.nd rfl (Or.inl rfl) (hf := .inl rfl)) (pgs_cons (pg_name (i := 3) sc_Ratio_over.nd rfl (Or.inl rfl) (hf := .inl rfl)) pgs_nil))))
    (pss_cons (ps_if (pt_cmpR op_eq (pv 2) pe_int (nomark _)) (pss_one ps_never) pss_nil)
    (pss_one (ps_ret (pe_make h1_M h1_G hr rfl h1_m h1_b h1_v pass0 (pa_cons (pe_op op_mulW (pe_fld (pv 0) rfl) (pv 3)) (pa_cons (pe_op op_mulW (pe_fld (pv 0) rfl) (pv 2)) pa_nil)))))))
abbrev s_Ratio_eq : Stmt := inClass (top 18) 17
theorem sc_Ratio_eq : FnScope ["self", "other"] ["self", "other"] (defScope s_Ratio_eq) := ⟨rfl, rfl, rfl, by decide +kernel, rfl, by decide +kernel, by decide +kernel⟩
def t_Ratio_eq (K : PySem.W.Frag) : TS :=
    (tSeq (tIfS (tNot (tB (tCB (rIsi K) (tCons (tVar 1) (tCons (tC (.ref (He.ga K "Ratio"))) tNil))))) (tRet (tC (.bl false))) tNext)
    (tRet (tAndV (tOp rEq (tFld K (tVar 0) "own_top") (tFld K (tVar 1) "own_top")) (tOp rEq (tFld K (tVar 0) "own_bottom") (tFld K (tVar 1) "own_bottom")))))
theorem body_Ratio_eq {P : Program} {w : World} {K : PySem.W.Frag} {mg : Str → Option Value} {base : Heap} (T : Txt K mg) 
    {f : Addr} {cdv : Value} {A : Around} {outer : List Env} {s : Shared} {H : Hp} {E : XK} (hr : Room 0 (A.deeper (PyProof.Rows.envOfC "Ratio.__eq__" (defScope s_Ratio_eq) s.heap.objs.size f cdv))) :
    PSs (cxOf CX0 P w K mg base ["self", "other"] "Ratio.__eq__" (defScope s_Ratio_eq) f cdv A outer s H E) (defBody s_Ratio_eq) (t_Ratio_eq K) := by
  exact PSs.nox (pss_cons (ps_if (pt_not (pt_val (pe_callB call_isi (by rfl) T.f_isinstance (by decide +kernel) (pa_cons (pv 1) (pa_cons (pe_glob (v := .ref (He.ga K "Ratio")) rfl T.g_Ratio rfl) pa_nil))))) (pss_one (ps_ret pe_bl)) pss_nil)
    (pss_one (ps_ret (pe_and (pe_cmpR op_eq (pe_fld (pv 0) rfl) (pe_fld (pv 1) rfl) (nomark _)) (pe_one (pe_cmpR op_eq (pe_fld (pv 0) rfl) (pe_fld (pv 1) rfl) (nomark _)))))))
abbrev s_is_number : Stmt := top 20
theorem sc_is_number : FnScope ["value"] ["value"] (defScope s_is_number) := ⟨rfl, rfl, rfl, by decide +kernel, rfl, by decide +kernel, by decide +kernel⟩
def t_is_number (K : PySem.W.Frag) : TS :=
    (tRet (tOrV (tCall (pureSp (C_is_integer K)) [] E0 (tCons (tVar 0) tNil)) (tCB (rIsi K) (tCons (tVar 0) (tCons (tC (.ref (He.ga K "Ratio"))) tNil)))))
theorem body_is_number {P : Program} {w : World} {K : PySem.W.Frag} {mg : Str → Option Value} {base : Heap} (T : Txt K mg) (c0 : Cal P w K mg base "is_integer" 1 ["value"] (pureSp (C_is_integer K)))
    {f : Addr} {cdv : Value} {A : Around} {outer : List Env} {s : Shared} {H : Hp} {E : XK} (hr : Room 1 (A.deeper (PyProof.Rows.envOfC "is_number" (defScope s_is_number) s.heap.objs.size f cdv))) :
    PSs (cxOf CX0 P w K mg base ["value"] "is_number" (defScope s_is_number) f cdv A outer s H E) (defBody s_is_number) (t_is_number K) := by
  obtain ⟨_, _, h0_G, h0_m, h0_k, h0_b⟩ := c0
  exact PSs.nox (pss_one (ps_ret (pe_or (pe_call h0_G hr rfl h0_m h0_k h0_b .nil pass0 (pa_cons (pv 0) pa_nil)) (pe_one (pe_callB call_isi (by rfl) T.f_isinstance (by decide +kernel) (pa_cons (pv 0) (pa_cons (pe_glob (v := .ref (He.ga K "Ratio")) rfl T.g_Ratio rfl) pa_nil)))))))
abbrev s_ratio_of : Stmt := top 21
theorem sc_ratio_of : FnScope ["number"] ["number"] (defScope s_ratio_of) := ⟨rfl, rfl, rfl, by decide +kernel, rfl, by decide +kernel, by decide +kernel⟩
def t_ratio_of (K : PySem.W.Frag) : TS :=
    (tRet (tIf (tB (tCB (rIsi K) (tCons (tVar 0) (tCons (tC (.ref (He.ga K "Ratio"))) tNil)))) (tVar 0) (tMake (He.ga K "Ratio") (initSp (He.ga K "Ratio") (C_Ratio_init K)) [.int 1] E0 (tCons (tVar 0) tNil))))
theorem body_ratio_of {P : Program} {w : World} {K : PySem.W.Frag} {mg : Str → Option Value} {base : Heap} (T : Txt K mg) (c0 : MkC P w K mg base "Ratio" (He.ga K "Ratio") 2 ["self", "top", "bottom"] (initSp (He.ga K "Ratio") (C_Ratio_init K)) [.int 1])
    {f : Addr} {cdv : Value} {A : Around} {outer : List Env} {s : Shared} {H : Hp} {E : XK} (hr : Room 3 (A.deeper (PyProof.Rows.envOfC "ratio_of" (defScope s_ratio_of) s.heap.objs.size f cdv))) :
    PSs (cxOf CX0 P w K mg base ["number"] "ratio_of" (defScope s_ratio_of) f cdv A outer s H E) (defBody s_ratio_of) (t_ratio_of K) := by
  obtain ⟨_, _, _, h0_M, h0_G, h0_b, h0_v, h0_m⟩ := c0
  exact PSs.nox (pss_one (ps_ret (pe_ifExp (pt_val (pe_callB call_isi (by rfl) T.f_isinstance (by decide +kernel) (pa_cons (pv 0) (pa_cons (pe_glob (v := .ref (He.ga K "Ratio")) rfl T.g_Ratio rfl) pa_nil)))) (pv 0) (pe_make h0_M h0_G hr rfl h0_m h0_b h0_v pass0 (pa_cons (pv 0) pa_nil)))))
abbrev s_less_row : Stmt := top 26
theorem sc_less_row : FnScope ["row", "base", "many", "one", "other"] ["row", "base", "many"] (defScope s_less_row) := ⟨rfl, rfl, rfl, by decide +kernel, rfl, by decide +kernel, by decide +kernel⟩
def t_less_row (K : PySem.W.Frag) : TS :=
    (tRet (tLc (iZip K (tCons (tVar 0) (tCons (tVar 1) tNil))) (gTup K 2 (gCons (gName 3) (gCons (gName 4) gNil))) tYes (tOp oSub (tVar 3) (tOp oMul (tVar 2) (tVar 4))) [3, 4]))
theorem body_less_row {P : Program} {w : World} {K : PySem.W.Frag} {mg : Str → Option Value} {base : Heap} (T : Txt K mg) 
    {f : Addr} {cdv : Value} {A : Around} {outer : List Env} {s : Shared} {H : Hp} {E : XK} (hr : Room 0 (A.deeper (PyProof.Rows.envOfC "less_row" (defScope s_less_row) s.heap.objs.size f cdv))) :
    PSs (cxOf CX0 P w K mg base ["row", "base", "many", "one", "other"] "less_row" (defScope s_less_row) f cdv A outer s H E) (defBody s_less_row) (t_less_row K) := by
  exact PSs.nox (pss_one (ps_ret (pe_lc (own := [("one", 3), ("other", 4)]) (g := (gTup K 2 (gCons (gName 3) (gCons (gName 4) gNil)))) (tt := tYes) (te := (tOp oSub (tVar 3) (tOp oMul (tVar 2) (tVar 4)))) rfl sc_less_row.nd (pi_zip (by rfl) T.f_zip (pa_cons (pv 0) (pa_cons (pv 1) pa_nil))) (blkOk_by (N := ["row", "base", "many", "one", "other"]) (sc := defScope s_less_row) (by decide +kernel)) (fun _ _ _ _ _ => (pg_tup rfl (pgs_cons (pg_name (i := 3) sc_less_row.nd rfl (Or.inl rfl) (hf := Or.inr rfl)) (pgs_cons (pg_name (i := 4) sc_less_row.nd rfl (Or.inl rfl) (hf := Or.inr rfl)) pgs_nil)))) (fun _ _ _ _ _ => pts_nil) (fun _ _ _ _ _ => (pe_op op_sub (pv 3) (pe_op op_mulW (pv 2) (pv 4)))))))
abbrev s_least_at : Stmt := top 27
theorem sc_least_at : FnScope ["rows", "place", "found", "at", "row"] ["rows", "place"] (defScope s_least_at) := ⟨rfl, rfl, rfl, by decide +kernel, rfl, by decide +kernel, by decide +kernel⟩
def t_least_at (K : PySem.W.Frag) : TS :=
    (tSeq (tAsg (tC (.int 0)) (gName 2))
    (tSeq (tFor (iEnum K (tCons (tVar 0) tNil)) (gTup K 2 (gCons (gName 3) (gCons (gName 4) gNil))) (tIfS (tTest (tOp oLt (tCB uAbs (tCons (tOp (rIxL K) (tVar 4) (tVar 1)) tNil)) (tCB uAbs (tCons (tOp (rIxL K) (tOp (rIxL K) (tVar 0) (tVar 2)) (tVar 1)) tNil)))) (tAsg (tVar 3) (gName 2)) tNext))
    (tRet (tVar 2))))
theorem body_least_at {P : Program} {w : World} {K : PySem.W.Frag} {mg : Str → Option Value} {base : Heap} (T : Txt K mg) 
    {f : Addr} {cdv : Value} {A : Around} {outer : List Env} {s : Shared} {H : Hp} {E : XK} (hr : Room 0 (A.deeper (PyProof.Rows.envOfC "least_at" (defScope s_least_at) s.heap.objs.size f cdv))) :
    PSs (cxOf CX0 P w K mg base ["rows", "place", "found", "at", "row"] "least_at" (defScope s_least_at) f cdv A outer s H E) (defBody s_least_at) (t_least_at K) := by
  exact PSs.nox (pss_cons (ps_set (i := 2) sc_least_at.nd rfl (Or.inl rfl) pe_int)
    (pss_cons (ps_for PassesOwn.never rfl (pi_enum (by rfl) T.f_enumerate (pa_cons (pv 0) pa_nil)) (pg_tup rfl (pgs_cons (pg_name (i := 3) sc_least_at.nd rfl (Or.inl rfl) (hf := .inl rfl)) (pgs_cons (pg_name (i := 4) sc_least_at.nd rfl (Or.inl rfl) (hf := .inl rfl)) pgs_nil))) (pss_one (ps_if (pt_cmpR op_lt (pe_callB cr_abs (by rfl) T.f_abs (by decide +kernel) (pa_cons (pe_ix ix_list (pv 4) (pv 1) (fun _ _ => rfl)) pa_nil)) (pe_callB cr_abs (by rfl) T.f_abs (by decide +kernel) (pa_cons (pe_ix ix_list (pe_ix ix_list (pv 0) (pv 2) (fun _ _ => rfl)) (pv 1) (fun _ _ => rfl)) pa_nil)) (nomark _)) (pss_one (ps_set (i := 2) sc_least_at.nd rfl (Or.inl rfl) (pv 3))) pss_nil)))
    (pss_one (ps_ret (pv 2)))))
abbrev s_alone_at : Stmt := top 28
theorem sc_alone_at : FnScope ["rows", "place", "some", "others", "at", "base", "late", "row", "one"] ["rows", "place"] (defScope s_alone_at) := ⟨rfl, rfl, rfl, by decide +kernel, rfl, by decide +kernel, by decide +kernel⟩
def t_alone_at (K : PySem.W.Frag) : TS :=
    (tSeq (tPar 2 3 (tCons (tVar 0) (tCons (tLst tNil) tNil)))
    (tSeq (tWhile (tTest (tOp oGt (tCB (uLen K) (tCons (tVar 2) tNil)) (tC (.int 1)))) (tSeq (tAsg (tCall (pureSp (C_least_at K)) [] E0 (tCons (tVar 2) (tCons (tVar 1) tNil))) (gName 4))
    (tSeq (tAsg (tOp (rIxL K) (tVar 2) (tVar 4)) (gName 5))
    (tSeq (tAsg (tLc (iList K (tOp rCat (tSl (rSlL K) (tVar 2) tNoPart (tPart (tVar 4))) (tSl (rSlL K) (tVar 2) (tPart (tOp oAdd (tVar 4) (tC (.int 1)))) tNoPart))) (gName 7) tYes (tCall (pureSp (C_less_row K)) [] E0 (tCons (tVar 7) (tCons (tVar 5) (tCons (tOp oDiv (tOp (rIxL K) (tVar 7) (tVar 1)) (tOp (rIxL K) (tVar 5) (tVar 1))) tNil)))) [7]) (gName 6))
    (tSeq (tDrop (tBM K "list" rExtend (tVar 3) (tCons (tLc (iList K (tVar 6)) (gName 7) (tTest (tOp rEq (tOp (rIxL K) (tVar 7) (tVar 1)) (tC (.int 0)))) (tVar 7) [7]) tNil)))
    (tAsg (tOp rCat (tLst (tCons (tVar 5) tNil)) (tLc (iList K (tVar 6)) (gName 7) (tTest (tOp rNe (tOp (rIxL K) (tVar 7) (tVar 1)) (tC (.int 0)))) (tVar 7) [7])) (gName 2)))))))
    (tSeq (tAsg (tOp (rIxL K) (tVar 2) (tC (.int 0))) (gName 7))
    (tRet (tTup (tCons (tIf (tTest (tOp oGt (tOp (rIxL K) (tVar 7) (tVar 1)) (tC (.int 0)))) (tVar 7) (tLc (iList K (tVar 7)) (gName 8) tYes (tOp oSub (tC (.int 0)) (tVar 8)) [8])) (tCons (tVar 3) tNil)))))))
theorem body_alone_at {P : Program} {w : World} {K : PySem.W.Frag} {mg : Str → Option Value} {base : Heap} (T : Txt K mg) (c0 : Cal P w K mg base "least_at" 1 ["rows", "place"] (pureSp (C_least_at K))) (c1 : Cal P w K mg base "less_row" 1 ["row", "base", "many"] (pureSp (C_less_row K)))
    {f : Addr} {cdv : Value} {A : Around} {outer : List Env} {s : Shared} {H : Hp} {E : XK} (hr : Room 1 (A.deeper (PyProof.Rows.envOfC "alone_at" (defScope s_alone_at) s.heap.objs.size f cdv))) :
    PSs (cxOf CX0 P w K mg base ["rows", "place", "some", "others", "at", "base", "late", "row", "one"] "alone_at" (defScope s_alone_at) f cdv A outer s H E) (defBody s_alone_at) (t_alone_at K) := by
  obtain ⟨_, _, h0_G, h0_m, h0_k, h0_b⟩ := c0
  obtain ⟨_, _, h1_G, h1_m, h1_k, h1_b⟩ := c1
  exact PSs.nox (pss_cons (ps_par (i := 2) (j := 3) rfl sc_alone_at.nd rfl rfl (by decide) rfl rfl (pa_cons (pv 0) (pa_cons (pe_lst pa_nil) pa_nil)) (by rfl))
    (pss_cons (ps_while PassesOwn.never (pt_cmpR op_gt (pe_callB cr_len (by rfl) T.f_len PySem.boot_len (pa_cons (pv 2) pa_nil)) pe_int (nomark _)) (pss_cons (ps_set (i := 4) sc_alone_at.nd rfl (Or.inl rfl) (pe_call h0_G hr rfl h0_m h0_k h0_b .nil pass0 (pa_cons (pv 2) (pa_cons (pv 1) pa_nil))))
    (pss_cons (ps_set (i := 5) sc_alone_at.nd rfl (Or.inr rfl) (pe_ix ix_list (pv 2) (pv 4) (fun _ _ => rfl)))
    (pss_cons (ps_setLc (i := 6) (own := [("row", 7)]) (g := (gName 7)) (tt := tYes) (te := (tCall (pureSp (C_less_row K)) [] E0 (tCons (tVar 7) (tCons (tVar 5) (tCons (tOp oDiv (tOp (rIxL K) (tVar 7) (tVar 1)) (tOp (rIxL K) (tVar 5) (tVar 1))) tNil))))) rfl sc_alone_at.nd rfl rfl (sw_true rfl rfl rfl (by decide +kernel)) (pi_list (pe_op op_cat (pe_slice sl_list (pv 2) po_none (po_some (pv 4))) (pe_slice sl_list (pv 2) (po_some (pe_op op_add (pv 4) pe_int)) po_none))) (blkOk_by (N := ["rows", "place", "some", "others", "at", "base", "late", "row", "one"]) (sc := defScope s_alone_at) (by decide +kernel)) (fun _ _ _ _ _ => (pg_name (i := 7) sc_alone_at.nd rfl (Or.inl rfl) (hf := Or.inr rfl))) (fun _ _ _ _ _ => pts_nil) (fun _ _ _ _ _ => (pe_call h1_G hr rfl h1_m h1_k h1_b .nil pass0 (pa_cons (pv 7) (pa_cons (pv 5) (pa_cons (pe_op op_fdivA (pe_ix ix_list (pv 7) (pv 1) (fun _ _ => rfl)) (pe_ix ix_list (pv 5) (pv 1) (fun _ _ => rfl))) pa_nil))))))
    (pss_cons (ps_expr (pe_bm PySem.F.plainAttrs_list PySem.F.slot_list_extend PySem.F.type_list_extend mt_extend (pv 3) (pa_cons (pe_lc (own := [("row", 7)]) (g := (gName 7)) (tt := (tTest (tOp rEq (tOp (rIxL K) (tVar 7) (tVar 1)) (tC (.int 0))))) (te := (tVar 7)) rfl sc_alone_at.nd (pi_list (pv 6)) (blkOk_by (N := ["rows", "place", "some", "others", "at", "base", "late", "row", "one"]) (sc := defScope s_alone_at) (by decide +kernel)) (fun _ _ _ _ _ => (pg_name (i := 7) sc_alone_at.nd rfl (Or.inl rfl) (hf := Or.inr rfl))) (fun _ _ _ _ _ => (pts_one (pt_cmpR op_eq (pe_ix ix_list (pv 7) (pv 1) (fun _ _ => rfl)) pe_int (nomark _)))) (fun _ _ _ _ _ => (pv 7))) pa_nil)))
    (pss_one (ps_set (i := 2) sc_alone_at.nd rfl (Or.inl rfl) (pe_op op_cat (pe_lst (pa_cons (pv 5) pa_nil)) (pe_lc (own := [("row", 7)]) (g := (gName 7)) (tt := (tTest (tOp rNe (tOp (rIxL K) (tVar 7) (tVar 1)) (tC (.int 0))))) (te := (tVar 7)) rfl sc_alone_at.nd (pi_list (pv 6)) (blkOk_by (N := ["rows", "place", "some", "others", "at", "base", "late", "row", "one"]) (sc := defScope s_alone_at) (by decide +kernel)) (fun _ _ _ _ _ => (pg_name (i := 7) sc_alone_at.nd rfl (Or.inl rfl) (hf := Or.inr rfl))) (fun _ _ _ _ _ => (pts_one (pt_cmpR op_ne (pe_ix ix_list (pv 7) (pv 1) (fun _ _ => rfl)) pe_int (nomark _)))) (fun _ _ _ _ _ => (pv 7)))))))))))
    (pss_cons (ps_set (i := 7) sc_alone_at.nd rfl (Or.inl rfl) (pe_ix ix_list (pv 2) pe_int (fun _ _ => rfl)))
    (pss_one (ps_ret (pe_tup (pa_cons (pe_ifExp (pt_cmpR op_gt (pe_ix ix_list (pv 7) (pv 1) (fun _ _ => rfl)) pe_int (nomark _)) (pv 7) (pe_lc (own := [("one", 8)]) (g := (gName 8)) (tt := tYes) (te := (tOp oSub (tC (.int 0)) (tVar 8))) rfl sc_alone_at.nd (pi_list (pv 7)) (blkOk_by (N := ["rows", "place", "some", "others", "at", "base", "late", "row", "one"]) (sc := defScope s_alone_at) (by decide +kernel)) (fun _ _ _ _ _ => (pg_name (i := 8) sc_alone_at.nd rfl (Or.inl rfl) (hf := Or.inr rfl))) (fun _ _ _ _ _ => pts_nil) (fun _ _ _ _ _ => (pe_op op_sub pe_int (pv 8))))) (pa_cons (pv 3) pa_nil))))))))
abbrev s_laddered : Stmt := top 29
theorem sc_laddered : FnScope ["rows", "wide", "left", "found", "places", "place", "some", "head", "late", "row"] ["rows", "wide"] (defScope s_laddered) := ⟨rfl, rfl, rfl, by decide +kernel, rfl, by decide +kernel, by decide +kernel⟩
def t_laddered (K : PySem.W.Frag) : TS :=
    (tSeq (tPar3 2 3 4 (tCons (tVar 0) (tCons (tLst tNil) (tCons (tLst tNil) tNil))))
    (tSeq (tFor (iRng1 (tCons (tVar 1) tNil)) (gName 5) (tSeq (tAsg (tLc (iList K (tVar 2)) (gName 9) (tTest (tOp rNe (tOp (rIxL K) (tVar 9) (tVar 5)) (tC (.int 0)))) (tVar 9) [9]) (gName 6))
    (tIfS (tTest (tOp (rNeD K) (tVar 6) (tLst tNil))) (tSeq (tAsg (tCall (pureSp (C_alone_at K)) [] E0 (tCons (tVar 6) (tCons (tVar 5) tNil))) (gTup K 2 (gCons (gName 7) (gCons (gName 8) gNil))))
    (tSeq (tAsg (tOp rCat (tLc (iList K (tVar 2)) (gName 9) (tTest (tOp rEq (tOp (rIxL K) (tVar 9) (tVar 5)) (tC (.int 0)))) (tVar 9) [9]) (tVar 8)) (gName 2))
    (tSeq (tAsg (tOp rCat (tLc (iList K (tVar 3)) (gName 9) tYes (tCall (pureSp (C_less_row K)) [] E0 (tCons (tVar 9) (tCons (tVar 7) (tCons (tOp oDiv (tOp (rIxL K) (tVar 9) (tVar 5)) (tOp (rIxL K) (tVar 7) (tVar 5))) tNil)))) [9]) (tLst (tCons (tVar 7) tNil))) (gName 3))
    (tDrop (tBM K "list" rAppend (tVar 4) (tCons (tVar 5) tNil)))))) tNext)))
    (tRet (tTup (tCons (tVar 3) (tCons (tVar 4) (tCons (tVar 2) tNil)))))))
theorem body_laddered {P : Program} {w : World} {K : PySem.W.Frag} {mg : Str → Option Value} {base : Heap} (T : Txt K mg) (c0 : Cal P w K mg base "alone_at" 2 ["rows", "place"] (pureSp (C_alone_at K))) (c1 : Cal P w K mg base "less_row" 1 ["row", "base", "many"] (pureSp (C_less_row K)))
    {f : Addr} {cdv : Value} {A : Around} {outer : List Env} {s : Shared} {H : Hp} {E : XK} (hr : Room 2 (A.deeper (PyProof.Rows.envOfC "laddered" (defScope s_laddered) s.heap.objs.size f cdv))) :
    PSs (cxOf CX0 P w K mg base ["rows", "wide", "left", "found", "places", "place", "some", "head", "late", "row"] "laddered" (defScope s_laddered) f cdv A outer s H E) (defBody s_laddered) (t_laddered K) := by
  obtain ⟨_, _, h0_G, h0_m, h0_k, h0_b⟩ := c0
  obtain ⟨_, _, h1_G, h1_m, h1_k, h1_b⟩ := c1
  exact PSs.nox (pss_cons (ps_par3 (i := 2) (j := 3) (l := 4) rfl sc_laddered.nd rfl rfl rfl (by decide) (by decide) (by decide) rfl rfl rfl (pa_cons (pv 0) (pa_cons (pe_lst pa_nil) (pa_cons (pe_lst pa_nil) pa_nil))) (by rfl))
    (pss_cons (ps_for PassesOwn.never rfl (pi_range1 (by rfl) T.f_range (pa_cons (pv 1) pa_nil)) (pg_name (i := 5) sc_laddered.nd rfl (Or.inr rfl) (hf := .inl rfl)) (pss_cons (ps_setLc (i := 6) (own := [("row", 9)]) (g := (gName 9)) (tt := (tTest (tOp rNe (tOp (rIxL K) (tVar 9) (tVar 5)) (tC (.int 0))))) (te := (tVar 9)) rfl sc_laddered.nd rfl rfl (sw_true rfl rfl rfl (by decide +kernel)) (pi_list (pv 2)) (blkOk_by (N := ["rows", "wide", "left", "found", "places", "place", "some", "head", "late", "row"]) (sc := defScope s_laddered) (by decide +kernel)) (fun _ _ _ _ _ => (pg_name (i := 9) sc_laddered.nd rfl (Or.inl rfl) (hf := Or.inr rfl))) (fun _ _ _ _ _ => (pts_one (pt_cmpR op_ne (pe_ix ix_list (pv 9) (pv 5) (fun _ _ => rfl)) pe_int (nomark _)))) (fun _ _ _ _ _ => (pv 9)))
    (pss_one (ps_if (pt_cmpR (op_neD hr.units) (pv 6) (pe_lst pa_nil) (nomark _)) (pss_cons (ps_asg (pe_call h0_G hr rfl h0_m h0_k h0_b .nil pass0 (pa_cons (pv 6) (pa_cons (pv 5) pa_nil))) (pg_tup rfl (pgs_cons (pg_name (i := 7) sc_laddered.nd rfl (Or.inr rfl) (hf := .inl rfl)) (pgs_cons (pg_name (i := 8) sc_laddered.nd rfl (Or.inl rfl) (hf := .inl rfl)) pgs_nil))))
    (pss_cons (ps_set (i := 2) sc_laddered.nd rfl (Or.inl rfl) (pe_op op_cat (pe_lc (own := [("row", 9)]) (g := (gName 9)) (tt := (tTest (tOp rEq (tOp (rIxL K) (tVar 9) (tVar 5)) (tC (.int 0))))) (te := (tVar 9)) rfl sc_laddered.nd (pi_list (pv 2)) (blkOk_by (N := ["rows", "wide", "left", "found", "places", "place", "some", "head", "late", "row"]) (sc := defScope s_laddered) (by decide +kernel)) (fun _ _ _ _ _ => (pg_name (i := 9) sc_laddered.nd rfl (Or.inl rfl) (hf := Or.inr rfl))) (fun _ _ _ _ _ => (pts_one (pt_cmpR op_eq (pe_ix ix_list (pv 9) (pv 5) (fun _ _ => rfl)) pe_int (nomark _)))) (fun _ _ _ _ _ => (pv 9))) (pv 8)))
    (pss_cons (ps_set (i := 3) sc_laddered.nd rfl (Or.inl rfl) (pe_op op_cat (pe_lc (own := [("row", 9)]) (g := (gName 9)) (tt := tYes) (te := (tCall (pureSp (C_less_row K)) [] E0 (tCons (tVar 9) (tCons (tVar 7) (tCons (tOp oDiv (tOp (rIxL K) (tVar 9) (tVar 5)) (tOp (rIxL K) (tVar 7) (tVar 5))) tNil))))) rfl sc_laddered.nd (pi_list (pv 3)) (blkOk_by (N := ["rows", "wide", "left", "found", "places", "place", "some", "head", "late", "row"]) (sc := defScope s_laddered) (by decide +kernel)) (fun _ _ _ _ _ => (pg_name (i := 9) sc_laddered.nd rfl (Or.inl rfl) (hf := Or.inr rfl))) (fun _ _ _ _ _ => pts_nil) (fun _ _ _ _ _ => (pe_call h1_G (hr.mono (by decide)) rfl h1_m h1_k h1_b .nil pass0 (pa_cons (pv 9) (pa_cons (pv 7) (pa_cons (pe_op op_fdivA (pe_ix ix_list (pv 9) (pv 5) (fun _ _ => rfl)) (pe_ix ix_list (pv 7) (pv 5) (fun _ _ => rfl))) pa_nil)))))) (pe_lst (pa_cons (pv 7) pa_nil))))
    (pss_one (ps_expr (pe_bm PySem.F.plainAttrs_list PySem.F.slot_list_append PySem.F.type_list_append mt_append (pv 4) (pa_cons (pv 5) pa_nil))))))) pss_nil))))
    (pss_one (ps_ret (pe_tup (pa_cons (pv 3) (pa_cons (pv 4) (pa_cons (pv 2) pa_nil))))))))
abbrev s_unit_rows : Stmt := top 30
theorem sc_unit_rows : FnScope ["many", "at", "place"] ["many"] (defScope s_unit_rows) := ⟨rfl, rfl, rfl, by decide +kernel, rfl, by decide +kernel, by decide +kernel⟩
def t_unit_rows (K : PySem.W.Frag) : TS :=
    (tRet (tLc (iRng1 (tCons (tVar 0) tNil)) (gName 1) tYes (tLc (iRng1 (tCons (tVar 0) tNil)) (gName 2) tYes (tCB uInt (tCons (tOp rEq (tVar 1) (tVar 2)) tNil)) [2]) [1]))
theorem body_unit_rows {P : Program} {w : World} {K : PySem.W.Frag} {mg : Str → Option Value} {base : Heap} (T : Txt K mg) 
    {f : Addr} {cdv : Value} {A : Around} {outer : List Env} {s : Shared} {H : Hp} {E : XK} (hr : Room 0 (A.deeper (PyProof.Rows.envOfC "unit_rows" (defScope s_unit_rows) s.heap.objs.size f cdv))) :
    PSs (cxOf CX0 P w K mg base ["many", "at", "place"] "unit_rows" (defScope s_unit_rows) f cdv A outer s H E) (defBody s_unit_rows) (t_unit_rows K) := by
  exact PSs.nox (pss_one (ps_ret (pe_lc (own := [("at", 1)]) (g := (gName 1)) (tt := tYes) (te := (tLc (iRng1 (tCons (tVar 0) tNil)) (gName 2) tYes (tCB uInt (tCons (tOp rEq (tVar 1) (tVar 2)) tNil)) [2])) rfl sc_unit_rows.nd (pi_range1 (by rfl) T.f_range (pa_cons (pv 0) pa_nil)) (blkOk_by (N := ["many", "at", "place"]) (sc := defScope s_unit_rows) (by decide +kernel)) (fun _ _ _ _ _ => (pg_name (i := 1) sc_unit_rows.nd rfl (Or.inr rfl) (hf := Or.inl rfl))) (fun _ _ _ _ _ => pts_nil) (fun _ _ _ _ _ => (pe_lc (own := [("place", 2)]) (g := (gName 2)) (tt := tYes) (te := (tCB uInt (tCons (tOp rEq (tVar 1) (tVar 2)) tNil))) rfl sc_unit_rows.nd (pi_range1 (by rfl) T.f_range (pa_cons (pv 0) pa_nil)) (blkOk_by (N := ["many", "at", "place"]) (by show blkC _ (relS _ (defScope s_unit_rows)) _ _ = true; decide +kernel)) (fun _ _ _ _ _ => (pg_name (i := 2) sc_unit_rows.nd rfl (Or.inl rfl) (hf := Or.inr rfl))) (fun _ _ _ _ _ => pts_nil) (fun _ _ _ _ _ => (pe_callTy cr_int (by rfl) T.f_int (by decide +kernel) (pa_cons (pe_cmpR op_eq (pv 1) (pv 2) (nomark _)) pa_nil))))))))
abbrev s_Ladder_init : Stmt := inClass (top 31) 0
theorem sc_Ladder_init : FnScope ["self", "rows", "units", "columns", "at", "unit", "row"] ["self", "rows"] (defScope s_Ladder_init) := ⟨rfl, rfl, rfl, by decide +kernel, rfl, by decide +kernel, by decide +kernel⟩
def t_Ladder_init (K : PySem.W.Frag) : TS :=
    (tSeq (sFld K (tVar 0) (tCB (uLen K) (tCons (tVar 1) tNil)) "own_many")
    (tSeq (tAsg (tCall (pureSp (C_unit_rows K)) [] E0 (tCons (tCB (uLen K) (tCons (tOp (rIxL K) (tVar 1) (tC (.int 0))) tNil)) tNil)) (gName 2))
    (tSeq (tAsg (tLc (iEnum K (tCons (tVar 2) tNil)) (gTup K 2 (gCons (gName 4) (gCons (gName 5) gNil))) tYes (tOp rCat (tLc (iList K (tVar 1)) (gName 6) tYes (tOp (rIxL K) (tVar 6) (tVar 4)) [6]) (tVar 5)) [4, 5]) (gName 3))
    (tAsg (tCall (pureSp (C_laddered K)) [] E0 (tCons (tVar 3) (tCons (tCB (uLen K) (tCons (tVar 1) tNil)) tNil))) (gTup K 3 (gCons (gFld K (tVar 0) "own_heads") (gCons (gFld K (tVar 0) "own_places") (gCons (gFld K (tVar 0) "own_left") gNil))))))))
theorem body_Ladder_init {P : Program} {w : World} {K : PySem.W.Frag} {mg : Str → Option Value} {base : Heap} (T : Txt K mg) (c0 : Cal P w K mg base "unit_rows" 1 ["many"] (pureSp (C_unit_rows K))) (c1 : Cal P w K mg base "laddered" 3 ["rows", "wide"] (pureSp (C_laddered K)))
    {f : Addr} {cdv : Value} {A : Around} {outer : List Env} {s : Shared} {H : Hp} {E : XK} (hr : Room 3 (A.deeper (PyProof.Rows.envOfC "Ladder.__init__" (defScope s_Ladder_init) s.heap.objs.size f cdv))) :
    PSs (cxOf CX0 P w K mg base ["self", "rows", "units", "columns", "at", "unit", "row"] "Ladder.__init__" (defScope s_Ladder_init) f cdv A outer s H E) (defBody s_Ladder_init) (t_Ladder_init K) := by
  obtain ⟨_, _, h0_G, h0_m, h0_k, h0_b⟩ := c0
  obtain ⟨_, _, h1_G, h1_m, h1_k, h1_b⟩ := c1
  exact PSs.nox (pss_cons (ps_fld (pv 0) (pe_callB cr_len (by rfl) T.f_len PySem.boot_len (pa_cons (pv 1) pa_nil)) rfl)
    (pss_cons (ps_set (i := 2) sc_Ladder_init.nd rfl (Or.inl rfl) (pe_call h0_G (hr.mono (by decide)) rfl h0_m h0_k h0_b .nil pass0 (pa_cons (pe_callB cr_len (by rfl) T.f_len PySem.boot_len (pa_cons (pe_ix ix_list (pv 1) pe_int (fun _ _ => rfl)) pa_nil)) pa_nil)))
    (pss_cons (ps_setLc (i := 3) (own := [("at", 4), ("unit", 5)]) (g := (gTup K 2 (gCons (gName 4) (gCons (gName 5) gNil)))) (tt := tYes) (te := (tOp rCat (tLc (iList K (tVar 1)) (gName 6) tYes (tOp (rIxL K) (tVar 6) (tVar 4)) [6]) (tVar 5))) rfl sc_Ladder_init.nd rfl rfl (sw_true rfl rfl rfl (by decide +kernel)) (pi_enum (by rfl) T.f_enumerate (pa_cons (pv 2) pa_nil)) (blkOk_by (N := ["self", "rows", "units", "columns", "at", "unit", "row"]) (sc := defScope s_Ladder_init) (by decide +kernel)) (fun _ _ _ _ _ => (pg_tup rfl (pgs_cons (pg_name (i := 4) sc_Ladder_init.nd rfl (Or.inr rfl) (hf := Or.inl rfl)) (pgs_cons (pg_name (i := 5) sc_Ladder_init.nd rfl (Or.inl rfl) (hf := Or.inr rfl)) pgs_nil)))) (fun _ _ _ _ _ => pts_nil) (fun _ _ _ _ _ => (pe_op op_cat (pe_lc (own := [("row", 6)]) (g := (gName 6)) (tt := tYes) (te := (tOp (rIxL K) (tVar 6) (tVar 4))) rfl sc_Ladder_init.nd (pi_list (pv 1)) (blkOk_by (N := ["self", "rows", "units", "columns", "at", "unit", "row"]) (by show blkC _ (relS _ (defScope s_Ladder_init)) _ _ = true; decide +kernel)) (fun _ _ _ _ _ => (pg_name (i := 6) sc_Ladder_init.nd rfl (Or.inl rfl) (hf := Or.inr rfl))) (fun _ _ _ _ _ => pts_nil) (fun _ _ _ _ _ => (pe_ix ix_list (pv 6) (pv 4) (fun _ _ => rfl)))) (pv 5))))
    (pss_one (ps_asg (pe_call h1_G hr rfl h1_m h1_k h1_b .nil pass0 (pa_cons (pv 3) (pa_cons (pe_callB cr_len (by rfl) T.f_len PySem.boot_len (pa_cons (pv 1) pa_nil)) pa_nil))) (pg_tup rfl (pgs_cons (pg_fld (pv 0)) (pgs_cons (pg_fld (pv 0)) (pgs_cons (pg_fld (pv 0)) pgs_nil)))))))))
abbrev s_Ladder_shares : Stmt := inClass (top 31) 1
theorem sc_Ladder_shares : FnScope ["self", "goals", "left", "found", "head", "place", "share", "at", "one"] ["self", "goals"] (defScope s_Ladder_shares) := ⟨rfl, rfl, rfl, by decide +kernel, rfl, by decide +kernel, by decide +kernel⟩
def t_Ladder_shares (K : PySem.W.Frag) : TS :=
    (tSeq (tPar 2 3 (tCons (tCB (uList K) (tCons (tVar 1) tNil)) (tCons (tLst tNil) tNil)))
    (tSeq (tFor (iZip K (tCons (tFld K (tVar 0) "own_heads") (tCons (tFld K (tVar 0) "own_places") tNil))) (gTup K 2 (gCons (gName 4) (gCons (gName 5) gNil))) (tSeq (tAsg (tMeth (He.ga K "Ratio") "over" (pureSp (C_Ratio_over K)) [] E0 (tOp (rIxL K) (tVar 2) (tVar 5)) (tCons (tOp (rIxL K) (tVar 4) (tVar 5)) tNil)) (gName 6))
    (tSeq (tAsg (tLc (iEnum K (tCons (tVar 2) tNil)) (gTup K 2 (gCons (gName 7) (gCons (gName 8) gNil))) tYes (tOp (rOwnO (He.ga K "Ratio") (pureSp (C_Ratio_sub K))) (tVar 8) (tOp (rOwnI (He.ga K "Ratio") (pureSp (C_Ratio_mul K))) (tVar 6) (tOp (rIxL K) (tVar 4) (tVar 7)))) [7, 8]) (gName 2))
    (tDrop (tBM K "list" rAppend (tVar 3) (tCons (tVar 6) tNil))))))
    (tRet (tTup (tCons (tVar 3) (tCons (tVar 2) tNil))))))
theorem body_Ladder_shares {P : Program} {w : World} {K : PySem.W.Frag} {mg : Str → Option Value} {base : Heap} (T : Txt K mg) (c0 : MetC P w K mg base (He.ga K "Ratio") "over" 4 ["self", "other"] (pureSp (C_Ratio_over K))) (c1 : OpC P w K mg base (He.ga K "Ratio") "__mul__" "__rmul__" 4 ["self", "other"] (pureSp (C_Ratio_mul K))) (c2 : OpC P w K mg base (He.ga K "Ratio") "__sub__" "__rsub__" 4 ["self", "other"] (pureSp (C_Ratio_sub K)))
    {f : Addr} {cdv : Value} {A : Around} {outer : List Env} {s : Shared} {H : Hp} {E : XK} (hr : Room 4 (A.deeper (PyProof.Rows.envOfC "Ladder.shares" (defScope s_Ladder_shares) s.heap.objs.size f cdv))) :
    PSs (cxOf CX0 P w K mg base ["self", "goals", "left", "found", "head", "place", "share", "at", "one"] "Ladder.shares" (defScope s_Ladder_shares) f cdv A outer s H E) (defBody s_Ladder_shares) (t_Ladder_shares K) := by
  obtain ⟨_, _, h0_m, h0_G, h0_b⟩ := c0
  obtain ⟨_, _, _, _, _, h1_1, h1_2, h1_3, h1_4, h1_5, h1_6, h1_7, h1_8, h1_G, h1_b⟩ := c1
  obtain ⟨_, _, _, _, _, h2_1, h2_2, h2_3, h2_4, h2_5, h2_6, h2_7, h2_8, h2_G, h2_b⟩ := c2
  exact PSs.nox (pss_cons (ps_par (i := 2) (j := 3) rfl sc_Ladder_shares.nd rfl rfl (by decide) rfl rfl (pa_cons (pe_callTy cr_list (by rfl) T.f_list (by decide +kernel) (pa_cons (pv 1) pa_nil)) (pa_cons (pe_lst pa_nil) pa_nil)) (by rfl))
    (pss_cons (ps_for PassesOwn.never rfl (pi_zip (by rfl) T.f_zip (pa_cons (pe_fld (pv 0) rfl) (pa_cons (pe_fld (pv 0) rfl) pa_nil))) (pg_tup rfl (pgs_cons (pg_name (i := 4) sc_Ladder_shares.nd rfl (Or.inr rfl) (hf := .inl rfl)) (pgs_cons (pg_name (i := 5) sc_Ladder_shares.nd rfl (Or.inl rfl) (hf := .inl rfl)) pgs_nil))) (pss_cons (ps_set (i := 6) sc_Ladder_shares.nd rfl (Or.inr rfl) (pe_meth (pe_ix ix_list (pv 2) (pv 5) (fun _ _ => rfl)) T.c_Ratio h0_m h0_G hr h0_b .nil pass0 (pa_cons (pe_ix ix_list (pv 4) (pv 5) (fun _ _ => rfl)) pa_nil)))
    (pss_cons (ps_setLc (i := 2) (own := [("at", 7), ("one", 8)]) (g := (gTup K 2 (gCons (gName 7) (gCons (gName 8) gNil)))) (tt := tYes) (te := (tOp (rOwnO (He.ga K "Ratio") (pureSp (C_Ratio_sub K))) (tVar 8) (tOp (rOwnI (He.ga K "Ratio") (pureSp (C_Ratio_mul K))) (tVar 6) (tOp (rIxL K) (tVar 4) (tVar 7))))) rfl sc_Ladder_shares.nd rfl rfl (sw_true rfl rfl rfl (by decide +kernel)) (pi_enum (by rfl) T.f_enumerate (pa_cons (pv 2) pa_nil)) (blkOk_by (N := ["self", "goals", "left", "found", "head", "place", "share", "at", "one"]) (sc := defScope s_Ladder_shares) (by decide +kernel)) (fun _ _ _ _ _ => (pg_tup rfl (pgs_cons (pg_name (i := 7) sc_Ladder_shares.nd rfl (Or.inl rfl) (hf := Or.inr rfl)) (pgs_cons (pg_name (i := 8) sc_Ladder_shares.nd rfl (Or.inl rfl) (hf := Or.inr rfl)) pgs_nil)))) (fun _ _ _ _ _ => pts_nil) (fun _ _ _ _ _ => (pe_op (op_ownO h2_1 h2_2 h2_3 h2_G hr h2_b) (pv 8) (pe_op (op_ownI h1_1 h1_2 h1_3 h1_4 h1_5 h1_6 h1_7 h1_8 h1_G hr h1_b) (pv 6) (pe_ix ix_list (pv 4) (pv 7) (fun _ _ => rfl))))))
    (pss_one (ps_expr (pe_bm PySem.F.plainAttrs_list PySem.F.slot_list_append PySem.F.type_list_append mt_append (pv 3) (pa_cons (pv 6) pa_nil)))))))
    (pss_one (ps_ret (pe_tup (pa_cons (pv 3) (pa_cons (pv 2) pa_nil)))))))
abbrev s_Ladder_made : Stmt := inClass (top 31) 2
theorem sc_Ladder_made : FnScope ["self", "shares", "found", "share", "head", "one", "more"] ["self", "shares"] (defScope s_Ladder_made) := ⟨rfl, rfl, rfl, by decide +kernel, rfl, by decide +kernel, by decide +kernel⟩
def t_Ladder_made (K : PySem.W.Frag) : TS :=
    (tSeq (tAsg (tIf (tTest (tOp (rNeD K) (tFld K (tVar 0) "own_heads") (tLst tNil))) (tOp rRep (tLst (tCons (tC (.int 0)) tNil)) (tCB (uLen K) (tCons (tSl (rSlL K) (tOp (rIxL K) (tFld K (tVar 0) "own_heads") (tC (.int 0))) (tPart (tFld K (tVar 0) "own_many")) tNoPart) tNil))) (tLst tNil)) (gName 2))
    (tSeq (tFor (iZip K (tCons (tVar 1) (tCons (tFld K (tVar 0) "own_heads") tNil))) (gTup K 2 (gCons (gName 3) (gCons (gName 4) gNil))) (tAsg (tLc (iZip K (tCons (tVar 2) (tCons (tSl (rSlL K) (tVar 4) (tPart (tFld K (tVar 0) "own_many")) tNoPart) tNil))) (gTup K 2 (gCons (gName 5) (gCons (gName 6) gNil))) tYes (tOp oAdd (tVar 5) (tOp oMul (tProp (He.ga K "Ratio") (pureSp (C_Ratio_top K)) [] E0 (tVar 3)) (tVar 6))) [5, 6]) (gName 2)))
    (tRet (tVar 2))))
theorem body_Ladder_made {P : Program} {w : World} {K : PySem.W.Frag} {mg : Str → Option Value} {base : Heap} (T : Txt K mg) (c0 : PrC P w K mg base (He.ga K "Ratio") "top" 1 ["self"] (pureSp (C_Ratio_top K)))
    {f : Addr} {cdv : Value} {A : Around} {outer : List Env} {s : Shared} {H : Hp} {E : XK} (hr : Room 2 (A.deeper (PyProof.Rows.envOfC "Ladder.made" (defScope s_Ladder_made) s.heap.objs.size f cdv))) :
    PSs (cxOf CX0 P w K mg base ["self", "shares", "found", "share", "head", "one", "more"] "Ladder.made" (defScope s_Ladder_made) f cdv A outer s H E) (defBody s_Ladder_made) (t_Ladder_made K) := by
  obtain ⟨_, _, _, h0_p, h0_G, h0_b⟩ := c0
  exact PSs.nox (pss_cons (ps_set (i := 2) sc_Ladder_made.nd rfl (Or.inl rfl) (pe_ifExp (pt_cmpR (op_neD hr.units) (pe_fld (pv 0) rfl) (pe_lst pa_nil) (nomark _)) (pe_op op_rep (pe_lst (pa_cons pe_int pa_nil)) (pe_callB cr_len (by rfl) T.f_len PySem.boot_len (pa_cons (pe_slice sl_list (pe_ix ix_list (pe_fld (pv 0) rfl) pe_int (fun _ _ => rfl)) (po_some (pe_fld (pv 0) rfl)) po_none) pa_nil))) (pe_lst pa_nil)))
    (pss_cons (ps_for PassesOwn.never rfl (pi_zip (by rfl) T.f_zip (pa_cons (pv 1) (pa_cons (pe_fld (pv 0) rfl) pa_nil))) (pg_tup rfl (pgs_cons (pg_name (i := 3) sc_Ladder_made.nd rfl (Or.inr rfl) (hf := .inl rfl)) (pgs_cons (pg_name (i := 4) sc_Ladder_made.nd rfl (Or.inl rfl) (hf := .inl rfl)) pgs_nil))) (pss_one (ps_setLc (i := 2) (own := [("one", 5), ("more", 6)]) (g := (gTup K 2 (gCons (gName 5) (gCons (gName 6) gNil)))) (tt := tYes) (te := (tOp oAdd (tVar 5) (tOp oMul (tProp (He.ga K "Ratio") (pureSp (C_Ratio_top K)) [] E0 (tVar 3)) (tVar 6)))) rfl sc_Ladder_made.nd rfl rfl (sw_true rfl rfl rfl (by decide +kernel)) (pi_zip (by rfl) T.f_zip (pa_cons (pv 2) (pa_cons (pe_slice sl_list (pv 4) (po_some (pe_fld (pv 0) rfl)) po_none) pa_nil))) (blkOk_by (N := ["self", "shares", "found", "share", "head", "one", "more"]) (sc := defScope s_Ladder_made) (by decide +kernel)) (fun _ _ _ _ _ => (pg_tup rfl (pgs_cons (pg_name (i := 5) sc_Ladder_made.nd rfl (Or.inl rfl) (hf := Or.inr rfl)) (pgs_cons (pg_name (i := 6) sc_Ladder_made.nd rfl (Or.inl rfl) (hf := Or.inr rfl)) pgs_nil)))) (fun _ _ _ _ _ => pts_nil) (fun _ _ _ _ _ => (pe_op op_add (pv 5) (pe_op op_mulW (pe_prop (pv 3) T.c_Ratio h0_p h0_G hr h0_b .nil pass0 rfl) (pv 6)))))))
    (pss_one (ps_ret (pv 2)))))
abbrev s_Ladder_bar : Stmt := inClass (top 31) 4
theorem sc_Ladder_bar : FnScope ["self", "goals", "shares", "left", "at", "share", "place", "one", "found", "head", "number"] ["self", "goals"] (defScope s_Ladder_bar) := ⟨rfl, rfl, rfl, by decide +kernel, rfl, by decide +kernel, by decide +kernel⟩
def t_Ladder_bar (K : PySem.W.Frag) : TS :=
    (tSeq (tAsg (tMeth (He.ga K "Ladder") "shares" (pureSp (C_Ladder_shares K)) [] E0 (tVar 0) (tCons (tVar 1) tNil)) (gTup K 2 (gCons (gName 2) (gCons (gName 3) gNil))))
    (tSeq (tFor (iEnum K (tCons (tVar 2) tNil)) (gTup K 2 (gCons (gName 4) (gCons (gName 5) gNil))) (tIfS (tNot (tB (tProp (He.ga K "Ratio") (pureSp (C_Ratio_is_whole K)) [] E0 (tVar 5)))) tNever tNext))
    (tSeq (tFor (iEnum K (tCons (tVar 3) tNil)) (gTup K 2 (gCons (gName 6) (gCons (gName 7) gNil))) (tIfS (tTest (tOp rNe (tProp (He.ga K "Ratio") (pureSp (C_Ratio_sign K)) [] E0 (tVar 7)) (tC (.int 0)))) tNever tNext))
    (tRet (tC .non)))))
theorem body_Ladder_bar {P : Program} {w : World} {K : PySem.W.Frag} {mg : Str → Option Value} {base : Heap} (T : Txt K mg) (c0 : MetC P w K mg base (He.ga K "Ladder") "shares" 5 ["self", "goals"] (pureSp (C_Ladder_shares K))) (c1 : PrC P w K mg base (He.ga K "Ratio") "is_whole" 1 ["self"] (pureSp (C_Ratio_is_whole K))) (c2 : PrC P w K mg base (He.ga K "Ratio") "sign" 1 ["self"] (pureSp (C_Ratio_sign K)))
    {f : Addr} {cdv : Value} {A : Around} {outer : List Env} {s : Shared} {H : Hp} {E : XK} (hr : Room 5 (A.deeper (PyProof.Rows.envOfC "Ladder.bar" (defScope s_Ladder_bar) s.heap.objs.size f cdv))) :
    PSs (cxOf CX0 P w K mg base ["self", "goals", "shares", "left", "at", "share", "place", "one", "found", "head", "number"] "Ladder.bar" (defScope s_Ladder_bar) f cdv A outer s H E) (defBody s_Ladder_bar) (t_Ladder_bar K) := by
  obtain ⟨_, _, h0_m, h0_G, h0_b⟩ := c0
  obtain ⟨_, _, _, h1_p, h1_G, h1_b⟩ := c1
  obtain ⟨_, _, _, h2_p, h2_G, h2_b⟩ := c2
  exact PSs.nox (pss_cons (ps_asg (pe_meth (pv 0) T.c_Ladder h0_m h0_G hr h0_b .nil pass0 (pa_cons (pv 1) pa_nil)) (pg_tup rfl (pgs_cons (pg_name (i := 2) sc_Ladder_bar.nd rfl (Or.inl rfl) (hf := .inl rfl)) (pgs_cons (pg_name (i := 3) sc_Ladder_bar.nd rfl (Or.inl rfl) (hf := .inl rfl)) pgs_nil))))
    (pss_cons (ps_for PassesOwn.never rfl (pi_enum (by rfl) T.f_enumerate (pa_cons (pv 2) pa_nil)) (pg_tup rfl (pgs_cons (pg_name (i := 4) sc_Ladder_bar.nd rfl (Or.inr rfl) (hf := .inl rfl)) (pgs_cons (pg_name (i := 5) sc_Ladder_bar.nd rfl (Or.inl rfl) (hf := .inl rfl)) pgs_nil))) (pss_one (ps_if (pt_not (pt_val (pe_prop (pv 5) T.c_Ratio h1_p h1_G (hr.mono (by decide)) h1_b .nil pass0 rfl))) pss_never pss_nil)))
    (pss_cons (ps_for PassesOwn.never rfl (pi_enum (by rfl) T.f_enumerate (pa_cons (pv 3) pa_nil)) (pg_tup rfl (pgs_cons (pg_name (i := 6) sc_Ladder_bar.nd rfl (Or.inr rfl) (hf := .inl rfl)) (pgs_cons (pg_name (i := 7) sc_Ladder_bar.nd rfl (Or.inr rfl) (hf := .inl rfl)) pgs_nil))) (pss_one (ps_if (pt_cmpR op_ne (pe_prop (pv 7) T.c_Ratio h2_p h2_G (hr.mono (by decide)) h2_b .nil pass0 rfl) pe_int (nomark _)) pss_never pss_nil)))
    (pss_one (ps_ret pe_non)))))
abbrev s_solution_for : Stmt := top 32
theorem sc_solution_for : FnScope ["rows", "goals", "ladder", "found"] ["rows", "goals"] (defScope s_solution_for) := ⟨rfl, rfl, rfl, by decide +kernel, rfl, by decide +kernel, by decide +kernel⟩
def t_solution_for (K : PySem.W.Frag) : TS :=
    (tSeq (tAsg (tMake (He.ga K "Ladder") (initSp (He.ga K "Ladder") (C_Ladder_init K)) [] E0 (tCons (tVar 0) tNil)) (gName 2))
    (tSeq (tIfS (tB (tNotN (tMeth (He.ga K "Ladder") "bar" (pureSp (C_Ladder_bar K)) [] E0 (tVar 2) (tCons (tVar 1) tNil)))) (tRet (tC .non)) tNext)
    (tSeq (tAsg (tMeth (He.ga K "Ladder") "made" (pureSp (C_Ladder_made K)) [] E0 (tVar 2) (tCons (tOp (rIxT K) (tMeth (He.ga K "Ladder") "shares" (pureSp (C_Ladder_shares K)) [] E0 (tVar 2) (tCons (tVar 1) tNil)) (tC (.int 0))) tNil)) (gName 3))
    (tRet (tIf (tTest (tOp (rNeD K) (tVar 3) (tLst tNil))) (tVar 3) (tOp rRep (tLst (tCons (tC (.int 0)) tNil)) (tCB (uLen K) (tCons (tOp (rIxL K) (tVar 0) (tC (.int 0))) tNil))))))))
theorem body_solution_for {P : Program} {w : World} {K : PySem.W.Frag} {mg : Str → Option Value} {base : Heap} (T : Txt K mg) (c0 : MkC P w K mg base "Ladder" (He.ga K "Ladder") 4 ["self", "rows"] (initSp (He.ga K "Ladder") (C_Ladder_init K)) []) (c1 : MetC P w K mg base (He.ga K "Ladder") "bar" 6 ["self", "goals"] (pureSp (C_Ladder_bar K))) (c2 : MetC P w K mg base (He.ga K "Ladder") "made" 3 ["self", "shares"] (pureSp (C_Ladder_made K))) (c3 : MetC P w K mg base (He.ga K "Ladder") "shares" 5 ["self", "goals"] (pureSp (C_Ladder_shares K)))
    {f : Addr} {cdv : Value} {A : Around} {outer : List Env} {s : Shared} {H : Hp} {E : XK} (hr : Room 6 (A.deeper (PyProof.Rows.envOfC "solution_for" (defScope s_solution_for) s.heap.objs.size f cdv))) :
    PSs (cxOf CX0 P w K mg base ["rows", "goals", "ladder", "found"] "solution_for" (defScope s_solution_for) f cdv A outer s H E) (defBody s_solution_for) (t_solution_for K) := by
  obtain ⟨_, _, _, h0_M, h0_G, h0_b, h0_v, h0_m⟩ := c0
  obtain ⟨_, _, h1_m, h1_G, h1_b⟩ := c1
  obtain ⟨_, _, h2_m, h2_G, h2_b⟩ := c2
  obtain ⟨_, _, h3_m, h3_G, h3_b⟩ := c3
  exact PSs.nox (pss_cons (ps_set (i := 2) sc_solution_for.nd rfl (Or.inl rfl) (pe_make h0_M h0_G (hr.mono (by decide)) rfl h0_m h0_b h0_v pass0 (pa_cons (pv 0) pa_nil)))
    (pss_cons (ps_if (pt_cmp (pc_notN (pe_meth (pv 2) T.c_Ladder h1_m h1_G hr h1_b .nil pass0 (pa_cons (pv 1) pa_nil)))) (pss_one (ps_ret pe_non)) pss_nil)
    (pss_cons (ps_set (i := 3) sc_solution_for.nd rfl (Or.inl rfl) (pe_meth (pv 2) T.c_Ladder h2_m h2_G (hr.mono (by decide)) h2_b .nil pass0 (pa_cons (pe_ix ix_tup (pe_meth (pv 2) T.c_Ladder h3_m h3_G (hr.mono (by decide)) h3_b .nil pass0 (pa_cons (pv 1) pa_nil)) pe_int (fun _ _ => rfl)) pa_nil)))
    (pss_one (ps_ret (pe_ifExp (pt_cmpR (op_neD hr.units) (pv 3) (pe_lst pa_nil) (nomark _)) (pv 3) (pe_op op_rep (pe_lst (pa_cons pe_int pa_nil)) (pe_callB cr_len (by rfl) T.f_len PySem.boot_len (pa_cons (pe_ix ix_list (pv 0) pe_int (fun _ _ => rfl)) pa_nil)))))))))
abbrev s_bar_for : Stmt := top 33
theorem sc_bar_for : FnScope ["rows", "goals"] ["rows", "goals"] (defScope s_bar_for) := ⟨rfl, rfl, rfl, by decide +kernel, rfl, by decide +kernel, by decide +kernel⟩
def t_bar_for (K : PySem.W.Frag) : TS :=
    (tRet (tMeth (He.ga K "Ladder") "bar" (pureSp (C_Ladder_bar K)) [] E0 (tMake (He.ga K "Ladder") (initSp (He.ga K "Ladder") (C_Ladder_init K)) [] E0 (tCons (tVar 0) tNil)) (tCons (tVar 1) tNil)))
theorem body_bar_for {P : Program} {w : World} {K : PySem.W.Frag} {mg : Str → Option Value} {base : Heap} (T : Txt K mg) (c0 : MkC P w K mg base "Ladder" (He.ga K "Ladder") 4 ["self", "rows"] (initSp (He.ga K "Ladder") (C_Ladder_init K)) []) (c1 : MetC P w K mg base (He.ga K "Ladder") "bar" 6 ["self", "goals"] (pureSp (C_Ladder_bar K)))
    {f : Addr} {cdv : Value} {A : Around} {outer : List Env} {s : Shared} {H : Hp} {E : XK} (hr : Room 6 (A.deeper (PyProof.Rows.envOfC "bar_for" (defScope s_bar_for) s.heap.objs.size f cdv))) :
    PSs (cxOf CX0 P w K mg base ["rows", "goals"] "bar_for" (defScope s_bar_for) f cdv A outer s H E) (defBody s_bar_for) (t_bar_for K) := by
  obtain ⟨_, _, _, h0_M, h0_G, h0_b, h0_v, h0_m⟩ := c0
  obtain ⟨_, _, h1_m, h1_G, h1_b⟩ := c1
  exact PSs.nox (pss_one (ps_ret (pe_meth (pe_make h0_M h0_G (hr.mono (by decide)) rfl h0_m h0_b h0_v pass0 (pa_cons (pv 0) pa_nil)) T.c_Ladder h1_m h1_G hr h1_b .nil pass0 (pa_cons (pv 1) pa_nil))))
abbrev s_kernel_for : Stmt := top 34
theorem sc_kernel_for : FnScope ["rows", "wide", "columns", "left", "at", "unit", "row"] ["rows", "wide"] (defScope s_kernel_for) := ⟨rfl, rfl, rfl, by decide +kernel, rfl, by decide +kernel, by decide +kernel⟩
def t_kernel_for (K : PySem.W.Frag) : TS :=
    (tSeq (tAsg (tLc (iEnum K (tCons (tCall (pureSp (C_unit_rows K)) [] E0 (tCons (tVar 1) tNil)) tNil)) (gTup K 2 (gCons (gName 4) (gCons (gName 5) gNil))) tYes (tOp rCat (tLc (iList K (tVar 0)) (gName 6) tYes (tOp (rIxL K) (tVar 6) (tVar 4)) [6]) (tVar 5)) [4, 5]) (gName 2))
    (tSeq (tAsg (tOp (rIxT K) (tCall (pureSp (C_laddered K)) [] E0 (tCons (tVar 2) (tCons (tCB (uLen K) (tCons (tVar 0) tNil)) tNil))) (tC (.int 2))) (gName 3))
    (tRet (tOp (rIxT K) (tCall (pureSp (C_laddered K)) [] E0 (tCons (tLc (iList K (tVar 3)) (gName 6) tYes (tSl (rSlL K) (tVar 6) (tPart (tCB (uLen K) (tCons (tVar 0) tNil))) tNoPart) [6]) (tCons (tVar 1) tNil))) (tC (.int 0))))))
theorem body_kernel_for {P : Program} {w : World} {K : PySem.W.Frag} {mg : Str → Option Value} {base : Heap} (T : Txt K mg) (c0 : Cal P w K mg base "unit_rows" 1 ["many"] (pureSp (C_unit_rows K))) (c1 : Cal P w K mg base "laddered" 3 ["rows", "wide"] (pureSp (C_laddered K)))
    {f : Addr} {cdv : Value} {A : Around} {outer : List Env} {s : Shared} {H : Hp} {E : XK} (hr : Room 3 (A.deeper (PyProof.Rows.envOfC "kernel_for" (defScope s_kernel_for) s.heap.objs.size f cdv))) :
    PSs (cxOf CX0 P w K mg base ["rows", "wide", "columns", "left", "at", "unit", "row"] "kernel_for" (defScope s_kernel_for) f cdv A outer s H E) (defBody s_kernel_for) (t_kernel_for K) := by
  obtain ⟨_, _, h0_G, h0_m, h0_k, h0_b⟩ := c0
  obtain ⟨_, _, h1_G, h1_m, h1_k, h1_b⟩ := c1
  exact PSs.nox (pss_cons (ps_setLc (i := 2) (own := [("at", 4), ("unit", 5)]) (g := (gTup K 2 (gCons (gName 4) (gCons (gName 5) gNil)))) (tt := tYes) (te := (tOp rCat (tLc (iList K (tVar 0)) (gName 6) tYes (tOp (rIxL K) (tVar 6) (tVar 4)) [6]) (tVar 5))) rfl sc_kernel_for.nd rfl rfl (sw_true rfl rfl rfl (by decide +kernel)) (pi_enum (by rfl) T.f_enumerate (pa_cons (pe_call h0_G (hr.mono (by decide)) rfl h0_m h0_k h0_b .nil pass0 (pa_cons (pv 1) pa_nil)) pa_nil)) (blkOk_by (N := ["rows", "wide", "columns", "left", "at", "unit", "row"]) (sc := defScope s_kernel_for) (by decide +kernel)) (fun _ _ _ _ _ => (pg_tup rfl (pgs_cons (pg_name (i := 4) sc_kernel_for.nd rfl (Or.inr rfl) (hf := Or.inl rfl)) (pgs_cons (pg_name (i := 5) sc_kernel_for.nd rfl (Or.inl rfl) (hf := Or.inr rfl)) pgs_nil)))) (fun _ _ _ _ _ => pts_nil) (fun _ _ _ _ _ => (pe_op op_cat (pe_lc (own := [("row", 6)]) (g := (gName 6)) (tt := tYes) (te := (tOp (rIxL K) (tVar 6) (tVar 4))) rfl sc_kernel_for.nd (pi_list (pv 0)) (blkOk_by (N := ["rows", "wide", "columns", "left", "at", "unit", "row"]) (by show blkC _ (relS _ (defScope s_kernel_for)) _ _ = true; decide +kernel)) (fun _ _ _ _ _ => (pg_name (i := 6) sc_kernel_for.nd rfl (Or.inl rfl) (hf := Or.inr rfl))) (fun _ _ _ _ _ => pts_nil) (fun _ _ _ _ _ => (pe_ix ix_list (pv 6) (pv 4) (fun _ _ => rfl)))) (pv 5))))
    (pss_cons (ps_set (i := 3) sc_kernel_for.nd rfl (Or.inl rfl) (pe_ix ix_tup (pe_call h1_G hr rfl h1_m h1_k h1_b .nil pass0 (pa_cons (pv 2) (pa_cons (pe_callB cr_len (by rfl) T.f_len PySem.boot_len (pa_cons (pv 0) pa_nil)) pa_nil))) pe_int (fun _ _ => rfl)))
    (pss_one (ps_ret (pe_ix ix_tup (pe_call h1_G hr rfl h1_m h1_k h1_b .nil pass0 (pa_cons (pe_lc (own := [("row", 6)]) (g := (gName 6)) (tt := tYes) (te := (tSl (rSlL K) (tVar 6) (tPart (tCB (uLen K) (tCons (tVar 0) tNil))) tNoPart)) rfl sc_kernel_for.nd (pi_list (pv 3)) (blkOk_by (N := ["rows", "wide", "columns", "left", "at", "unit", "row"]) (sc := defScope s_kernel_for) (by decide +kernel)) (fun _ _ _ _ _ => (pg_name (i := 6) sc_kernel_for.nd rfl (Or.inl rfl) (hf := Or.inr rfl))) (fun _ _ _ _ _ => pts_nil) (fun _ _ _ _ _ => (pe_slice sl_list (pv 6) (po_some (pe_callB cr_len (by rfl) T.f_len PySem.boot_len (pa_cons (pv 0) pa_nil))) po_none))) (pa_cons (pv 1) pa_nil))) pe_int (fun _ _ => rfl))))))
abbrev s_are_whole_rows : Stmt := top 35
theorem sc_are_whole_rows : FnScope ["value", "row", "number"] ["value"] (defScope s_are_whole_rows) := ⟨rfl, rfl, rfl, by decide +kernel, rfl, by decide +kernel, by decide +kernel⟩
def t_are_whole_rows (K : PySem.W.Frag) : TS :=
    (tSeq (tIfS (tOr (tNot (tB (tCall (pureSp (C_is_list K)) [] E0 (tCons (tVar 0) tNil)))) (tOr (tTest (tOp oGt (tCB (uLen K) (tCons (tVar 0) tNil)) (tC (.int 60)))) (tNot (tB (tCB (rAll K) (tCons (tLc (iList K (tVar 0)) (gName 1) tYes (tCall (pureSp (C_is_list K)) [] E0 (tCons (tVar 1) tNil)) [1]) tNil)))))) (tRet (tC (.bl false))) tNext)
    (tSeq (tIfS (tNot (tB (tCB (rAll K) (tCons (tLc (iList K (tVar 0)) (gName 1) tYes (tAndV (tChain oLe oLe (tC (.int 1)) (tCB (uLen K) (tCons (tVar 1) tNil)) (tC (.int 60))) (tOp rEq (tCB (uLen K) (tCons (tVar 1) tNil)) (tCB (uLen K) (tCons (tOp (rIxL K) (tVar 0) (tC (.int 0))) tNil)))) [1]) tNil)))) (tRet (tC (.bl false))) tNext)
    (tRet (tCB (rAll K) (tCons (tLc (iList K (tVar 0)) (gName 1) tYes (tCB (rAll K) (tCons (tLc (iList K (tVar 1)) (gName 2) tYes (tCall (pureSp (C_is_integer K)) [] E0 (tCons (tVar 2) tNil)) [2]) tNil)) [1]) tNil)))))
theorem body_are_whole_rows {P : Program} {w : World} {K : PySem.W.Frag} {mg : Str → Option Value} {base : Heap} (T : Txt K mg) (c0 : Cal P w K mg base "is_list" 1 ["value"] (pureSp (C_is_list K))) (c1 : Cal P w K mg base "is_integer" 1 ["value"] (pureSp (C_is_integer K)))
    {f : Addr} {cdv : Value} {A : Around} {outer : List Env} {s : Shared} {H : Hp} {E : XK} (hr : Room 1 (A.deeper (PyProof.Rows.envOfC "are_whole_rows" (defScope s_are_whole_rows) s.heap.objs.size f cdv))) :
    PSs (cxOf CX0 P w K mg base ["value", "row", "number"] "are_whole_rows" (defScope s_are_whole_rows) f cdv A outer s H E) (defBody s_are_whole_rows) (t_are_whole_rows K) := by
  obtain ⟨_, _, h0_G, h0_m, h0_k, h0_b⟩ := c0
  obtain ⟨_, _, h1_G, h1_m, h1_k, h1_b⟩ := c1
  exact PSs.nox (pss_cons (ps_if (PW.pt (pw_or (pt_not (pt_val (pe_call h0_G hr rfl h0_m h0_k h0_b .nil pass0 (pa_cons (pv 0) pa_nil)))) (pw_or (pt_cmpR op_gt (pe_callB cr_len (by rfl) T.f_len PySem.boot_len (pa_cons (pv 0) pa_nil)) (pe_glob rfl T.i_MOST_ROWS.choose_spec ⟨_, rfl⟩) (nomark _)) (pw_or1 (pt_not (pt_val (pe_callB (cr_all rfl) (by rfl) T.f_all (by decide +kernel) (pa_cons (pe_lc (own := [("row", 1)]) (g := (gName 1)) (tt := tYes) (te := (tCall (pureSp (C_is_list K)) [] E0 (tCons (tVar 1) tNil))) rfl sc_are_whole_rows.nd (pi_list (pv 0)) (blkOk_by (N := ["value", "row", "number"]) (sc := defScope s_are_whole_rows) (by decide +kernel)) (fun _ _ _ _ _ => (pg_name (i := 1) sc_are_whole_rows.nd rfl (Or.inl rfl) (hf := Or.inr rfl))) (fun _ _ _ _ _ => pts_nil) (fun _ _ _ _ _ => (pe_call h0_G hr rfl h0_m h0_k h0_b .nil pass0 (pa_cons (pv 1) pa_nil)))) pa_nil)))))))) (pss_one (ps_ret pe_bl)) pss_nil)
    (pss_cons (ps_if (pt_not (pt_val (pe_callB (cr_all rfl) (by rfl) T.f_all (by decide +kernel) (pa_cons (pe_lc (own := [("row", 1)]) (g := (gName 1)) (tt := tYes) (te := (tAndV (tChain oLe oLe (tC (.int 1)) (tCB (uLen K) (tCons (tVar 1) tNil)) (tC (.int 60))) (tOp rEq (tCB (uLen K) (tCons (tVar 1) tNil)) (tCB (uLen K) (tCons (tOp (rIxL K) (tVar 0) (tC (.int 0))) tNil))))) rfl sc_are_whole_rows.nd (pi_list (pv 0)) (blkOk_by (N := ["value", "row", "number"]) (sc := defScope s_are_whole_rows) (by decide +kernel)) (fun _ _ _ _ _ => (pg_name (i := 1) sc_are_whole_rows.nd rfl (Or.inl rfl) (hf := Or.inr rfl))) (fun _ _ _ _ _ => pts_nil) (fun _ _ _ _ _ => (pe_and (pe_chain op_le op_le pe_int (pe_callB cr_len (by rfl) T.f_len PySem.boot_len (pa_cons (pv 1) pa_nil)) (pe_glob rfl T.i_MOST_WIDE.choose_spec ⟨_, rfl⟩)) (pe_one (pe_cmpR op_eq (pe_callB cr_len (by rfl) T.f_len PySem.boot_len (pa_cons (pv 1) pa_nil)) (pe_callB cr_len (by rfl) T.f_len PySem.boot_len (pa_cons (pe_ix ix_list (pv 0) pe_int (fun _ _ => rfl)) pa_nil)) (nomark _)))))) pa_nil)))) (pss_one (ps_ret pe_bl)) pss_nil)
    (pss_one (ps_ret (pe_callB (cr_all rfl) (by rfl) T.f_all (by decide +kernel) (pa_cons (pe_lc (own := [("row", 1)]) (g := (gName 1)) (tt := tYes) (te := (tCB (rAll K) (tCons (tLc (iList K (tVar 1)) (gName 2) tYes (tCall (pureSp (C_is_integer K)) [] E0 (tCons (tVar 2) tNil)) [2]) tNil))) rfl sc_are_whole_rows.nd (pi_list (pv 0)) (blkOk_by (N := ["value", "row", "number"]) (sc := defScope s_are_whole_rows) (by decide +kernel)) (fun _ _ _ _ _ => (pg_name (i := 1) sc_are_whole_rows.nd rfl (Or.inl rfl) (hf := Or.inr rfl))) (fun _ _ _ _ _ => pts_nil) (fun _ _ _ _ _ => (pe_callB (cr_all rfl) (by rfl) T.f_all (by decide +kernel) (pa_cons (pe_lc (own := [("number", 2)]) (g := (gName 2)) (tt := tYes) (te := (tCall (pureSp (C_is_integer K)) [] E0 (tCons (tVar 2) tNil))) rfl sc_are_whole_rows.nd (pi_list (pv 1)) (blkOk_by (N := ["value", "row", "number"]) (by show blkC _ (relS _ (defScope s_are_whole_rows)) _ _ = true; decide +kernel)) (fun _ _ _ _ _ => (pg_name (i := 2) sc_are_whole_rows.nd rfl (Or.inl rfl) (hf := Or.inr rfl))) (fun _ _ _ _ _ => pts_nil) (fun _ _ _ _ _ => (pe_call h1_G hr rfl h1_m h1_k h1_b .nil pass0 (pa_cons (pv 2) pa_nil)))) pa_nil)))) pa_nil))))))
abbrev s_want_whole_rows : Stmt := top 36
theorem sc_want_whole_rows : FnScope ["value", "least", "row"] ["value", "least"] (defScope s_want_whole_rows) := ⟨rfl, rfl, rfl, by decide +kernel, rfl, by decide +kernel, by decide +kernel⟩
def t_want_whole_rows (K : PySem.W.Frag) : TS :=
    (tSeq (tIfS (tOr (tNot (tB (tCall (pureSp (C_are_whole_rows K)) [] E0 (tCons (tVar 0) tNil)))) (tTest (tOp oLt (tCB (uLen K) (tCons (tVar 0) tNil)) (tVar 1)))) tNever tNext)
    (tRet (tLc (iList K (tVar 0)) (gName 2) tYes (tCB (uList K) (tCons (tVar 2) tNil)) [2])))
theorem body_want_whole_rows {P : Program} {w : World} {K : PySem.W.Frag} {mg : Str → Option Value} {base : Heap} (T : Txt K mg) (c0 : Cal P w K mg base "are_whole_rows" 2 ["value"] (pureSp (C_are_whole_rows K)))
    {f : Addr} {cdv : Value} {A : Around} {outer : List Env} {s : Shared} {H : Hp} {E : XK} (hr : Room 2 (A.deeper (PyProof.Rows.envOfC "want_whole_rows" (defScope s_want_whole_rows) s.heap.objs.size f cdv))) :
    PSs (cxOf CX0 P w K mg base ["value", "least", "row"] "want_whole_rows" (defScope s_want_whole_rows) f cdv A outer s H E) (defBody s_want_whole_rows) (t_want_whole_rows K) := by
  obtain ⟨_, _, h0_G, h0_m, h0_k, h0_b⟩ := c0
  exact PSs.nox (pss_cons (ps_if (PW.pt (pw_or (pt_not (pt_val (pe_call h0_G hr rfl h0_m h0_k h0_b .nil pass0 (pa_cons (pv 0) pa_nil)))) (pw_or1 (pt_cmpR op_lt (pe_callB cr_len (by rfl) T.f_len PySem.boot_len (pa_cons (pv 0) pa_nil)) (pv 1) (nomark _))))) (pss_one ps_never) pss_nil)
    (pss_one (ps_ret (pe_lc (own := [("row", 2)]) (g := (gName 2)) (tt := tYes) (te := (tCB (uList K) (tCons (tVar 2) tNil))) rfl sc_want_whole_rows.nd (pi_list (pv 0)) (blkOk_by (N := ["value", "least", "row"]) (sc := defScope s_want_whole_rows) (by decide +kernel)) (fun _ _ _ _ _ => (pg_name (i := 2) sc_want_whole_rows.nd rfl (Or.inl rfl) (hf := Or.inr rfl))) (fun _ _ _ _ _ => pts_nil) (fun _ _ _ _ _ => (pe_callTy cr_list (by rfl) T.f_list (by decide +kernel) (pa_cons (pv 2) pa_nil)))))))
abbrev s_want_goals : Stmt := top 37
theorem sc_want_goals : FnScope ["rows", "value", "number"] ["rows", "value"] (defScope s_want_goals) := ⟨rfl, rfl, rfl, by decide +kernel, rfl, by decide +kernel, by decide +kernel⟩
def t_want_goals (K : PySem.W.Frag) : TS :=
    (tSeq (tIfS (tOr (tNot (tB (tCall (pureSp (C_is_list K)) [] E0 (tCons (tVar 1) tNil)))) (tOr (tTest (tOp rNe (tCB (uLen K) (tCons (tVar 1) tNil)) (tCB (uLen K) (tCons (tVar 0) tNil)))) (tNot (tB (tCB (rAll K) (tCons (tLc (iList K (tVar 1)) (gName 2) tYes (tCall (pureSp (C_is_number K)) [] E0 (tCons (tVar 2) tNil)) [2]) tNil)))))) tNever tNext)
    (tRet (tLc (iList K (tVar 1)) (gName 2) tYes (tCall (pureSp (C_ratio_of K)) [] E0 (tCons (tVar 2) tNil)) [2])))
theorem body_want_goals {P : Program} {w : World} {K : PySem.W.Frag} {mg : Str → Option Value} {base : Heap} (T : Txt K mg) (c0 : Cal P w K mg base "is_list" 1 ["value"] (pureSp (C_is_list K))) (c1 : Cal P w K mg base "is_number" 2 ["value"] (pureSp (C_is_number K))) (c2 : Cal P w K mg base "ratio_of" 4 ["number"] (pureSp (C_ratio_of K)))
    {f : Addr} {cdv : Value} {A : Around} {outer : List Env} {s : Shared} {H : Hp} {E : XK} (hr : Room 4 (A.deeper (PyProof.Rows.envOfC "want_goals" (defScope s_want_goals) s.heap.objs.size f cdv))) :
    PSs (cxOf CX0 P w K mg base ["rows", "value", "number"] "want_goals" (defScope s_want_goals) f cdv A outer s H E) (defBody s_want_goals) (t_want_goals K) := by
  obtain ⟨_, _, h0_G, h0_m, h0_k, h0_b⟩ := c0
  obtain ⟨_, _, h1_G, h1_m, h1_k, h1_b⟩ := c1
  obtain ⟨_, _, h2_G, h2_m, h2_k, h2_b⟩ := c2
  exact PSs.nox (pss_cons (ps_if (PW.pt (pw_or (pt_not (pt_val (pe_call h0_G (hr.mono (by decide)) rfl h0_m h0_k h0_b .nil pass0 (pa_cons (pv 1) pa_nil)))) (pw_or (pt_cmpR op_ne (pe_callB cr_len (by rfl) T.f_len PySem.boot_len (pa_cons (pv 1) pa_nil)) (pe_callB cr_len (by rfl) T.f_len PySem.boot_len (pa_cons (pv 0) pa_nil)) (nomark _)) (pw_or1 (pt_not (pt_val (pe_callB (cr_all rfl) (by rfl) T.f_all (by decide +kernel) (pa_cons (pe_lc (own := [("number", 2)]) (g := (gName 2)) (tt := tYes) (te := (tCall (pureSp (C_is_number K)) [] E0 (tCons (tVar 2) tNil))) rfl sc_want_goals.nd (pi_list (pv 1)) (blkOk_by (N := ["rows", "value", "number"]) (sc := defScope s_want_goals) (by decide +kernel)) (fun _ _ _ _ _ => (pg_name (i := 2) sc_want_goals.nd rfl (Or.inl rfl) (hf := Or.inr rfl))) (fun _ _ _ _ _ => pts_nil) (fun _ _ _ _ _ => (pe_call h1_G (hr.mono (by decide)) rfl h1_m h1_k h1_b .nil pass0 (pa_cons (pv 2) pa_nil)))) pa_nil)))))))) (pss_one ps_never) pss_nil)
    (pss_one (ps_ret (pe_lc (own := [("number", 2)]) (g := (gName 2)) (tt := tYes) (te := (tCall (pureSp (C_ratio_of K)) [] E0 (tCons (tVar 2) tNil))) rfl sc_want_goals.nd (pi_list (pv 1)) (blkOk_by (N := ["rows", "value", "number"]) (sc := defScope s_want_goals) (by decide +kernel)) (fun _ _ _ _ _ => (pg_name (i := 2) sc_want_goals.nd rfl (Or.inl rfl) (hf := Or.inr rfl))) (fun _ _ _ _ _ => pts_nil) (fun _ _ _ _ _ => (pe_call h2_G hr rfl h2_m h2_k h2_b .nil pass0 (pa_cons (pv 2) pa_nil)))))))
abbrev s_whole_kernel : Stmt := top 38
theorem sc_whole_kernel : FnScope ["rows", "wide", "told", "row"] ["rows", "wide"] (defScope s_whole_kernel) := ⟨rfl, rfl, rfl, by decide +kernel, rfl, by decide +kernel, by decide +kernel⟩
def t_whole_kernel (K : PySem.W.Frag) : TS :=
    (tSeq (tAsg (tCall (pureSp (C_want_whole_rows K)) [.int 0] E0 (tCons (tVar 0) tNil)) (gName 2))
    (tSeq (tDrop (tCall (pureSp (C_want_many K)) [] E0 (tCons (tVar 1) (tCons (tC (.int 60)) (tCons (tC (.int 1)) tNil)))))
    (tSeq (tIfS (tNot (tB (tCB (rAll K) (tCons (tLc (iList K (tVar 2)) (gName 3) tYes (tOp rEq (tCB (uLen K) (tCons (tVar 3) tNil)) (tVar 1)) [3]) tNil)))) tNever tNext)
    (tRet (tCall (pureSp (C_kernel_for K)) [] E0 (tCons (tVar 2) (tCons (tVar 1) tNil)))))))
theorem body_whole_kernel {P : Program} {w : World} {K : PySem.W.Frag} {mg : Str → Option Value} {base : Heap} (T : Txt K mg) (c0 : CalD P w K mg base "want_whole_rows" 3 ["value", "least"] (pureSp (C_want_whole_rows K)) [.int 0]) (c1 : Cal P w K mg base "want_many" 3 ["value", "most", "least"] (pureSp (C_want_many K))) (c2 : Cal P w K mg base "kernel_for" 4 ["rows", "wide"] (pureSp (C_kernel_for K)))
    {f : Addr} {cdv : Value} {A : Around} {outer : List Env} {s : Shared} {H : Hp} {E : XK} (hr : Room 4 (A.deeper (PyProof.Rows.envOfC "whole_kernel" (defScope s_whole_kernel) s.heap.objs.size f cdv))) :
    PSs (cxOf CX0 P w K mg base ["rows", "wide", "told", "row"] "whole_kernel" (defScope s_whole_kernel) f cdv A outer s H E) (defBody s_whole_kernel) (t_whole_kernel K) := by
  obtain ⟨_, _, _, h0_G, h0_m, h0_k, h0_b, h0_v⟩ := c0
  obtain ⟨_, _, h1_G, h1_m, h1_k, h1_b⟩ := c1
  obtain ⟨_, _, h2_G, h2_m, h2_k, h2_b⟩ := c2
  exact PSs.nox (pss_cons (ps_set (i := 2) sc_whole_kernel.nd rfl (Or.inl rfl) (pe_call h0_G (hr.mono (by decide)) rfl h0_m h0_k h0_b h0_v pass0 (pa_cons (pv 0) pa_nil)))
    (pss_cons (ps_expr (pe_call h1_G (hr.mono (by decide)) rfl h1_m h1_k h1_b .nil pass0 (pa_cons (pv 1) (pa_cons (pe_glob rfl T.i_MOST_WIDE.choose_spec ⟨_, rfl⟩) (pa_cons pe_int pa_nil)))))
    (pss_cons (ps_if (pt_not (pt_val (pe_callB (cr_all rfl) (by rfl) T.f_all (by decide +kernel) (pa_cons (pe_lc (own := [("row", 3)]) (g := (gName 3)) (tt := tYes) (te := (tOp rEq (tCB (uLen K) (tCons (tVar 3) tNil)) (tVar 1))) rfl sc_whole_kernel.nd (pi_list (pv 2)) (blkOk_by (N := ["rows", "wide", "told", "row"]) (sc := defScope s_whole_kernel) (by decide +kernel)) (fun _ _ _ _ _ => (pg_name (i := 3) sc_whole_kernel.nd rfl (Or.inl rfl) (hf := Or.inr rfl))) (fun _ _ _ _ _ => pts_nil) (fun _ _ _ _ _ => (pe_cmpR op_eq (pe_callB cr_len (by rfl) T.f_len PySem.boot_len (pa_cons (pv 3) pa_nil)) (pv 1) (nomark _)))) pa_nil)))) (pss_one ps_never) pss_nil)
    (pss_one (ps_ret (pe_call h2_G hr rfl h2_m h2_k h2_b .nil pass0 (pa_cons (pv 2) (pa_cons (pv 1) pa_nil))))))))
abbrev s_whole_solution : Stmt := top 39
theorem sc_whole_solution : FnScope ["rows", "goals", "told"] ["rows", "goals"] (defScope s_whole_solution) := ⟨rfl, rfl, rfl, by decide +kernel, rfl, by decide +kernel, by decide +kernel⟩
def t_whole_solution (K : PySem.W.Frag) : TS :=
    (tSeq (tAsg (tCall (pureSp (C_want_whole_rows K)) [] E0 (tCons (tVar 0) (tCons (tC (.int 1)) tNil))) (gName 2))
    (tRet (tCall (pureSp (C_solution_for K)) [] E0 (tCons (tVar 2) (tCons (tCall (pureSp (C_want_goals K)) [] E0 (tCons (tVar 2) (tCons (tVar 1) tNil))) tNil)))))
theorem body_whole_solution {P : Program} {w : World} {K : PySem.W.Frag} {mg : Str → Option Value} {base : Heap} (T : Txt K mg) (c0 : Cal P w K mg base "want_whole_rows" 3 ["value", "least"] (pureSp (C_want_whole_rows K))) (c1 : Cal P w K mg base "want_goals" 5 ["rows", "value"] (pureSp (C_want_goals K))) (c2 : Cal P w K mg base "solution_for" 7 ["rows", "goals"] (pureSp (C_solution_for K)))
    {f : Addr} {cdv : Value} {A : Around} {outer : List Env} {s : Shared} {H : Hp} {E : XK} (hr : Room 7 (A.deeper (PyProof.Rows.envOfC "whole_solution" (defScope s_whole_solution) s.heap.objs.size f cdv))) :
    PSs (cxOf CX0 P w K mg base ["rows", "goals", "told"] "whole_solution" (defScope s_whole_solution) f cdv A outer s H E) (defBody s_whole_solution) (t_whole_solution K) := by
  obtain ⟨_, _, h0_G, h0_m, h0_k, h0_b⟩ := c0
  obtain ⟨_, _, h1_G, h1_m, h1_k, h1_b⟩ := c1
  obtain ⟨_, _, h2_G, h2_m, h2_k, h2_b⟩ := c2
  exact PSs.nox (pss_cons (ps_set (i := 2) sc_whole_solution.nd rfl (Or.inl rfl) (pe_call h0_G (hr.mono (by decide)) rfl h0_m h0_k h0_b .nil pass0 (pa_cons (pv 0) (pa_cons pe_int pa_nil))))
    (pss_one (ps_ret (pe_call h2_G hr rfl h2_m h2_k h2_b .nil pass0 (pa_cons (pv 2) (pa_cons (pe_call h1_G (hr.mono (by decide)) rfl h1_m h1_k h1_b .nil pass0 (pa_cons (pv 2) (pa_cons (pv 1) pa_nil))) pa_nil))))))
abbrev s_is_whole_solution : Stmt := top 40
theorem sc_is_whole_solution : FnScope ["rows", "goals", "value", "told", "wanted", "number", "row", "one"] ["rows", "goals", "value"] (defScope s_is_whole_solution) := ⟨rfl, rfl, rfl, by decide +kernel, rfl, by decide +kernel, by decide +kernel⟩
def t_is_whole_solution (K : PySem.W.Frag) : TS :=
    (tSeq (tAsg (tCall (pureSp (C_want_whole_rows K)) [] E0 (tCons (tVar 0) (tCons (tC (.int 1)) tNil))) (gName 3))
    (tSeq (tAsg (tCall (pureSp (C_want_goals K)) [] E0 (tCons (tVar 3) (tCons (tVar 1) tNil))) (gName 4))
    (tSeq (tIfS (tOr (tNot (tB (tCall (pureSp (C_is_list K)) [] E0 (tCons (tVar 2) tNil)))) (tOr (tTest (tOp rNe (tCB (uLen K) (tCons (tVar 2) tNil)) (tCB (uLen K) (tCons (tOp (rIxL K) (tVar 3) (tC (.int 0))) tNil)))) (tNot (tB (tCB (rAll K) (tCons (tLc (iList K (tVar 2)) (gName 5) tYes (tCall (pureSp (C_is_integer K)) [] E0 (tCons (tVar 5) tNil)) [5]) tNil)))))) (tRet (tC (.bl false))) tNext)
    (tRet (tOp (rEqQ K) (tLc (iList K (tVar 3)) (gName 6) tYes (tMake (He.ga K "Ratio") (initSp (He.ga K "Ratio") (C_Ratio_init K)) [.int 1] E0 (tCons (tCB (rSum K) (tCons (tLc (iZip K (tCons (tVar 6) (tCons (tVar 2) tNil))) (gTup K 2 (gCons (gName 7) (gCons (gName 5) gNil))) tYes (tOp oMul (tVar 7) (tVar 5)) [7, 5]) tNil)) tNil)) [6]) (tVar 4))))))
theorem body_is_whole_solution {P : Program} {w : World} {K : PySem.W.Frag} {mg : Str → Option Value} {base : Heap} (T : Txt K mg) (c0 : Cal P w K mg base "want_whole_rows" 3 ["value", "least"] (pureSp (C_want_whole_rows K))) (c1 : Cal P w K mg base "want_goals" 5 ["rows", "value"] (pureSp (C_want_goals K))) (c2 : Cal P w K mg base "is_list" 1 ["value"] (pureSp (C_is_list K))) (c3 : Cal P w K mg base "is_integer" 1 ["value"] (pureSp (C_is_integer K))) (c4 : EqC P w K mg base (He.ga K "Ratio") 1 ["self", "other"] (pureSp (C_Ratio_eq K))) (c5 : MkC P w K mg base "Ratio" (He.ga K "Ratio") 2 ["self", "top", "bottom"] (initSp (He.ga K "Ratio") (C_Ratio_init K)) [.int 1])
    {f : Addr} {cdv : Value} {A : Around} {outer : List Env} {s : Shared} {H : Hp} {E : XK} (hr : Room 5 (A.deeper (PyProof.Rows.envOfC "is_whole_solution" (defScope s_is_whole_solution) s.heap.objs.size f cdv))) :
    PSs (cxOf CX0 P w K mg base ["rows", "goals", "value", "told", "wanted", "number", "row", "one"] "is_whole_solution" (defScope s_is_whole_solution) f cdv A outer s H E) (defBody s_is_whole_solution) (t_is_whole_solution K) := by
  obtain ⟨_, _, h0_G, h0_m, h0_k, h0_b⟩ := c0
  obtain ⟨_, _, h1_G, h1_m, h1_k, h1_b⟩ := c1
  obtain ⟨_, _, h2_G, h2_m, h2_k, h2_b⟩ := c2
  obtain ⟨_, _, h3_G, h3_m, h3_k, h3_b⟩ := c3
  obtain ⟨_, _, h4_1, h4_2, h4_G, h4_b⟩ := c4
  obtain ⟨_, _, _, h5_M, h5_G, h5_b, h5_v, h5_m⟩ := c5
  exact PSs.nox (pss_cons (ps_set (i := 3) sc_is_whole_solution.nd rfl (Or.inl rfl) (pe_call h0_G (hr.mono (by decide)) rfl h0_m h0_k h0_b .nil pass0 (pa_cons (pv 0) (pa_cons pe_int pa_nil))))
    (pss_cons (ps_set (i := 4) sc_is_whole_solution.nd rfl (Or.inl rfl) (pe_call h1_G hr rfl h1_m h1_k h1_b .nil pass0 (pa_cons (pv 3) (pa_cons (pv 1) pa_nil))))
    (pss_cons (ps_if (PW.pt (pw_or (pt_not (pt_val (pe_call h2_G (hr.mono (by decide)) rfl h2_m h2_k h2_b .nil pass0 (pa_cons (pv 2) pa_nil)))) (pw_or (pt_cmpR op_ne (pe_callB cr_len (by rfl) T.f_len PySem.boot_len (pa_cons (pv 2) pa_nil)) (pe_callB cr_len (by rfl) T.f_len PySem.boot_len (pa_cons (pe_ix ix_list (pv 3) pe_int (fun _ _ => rfl)) pa_nil)) (nomark _)) (pw_or1 (pt_not (pt_val (pe_callB (cr_all rfl) (by rfl) T.f_all (by decide +kernel) (pa_cons (pe_lc (own := [("number", 5)]) (g := (gName 5)) (tt := tYes) (te := (tCall (pureSp (C_is_integer K)) [] E0 (tCons (tVar 5) tNil))) rfl sc_is_whole_solution.nd (pi_list (pv 2)) (blkOk_by (N := ["rows", "goals", "value", "told", "wanted", "number", "row", "one"]) (sc := defScope s_is_whole_solution) (by decide +kernel)) (fun _ _ _ _ _ => (pg_name (i := 5) sc_is_whole_solution.nd rfl (Or.inl rfl) (hf := Or.inr rfl))) (fun _ _ _ _ _ => pts_nil) (fun _ _ _ _ _ => (pe_call h3_G (hr.mono (by decide)) rfl h3_m h3_k h3_b .nil pass0 (pa_cons (pv 5) pa_nil)))) pa_nil)))))))) (pss_one (ps_ret pe_bl)) pss_nil)
    (pss_one (ps_ret (pe_cmpR (op_eqQ h4_1 h4_2 h4_G (hr.mono (by decide)) h4_b) (pe_lc (own := [("row", 6)]) (g := (gName 6)) (tt := tYes) (te := (tMake (He.ga K "Ratio") (initSp (He.ga K "Ratio") (C_Ratio_init K)) [.int 1] E0 (tCons (tCB (rSum K) (tCons (tLc (iZip K (tCons (tVar 6) (tCons (tVar 2) tNil))) (gTup K 2 (gCons (gName 7) (gCons (gName 5) gNil))) tYes (tOp oMul (tVar 7) (tVar 5)) [7, 5]) tNil)) tNil))) rfl sc_is_whole_solution.nd (pi_list (pv 3)) (blkOk_by (N := ["rows", "goals", "value", "told", "wanted", "number", "row", "one"]) (sc := defScope s_is_whole_solution) (by decide +kernel)) (fun _ _ _ _ _ => (pg_name (i := 6) sc_is_whole_solution.nd rfl (Or.inl rfl) (hf := Or.inr rfl))) (fun _ _ _ _ _ => pts_nil) (fun _ _ _ _ _ => (pe_make h5_M h5_G (hr.mono (by decide)) rfl h5_m h5_b h5_v pass0 (pa_cons (pe_callB (cr_sum rfl) (by rfl) T.f_sum (by decide +kernel) (pa_cons (pe_lc (own := [("one", 7), ("number", 5)]) (g := (gTup K 2 (gCons (gName 7) (gCons (gName 5) gNil)))) (tt := tYes) (te := (tOp oMul (tVar 7) (tVar 5))) rfl sc_is_whole_solution.nd (pi_zip (by rfl) T.f_zip (pa_cons (pv 6) (pa_cons (pv 2) pa_nil))) (blkOk_by (N := ["rows", "goals", "value", "told", "wanted", "number", "row", "one"]) (by show blkC _ (relS _ (defScope s_is_whole_solution)) _ _ = true; decide +kernel)) (fun _ _ _ _ _ => (pg_tup rfl (pgs_cons (pg_name (i := 7) sc_is_whole_solution.nd rfl (Or.inl rfl) (hf := Or.inr rfl)) (pgs_cons (pg_name (i := 5) sc_is_whole_solution.nd rfl (Or.inl rfl) (hf := Or.inr rfl)) pgs_nil)))) (fun _ _ _ _ _ => pts_nil) (fun _ _ _ _ _ => (pe_op op_mulW (pv 7) (pv 5)))) pa_nil)) pa_nil)))) (pv 4) (nomark _)))))))
abbrev s_whole_bar : Stmt := top 41
theorem sc_whole_bar : FnScope ["rows", "goals", "told"] ["rows", "goals"] (defScope s_whole_bar) := ⟨rfl, rfl, rfl, by decide +kernel, rfl, by decide +kernel, by decide +kernel⟩
def t_whole_bar (K : PySem.W.Frag) : TS :=
    (tSeq (tAsg (tCall (pureSp (C_want_whole_rows K)) [] E0 (tCons (tVar 0) (tCons (tC (.int 1)) tNil))) (gName 2))
    (tRet (tCall (pureSp (C_bar_for K)) [] E0 (tCons (tVar 2) (tCons (tCall (pureSp (C_want_goals K)) [] E0 (tCons (tVar 2) (tCons (tVar 1) tNil))) tNil)))))
theorem body_whole_bar {P : Program} {w : World} {K : PySem.W.Frag} {mg : Str → Option Value} {base : Heap} (T : Txt K mg) (c0 : Cal P w K mg base "want_whole_rows" 3 ["value", "least"] (pureSp (C_want_whole_rows K))) (c1 : Cal P w K mg base "want_goals" 5 ["rows", "value"] (pureSp (C_want_goals K))) (c2 : Cal P w K mg base "bar_for" 7 ["rows", "goals"] (pureSp (C_bar_for K)))
    {f : Addr} {cdv : Value} {A : Around} {outer : List Env} {s : Shared} {H : Hp} {E : XK} (hr : Room 7 (A.deeper (PyProof.Rows.envOfC "whole_bar" (defScope s_whole_bar) s.heap.objs.size f cdv))) :
    PSs (cxOf CX0 P w K mg base ["rows", "goals", "told"] "whole_bar" (defScope s_whole_bar) f cdv A outer s H E) (defBody s_whole_bar) (t_whole_bar K) := by
  obtain ⟨_, _, h0_G, h0_m, h0_k, h0_b⟩ := c0
  obtain ⟨_, _, h1_G, h1_m, h1_k, h1_b⟩ := c1
  obtain ⟨_, _, h2_G, h2_m, h2_k, h2_b⟩ := c2
  exact PSs.nox (pss_cons (ps_set (i := 2) sc_whole_bar.nd rfl (Or.inl rfl) (pe_call h0_G (hr.mono (by decide)) rfl h0_m h0_k h0_b .nil pass0 (pa_cons (pv 0) (pa_cons pe_int pa_nil))))
    (pss_one (ps_ret (pe_call h2_G hr rfl h2_m h2_k h2_b .nil pass0 (pa_cons (pv 2) (pa_cons (pe_call h1_G (hr.mono (by decide)) rfl h1_m h1_k h1_b .nil pass0 (pa_cons (pv 2) (pa_cons (pv 1) pa_nil))) pa_nil))))))
abbrev s_law_pot : Stmt := top 43
theorem sc_law_pot : FnScope ["script", "k", "cell"] ["script", "k"] (defScope s_law_pot) := ⟨rfl, rfl, rfl, by decide +kernel, rfl, by decide +kernel, by decide +kernel⟩
def t_law_pot (K : PySem.W.Frag) : TS :=
    (tSeq (tAsg (tIf (tTest (tOp oLt (tVar 1) (tCB (uLen K) (tCons (tVar 0) tNil)))) (tCB uAbs (tCons (tOp (rIxL K) (tVar 0) (tVar 1)) tNil)) (tOp oAdd (tOp oMul (tC (.int 1913)) (tVar 1)) (tC (.int 1031)))) (gName 2))
    (tRet (tLst (tCons (tCB uMax (tCons (tC (.int 0)) (tCons (tOp oSub (tVar 2) (tOp oPow (tC (.int 10)) (tC (.int 18)))) tNil))) (tCons (tOp oAdd (tOp oMod (tCB uInt (tCons (tOp oAdd (tOp oAdd (tOp oMul (tOp oMod (tCB uInt (tCons (tVar 2) tNil)) (tC (.int 2147483549))) (tC (.int 40487))) (tOp oMul (tC (.int 6469)) (tVar 1))) (tC (.int 599))) tNil)) (tC (.int 2147483563))) (tC (.int 1))) tNil)))))
theorem body_law_pot {P : Program} {w : World} {K : PySem.W.Frag} {mg : Str → Option Value} {base : Heap} (T : Txt K mg) 
    {f : Addr} {cdv : Value} {A : Around} {outer : List Env} {s : Shared} {H : Hp} {E : XK} (hr : Room 0 (A.deeper (PyProof.Rows.envOfC "_law_pot" (defScope s_law_pot) s.heap.objs.size f cdv))) :
    PSs (cxOf CX0 P w K mg base ["script", "k", "cell"] "_law_pot" (defScope s_law_pot) f cdv A outer s H E) (defBody s_law_pot) (t_law_pot K) := by
  exact PSs.nox (pss_cons (ps_set (i := 2) sc_law_pot.nd rfl (Or.inl rfl) (pe_ifExp (pt_cmpR op_lt (pv 1) (pe_callB cr_len (by rfl) T.f_len PySem.boot_len (pa_cons (pv 0) pa_nil)) (nomark _)) (pe_callB cr_abs (by rfl) T.f_abs (by decide +kernel) (pa_cons (pe_ix ix_list (pv 0) (pv 1) (fun _ _ => rfl)) pa_nil)) (pe_op op_add (pe_op op_mulW pe_int (pv 1)) pe_int)))
    (pss_one (ps_ret (pe_lst (pa_cons (pe_callB (cr_max2 rfl) (by rfl) T.f_max (by decide +kernel) (pa_cons pe_int (pa_cons (pe_op op_sub (pv 2) (pe_op op_pow pe_int pe_int)) pa_nil))) (pa_cons (pe_op op_add (pe_op op_mod (pe_callTy cr_int (by rfl) T.f_int (by decide +kernel) (pa_cons (pe_op op_add (pe_op op_add (pe_op op_mulW (pe_op op_mod (pe_callTy cr_int (by rfl) T.f_int (by decide +kernel) (pa_cons (pv 2) pa_nil)) pe_int) pe_int) (pe_op op_mulW pe_int (pv 1))) pe_int) pa_nil)) pe_int) pe_int) pa_nil))))))
abbrev s_law_draw : Stmt := top 44
theorem sc_law_draw : FnScope ["pot", "many", "digit"] ["pot", "many"] (defScope s_law_draw) := ⟨rfl, rfl, rfl, by decide +kernel, rfl, by decide +kernel, by decide +kernel⟩
def t_law_draw (K : PySem.W.Frag) : TS :=
    (tSeq (tIfS (tTest (tOp oGt (tOp (rIxL K) (tVar 0) (tC (.int 0))) (tC (.int 0)))) (tSeq (tAsg (tCB uDivmod (tCons (tOp (rIxL K) (tVar 0) (tC (.int 0))) (tCons (tVar 1) tNil))) (gTup K 2 (gCons (gSub (tVar 0) (tC (.int 0)) rSetL) (gCons (gName 2) gNil))))
    (tRet (tVar 2))) tNext)
    (tSeq (tAsg (tOp oMod (tCB uInt (tCons (tOp oAdd (tOp oMul (tOp (rIxL K) (tVar 0) (tC (.int 1))) (tC (.int 40692))) (tC (.int 9619))) tNil)) (tC (.int 2147483563))) (gSub (tVar 0) (tC (.int 1)) rSetL))
    (tRet (tOp oMod (tCB uInt (tCons (tOp oDiv (tOp oMod (tCB uInt (tCons (tOp oMul (tOp (rIxL K) (tVar 0) (tC (.int 1))) (tOp (rIxL K) (tVar 0) (tC (.int 1)))) tNil)) (tC (.int 2147483549))) (tC (.int 19))) tNil)) (tVar 1)))))
theorem body_law_draw {P : Program} {w : World} {K : PySem.W.Frag} {mg : Str → Option Value} {base : Heap} (T : Txt K mg) 
    {f : Addr} {cdv : Value} {A : Around} {outer : List Env} {s : Shared} {H : Hp} {E : XK} (hr : Room 0 (A.deeper (PyProof.Rows.envOfC "_law_draw" (defScope s_law_draw) s.heap.objs.size f cdv))) :
    PSs (cxOf CX0 P w K mg base ["pot", "many", "digit"] "_law_draw" (defScope s_law_draw) f cdv A outer s H E) (defBody s_law_draw) (t_law_draw K) := by
  exact PSs.nox (pss_cons (ps_if (pt_cmpR op_gt (pe_ix ix_list (pv 0) pe_int (fun _ _ => rfl)) pe_int (nomark _)) (pss_cons (ps_asg (pe_callB cr_divmod (by rfl) T.f_divmod (by decide +kernel) (pa_cons (pe_ix ix_list (pv 0) pe_int (fun _ _ => rfl)) (pa_cons (pv 1) pa_nil))) (pg_tup rfl (pgs_cons (pg_sub (pv 0) pe_int set_list) (pgs_cons (pg_name (i := 2) sc_law_draw.nd rfl (Or.inl rfl) (hf := .inl rfl)) pgs_nil))))
    (pss_one (ps_ret (pv 2)))) pss_nil)
    (pss_cons (ps_asg (pe_op op_mod (pe_callTy cr_int (by rfl) T.f_int (by decide +kernel) (pa_cons (pe_op op_add (pe_op op_mulW (pe_ix ix_list (pv 0) pe_int (fun _ _ => rfl)) pe_int) pe_int) pa_nil)) pe_int) (pg_sub (pv 0) pe_int set_list))
    (pss_one (ps_ret (pe_op op_mod (pe_callTy cr_int (by rfl) T.f_int (by decide +kernel) (pa_cons (pe_op op_fdivA (pe_op op_mod (pe_callTy cr_int (by rfl) T.f_int (by decide +kernel) (pa_cons (pe_op op_mulW (pe_ix ix_list (pv 0) pe_int (fun _ _ => rfl)) (pe_ix ix_list (pv 0) pe_int (fun _ _ => rfl))) pa_nil)) pe_int) pe_int) pa_nil)) (pv 1))))))
abbrev s_law_lists : Stmt := top 46
theorem sc_law_lists : FnScope ["width", "found", "place", "longer", "low", "one"] ["width"] (defScope s_law_lists) := ⟨rfl, rfl, rfl, by decide +kernel, rfl, by decide +kernel, by decide +kernel⟩
def t_law_lists (K : PySem.W.Frag) : TS :=
    (tSeq (tAsg (tLst (tCons (tLst tNil) tNil)) (gName 1))
    (tSeq (tFor (iRng1 (tCons (tVar 0) tNil)) (gName 2) (tSeq (tAsg (tLst tNil) (gName 3))
    (tSeq (tFor (iList K (tVar 1)) (gName 4) (tDrop (tBM K "list" rExtend (tVar 3) (tCons (tLc (iRng2 (tCons (tUn uNeg (tC (.int 3))) (tCons (tC (.int 4)) tNil))) (gName 5) tYes (tOp rCat (tVar 4) (tLst (tCons (tVar 5) tNil))) [5]) tNil))))
    (tAsg (tVar 3) (gName 1)))))
    (tRet (tVar 1))))
theorem body_law_lists {P : Program} {w : World} {K : PySem.W.Frag} {mg : Str → Option Value} {base : Heap} (T : Txt K mg) 
    {f : Addr} {cdv : Value} {A : Around} {outer : List Env} {s : Shared} {H : Hp} {E : XK} (hr : Room 0 (A.deeper (PyProof.Rows.envOfC "_law_lists" (defScope s_law_lists) s.heap.objs.size f cdv))) :
    PSs (cxOf CX0 P w K mg base ["width", "found", "place", "longer", "low", "one"] "_law_lists" (defScope s_law_lists) f cdv A outer s H E) (defBody s_law_lists) (t_law_lists K) := by
  exact PSs.nox (pss_cons (ps_set (i := 1) sc_law_lists.nd rfl (Or.inl rfl) (pe_lst (pa_cons (pe_lst pa_nil) pa_nil)))
    (pss_cons (ps_for PassesOwn.never rfl (pi_range1 (by rfl) T.f_range (pa_cons (pv 0) pa_nil)) (pg_name (i := 2) sc_law_lists.nd rfl (Or.inl rfl) (hf := .inl rfl)) (pss_cons (ps_set (i := 3) sc_law_lists.nd rfl (Or.inl rfl) (pe_lst pa_nil))
    (pss_cons (ps_for PassesOwn.never rfl (pi_list (pv 1)) (pg_name (i := 4) sc_law_lists.nd rfl (Or.inr rfl) (hf := .inl rfl)) (pss_one (ps_expr (pe_bm PySem.F.plainAttrs_list PySem.F.slot_list_extend PySem.F.type_list_extend mt_extend (pv 3) (pa_cons (pe_lc (own := [("one", 5)]) (g := (gName 5)) (tt := tYes) (te := (tOp rCat (tVar 4) (tLst (tCons (tVar 5) tNil)))) rfl sc_law_lists.nd (pi_range2 (by rfl) T.f_range (pa_cons (pe_un un_neg pe_int) (pa_cons pe_int pa_nil))) (blkOk_by (N := ["width", "found", "place", "longer", "low", "one"]) (sc := defScope s_law_lists) (by decide +kernel)) (fun _ _ _ _ _ => (pg_name (i := 5) sc_law_lists.nd rfl (Or.inl rfl) (hf := Or.inr rfl))) (fun _ _ _ _ _ => pts_nil) (fun _ _ _ _ _ => (pe_op op_cat (pv 4) (pe_lst (pa_cons (pv 5) pa_nil))))) pa_nil)))))
    (pss_one (ps_set (i := 1) sc_law_lists.nd rfl (Or.inl rfl) (pv 3))))))
    (pss_one (ps_ret (pv 1)))))
abbrev s_law_is_made : Stmt := top 47
theorem sc_law_is_made : FnScope ["row", "steps", "left", "step", "at", "many", "place", "one", "two"] ["row", "steps"] (defScope s_law_is_made) := ⟨rfl, rfl, rfl, by decide +kernel, rfl, by decide +kernel, by decide +kernel⟩
def t_law_is_made (K : PySem.W.Frag) : TS :=
    (tSeq (tAsg (tCB (uList K) (tCons (tVar 0) tNil)) (gName 2))
    (tSeq (tFor (iList K (tVar 1)) (gName 3) (tSeq (tAsg (tOp (rIxL K) (tLc (iEnum K (tCons (tVar 3) tNil)) (gTup K 2 (gCons (gName 6) (gCons (gName 7) gNil))) (tTest (tOp rNe (tVar 7) (tC (.int 0)))) (tVar 6) [6, 7]) (tC (.int 0))) (gName 4))
    (tSeq (tAsg (tOp oDiv (tOp (rIxL K) (tVar 2) (tVar 4)) (tOp (rIxL K) (tVar 3) (tVar 4))) (gName 5))
    (tAsg (tLc (iZip K (tCons (tVar 2) (tCons (tVar 3) tNil))) (gTup K 2 (gCons (gName 7) (gCons (gName 8) gNil))) tYes (tOp oSub (tVar 7) (tOp oMul (tVar 5) (tVar 8))) [7, 8]) (gName 2)))))
    (tRet (tOp (rEqD K) (tLc (iList K (tVar 2)) (gName 7) (tTest (tOp rNe (tVar 7) (tC (.int 0)))) (tVar 7) [7]) (tLst tNil)))))
theorem body_law_is_made {P : Program} {w : World} {K : PySem.W.Frag} {mg : Str → Option Value} {base : Heap} (T : Txt K mg) 
    {f : Addr} {cdv : Value} {A : Around} {outer : List Env} {s : Shared} {H : Hp} {E : XK} (hr : Room 0 (A.deeper (PyProof.Rows.envOfC "_law_is_made" (defScope s_law_is_made) s.heap.objs.size f cdv))) :
    PSs (cxOf CX0 P w K mg base ["row", "steps", "left", "step", "at", "many", "place", "one", "two"] "_law_is_made" (defScope s_law_is_made) f cdv A outer s H E) (defBody s_law_is_made) (t_law_is_made K) := by
  exact PSs.nox (pss_cons (ps_set (i := 2) sc_law_is_made.nd rfl (Or.inl rfl) (pe_callTy cr_list (by rfl) T.f_list (by decide +kernel) (pa_cons (pv 0) pa_nil)))
    (pss_cons (ps_for PassesOwn.never rfl (pi_list (pv 1)) (pg_name (i := 3) sc_law_is_made.nd rfl (Or.inl rfl) (hf := .inl rfl)) (pss_cons (ps_set (i := 4) sc_law_is_made.nd rfl (Or.inl rfl) (pe_ix ix_list (pe_lc (own := [("place", 6), ("one", 7)]) (g := (gTup K 2 (gCons (gName 6) (gCons (gName 7) gNil)))) (tt := (tTest (tOp rNe (tVar 7) (tC (.int 0))))) (te := (tVar 6)) rfl sc_law_is_made.nd (pi_enum (by rfl) T.f_enumerate (pa_cons (pv 3) pa_nil)) (blkOk_by (N := ["row", "steps", "left", "step", "at", "many", "place", "one", "two"]) (sc := defScope s_law_is_made) (by decide +kernel)) (fun _ _ _ _ _ => (pg_tup rfl (pgs_cons (pg_name (i := 6) sc_law_is_made.nd rfl (Or.inl rfl) (hf := Or.inr rfl)) (pgs_cons (pg_name (i := 7) sc_law_is_made.nd rfl (Or.inl rfl) (hf := Or.inr rfl)) pgs_nil)))) (fun _ _ _ _ _ => (pts_one (pt_cmpR op_ne (pv 7) pe_int (nomark _)))) (fun _ _ _ _ _ => (pv 6))) pe_int (fun _ _ => rfl)))
    (pss_cons (ps_set (i := 5) sc_law_is_made.nd rfl (Or.inr rfl) (pe_op op_fdivA (pe_ix ix_list (pv 2) (pv 4) (fun _ _ => rfl)) (pe_ix ix_list (pv 3) (pv 4) (fun _ _ => rfl))))
    (pss_one (ps_setLc (i := 2) (own := [("one", 7), ("two", 8)]) (g := (gTup K 2 (gCons (gName 7) (gCons (gName 8) gNil)))) (tt := tYes) (te := (tOp oSub (tVar 7) (tOp oMul (tVar 5) (tVar 8)))) rfl sc_law_is_made.nd rfl rfl (sw_true rfl rfl rfl (by decide +kernel)) (pi_zip (by rfl) T.f_zip (pa_cons (pv 2) (pa_cons (pv 3) pa_nil))) (blkOk_by (N := ["row", "steps", "left", "step", "at", "many", "place", "one", "two"]) (sc := defScope s_law_is_made) (by decide +kernel)) (fun _ _ _ _ _ => (pg_tup rfl (pgs_cons (pg_name (i := 7) sc_law_is_made.nd rfl (Or.inl rfl) (hf := Or.inr rfl)) (pgs_cons (pg_name (i := 8) sc_law_is_made.nd rfl (Or.inl rfl) (hf := Or.inr rfl)) pgs_nil)))) (fun _ _ _ _ _ => pts_nil) (fun _ _ _ _ _ => (pe_op op_sub (pv 7) (pe_op op_mulW (pv 5) (pv 8)))))))))
    (pss_one (ps_ret (pe_cmpR (op_eqD hr.units) (pe_lc (own := [("one", 7)]) (g := (gName 7)) (tt := (tTest (tOp rNe (tVar 7) (tC (.int 0))))) (te := (tVar 7)) rfl sc_law_is_made.nd (pi_list (pv 2)) (blkOk_by (N := ["row", "steps", "left", "step", "at", "many", "place", "one", "two"]) (sc := defScope s_law_is_made) (by decide +kernel)) (fun _ _ _ _ _ => (pg_name (i := 7) sc_law_is_made.nd rfl (Or.inl rfl) (hf := Or.inr rfl))) (fun _ _ _ _ _ => (pts_one (pt_cmpR op_ne (pv 7) pe_int (nomark _)))) (fun _ _ _ _ _ => (pv 7))) (pe_lst pa_nil) (nomark _))))))
abbrev s_law_right : Stmt := top 48
theorem sc_law_right : FnScope ["pot", "width", "rows", "some", "goals", "told", "kernel", "at", "many", "more", "wider", "value", "due", "turn", "place", "row", "one", "two"] ["pot"] (defScope s_law_right) := ⟨rfl, rfl, rfl, by decide +kernel, rfl, by decide +kernel, by decide +kernel⟩
def t_law_right (K : PySem.W.Frag) : TS :=
    (tSeq (tAsg (tOp oAdd (tC (.int 2)) (tCall spDraw [] E0 (tCons (tVar 0) (tCons (tC (.int 3)) tNil)))) (gName 1))
    (tSeq (tAsg (tLc (iRng1 (tCons (tOp oAdd (tC (.int 1)) (tCall spDraw [] E0 (tCons (tVar 0) (tCons (tC (.int 3)) tNil)))) tNil)) (gName 13) tYes (tLc (iRng1 (tCons (tVar 1) tNil)) (gName 14) tYes (tOp oSub (tCall spDraw [] E0 (tCons (tVar 0) (tCons (tC (.int 9)) tNil))) (tC (.int 4))) [14]) [13]) (gName 2))
    (tSeq (tAsg (tLc (iRng1 (tCons (tVar 1) tNil)) (gName 14) tYes (tOp oSub (tCall spDraw [] E0 (tCons (tVar 0) (tCons (tC (.int 7)) tNil))) (tC (.int 3))) [14]) (gName 3))
    (tSeq (tAsg (tLc (iList K (tVar 2)) (gName 15) tYes (tCB (rSum K) (tCons (tLc (iZip K (tCons (tVar 15) (tCons (tVar 3) tNil))) (gTup K 2 (gCons (gName 16) (gCons (gName 17) gNil))) tYes (tOp oMul (tVar 16) (tVar 17)) [16, 17]) tNil)) [15]) (gName 4))
    (tSeq (tPar 5 6 (tCons (tCall (pureSp (C_whole_solution K)) [] E0 (tCons (tVar 2) (tCons (tVar 4) tNil))) (tCons (tCall (pureSp (C_whole_kernel K)) [] E0 (tCons (tVar 2) (tCons (tVar 1) tNil))) tNil)))
    (tSeq (tIfS (tOr (tB (tIsN (tVar 5))) (tB (tNotN (tCallN 0 2 (pureSp (C_whole_bar K)) (fun _ zs => zs.reverse) E0 tNil (tCons (tVar 4) (tCons (tVar 2) tNil)))))) (tRet (tC (.bl false))) tNext)
    (tSeq (tAsg (tTup (tCons (tCall spDraw [] E0 (tCons (tVar 0) (tCons (tCB (uLen K) (tCons (tVar 2) tNil)) tNil))) (tCons (tOp oSub (tCall spDraw [] E0 (tCons (tVar 0) (tCons (tC (.int 5)) tNil))) (tC (.int 2))) tNil))) (gTup K 2 (gCons (gName 7) (gCons (gName 8) gNil))))
    (tSeq (tAsg (tOp rCat (tVar 2) (tLst (tCons (tLc (iZip K (tCons (tOp (rIxL K) (tVar 2) (tC (.int 0))) (tCons (tOp (rIxL K) (tVar 2) (tVar 7)) tNil))) (gTup K 2 (gCons (gName 16) (gCons (gName 17) gNil))) tYes (tOp oAdd (tVar 16) (tOp oMul (tVar 8) (tVar 17))) [16, 17]) tNil))) (gName 9))
    (tSeq (tAsg (tOp rCat (tVar 4) (tLst (tCons (tOp oAdd (tOp (rIxL K) (tVar 4) (tC (.int 0))) (tOp oMul (tVar 8) (tOp (rIxL K) (tVar 4) (tVar 7)))) tNil))) (gName 10))
    (tSeq (tIfS (tOr (tTest (tOp (rNeD K) (tCall (pureSp (C_whole_kernel K)) [] E0 (tCons (tRevL K (tVar 9)) (tCons (tVar 1) tNil))) (tVar 6))) (tNot (tB (tCall (pureSp (C_is_whole_solution K)) [] E0 (tCons (tVar 9) (tCons (tVar 10) (tCons (tCallN 0 2 (pureSp (C_whole_solution K)) (fun _ zs => zs) E0 tNil (tCons (tVar 9) (tCons (tVar 10) tNil))) tNil))))))) (tRet (tC (.bl false))) tNext)
    (tSeq (tFor (iList K (tCall (pureSp (C_law_lists K)) [] E0 (tCons (tVar 1) tNil))) (gName 11) (tSeq (tAsg (tOp (rEqD K) (tLc (iList K (tVar 2)) (gName 15) tYes (tCB (rSum K) (tCons (tLc (iZip K (tCons (tVar 15) (tCons (tVar 11) tNil))) (gTup K 2 (gCons (gName 16) (gCons (gName 17) gNil))) tYes (tOp oMul (tVar 16) (tVar 17)) [16, 17]) tNil)) [15]) (tVar 4)) (gName 12))
    (tSeq (tIfS (tTest (tOp rNe (tVar 12) (tCall (pureSp (C_law_is_made K)) [] E0 (tCons (tLc (iZip K (tCons (tVar 11) (tCons (tVar 5) tNil))) (gTup K 2 (gCons (gName 16) (gCons (gName 17) gNil))) tYes (tOp oSub (tVar 16) (tVar 17)) [16, 17]) (tCons (tVar 6) tNil))))) (tRet (tC (.bl false))) tNext)
    (tIfS (tAnd (tB (tVar 12)) (tTest (tOp rNotB (tCall (pureSp (C_is_whole_solution K)) [] E0 (tCons (tVar 2) (tCons (tVar 4) (tCons (tVar 11) tNil)))) (tC (.bl true))))) (tRet (tC (.bl false))) tNext))))
    (tRet (tOp rEq (tCall (pureSp (C_is_whole_solution K)) [] E0 (tCons (tVar 2) (tCons (tVar 4) (tCons (tLc (iList K (tVar 5)) (gName 16) tYes (tOp oAdd (tVar 16) (tC (.int 1))) [16]) tNil)))) (tCB (rAll K) (tCons (tLc (iList K (tVar 2)) (gName 15) tYes (tOp rEq (tCB (rSum K) (tCons (tVar 15) tNil)) (tC (.int 0))) [15]) tNil)))))))))))))))
theorem body_law_right {P : Program} {w : World} {K : PySem.W.Frag} {mg : Str → Option Value} {base : Heap} (T : Txt K mg) (c0 : Cal P w K mg base "_law_draw" 1 ["pot", "many"] spDraw) (c1 : Cal P w K mg base "whole_kernel" 5 ["rows", "wide"] (pureSp (C_whole_kernel K))) (c2 : Cal P w K mg base "whole_solution" 8 ["rows", "goals"] (pureSp (C_whole_solution K))) (c3 : CalN P w K mg base "whole_bar" 8 ["rows", "goals"] (pureSp (C_whole_bar K)) ["goals", "rows"] (fun _ zs => zs.reverse)) (c4 : CalN P w K mg base "whole_solution" 8 ["rows", "goals"] (pureSp (C_whole_solution K)) ["rows", "goals"] (fun _ zs => zs)) (c5 : Cal P w K mg base "is_whole_solution" 6 ["rows", "goals", "value"] (pureSp (C_is_whole_solution K))) (c6 : Cal P w K mg base "_law_lists" 1 ["width"] (pureSp (C_law_lists K))) (c7 : Cal P w K mg base "_law_is_made" 1 ["row", "steps"] (pureSp (C_law_is_made K)))
    {f : Addr} {cdv : Value} {A : Around} {outer : List Env} {s : Shared} {H : Hp} {E : XK} (hr : Room 8 (A.deeper (PyProof.Rows.envOfC "_law_right" (defScope s_law_right) s.heap.objs.size f cdv))) :
    PSs (cxOf CX0 P w K mg base ["pot", "width", "rows", "some", "goals", "told", "kernel", "at", "many", "more", "wider", "value", "due", "turn", "place", "row", "one", "two"] "_law_right" (defScope s_law_right) f cdv A outer s H E) (defBody s_law_right) (t_law_right K) := by
  obtain ⟨_, _, h0_G, h0_m, h0_k, h0_b⟩ := c0
  obtain ⟨_, _, h1_G, h1_m, h1_k, h1_b⟩ := c1
  obtain ⟨_, _, h2_G, h2_m, h2_k, h2_b⟩ := c2
  obtain ⟨_, _, _, h3_G, h3_m, h3_k, h3_b⟩ := c3
  obtain ⟨_, _, _, h4_G, h4_m, h4_k, h4_b⟩ := c4
  obtain ⟨_, _, h5_G, h5_m, h5_k, h5_b⟩ := c5
  obtain ⟨_, _, h6_G, h6_m, h6_k, h6_b⟩ := c6
  obtain ⟨_, _, h7_G, h7_m, h7_k, h7_b⟩ := c7
  exact PSs.nox (pss_cons (ps_set (i := 1) sc_law_right.nd rfl (Or.inr rfl) (pe_op op_add pe_int (pe_call h0_G (hr.mono (by decide)) rfl h0_m h0_k h0_b .nil pass0 (pa_cons (pv 0) (pa_cons pe_int pa_nil)))))
    (pss_cons (ps_setLc (i := 2) (own := [("turn", 13)]) (g := (gName 13)) (tt := tYes) (te := (tLc (iRng1 (tCons (tVar 1) tNil)) (gName 14) tYes (tOp oSub (tCall spDraw [] E0 (tCons (tVar 0) (tCons (tC (.int 9)) tNil))) (tC (.int 4))) [14])) rfl sc_law_right.nd rfl rfl (sw_true rfl rfl rfl (by decide +kernel)) (pi_range1 (by rfl) T.f_range (pa_cons (pe_op op_add pe_int (pe_call h0_G (hr.mono (by decide)) rfl h0_m h0_k h0_b .nil pass0 (pa_cons (pv 0) (pa_cons pe_int pa_nil)))) pa_nil)) (blkOk_by (N := ["pot", "width", "rows", "some", "goals", "told", "kernel", "at", "many", "more", "wider", "value", "due", "turn", "place", "row", "one", "two"]) (sc := defScope s_law_right) (by decide +kernel)) (fun _ _ _ _ _ => (pg_name (i := 13) sc_law_right.nd rfl (Or.inl rfl) (hf := Or.inr rfl))) (fun _ _ _ _ _ => pts_nil) (fun _ _ _ _ _ => (pe_lc (own := [("place", 14)]) (g := (gName 14)) (tt := tYes) (te := (tOp oSub (tCall spDraw [] E0 (tCons (tVar 0) (tCons (tC (.int 9)) tNil))) (tC (.int 4)))) rfl sc_law_right.nd (pi_range1 (by rfl) T.f_range (pa_cons (pv 1) pa_nil)) (blkOk_by (N := ["pot", "width", "rows", "some", "goals", "told", "kernel", "at", "many", "more", "wider", "value", "due", "turn", "place", "row", "one", "two"]) (by show blkC _ (relS _ (defScope s_law_right)) _ _ = true; decide +kernel)) (fun _ _ _ _ _ => (pg_name (i := 14) sc_law_right.nd rfl (Or.inl rfl) (hf := Or.inr rfl))) (fun _ _ _ _ _ => pts_nil) (fun _ _ _ _ _ => (pe_op op_sub (pe_call h0_G (hr.mono (by decide)) rfl h0_m h0_k h0_b .nil pass0 (pa_cons (pv 0) (pa_cons pe_int pa_nil))) pe_int)))))
    (pss_cons (ps_set (i := 3) sc_law_right.nd rfl (Or.inr rfl) (pe_lc (own := [("place", 14)]) (g := (gName 14)) (tt := tYes) (te := (tOp oSub (tCall spDraw [] E0 (tCons (tVar 0) (tCons (tC (.int 7)) tNil))) (tC (.int 3)))) rfl sc_law_right.nd (pi_range1 (by rfl) T.f_range (pa_cons (pv 1) pa_nil)) (blkOk_by (N := ["pot", "width", "rows", "some", "goals", "told", "kernel", "at", "many", "more", "wider", "value", "due", "turn", "place", "row", "one", "two"]) (sc := defScope s_law_right) (by decide +kernel)) (fun _ _ _ _ _ => (pg_name (i := 14) sc_law_right.nd rfl (Or.inl rfl) (hf := Or.inr rfl))) (fun _ _ _ _ _ => pts_nil) (fun _ _ _ _ _ => (pe_op op_sub (pe_call h0_G (hr.mono (by decide)) rfl h0_m h0_k h0_b .nil pass0 (pa_cons (pv 0) (pa_cons pe_int pa_nil))) pe_int))))
    (pss_cons (ps_setLc (i := 4) (own := [("row", 15)]) (g := (gName 15)) (tt := tYes) (te := (tCB (rSum K) (tCons (tLc (iZip K (tCons (tVar 15) (tCons (tVar 3) tNil))) (gTup K 2 (gCons (gName 16) (gCons (gName 17) gNil))) tYes (tOp oMul (tVar 16) (tVar 17)) [16, 17]) tNil))) rfl sc_law_right.nd rfl rfl (sw_true rfl rfl rfl (by decide +kernel)) (pi_list (pv 2)) (blkOk_by (N := ["pot", "width", "rows", "some", "goals", "told", "kernel", "at", "many", "more", "wider", "value", "due", "turn", "place", "row", "one", "two"]) (sc := defScope s_law_right) (by decide +kernel)) (fun _ _ _ _ _ => (pg_name (i := 15) sc_law_right.nd rfl (Or.inl rfl) (hf := Or.inr rfl))) (fun _ _ _ _ _ => pts_nil) (fun _ _ _ _ _ => (pe_callB (cr_sum rfl) (by rfl) T.f_sum (by decide +kernel) (pa_cons (pe_lc (own := [("one", 16), ("two", 17)]) (g := (gTup K 2 (gCons (gName 16) (gCons (gName 17) gNil)))) (tt := tYes) (te := (tOp oMul (tVar 16) (tVar 17))) rfl sc_law_right.nd (pi_zip (by rfl) T.f_zip (pa_cons (pv 15) (pa_cons (pv 3) pa_nil))) (blkOk_by (N := ["pot", "width", "rows", "some", "goals", "told", "kernel", "at", "many", "more", "wider", "value", "due", "turn", "place", "row", "one", "two"]) (by show blkC _ (relS _ (defScope s_law_right)) _ _ = true; decide +kernel)) (fun _ _ _ _ _ => (pg_tup rfl (pgs_cons (pg_name (i := 16) sc_law_right.nd rfl (Or.inl rfl) (hf := Or.inr rfl)) (pgs_cons (pg_name (i := 17) sc_law_right.nd rfl (Or.inl rfl) (hf := Or.inr rfl)) pgs_nil)))) (fun _ _ _ _ _ => pts_nil) (fun _ _ _ _ _ => (pe_op op_mulW (pv 16) (pv 17)))) pa_nil))))
    (pss_cons (ps_par (i := 5) (j := 6) rfl sc_law_right.nd rfl rfl (by decide) rfl rfl (pa_cons (pe_call h2_G hr rfl h2_m h2_k h2_b .nil pass0 (pa_cons (pv 2) (pa_cons (pv 4) pa_nil))) (pa_cons (pe_call h1_G (hr.mono (by decide)) rfl h1_m h1_k h1_b .nil pass0 (pa_cons (pv 2) (pa_cons (pv 1) pa_nil))) pa_nil)) (by rfl))
    (pss_cons (ps_if (PW.pt (pw_or (pt_cmp (pc_isN (pv 5))) (pw_or1 (pt_cmp (pc_notN (pe_callN0 (ks := ["goals", "rows"]) (gV := (fun _ zs => zs.reverse)) h3_G hr rfl h3_m h3_k h3_b pass0 (pk_cons (pv 4) (pk_cons (pv 2) pk_nil)))))))) (pss_one (ps_ret pe_bl)) pss_nil)
    (pss_cons (ps_asg (pe_tup (pa_cons (pe_call h0_G (hr.mono (by decide)) rfl h0_m h0_k h0_b .nil pass0 (pa_cons (pv 0) (pa_cons (pe_callB cr_len (by rfl) T.f_len PySem.boot_len (pa_cons (pv 2) pa_nil)) pa_nil))) (pa_cons (pe_op op_sub (pe_call h0_G (hr.mono (by decide)) rfl h0_m h0_k h0_b .nil pass0 (pa_cons (pv 0) (pa_cons pe_int pa_nil))) pe_int) pa_nil))) (pg_tup rfl (pgs_cons (pg_name (i := 7) sc_law_right.nd rfl (Or.inl rfl) (hf := .inl rfl)) (pgs_cons (pg_name (i := 8) sc_law_right.nd rfl (Or.inr rfl) (hf := .inl rfl)) pgs_nil))))
    (pss_cons (ps_set (i := 9) sc_law_right.nd rfl (Or.inl rfl) (pe_op op_cat (pv 2) (pe_lst (pa_cons (pe_lc (own := [("one", 16), ("two", 17)]) (g := (gTup K 2 (gCons (gName 16) (gCons (gName 17) gNil)))) (tt := tYes) (te := (tOp oAdd (tVar 16) (tOp oMul (tVar 8) (tVar 17)))) rfl sc_law_right.nd (pi_zip (by rfl) T.f_zip (pa_cons (pe_ix ix_list (pv 2) pe_int (fun _ _ => rfl)) (pa_cons (pe_ix ix_list (pv 2) (pv 7) (fun _ _ => rfl)) pa_nil))) (blkOk_by (N := ["pot", "width", "rows", "some", "goals", "told", "kernel", "at", "many", "more", "wider", "value", "due", "turn", "place", "row", "one", "two"]) (sc := defScope s_law_right) (by decide +kernel)) (fun _ _ _ _ _ => (pg_tup rfl (pgs_cons (pg_name (i := 16) sc_law_right.nd rfl (Or.inl rfl) (hf := Or.inr rfl)) (pgs_cons (pg_name (i := 17) sc_law_right.nd rfl (Or.inl rfl) (hf := Or.inr rfl)) pgs_nil)))) (fun _ _ _ _ _ => pts_nil) (fun _ _ _ _ _ => (pe_op op_add (pv 16) (pe_op op_mulW (pv 8) (pv 17))))) pa_nil))))
    (pss_cons (ps_set (i := 10) sc_law_right.nd rfl (Or.inl rfl) (pe_op op_cat (pv 4) (pe_lst (pa_cons (pe_op op_add (pe_ix ix_list (pv 4) pe_int (fun _ _ => rfl)) (pe_op op_mulW (pv 8) (pe_ix ix_list (pv 4) (pv 7) (fun _ _ => rfl)))) pa_nil))))
    (pss_cons (ps_if (PW.pt (pw_or (pt_cmpR (op_neD hr.units) (pe_call h1_G (hr.mono (by decide)) rfl h1_m h1_k h1_b .nil pass0 (pa_cons (pe_revL (pv 9)) (pa_cons (pv 1) pa_nil))) (pv 6) (nomark _)) (pw_or1 (pt_not (pt_val (pe_call h5_G (hr.mono (by decide)) rfl h5_m h5_k h5_b .nil pass0 (pa_cons (pv 9) (pa_cons (pv 10) (pa_cons (pe_callN0 (ks := ["rows", "goals"]) (gV := (fun _ zs => zs)) h4_G hr rfl h4_m h4_k h4_b pass0 (pk_cons (pv 9) (pk_cons (pv 10) pk_nil))) pa_nil))))))))) (pss_one (ps_ret pe_bl)) pss_nil)
    (pss_cons (ps_for PassesOwn.never rfl (pi_list (pe_call h6_G (hr.mono (by decide)) rfl h6_m h6_k h6_b .nil pass0 (pa_cons (pv 1) pa_nil))) (pg_name (i := 11) sc_law_right.nd rfl (Or.inr rfl) (hf := .inl rfl)) (pss_cons (ps_set (i := 12) sc_law_right.nd rfl (Or.inl rfl) (pe_cmpR (op_eqD hr.units) (pe_lc (own := [("row", 15)]) (g := (gName 15)) (tt := tYes) (te := (tCB (rSum K) (tCons (tLc (iZip K (tCons (tVar 15) (tCons (tVar 11) tNil))) (gTup K 2 (gCons (gName 16) (gCons (gName 17) gNil))) tYes (tOp oMul (tVar 16) (tVar 17)) [16, 17]) tNil))) rfl sc_law_right.nd (pi_list (pv 2)) (blkOk_by (N := ["pot", "width", "rows", "some", "goals", "told", "kernel", "at", "many", "more", "wider", "value", "due", "turn", "place", "row", "one", "two"]) (sc := defScope s_law_right) (by decide +kernel)) (fun _ _ _ _ _ => (pg_name (i := 15) sc_law_right.nd rfl (Or.inl rfl) (hf := Or.inr rfl))) (fun _ _ _ _ _ => pts_nil) (fun _ _ _ _ _ => (pe_callB (cr_sum rfl) (by rfl) T.f_sum (by decide +kernel) (pa_cons (pe_lc (own := [("one", 16), ("two", 17)]) (g := (gTup K 2 (gCons (gName 16) (gCons (gName 17) gNil)))) (tt := tYes) (te := (tOp oMul (tVar 16) (tVar 17))) rfl sc_law_right.nd (pi_zip (by rfl) T.f_zip (pa_cons (pv 15) (pa_cons (pv 11) pa_nil))) (blkOk_by (N := ["pot", "width", "rows", "some", "goals", "told", "kernel", "at", "many", "more", "wider", "value", "due", "turn", "place", "row", "one", "two"]) (by show blkC _ (relS _ (defScope s_law_right)) _ _ = true; decide +kernel)) (fun _ _ _ _ _ => (pg_tup rfl (pgs_cons (pg_name (i := 16) sc_law_right.nd rfl (Or.inl rfl) (hf := Or.inr rfl)) (pgs_cons (pg_name (i := 17) sc_law_right.nd rfl (Or.inl rfl) (hf := Or.inr rfl)) pgs_nil)))) (fun _ _ _ _ _ => pts_nil) (fun _ _ _ _ _ => (pe_op op_mulW (pv 16) (pv 17)))) pa_nil)))) (pv 4) (nomark _)))
    (pss_cons (ps_if (pt_cmpR op_ne (pv 12) (pe_call h7_G (hr.mono (by decide)) rfl h7_m h7_k h7_b .nil pass0 (pa_cons (pe_lc (own := [("one", 16), ("two", 17)]) (g := (gTup K 2 (gCons (gName 16) (gCons (gName 17) gNil)))) (tt := tYes) (te := (tOp oSub (tVar 16) (tVar 17))) rfl sc_law_right.nd (pi_zip (by rfl) T.f_zip (pa_cons (pv 11) (pa_cons (pv 5) pa_nil))) (blkOk_by (N := ["pot", "width", "rows", "some", "goals", "told", "kernel", "at", "many", "more", "wider", "value", "due", "turn", "place", "row", "one", "two"]) (sc := defScope s_law_right) (by decide +kernel)) (fun _ _ _ _ _ => (pg_tup rfl (pgs_cons (pg_name (i := 16) sc_law_right.nd rfl (Or.inl rfl) (hf := Or.inr rfl)) (pgs_cons (pg_name (i := 17) sc_law_right.nd rfl (Or.inl rfl) (hf := Or.inr rfl)) pgs_nil)))) (fun _ _ _ _ _ => pts_nil) (fun _ _ _ _ _ => (pe_op op_sub (pv 16) (pv 17)))) (pa_cons (pv 6) pa_nil))) (nomark _)) (pss_one (ps_ret pe_bl)) pss_nil)
    (pss_one (ps_if (PW.pt (pw_and (pt_val (pv 12)) (pw_and1 (pt_cmpR op_notBl (pe_call h5_G (hr.mono (by decide)) rfl h5_m h5_k h5_b .nil pass0 (pa_cons (pv 2) (pa_cons (pv 4) (pa_cons (pv 11) pa_nil)))) pe_bl (nomark _))))) (pss_one (ps_ret pe_bl)) pss_nil)))))
    (pss_one (ps_ret (pe_cmpR op_eq (pe_call h5_G (hr.mono (by decide)) rfl h5_m h5_k h5_b .nil pass0 (pa_cons (pv 2) (pa_cons (pv 4) (pa_cons (pe_lc (own := [("one", 16)]) (g := (gName 16)) (tt := tYes) (te := (tOp oAdd (tVar 16) (tC (.int 1)))) rfl sc_law_right.nd (pi_list (pv 5)) (blkOk_by (N := ["pot", "width", "rows", "some", "goals", "told", "kernel", "at", "many", "more", "wider", "value", "due", "turn", "place", "row", "one", "two"]) (sc := defScope s_law_right) (by decide +kernel)) (fun _ _ _ _ _ => (pg_name (i := 16) sc_law_right.nd rfl (Or.inl rfl) (hf := Or.inr rfl))) (fun _ _ _ _ _ => pts_nil) (fun _ _ _ _ _ => (pe_op op_add (pv 16) pe_int))) pa_nil)))) (pe_callB (cr_all rfl) (by rfl) T.f_all (by decide +kernel) (pa_cons (pe_lc (own := [("row", 15)]) (g := (gName 15)) (tt := tYes) (te := (tOp rEq (tCB (rSum K) (tCons (tVar 15) tNil)) (tC (.int 0)))) rfl sc_law_right.nd (pi_list (pv 2)) (blkOk_by (N := ["pot", "width", "rows", "some", "goals", "told", "kernel", "at", "many", "more", "wider", "value", "due", "turn", "place", "row", "one", "two"]) (sc := defScope s_law_right) (by decide +kernel)) (fun _ _ _ _ _ => (pg_name (i := 15) sc_law_right.nd rfl (Or.inl rfl) (hf := Or.inr rfl))) (fun _ _ _ _ _ => pts_nil) (fun _ _ _ _ _ => (pe_cmpR op_eq (pe_callB (cr_sum rfl) (by rfl) T.f_sum (by decide +kernel) (pa_cons (pv 15) pa_nil)) pe_int (nomark _)))) pa_nil)) (nomark _)))))))))))))))
abbrev s_law : Stmt := top 49
theorem sc_law : FnScope ["script", "k"] ["script"] (defScope s_law) := ⟨rfl, rfl, rfl, by decide +kernel, rfl, by decide +kernel, by decide +kernel⟩
def t_law (K : PySem.W.Frag) : TS :=
    (tRet (tCB (rAll K) (tCons (tLc (iRng1 (tCons (tCB uMax (tCons (tC (.int 1)) (tCons (tCB uMin (tCons (tC (.int 2)) (tCons (tCB (uLen K) (tCons (tVar 0) tNil)) tNil))) tNil))) tNil)) (gName 1) tYes (tCall spRight [] E0 (tCons (tCall (spPot K) [] E0 (tCons (tVar 0) (tCons (tVar 1) tNil))) tNil)) [1]) tNil)))
theorem body_law {P : Program} {w : World} {K : PySem.W.Frag} {mg : Str → Option Value} {base : Heap} (T : Txt K mg) (c0 : Cal P w K mg base "_law_pot" 1 ["script", "k"] (spPot K)) (c1 : Cal P w K mg base "_law_right" 9 ["pot"] spRight)
    {f : Addr} {cdv : Value} {A : Around} {outer : List Env} {s : Shared} {H : Hp} {E : XK} (hr : Room 9 (A.deeper (PyProof.Rows.envOfC "law" (defScope s_law) s.heap.objs.size f cdv))) :
    PSs (cxOf CX0 P w K mg base ["script", "k"] "law" (defScope s_law) f cdv A outer s H E) (defBody s_law) (t_law K) := by
  obtain ⟨_, _, h0_G, h0_m, h0_k, h0_b⟩ := c0
  obtain ⟨_, _, h1_G, h1_m, h1_k, h1_b⟩ := c1
  exact PSs.nox (pss_one (ps_ret (pe_callB (cr_all rfl) (by rfl) T.f_all (by decide +kernel) (pa_cons (pe_lc (own := [("k", 1)]) (g := (gName 1)) (tt := tYes) (te := (tCall spRight [] E0 (tCons (tCall (spPot K) [] E0 (tCons (tVar 0) (tCons (tVar 1) tNil))) tNil))) rfl sc_law.nd (pi_range1 (by rfl) T.f_range (pa_cons (pe_callB (cr_max2 rfl) (by rfl) T.f_max (by decide +kernel) (pa_cons pe_int (pa_cons (pe_callB (cr_min2 rfl) (by rfl) T.f_min (by decide +kernel) (pa_cons pe_int (pa_cons (pe_callB cr_len (by rfl) T.f_len PySem.boot_len (pa_cons (pv 0) pa_nil)) pa_nil))) pa_nil))) pa_nil)) (blkOk_by (N := ["script", "k"]) (sc := defScope s_law) (by decide +kernel)) (fun _ _ _ _ _ => (pg_name (i := 1) sc_law.nd rfl (Or.inl rfl) (hf := Or.inr rfl))) (fun _ _ _ _ _ => pts_nil) (fun _ _ _ _ _ => (pe_call h1_G hr rfl h1_m h1_k h1_b .nil pass0 (pa_cons (pe_call h0_G (hr.mono (by decide)) rfl h0_m h0_k h0_b .nil pass0 (pa_cons (pv 0) (pa_cons (pv 1) pa_nil))) pa_nil)))) pa_nil))))
end W
set_option Elab.async false
set_option linter.all false
set_option maxRecDepth 100000
set_option maxHeartbeats 4000000
namespace Dn
open PySem L2
/-! an instance that is being made -/
def Zp (x : Addr) (o : HO) : Zx := ⟨fun b => b = x, fun H => H x = some o, fun h j => by rw [h x rfl]; exact j, fun {H b} j e => by rw [e, j]; exact fun z => nomatch z⟩
def pNo : RP := ⟨fun _ _ => False, fun _ h => h⟩
abbrev insO (Cl dx : Addr) (fs : List (Str × RP)) (us : List V) : HO := .ins Cl dx ((fs.map Prod.fst).zip us)
def Ti (x Cl dx : Addr) (done : List (Str × RP)) (ts : TS) (ρ : Rho) (all : List (Str × RP)) : Prop :=
  ∀ F H σ us, EnvOk F σ ρ → Ok (Zp x (insO Cl dx done us)) F H → Vrs F us (done.map Prod.snd) → ∀ D : Ends,
    (∀ F' H' σ' us', Go (fun b => b = x) F H F' H' → Ok (Zp x (insO Cl dx all us')) F' H' → Vrs F' us' (all.map Prod.snd) → D.nx σ' H') → ts D σ H
theorem putF_zip {f : Str} {v : V} : ∀ {ns : List Str} {us : List V}, ns.length = us.length → f ∉ ns → putF f v (ns.zip us) = (ns ++ [f]).zip (us ++ [v])
  | [], [], _, _ => rfl
  | n :: ns, u :: us, h, k => by
    show putF f v ((n, u) :: ns.zip us) = (n, u) :: (ns ++ [f]).zip (us ++ [v])
    unfold putF
    rw [if_neg (fun e => k (by rw [e]; exact List.mem_cons_self)), putF_zip (Nat.succ.inj h) fun m => k (List.mem_cons_of_mem _ m)]
  | [], _ :: _, h, _ => nomatch h
  | _ :: _, [], h, _ => nomatch h
section
variable {x Cl dx : Addr} {done all : List (Str × RP)} {ts tu : TS} {ρ ρ1 : Rho} {te : TE} {r : RP} {f : Str} {i : Nat} {K : PySem.W.Frag}
theorem ti_pre (a : ∀ us, Tr (Zp x (insO Cl dx done us)) ts ρ [] (Is ρ1 []) pNo) (b : Ti x Cl dx done tu ρ1 all) : Ti x Cl dx done (tSeq ts tu) ρ all := fun F H σ us env ok hv D q =>
  a us F H σ ⟨env, ok, (fun _ h => nomatch h), (fun _ h => nomatch h), List.nodup_nil⟩ { D with nx := tu D } (fun F1 H1 σ1 ρ' ms' ⟨e1, e2⟩ g1 s1 _ => by
    subst e1 e2
    have g1' : Go (fun b => b = x) F H F1 H1 := g1.weak fun b t => by
      rcases t with t | t
      · exact t
      · cases t
    exact b F1 H1 σ1 us s1.env s1.ok (hv.mono g1.ff) D fun F2 H2 σ2 us2 g2 k2 v2 => q F2 H2 σ2 us2 (g1'.trans g2) k2 v2) fun v F1 H1 _ _ z => z.elim
/-- what writing one of them does -/
theorem put_step {F H : Hp} {us : List V} {v : V} (ok : Ok (Zp x (insO Cl dx done us)) F H) (hv : Vrs F us (done.map Prod.snd)) (hr : r.R F v) (hf : f ∉ done.map Prod.fst) :
    H x = some (insO Cl dx done us) ∧ putF f v ((done.map Prod.fst).zip us) = ((done ++ [(f, r)]).map Prod.fst).zip (us ++ [v]) ∧
    Go (fun b => b = x) F H F (upd H x (insO Cl dx (done ++ [(f, r)]) (us ++ [v]))) ∧ Ok (Zp x (insO Cl dx (done ++ [(f, r)]) (us ++ [v]))) F (upd H x (insO Cl dx (done ++ [(f, r)]) (us ++ [v]))) ∧ Vrs F (us ++ [v]) ((done ++ [(f, r)]).map Prod.snd) := by
  have hx : H x = some (insO Cl dx done us) := ok.j
  have l : us.length = done.length := by rw [hv.len, List.length_map]
  refine ⟨hx, ?_, ⟨fun _ _ e => e, fun b o t e => ?_, fun b o e => .inl e, fun b e => ?_⟩, ⟨fun b o e => ?_, ok.fr, upd_same⟩, ?_⟩
  · rw [putF_zip (by rw [List.length_map, l]) hf, List.map_append]
    rfl
  · rw [upd_ne t]; exact e
  · by_cases q : b = x
    · subst q; rw [upd_same]; exact fun z => nomatch z
    · rw [upd_ne q]; exact e
  · have : b ≠ x := fun q => by
      have := ok.fr x rfl
      rw [q, this] at e
      cases e
    rw [upd_ne this]
    exact ok.fh b o e
  · rw [List.map_append]
    exact hv.app ⟨hr, trivial⟩
theorem ti_fld (hi : ρ[i]? = some (some (pRef x))) (h : ∀ us, Den (Zp x (insO Cl dx done us)) te ρ r) (c : Cls K Cl) (n : NoAttr K Cl f) (hf : f ∉ done.map Prod.fst) (hn : done.length < 1000)
    (b : Ti x Cl dx (done ++ [(f, r)]) tu ρ all) : Ti x Cl dx done (tSeq (sFld K (tVar i) te f) tu) ρ all := fun F H σ us env ok hv D q =>
  h us F H σ env ok _ fun v F1 H1 g1 k1 x1 => by
    have e1 := env.mono g1.ff
    obtain ⟨w, h1, h2⟩ := e1.at_ i _ hi
    have h2 : w = .ref x := h2
    subst h2
    have hv1 := hv.mono g1.ff
    obtain ⟨p1, p2, p3, p4, p5⟩ := put_step (f := f) (r := r) (v := v) k1 hv1 x1 hf
    refine ⟨_, h1, x, Cl, dx, _, rfl, p1, c, n, ?_, ?_⟩
    · rw [List.length_zip, List.length_map]
      exact Nat.lt_of_le_of_lt (Nat.min_le_left _ _) hn
    · rw [p2]
      exact b F1 _ σ _ e1 p4 p5 D fun F2 H2 σ2 us2 g2 k2 v2 => q F2 H2 σ2 us2 ((g1.trans p3).trans g2) k2 v2
theorem ti_last (hi : ρ[i]? = some (some (pRef x))) (h : ∀ us, Den (Zp x (insO Cl dx done us)) te ρ r) (c : Cls K Cl) (n : NoAttr K Cl f) (hf : f ∉ done.map Prod.fst) (hn : done.length < 1000) :
    Ti x Cl dx done (sFld K (tVar i) te f) ρ (done ++ [(f, r)]) := fun F H σ us env ok hv D q =>
  ti_fld (tu := tNext) hi h c n hf hn (fun F1 H1 σ1 us1 e1 k1 v1 D1 q1 => q1 F1 H1 σ1 us1 (Go.refl _ _) k1 v1) F H σ us env ok hv D q
/-- an __init__'s body, by what it sets -/
theorem init_of {N : List Str} {t : TS} {C : List RP → List (Str × RP) → Prop} {vs : List V} {H : Hp} {Q : VK} {E : XK} (h : initSp Cl C vs H Q E)
    (k : ∀ x dx rs fs, C rs fs → Ti x Cl dx [] t (startR N (pRef x :: rs)) fs) : t { nx := fun _ H' => Q .non H', rt := Q } (L2.start N vs) H := by
  obtain ⟨x, dx, F, rs, fs, ws, rfl, hx, hdx, fx, s, hv, c, q⟩ := h
  refine k x dx rs fs c F H _ [] (start_ok (vs := V.ref x :: ws) (rs := pRef x :: rs) ⟨rfl, hv⟩) ⟨s, fun b e => ?_, hx⟩ trivial _ fun F' H' σ' us' g ok hv' => ?_
  · have e : b = x := e
    rw [e]; exact fx
  · exact q F' H' us' g ok.fh (ok.fr x rfl) ok.j hv'
theorem initSp_len {C : List RP → List (Str × RP) → Prop} {n : Nat} (h : ∀ rs fs, C rs fs → rs.length = n) : ∀ vs H Q E, initSp Cl C vs H Q E → vs.length = n + 1 := fun vs H Q E ⟨x, dx, F, rs, fs, ws, e, _, _, _, _, hv, c, _⟩ => by
  rw [e, List.length_cons, hv.len, h rs fs c]
end
/-- a test that is not so -/
theorem tr_skip {Z : Zx} {tt : TT} {ts : TS} {ρ : Rho} {ms : List Mt} {R : RP} (h : DenT Z tt ρ (· = false)) : Tr Z (tIfS tt ts tNext) ρ ms (Is ρ ms) R := tr_if h (fun e => nomatch e) fun _ => tr_next ⟨rfl, rfl⟩
end Dn
namespace W
open PySem L2 Dn HM
/-- facts of the kinds -/
structure Fx (K : PySem.W.Frag) : Prop where
  ii : PySem.W.kitOne K (.type "int") (.type "int") = some true
  ib : PySem.W.kitOne K (.type "int") (.type "bool") = some false
  ri : PySem.W.kitOne K (.ref (cR K)) (.type "int") = some false
  rr : PySem.W.kitOne K (.ref (cR K)) (.ref (cR K)) = some true
  ir : PySem.W.kitOne K (.type "int") (.ref (cR K)) = some false
  lt : PySem.W.kitAny K (.type "list") [.type "list", .type "tuple"] = some true
  kr : insB "Ratio" K = true
section
variable {K : PySem.W.Frag} {mg : Str → Option Value} {rs : List RP} {res : RP}
theorem ci_int (X : Fx K) (i : Int) : C_is_integer K [pI i] (pB true) := ⟨_, _, true, false, rfl, kd_int, X.ii, fun _ => X.ib, rfl⟩
theorem ci_rat (T : Txt K mg) (X : Fx K) (q : Rat) : C_is_integer K [pQ K q] (pB false) := ⟨_, _, false, false, rfl, kd_own T.c_Ratio X.kr, X.ri, (fun e => nomatch e), rfl⟩
theorem cl_list (X : Fx K) (l : List RP) : C_is_list K [pL l] (pB true) := ⟨_, _, true, rfl, kd_lst, X.lt, rfl⟩
theorem d_is_integer (h : C_is_integer K rs res) : Tr Z0 (t_is_integer K) (startR ["value"] rs) [] No res := by
  obtain ⟨r, t, b1, b2, rfl, k, e1, e2, rfl⟩ := h
  exact tr_ret (den_andV (den_callB (den_cons (den_var rfl) (den_cons den_v den_nil)) (cd_isi k (.ty "int") e1)) fun e => den_notV (den_callB (den_cons (den_var rfl) (den_cons den_v den_nil)) (cd_isi k (.ty "bool") (e2 e))))
theorem d_is_count (X : Fx K) (h : C_is_count K rs res) : Tr Z0 (t_is_count K) (startR ["value"] rs) [] No res := by
  obtain ⟨i, rfl, rfl⟩ := h
  have := tr_ret (N := No) (ms := []) (den_andV (Z := Z0) (ρ := startR ["value"] [pI i]) (den_call (E := E0) (tas := tCons (tVar 0) tNil) (C := C_is_integer K) (den_cons (den_var rfl) den_nil) (ci_int X i)) fun _ => den_op (den_var (i := 0) rfl) (den_v (v := .int 0)) (opd_I0 (g := fun i j => .bl (decide (j ≤ i)))))
  exact this
theorem d_is_list (h : C_is_list K rs res) : Tr Z0 (t_is_list K) (startR ["value"] rs) [] No res := by
  obtain ⟨r, t, b, rfl, k, e, rfl⟩ := h
  exact tr_ret (den_callB (den_cons (den_var rfl) (den_cons (den_tup (den_cons den_v (den_cons den_v den_nil)) (by decide)) den_nil)) (cd_isi2 k e))
theorem d_want_many (X : Fx K) (h : C_want_many K rs res) : Tr Z0 (t_want_many K) (startR ["value", "most", "least"] rs) [] (fun _ _ => True) res ∧ ∀ F, res.R F .non := by
  obtain ⟨i, m, l, rfl, h0, h1, h2, rfl⟩ := h
  refine ⟨tr_seqI (tr_skip ?_) (tr_imp (tr_skip ?_) fun _ _ _ => trivial), fun F => rfl⟩
  · refine dent_imp (dent_or (dent_not (dent_val (den_call (den_cons (den_var rfl) den_nil) ⟨i, rfl, rfl⟩))) fun _ => dent_test (den_op (den_var rfl) (den_var rfl) opd_I0)) fun b e => ?_
    rw [e, decide_eq_true h0, decide_eq_false (by omega)]
    rfl
  · refine dent_imp (dent_and (dent_val (den_notN (b := false) (den_var rfl) fun F v e => by cases e; rfl)) fun _ => dent_test (den_op (den_var rfl) (den_var rfl) opd_I0)) fun b e => ?_
    rw [e, decide_eq_false (by omega)]
    rfl
theorem d_divisor_of (h : C_divisor_of K rs res) : Tr Z0 (t_divisor_of K) (startR ["one", "other"] rs) [] No res := by
  obtain ⟨a, b, rfl, rfl⟩ := h
  exact tr_ret (den_callB (den_cons (den_var rfl) (den_cons (den_var rfl) den_nil)) cd_gcd)
/-! ratios -/
theorem ratio_parts {t b : Int} (hb : b ≠ 0) (c : Int) (hc : c = if b < 0 then 0 - ((Nat.gcd t.natAbs b.natAbs : Nat) : Int) else ((Nat.gcd t.natAbs b.natAbs : Nat) : Int)) :
    t.fdiv c = (Rat.divInt t b).num ∧ b.fdiv c = ((Rat.divInt t b).den : Int) ∧ c ≠ 0 ∧ c.natAbs ≤ b.natAbs := by
  have eg : b.gcd t = Nat.gcd t.natAbs b.natAbs := Nat.gcd_comm _ _
  have hg : 0 < Nat.gcd t.natAbs b.natAbs := Nat.gcd_pos_of_pos_right _ (by omega)
  have dt : ((Nat.gcd t.natAbs b.natAbs : Nat) : Int) ∣ t := Int.natAbs_dvd_natAbs.mp (by rw [Int.natAbs_natCast]; exact Nat.gcd_dvd_left _ _)
  have db : ((Nat.gcd t.natAbs b.natAbs : Nat) : Int) ∣ b := Int.natAbs_dvd_natAbs.mp (by rw [Int.natAbs_natCast]; exact Nat.gcd_dvd_right _ _)
  have le : Nat.gcd t.natAbs b.natAbs ≤ b.natAbs := Nat.le_of_dvd (by omega) (Nat.gcd_dvd_right _ _)
  rw [Rat.num_divInt, Rat.den_divInt, eg, if_neg hb]
  generalize hG : Nat.gcd t.natAbs b.natAbs = G at *
  obtain ⟨t', rfl⟩ := dt
  obtain ⟨b', rfl⟩ := db
  have hG0 : ((G : Nat) : Int) ≠ 0 := by omega
  have nb : ((G : Int) * b').natAbs / G = b'.natAbs := by rw [Int.natAbs_mul, Int.natAbs_natCast]; exact Nat.mul_div_cancel_left _ hg
  rw [nb]
  by_cases hn : (G : Int) * b' < 0
  · rw [if_pos hn] at hc
    have hb' : b' < 0 := by
      refine Int.not_le.mp fun z => ?_
      have := Int.mul_nonneg (Int.natCast_nonneg G) z
      omega
    have e0 : c = -(G : Int) := by omega
    subst e0
    refine ⟨?_, ?_, by omega, by rw [Int.natAbs_neg, Int.natAbs_natCast]; exact le⟩
    · rw [Int.sign_eq_neg_one_of_neg hn, show (-1 : Int) * (G * t') = G * (-t') by rw [Int.mul_neg, Int.neg_mul, Int.one_mul], Int.mul_ediv_cancel_left _ hG0, show (G : Int) * t' = (-(G : Int)) * (-t') by rw [Int.neg_mul_neg], Int.mul_fdiv_cancel_left _ (by omega)]
    · rw [show (G : Int) * b' = (-(G : Int)) * (-b') by rw [Int.neg_mul_neg], Int.mul_fdiv_cancel_left _ (by omega)]
      omega
  · rw [if_neg hn] at hc
    subst hc
    have hp : 0 < (G : Int) * b' := by omega
    have hb' : 0 < b' := by
      refine Int.not_le.mp fun z => ?_
      have := Int.mul_nonneg (Int.natCast_nonneg G) (show 0 ≤ -b' by omega)
      rw [Int.mul_neg] at this
      omega
    refine ⟨?_, ?_, by omega, by rw [Int.natAbs_natCast]; exact le⟩
    · rw [Int.sign_eq_one_of_pos hp, Int.one_mul, Int.mul_ediv_cancel_left _ hG0, Int.mul_fdiv_cancel_left _ hG0]
    · rw [Int.mul_fdiv_cancel_left _ hG0]
      omega
theorem log2_lt {n k : Nat} (h : n < 2 ^ k) (hk : 0 < k) : n.log2 < k := by
  by_cases h0 : n = 0
  · subst h0; rw [Nat.log2_zero]; exact hk
  · exact (Nat.log2_lt h0).mpr h
theorem d_Ratio_init (T : Txt K mg) (X : Fx K) (x dx : Addr) (rs : List RP) (fs : List (Str × RP)) (h : C_Ratio_init K rs fs) : Ti x (cR K) dx [] (t_Ratio_init K) (startR ["self", "top", "bottom", "common"] (pRef x :: rs)) fs := by
  obtain ⟨t, b, rfl, hb, hs, rfl⟩ := h
  obtain ⟨q1, q2, q3, q4⟩ := ratio_parts (t := t) hb _ rfl
  have hd : CDivA 0 (if b < 0 then 0 - ((Nat.gcd t.natAbs b.natAbs : Nat) : Int) else ((Nat.gcd t.natAbs b.natAbs : Nat) : Int)) := ⟨q3, log2_lt (Nat.lt_of_le_of_lt q4 (Nat.lt_of_lt_of_le hs (Nat.pow_le_pow_right (by decide) (by decide)))) (by decide)⟩
  unfold t_Ratio_init
  refine ti_pre (fun us => tr_skip (dent_not (dent_val (den_call (den_cons (den_var rfl) den_nil) (ci_int X t))))) ?_
  refine ti_pre (fun us => tr_skip (dent_imp (dent_or (dent_not (dent_val (den_call (den_cons (den_var rfl) den_nil) (ci_int X b)))) fun _ => dent_test (den_op (den_var rfl) den_v (opd_eq rfl))) fun c e => ?_)) ?_
  · rw [e, decide_eq_false (fun z => hb (by injection z))]
    rfl
  refine ti_pre (fun us => tr_asg (den_call (den_cons (den_var rfl) (den_cons (den_var rfl) den_nil)) ⟨t, b, rfl, rfl⟩)) ?_
  refine ti_pre (ρ1 := startR ["self", "top", "bottom", "common"] [pRef x, pI t, pI b, pI (if b < 0 then 0 - ((Nat.gcd t.natAbs b.natAbs : Nat) : Int) else ((Nat.gcd t.natAbs b.natAbs : Nat) : Int))]) (fun us => tr_if (dent_test (den_op (den_var rfl) den_v opd_I0)) (fun e => ?_) fun e => ?_) ?_
  · have e : b < 0 := of_decide_eq_true e.symm
    rw [if_pos e]
    exact tr_asg (den_op den_v (den_var rfl) opd_I0)
  · have e : ¬ b < 0 := of_decide_eq_false e.symm
    rw [if_neg e]
    exact tr_next ⟨rfl, rfl⟩
  refine ti_fld (r := pI (Rat.divInt t b).num) rfl (fun us => ?_) T.c_Ratio T.n_own_top (by show _ ∉ ([] : List Str); decide) (by show 0 < 1000; decide) ?_
  · rw [← q1]
    exact den_op (den_var rfl) (den_var rfl) (opd_I (C := CDivA) (g := fun i j => .int (i.fdiv j)) hd)
  refine ti_last (r := pI ((Rat.divInt t b).den : Int)) rfl (fun us => ?_) T.c_Ratio T.n_own_bottom (by show _ ∉ (["own_top"] : List Str); decide) (by show 1 < 1000; decide)
  rw [← q2]
  exact den_op (den_var rfl) (den_var rfl) (opd_I (C := CDivA) (g := fun i j => .int (i.fdiv j)) hd)
theorem d_Ratio_top (T : Txt K mg) (h : C_Ratio_top K rs res) : Tr Z0 (t_Ratio_top K) (startR ["self"] rs) [] No res := by
  obtain ⟨q, rfl, rfl⟩ := h
  exact tr_ret (den_fld T.c_Ratio T.n_own_top (den_var rfl) rfl)
theorem d_Ratio_bottom (T : Txt K mg) (h : C_Ratio_bottom K rs res) : Tr Z0 (t_Ratio_bottom K) (startR ["self"] rs) [] No res := by
  obtain ⟨q, rfl, rfl⟩ := h
  exact tr_ret (den_fld T.c_Ratio T.n_own_bottom (den_var rfl) rfl)
theorem d_Ratio_sign (T : Txt K mg) (h : C_Ratio_sign K rs res) : Tr Z0 (t_Ratio_sign K) (startR ["self"] rs) [] No res := by
  obtain ⟨q, rfl, rfl⟩ := h
  refine tr_ret (den_imp (den_op (den_callB (den_cons (den_op (den_fld T.c_Ratio T.n_own_top (den_var rfl) rfl) den_v opd_I0) den_nil) cd_intB) (den_callB (den_cons (den_op (den_fld T.c_Ratio T.n_own_top (den_var rfl) rfl) den_v opd_I0) den_nil) cd_intB) opd_I0) fun F v e => ?_)
  have e : v = _ := e
  rw [e]
  show V.int _ = V.int _
  congr 1
  rcases Int.lt_trichotomy q.num 0 with z | z | z
  · rw [Int.sign_eq_neg_one_of_neg z, decide_eq_false (by omega), decide_eq_true (by omega)]; rfl
  · rw [z]; rfl
  · rw [Int.sign_eq_one_of_pos z, decide_eq_true (by omega), decide_eq_false (by omega)]; rfl
theorem d_Ratio_is_whole (T : Txt K mg) (h : C_Ratio_is_whole K rs res) : Tr Z0 (t_Ratio_is_whole K) (startR ["self"] rs) [] No res := by
  obtain ⟨q, rfl, rfl⟩ := h
  refine tr_ret (den_imp (den_op (den_fld T.c_Ratio T.n_own_bottom (den_var rfl) rfl) den_v (opd_eq rfl)) fun F v e => ?_)
  have e : v = _ := e
  rw [e]
  show V.bl _ = V.bl _
  congr 1
  refine decide_eq_decide.mpr ⟨fun z => ?_, fun z => by rw [z]; rfl⟩
  injection z with z
  omega
theorem d_told_pair (T : Txt K mg) (X : Fx K) (h : C_told_pair K rs res) : Tr Z0 (t_told_pair K) (startR ["value"] rs) [] No res := by
  rcases h with ⟨i, rfl, rfl⟩ | ⟨q, rfl, rfl⟩
  · refine tr_seqI (tr_skip (dent_val (den_callB (den_cons (den_var rfl) (den_cons den_v den_nil)) (cd_isi kd_int (.own _) X.ir)))) ?_
    refine tr_seqI (tr_skip (dent_not (dent_val (den_call (den_cons (den_var rfl) den_nil) (ci_int X i))))) ?_
    exact tr_ret (den_tup (den_cons (den_var rfl) (den_cons den_v den_nil)) (by show 2 ≤ sizeLine; decide))
  · refine tr_seq (tr_if (dent_val (den_callB (den_cons (den_var rfl) (den_cons den_v den_nil)) (cd_isi (kd_own T.c_Ratio X.kr) (.own _) X.rr))) (fun _ => ?_) (fun e => nomatch e)) (M := No) fun _ _ z => z.elim
    exact tr_ret (den_tup (den_cons (den_fld T.c_Ratio T.n_own_top (den_var rfl) rfl) (den_cons (den_fld T.c_Ratio T.n_own_bottom (den_var rfl) rfl) den_nil)) (by show 2 ≤ sizeLine; decide))
/-- a NUMBER's pair -/
theorem num_pair {r : RP} {q : Rat} (h : Num K r q) : C_told_pair K [r] (pT [pI q.num, pI (q.den : Int)]) := by
  rcases h with ⟨i, rfl, rfl⟩ | rfl
  · exact .inl ⟨i, rfl, rfl⟩
  · exact .inr ⟨q, rfl, rfl⟩
theorem mulS {a b : Int} (ha : a.natAbs < 2 ^ 4000) (hb : b.natAbs < 2 ^ 4000) : CMulW a b := wide_mul ha hb (by decide) (by decide) (by decide)
theorem mulB {a b : Nat} (ha : a < 2 ^ 4000) (hb : b < 2 ^ 4000) : a * b < 2 ^ 8999 := by
  refine Nat.lt_of_le_of_lt (Nat.mul_le_mul (Nat.le_of_lt ha) (Nat.le_of_lt hb)) ?_
  rw [← Nat.pow_add]
  exact Nat.pow_lt_pow_right (by decide) (by decide)
theorem den_ratio {t b : Int} {q : Rat} (hb : b ≠ 0) (hs : b.natAbs < 2 ^ 8999) (e : Rat.divInt t b = q) : C_Ratio_init K [pI t, pI b] [("own_top", pI q.num), ("own_bottom", pI (q.den : Int))] := ⟨t, b, rfl, hb, hs, by rw [e]⟩
theorem dn {q : Rat} : ((q.den : Nat) : Int) ≠ 0 := fun e => q.den_nz (by omega)
theorem d_Ratio_mul (T : Txt K mg) (h : C_Ratio_mul K rs res) : Tr Z0 (t_Ratio_mul K) (startR ["self", "other", "top", "bottom"] rs) [] No res := by
  obtain ⟨a, b, r, rfl, hr, ha, hb, rfl⟩ := h
  refine tr_seqI (tr_asgG (den_call (den_cons (den_var rfl) den_nil) (num_pair hr)) (deng_tup2 (vs := [2, 3]) (by decide) (by decide))) ?_
  refine tr_ret (den_make (rs := [pI (a.num * b.num), pI ((a.den : Int) * b.den)]) (drs := []) (den_cons (den_op (den_fld T.c_Ratio T.n_own_top (den_var rfl) rfl) (den_var rfl) (opd_I (mulS ha.1 hb.1))) (den_cons (den_op (den_fld T.c_Ratio T.n_own_bottom (den_var rfl) rfl) (den_var rfl) (opd_I (mulS (by exact ha.2) (by exact hb.2)))) den_nil)) (fun _ => trivial) (den_ratio ?_ ?_ ?_))
  · exact Int.mul_ne_zero dn dn
  · rw [Int.natAbs_mul]; exact mulB ha.2 hb.2
  · rw [← Rat.divInt_mul_divInt, Rat.num_divInt_den, Rat.num_divInt_den]
theorem d_Ratio_sub (T : Txt K mg) (h : C_Ratio_sub K rs res) : Tr Z0 (t_Ratio_sub K) (startR ["self", "other", "top", "bottom"] rs) [] No res := by
  obtain ⟨a, b, r, rfl, hr, ha, hb, rfl⟩ := h
  refine tr_seqI (tr_asgG (den_call (den_cons (den_var rfl) den_nil) (num_pair hr)) (deng_tup2 (vs := [2, 3]) (by decide) (by decide))) ?_
  refine tr_ret (den_make (rs := [pI (a.num * b.den - b.num * a.den), pI ((a.den : Int) * b.den)]) (drs := [])
    (den_cons (den_op (den_op (den_fld T.c_Ratio T.n_own_top (den_var rfl) rfl) (den_var rfl) (opd_I (mulS ha.1 (by exact hb.2)))) (den_op (den_var rfl) (den_fld T.c_Ratio T.n_own_bottom (den_var rfl) rfl) (opd_I (mulS hb.1 (by exact ha.2)))) opd_I0) (den_cons (den_op (den_fld T.c_Ratio T.n_own_bottom (den_var rfl) rfl) (den_var rfl) (opd_I (mulS (by exact ha.2) (by exact hb.2)))) den_nil)) (fun _ => trivial) (den_ratio ?_ ?_ ?_))
  · exact Int.mul_ne_zero dn dn
  · rw [Int.natAbs_mul]; exact mulB ha.2 hb.2
  · rw [← Rat.divInt_sub_divInt _ _ dn dn, Rat.num_divInt_den, Rat.num_divInt_den]
theorem d_Ratio_over (T : Txt K mg) (h : C_Ratio_over K rs res) : Tr Z0 (t_Ratio_over K) (startR ["self", "other", "top", "bottom"] rs) [] No res := by
  obtain ⟨a, b, r, rfl, hr, h0, ha, hb, rfl⟩ := h
  have hn : b.num ≠ 0 := fun e => h0 (Rat.num_eq_zero.mp e)
  refine tr_seqI (tr_asgG (den_call (den_cons (den_var rfl) den_nil) (num_pair hr)) (deng_tup2 (vs := [2, 3]) (by decide) (by decide))) ?_
  refine tr_seqI (tr_skip (dent_imp (dent_test (den_op (den_var rfl) den_v (opd_eq rfl))) fun c e => ?_)) ?_
  · rw [e]
    exact decide_eq_false fun z => hn (by injection z)
  refine tr_ret (den_make (rs := [pI (a.num * b.den), pI ((a.den : Int) * b.num)]) (drs := []) (den_cons (den_op (den_fld T.c_Ratio T.n_own_top (den_var rfl) rfl) (den_var rfl) (opd_I (mulS ha.1 (by exact hb.2)))) (den_cons (den_op (den_fld T.c_Ratio T.n_own_bottom (den_var rfl) rfl) (den_var rfl) (opd_I (mulS (by exact ha.2) hb.1))) den_nil)) (fun _ => trivial) (den_ratio ?_ ?_ ?_))
  · exact Int.mul_ne_zero dn hn
  · rw [Int.natAbs_mul]; exact mulB ha.2 hb.1
  · rw [Rat.div_def, ← Rat.divInt_mul_divInt, Rat.num_divInt_den, ← Rat.inv_def]
theorem d_is_number (T : Txt K mg) (X : Fx K) (h : C_is_number K rs res) : Tr Z0 (t_is_number K) (startR ["value"] rs) [] No res := by
  obtain ⟨q, r, rfl, hr, rfl⟩ := h
  rcases hr with ⟨i, rfl, rfl⟩ | rfl
  · exact tr_ret (den_orV (b := true) (c := true) (den_call (den_cons (den_var rfl) den_nil) (ci_int X i)) (fun e => nomatch e))
  · exact tr_ret (den_orV (b := false) (c := true) (den_call (den_cons (den_var rfl) den_nil) (ci_rat T X q)) fun _ => den_callB (den_cons (den_var rfl) (den_cons den_v den_nil)) (cd_isi (kd_own T.c_Ratio X.kr) (.own _) X.rr))
theorem d_ratio_of (T : Txt K mg) (X : Fx K) (h : C_ratio_of K rs res) : Tr Z0 (t_ratio_of K) (startR ["number"] rs) [] No res := by
  obtain ⟨q, r, rfl, hr, rfl⟩ := h
  rcases hr with ⟨i, rfl, rfl⟩ | rfl
  · refine tr_ret (den_if (dent_val (den_callB (den_cons (den_var rfl) (den_cons den_v den_nil)) (cd_isi kd_int (.own _) X.ir))) (fun e => nomatch e) fun _ => ?_)
    exact den_make (rs := [pI i]) (drs := [pI 1]) (den_cons (den_var rfl) den_nil) (fun _ => ⟨rfl, trivial⟩) (den_ratio (by decide) (Nat.lt_of_lt_of_le (by decide : (1 : Int).natAbs < 2 ^ 1) (Nat.pow_le_pow_right (by decide) (by decide))) (Rat.num_divInt_den ((i : Int) : Rat)))
  · exact tr_ret (den_if (dent_val (den_callB (den_cons (den_var rfl) (den_cons den_v den_nil)) (cd_isi (kd_own T.c_Ratio X.kr) (.own _) X.rr))) (fun _ => den_var rfl) (fun e => nomatch e))
end
end W
set_option Elab.async false
set_option linter.all false
set_option maxRecDepth 100000
set_option maxHeartbeats 4000000
namespace Dn
open PySem L2 HM
/-! lists of numbers compared -/
abbrev dI (ns : List Int) : PyData := .list (ns.map PyData.int)
theorem d_canI : ∀ ns : List Int, PyData.canLayAll0 (ns.map PyData.int) = true
  | [] => by simp [PyData.canLayAll0]
  | _ :: r => by simp [PyData.canLayAll0, PyData.canLay0, d_canI r]
theorem d_depI : ∀ ns : List Int, PyData.depthAll (ns.map PyData.int) = 0
  | [] => by simp [PyData.depthAll]
  | _ :: r => by simp [PyData.depthAll, PyData.depth, d_depI r]
theorem d_shI (ns : List Int) : SeqAt.shaped (dI ns) = true := by
  have h2 : PyData.depth (dI ns) ≤ 64 := by simp only [PyData.depth, d_depI]; omega
  show (PyData.canLay0 (dI ns) && decide (PyData.depth (dI ns) ≤ 64)) = true
  rw [Bool.and_eq_true]
  exact ⟨by simp only [PyData.canLay0]; exact d_canI ns, decide_eq_true h2⟩
theorem d_canII : ∀ rows : List (List Int), PyData.canLayAll0 (rows.map dI) = true
  | [] => by simp [PyData.canLayAll0]
  | a :: r => by simp [PyData.canLayAll0, PyData.canLay0, d_canI, d_canII r]
theorem d_depII : ∀ rows : List (List Int), PyData.depthAll (rows.map dI) ≤ 1
  | [] => by simp [PyData.depthAll]
  | a :: r => by
    have h := d_depII r
    simp only [List.map_cons, PyData.depthAll, PyData.depth, d_depI]
    omega
theorem d_shII (rows : List (List Int)) : SeqAt.shaped (.list (rows.map dI)) = true := by
  have h1 := d_depII rows
  have h2 : PyData.depth (.list (rows.map dI)) ≤ 64 := by simp only [PyData.depth]; omega
  show (PyData.canLay0 (.list (rows.map dI)) && decide (PyData.depth (.list (rows.map dI)) ≤ 64)) = true
  rw [Bool.and_eq_true]
  exact ⟨by simp only [PyData.canLay0]; exact d_canII rows, decide_eq_true h2⟩
theorem d_eqA : ∀ a b : List Int, PyData.eqvAll (a.map PyData.int) (b.map PyData.int) = decide (a = b)
  | [], [] => by simp [PyData.eqvAll]
  | [], _ :: _ => by simp [PyData.eqvAll]
  | _ :: _, [] => by simp [PyData.eqvAll]
  | x :: a, y :: b => by
    simp only [List.map_cons, PyData.eqvAll, PyData.eqv, d_eqA a b]
    by_cases h : x = y <;> by_cases h' : a = b <;> simp [h, h']
theorem d_eqI (a b : List Int) : PyData.eqv (dI a) (dI b) = decide (a = b) := by simp only [PyData.eqv]; exact d_eqA a b
theorem d_eqB : ∀ a b : List (List Int), PyData.eqvAll (a.map dI) (b.map dI) = decide (a = b)
  | [], [] => by simp [PyData.eqvAll]
  | [], _ :: _ => by simp [PyData.eqvAll]
  | _ :: _, [] => by simp [PyData.eqvAll]
  | x :: a, y :: b => by
    have e := d_eqI x y
    simp only [List.map_cons, PyData.eqvAll, d_eqB a b, e]
    by_cases h : x = y <;> by_cases h' : a = b <;> simp [h, h']
theorem d_eqII (a b : List (List Int)) : PyData.eqv (.list (a.map dI)) (.list (b.map dI)) = decide (a = b) := by simp only [PyData.eqv]; exact d_eqB a b
section
variable {K : PySem.W.Frag} {Z : Zx} {ρ : Rho} {te ta : TE}
theorem isd_Is {ns : List Int} : IsD K (pIs ns) (dI ns) := isd_list (d := PyData.int) fun _ => isd_int
theorem isd_Iss {rows : List (List Int)} : IsD K (pIss rows) (.list (rows.map dI)) := isd_list (d := dI) fun _ => isd_Is
theorem opd_eqIs {a b : List Int} : OpD (rEqD K) (pIs a) (pIs b) (pB (decide (a = b))) := opd_eqD isd_Is isd_Is (d_shI _) (d_shI _) (d_eqI a b)
theorem opd_neIs {a b : List Int} : OpD (rNeD K) (pIs a) (pIs b) (pB (!decide (a = b))) := opd_neD isd_Is isd_Is (d_shI _) (d_shI _) (d_eqI a b)
theorem opd_eqIss {a b : List (List Int)} : OpD (rEqD K) (pIss a) (pIss b) (pB (decide (a = b))) := opd_eqD isd_Iss isd_Iss (d_shII _) (d_shII _) (d_eqII a b)
theorem opd_neIss {a b : List (List Int)} : OpD (rNeD K) (pIss a) (pIss b) (pB (!decide (a = b))) := opd_neD isd_Iss isd_Iss (d_shII _) (d_shII _) (d_eqII a b)
/-! items, slices, folds -/
theorem opd_cel {row : List Int} {i : Nat} (h : i < row.length) : OpD (rIxL K) (pIs row) (pI (i : Int)) (pI (cel row i)) := opd_ixL rfl (by rw [List.getElem?_map, cel_in h]; rfl)
theorem get_getD {α : Type} {xs : List α} {i : Nat} {d : α} (h : i < xs.length) : xs[i]? = some (xs.getD i d) := by rw [List.getD_eq_getElem?_getD, List.getElem?_eq_getElem h]; rfl
theorem opd_row {α : Type} {f : α → RP} {xs : List α} {i : Nat} (d : α) (h : i < xs.length) : OpD (rIxL K) (pLm f xs) (pI (i : Int)) (f (xs.getD i d)) := opd_ixL rfl (by rw [List.getElem?_map, get_getD h (d := d)]; rfl)
theorem sld_take {xs : List RP} {k : Nat} : SlD (rSlL K) (pL xs) none (some (k : Int)) (pL (xs.take k)) := by
  have h := sld_list (K := K) (xs := xs) (lo := none) (hi := some (k : Int))
  rw [HT.sIx_none, HT.sIx_nat, Nat.sub_zero, List.drop_zero, ← List.take_eq_take_min] at h
  exact h
theorem sld_drop {xs : List RP} {k : Nat} : SlD (rSlL K) (pL xs) (some (k : Int)) none (pL (xs.drop k)) := by
  have h := sld_list (K := K) (xs := xs) (lo := some (k : Int)) (hi := none)
  rw [HT.sIx_none, HT.sIx_nat] at h
  have e : (xs.drop (min k xs.length)).take (xs.length - min k xs.length) = xs.drop k := by
    rw [List.take_of_length_le (by rw [List.length_drop]; omega)]
    by_cases q : k ≤ xs.length
    · rw [Nat.min_eq_left q]
    · rw [Nat.min_eq_right (by omega), List.drop_length, List.drop_eq_nil_of_le (by omega)]
  rw [e] at h
  exact h
theorem map_get {α : Type} {xs : List α} {f : α → RP} {i : Nat} {r : RP} (h : (xs.map f)[i]? = some r) : ∃ x, xs[i]? = some x ∧ r = f x := by
  rw [List.getElem?_map] at h
  cases q : xs[i]? with
  | none => rw [q] at h; cases h
  | some x => rw [q] at h; exact ⟨x, rfl, (Option.some.inj h).symm⟩
theorem fold_take {α β : Type} {f : β → α → β} {xs : List α} {i : Nat} {x : α} {b : β} (h : xs[i]? = some x) : (xs.take (i + 1)).foldl f b = f ((xs.take i).foldl f b) x := by
  obtain ⟨hi, e⟩ := List.getElem?_eq_some_iff.mp h
  rw [List.take_succ_eq_append_getElem hi, List.foldl_append, e]
  rfl
theorem den_re {r1 r : RP} (h : Den Z te ρ r1) (e : r1 = r) : Den Z te ρ r := e ▸ h
end
end Dn
namespace W
open PySem L2 Dn HM
section
variable {K : PySem.W.Frag} {mg : Str → Option Value} {rs : List RP} {res : RP}
theorem d_less_row (h : C_less_row K rs res) : Tr Z0 (t_less_row K) (startR ["row", "base", "many", "one", "other"] rs) [] No res := by
  obtain ⟨row, bs, m, rfl, rfl, hl, hb, hm⟩ := h
  refine tr_ret (den_re (den_map (row.zip bs) (fun p => pT [pI p.1, pI p.2]) (fun p => pI (p.1 - m * p.2)) (deni_zip (den_cons (den_var rfl) (den_cons (den_var rfl) den_nil))) ?_ ?_) ?_)
  · intro p hp
    exact ⟨_, deng_tup2 (by decide) (by decide), den_op (den_var rfl) (den_op (den_var rfl) (den_var rfl) (opd_I (wide_mul hm (hb _ (List.of_mem_zip hp).2) (by decide) (by decide) (by decide)))) opd_I0⟩
  · rw [List.length_zip]
    exact Nat.le_trans (Nat.min_le_left _ _) (Nat.le_trans hl (by decide))
  · exact pLm_map pI (fun p : Int × Int => p.1 - m * p.2) (row.zip bs)
theorem d_least_at (h : C_least_at K rs res) : Tr Z0 (t_least_at K) (startR ["rows", "place", "found", "at", "row"] rs) [] No res := by
  obtain ⟨rows, p, n, rfl, hne, hl, hp, rfl⟩ := h
  refine tr_seqI (tr_asg (r := pI ((0 : Nat) : Int)) (den_v (v := .int 0))) ?_
  refine tr_seq (tr_for (vs := [3, 4]) (deni_enum (den_cons (den_var (i := 0) rfl) den_nil)) (fun i ρ' ms' => ms' = [] ∧ ∃ a b, ρ' = [some (pIss rows), some (pI (p : Int)), some (pI (((rows.zipIdx.take i).foldl (leastF rows p) 0 : Nat) : Int)), a, b]) ⟨rfl, none, none, rfl⟩ ?_) ?_
  · intro i r hr
    obtain ⟨⟨row, j⟩, hx, rfl⟩ := map_get hr
    refine ⟨_, deng_tup2 (by decide) (by decide), ?_⟩
    rintro _ _ ⟨rfl, a, b, rfl⟩
    rw [fold_take hx]
    have hm : rows[j]? = some row := zipIdx_get (List.mem_of_getElem? hx)
    have h0 : 0 < rows.length := List.length_pos_iff.mpr hne
    have hF := (least_fold (p := p) (rows.zipIdx.take i) 0 h0 fun x m => zipIdx_get (List.mem_of_mem_take m)).1
    generalize hg : (rows.zipIdx.take i).foldl (leastF rows p) 0 = F at hF ⊢
    have l1 : row.length = n := hl row (List.mem_of_getElem? hm)
    have l2 : (rows.getD F []).length = n := hl _ (cel_getD_mem hF)
    refine tr_if (dent_test (den_op (den_callB (den_cons (den_op (den_var (i := 4) rfl) (den_var (i := 1) rfl) (opd_cel (by show p < row.length; omega))) den_nil) cd_abs) (den_callB (den_cons (den_op (den_op (den_var (i := 0) rfl) (den_var (i := 2) rfl) (opd_row [] hF)) (den_var (i := 1) rfl) (opd_cel (by omega))) den_nil) cd_abs) opd_I0)) (fun e => ?_) fun e => ?_
    · have e : ((cel row p).natAbs : Int) < ((cel (rows.getD F []) p).natAbs : Int) := of_decide_eq_true e.symm
      have ef : leastF rows p F (row, j) = j := if_pos (by show (cel row p).natAbs < _; omega)
      rw [ef]
      refine tr_imp (tr_asg (den_var (i := 3) rfl)) ?_
      rintro _ _ ⟨rfl, rfl⟩
      exact ⟨rfl, _, _, rfl⟩
    · have e : ¬ ((cel row p).natAbs : Int) < ((cel (rows.getD F []) p).natAbs : Int) := of_decide_eq_false e.symm
      have ef : leastF rows p F (row, j) = F := if_neg (by show ¬ (cel row p).natAbs < _; omega)
      rw [ef]
      exact tr_next ⟨rfl, _, _, rfl⟩
  · rintro _ _ ⟨rfl, a, b, rfl⟩
    refine tr_ret (den_re (den_var (i := 2) rfl) ?_)
    rw [List.length_map, List.take_length]
    rfl
theorem cDiv {i j : Int} {k : Nat} (h0 : j ≠ 0) (h : j.natAbs < 2 ^ k) (hk : 0 < k) (hk2 : k ≤ 9000) : CDivA i j := ⟨h0, Nat.lt_of_lt_of_le (log2_lt h hk) hk2⟩
theorem pw {a b : Nat} (h : a ≤ b) : (2 : Nat) ^ a ≤ 2 ^ b := Nat.pow_le_pow_right (by decide) h
theorem fdiv_bd {x b : Int} {k : Nat} (hb : b ≠ 0) (h1 : x.natAbs < 2 ^ k) (h2 : b.natAbs < 2 ^ k) : (x.fdiv b).natAbs < 2 ^ (k + 1) := by
  have a := fdiv_any (x := x) hb
  have b1 : 1 ≤ b.natAbs := by omega
  have c : (x.fdiv b).natAbs * 1 ≤ (x.fdiv b).natAbs * b.natAbs := Nat.mul_le_mul_left _ b1
  rw [Nat.pow_succ]
  omega
theorem small_of {k : Nat} {row : List Int} (h : ∀ i, (cel row i).natAbs < 2 ^ k) : Small k row := fun x m => by
  obtain ⟨i, hi⟩ := List.mem_iff_getElem?.mp m
  have e := h i
  unfold cel at e
  rw [List.getD_eq_getElem?_getD, hi] at e
  exact e
/-- less_row(row, base, row[p] // base[p]) -/
theorem den_red {Z : Zx} {ρ : Rho} {ir ib ip n p k : Nat} {base row : List Int} {E : XK} (e1 : ρ[ir]? = some (some (pIs row))) (e2 : ρ[ib]? = some (some (pIs base))) (e3 : ρ[ip]? = some (some (pI (p : Int))))
    (l1 : base.length = n) (l2 : row.length = n) (hn : n ≤ 1000) (hp : p < n) (h0 : cel base p ≠ 0) (hb : ∀ i, (cel base i).natAbs < 2 ^ 9000) (hk : 9000 ≤ k) (hk2 : k ≤ 99999) (hr : (cel row p).natAbs < 2 ^ k) :
    Den Z (tCall (pureSp (C_less_row K)) [] E (tCons (tVar ir) (tCons (tVar ib) (tCons (tOp oDiv (tOp (rIxL K) (tVar ir) (tVar ip)) (tOp (rIxL K) (tVar ib) (tVar ip))) tNil)))) ρ (pIs (red p base row)) := by
  refine den_call (den_cons (den_var e1) (den_cons (den_var e2) (den_cons (den_op (den_op (den_var e1) (den_var e3) (opd_cel (by omega))) (den_op (den_var e2) (den_var e3) (opd_cel (by omega))) (opd_I (cDiv h0 (hb p) (by decide) (Nat.le_refl _)))) den_nil))) ⟨row, base, _, rfl, rfl, by omega, ?_, ?_⟩
  · exact small_of fun i => Nat.lt_of_lt_of_le (hb i) (pw (by decide))
  · exact Nat.lt_of_lt_of_le (fdiv_bd h0 hr (Nat.lt_of_lt_of_le (hb p) (pw hk))) (pw (by omega))
theorem go_one {p f : Nat} {s o : List (List Int)} (h : s.length ≤ 1) : aloneGo p f s o = (s, o) := by
  cases f with
  | zero => rfl
  | succ f => unfold aloneGo; rw [if_pos h]
theorem d_alone_at (T : Txt K mg) (h : C_alone_at K rs res) : Tr Z0 (t_alone_at K) (startR ["rows", "place", "some", "others", "at", "base", "late", "row", "one"] rs) [] No res := by
  obtain ⟨rows, p, n, M, rfl, fit, hne, hp, hz, hM, rfl⟩ := h
  have st := AI.start hne fit.len hz fit.bd
  refine tr_seq (tr_parF (den_var (i := 0) rfl) (denf_lst den_nil (by show 0 ≤ sizeLine; exact Nat.zero_le _))) ?_
  rintro _ _ ⟨q0, rfl, rfl⟩
  refine tr_seq (tr_while (N := fun ρ' ms' => ∃ h o q a4 a5 a6 a7 a8, ρ' = [some (pIss rows), some (pI (p : Int)), some (pIss [h]), some (pRef q), a4, a5, a6, a7, a8] ∧ ms' = [⟨q, o.map pIs⟩] ∧ aloneGo p (mu p rows) rows [] = ([h], o) ∧ h.length = n)
    (fun m ρ' ms' => ∃ s o q a4 a5 a6 a7 a8, ρ' = [some (pIss rows), some (pI (p : Int)), some (pIss s), some (pRef q), a4, a5, a6, a7, a8] ∧ ms' = [⟨q, o.map pIs⟩] ∧ AI p n M rows s o ∧ (1 < s.length → mu p s ≤ m) ∧ aloneGo p m s o = aloneGo p (mu p rows) rows [])
    (mu p rows) ⟨rows, [], q0, none, none, none, none, none, rfl, rfl, st, fun _ => Nat.le_refl _, rfl⟩ ?_) ?_
  · rintro m _ _ ⟨s, o, q, a4, a5, a6, a7, a8, rfl, rfl, ai, hm, hg⟩
    refine ⟨_, dent_test (den_op (den_callB (den_cons (den_var (i := 2) rfl) den_nil) cd_len) den_v opd_I0), fun e => ?_, fun e => ?_⟩
    · have l : 1 < s.length := by
        have e : (1 : Int) < ((s.map pIs).length : Int) := of_decide_eq_true e.symm
        rw [List.length_map] at e
        omega
      obtain ⟨m, rfl⟩ : ∃ m', m = m' + 1 := ⟨m - 1, by have := hm l; have := mu_pos ai.ne ai.nz; omega⟩
      have hne := ai.ne
      obtain ⟨lt, lm⟩ := least_ok (p := p) hne
      have bd := ai.bound fit.pos
      have bd9 : ∀ r ∈ s, ∀ i, (cel r i).natAbs < 2 ^ 9000 := fun r m i => Nat.lt_of_le_of_lt (bd r (List.mem_append_left _ m) i) hM
      have bm : baseOf p s ∈ s := cel_getD_mem lt
      have nx := ai.next l
      have cs : s.length ≤ 1000 := by have := ai.ct; have := fit.ct; omega
      have cl : (lateOf p s).length ≤ 1000 := by
        have a := rest_len (p := p) hne
        unfold lateOf
        rw [List.length_map]
        omega
      have cn : (stepS p s).length + (o ++ stepO p s).length ≤ 1000 := by have := nx.ct; have := fit.ct; omega
      refine tr_seqI (tr_asg (den_call (den_cons (den_var (i := 2) rfl) (den_cons (den_var (i := 1) rfl) den_nil)) ⟨s, p, n, rfl, hne, ai.ls, hp, rfl⟩)) ?_
      refine tr_seqI (tr_asg (den_op (den_var (i := 2) rfl) (den_var (i := 4) rfl) (opd_row [] lt))) ?_
      refine tr_seqI (tr_asg (r := pIss (lateOf p s)) (den_re (den_map (restOf p s) pIs (fun r => pIs (red p (baseOf p s) r)) (deni_list (den_re (den_op (den_slice (den_var (i := 2) rfl) deno_none (deno_some (den_var (i := 4) rfl)) sld_take) (den_slice (den_var (i := 2) rfl) (deno_some (den_op (den_var (i := 4) rfl) den_v (opd_I0 (g := fun i j => .int (i + j))))) deno_none (sld_drop (k := leastAt s p + 1))) (opd_cat ?_)) ?_)) ?_ ?_) ?_)) ?_
      · have a := ai.ct
        rw [List.length_take, List.length_drop, List.length_map]
        exact Nat.le_trans (by omega) (show 1000 ≤ sizeLine by decide)
      · show pL _ = pL _
        unfold restOf
        rw [List.map_append, List.map_take, List.map_drop]
      · intro r hr
        have rm : r ∈ s := (rest_mem hne).mpr (.inr hr)
        exact ⟨_, deng_name (by decide), den_red (n := n) (k := 9000) rfl rfl rfl (ai.ls _ bm) (ai.ls _ rm) fit.nl hp (ai.nz _ bm) (bd9 _ bm) (Nat.le_refl _) (by decide) (bd9 _ rm p)⟩
      · have a := rest_len (p := p) hne
        exact Nat.le_trans (by omega) (show 1000 ≤ sizeLine by decide)
      · exact pLm_map pIs (red p (baseOf p s)) (restOf p s)
      have ll : ∀ r ∈ lateOf p s, r.length = n := by
        intro r hr
        obtain ⟨r0, h0, rfl⟩ := List.mem_map.mp hr
        exact red_len (p := p) (ai.ls _ bm) (ai.ls _ ((rest_mem hne).mpr (.inr h0)))
      refine tr_seqI (tr_extend (k := 0) (i := 3) (rs := o.map pIs) (rs2 := (stepO p s).map pIs) rfl rfl (den_lc (lateOf p s) pIs (fun r => decide (cel r p = 0)) pIs (deni_list (den_var (i := 6) rfl)) ?_ (Nat.le_trans cl (by decide))) ?_) ?_
      · intro r hr
        refine ⟨_, deng_name (by decide), dent_imp (dent_test (den_op (den_op (den_var (i := 7) rfl) (den_var (i := 1) rfl) (opd_cel (by rw [ll r hr]; exact hp))) den_v (opd_eq rfl))) (fun b e => ?_), fun _ => den_var (i := 7) rfl⟩
        rw [e]
        exact decide_eq_decide.mpr ⟨fun z => by injection z, fun z => by rw [z]⟩
      · rw [List.length_map, List.length_map]
        rw [List.length_append] at cn
        exact Nat.le_trans (by omega) (show 1000 ≤ sizeLine by decide)
      refine tr_imp (tr_asg (r := pIss (stepS p s)) (den_re (den_op (den_lst (rs := [pIs (baseOf p s)]) (den_cons (den_var (i := 5) rfl) den_nil) (by show 1 ≤ sizeLine; decide)) (den_lc (lateOf p s) pIs (fun r => !decide (cel r p = 0)) pIs (deni_list (den_var (i := 6) rfl)) ?_ (Nat.le_trans cl (by decide))) (opd_cat ?_)) rfl)) ?_
      · intro r hr
        refine ⟨_, deng_name (by decide), dent_imp (dent_test (den_op (den_op (den_var (i := 7) rfl) (den_var (i := 1) rfl) (opd_cel (by rw [ll r hr]; exact hp))) den_v (opd_ne rfl))) (fun b e => ?_), fun _ => den_var (i := 7) rfl⟩
        rw [e]
        congr 1
        exact decide_eq_decide.mpr ⟨fun z => by injection z, fun z => by rw [z]⟩
      · have a := List.length_filter_le (fun r => !decide (cel r p = 0)) (lateOf p s)
        rw [List.length_map]
        exact Nat.le_trans (show _ ≤ 1001 by show 1 + _ ≤ 1001; omega) (show 1001 ≤ sizeLine by decide)
      · rintro _ _ ⟨rfl, rfl⟩
        refine ⟨m, Nat.lt_succ_self _, stepS p s, o ++ stepO p s, q, _, _, _, _, _, rfl, ?_, nx, fun l2 => ?_, ?_⟩
        · rw [List.map_append]
          rfl
        · have a := hm l
          have b := step_mu ai.ne ai.ls ai.nz l2
          omega
        · rw [← hg]
          show _ = aloneGo p (m + 1) s o
          rw [show aloneGo p (m + 1) s o = if s.length ≤ 1 then (s, o) else aloneGo p m (stepS p s) (o ++ stepO p s) from rfl, if_neg (by omega)]
    · have l : s.length ≤ 1 := by
        have e : ¬ (1 : Int) < ((s.map pIs).length : Int) := of_decide_eq_false e.symm
        rw [List.length_map] at e
        omega
      rw [go_one l] at hg
      match s, ai, l, hg with
      | [], ai, _, _ => exact absurd rfl ai.ne
      | [g], ai, _, hg => exact ⟨g, o, q, _, _, _, _, _, rfl, rfl, hg.symm, ai.ls g List.mem_cons_self⟩
  · rintro _ _ ⟨g, o, q, a4, a5, a6, a7, a8, rfl, rfl, hg, hl⟩
    have e1 : aloneAt rows p = (if 0 < cel g p then g else g.map fun x => 0 - x, o) := by
      show ((if 0 < cel ((aloneGo p (mu p rows) rows []).1.getD 0 []) p then (aloneGo p (mu p rows) rows []).1.getD 0 [] else ((aloneGo p (mu p rows) rows []).1.getD 0 []).map fun x => 0 - x), (aloneGo p (mu p rows) rows []).2) = _
      rw [hg]
      rfl
    rw [e1]
    refine tr_seqI (tr_asg (den_op (den_var (i := 2) rfl) (den_v (v := .int 0)) (opd_row (i := 0) [] (by show 0 < 1; decide)))) ?_
    refine tr_freeze (i := 3) (k := 0) rfl rfl ?_
    refine tr_ret (den_tup (den_cons (den_if (dent_test (den_op (den_op (den_var (i := 7) rfl) (den_var (i := 1) rfl) (opd_cel (by show p < g.length; omega))) (den_v (v := .int 0)) opd_I0)) (fun e => ?_) fun e => ?_) (den_cons (den_var (i := 3) rfl) den_nil)) (by show 2 ≤ sizeLine; decide))
    · have e : (0 : Int) < cel g p := of_decide_eq_true e.symm
      rw [if_pos e]
      exact den_var rfl
    · have e : ¬ (0 : Int) < cel g p := of_decide_eq_false e.symm
      rw [if_neg e]
      refine den_re (den_map g pI (fun x => pI (0 - x)) (deni_list (den_var (i := 7) rfl)) (fun x m => ⟨_, deng_name (by decide), den_op den_v (den_var rfl) opd_I0⟩) ?_) (pLm_map pI (fun x => 0 - x) g)
      exact Nat.le_trans (by have := fit.nl; omega) (show 1000 ≤ sizeLine by decide)
end
end W
set_option Elab.async false
set_option linter.all false
set_option maxRecDepth 100000
set_option maxHeartbeats 4000000
namespace Dn
open PySem L2 HM
section
variable {K : PySem.W.Frag} {Z : Zx} {ρ : Rho} {te : TE} {tas : TA}
theorem deni_rngN {m : Nat} (h : DenA Z tas ρ [pI (m : Int)]) (hm : m ≤ 1000000) : DenI Z (iRng1 tas) ρ ((List.range m).map fun k : Nat => pI (k : Int)) := by
  have a := deni_rng1 h (by omega) (by omega)
  rw [Int.toNat_natCast] at a
  exact a
variable {x Cl dx : Addr} {done all : List (Str × RP)} {r1 r2 r3 : RP} {f1 f2 f3 : Str} {i : Nat}
theorem ti_tup3 (hi : ρ[i]? = some (some (pRef x))) (h : ∀ us, Den (Zp x (insO Cl dx done us)) te ρ (pT [r1, r2, r3])) (c : Cls K Cl) (n1 : NoAttr K Cl f1) (n2 : NoAttr K Cl f2) (n3 : NoAttr K Cl f3)
    (k1 : f1 ∉ done.map Prod.fst) (k2 : f2 ∉ (done ++ [(f1, r1)]).map Prod.fst) (k3 : f3 ∉ ((done ++ [(f1, r1)]) ++ [(f2, r2)]).map Prod.fst) (hn : done.length < 900) :
    Ti x Cl dx done (tAsg te (gTup K 3 (gCons (gFld K (tVar i) f1) (gCons (gFld K (tVar i) f2) (gCons (gFld K (tVar i) f3) gNil))))) ρ (((done ++ [(f1, r1)]) ++ [(f2, r2)]) ++ [(f3, r3)]) := fun F H σ us env ok hv D q =>
  h us F H σ env ok _ fun v F1 H1 g1 o1 ⟨a, ws, e, ha, hw⟩ => by
    match ws, hw with
    | [u1, u2, u3], ⟨x1, x2, x3, _⟩ =>
      have e1 := env.mono g1.ff
      obtain ⟨w, h1, h2⟩ := e1.at_ i _ hi
      have h2 : w = .ref x := h2
      subst h2
      have len : ∀ (ns : List Str) (vs : List V), ns.length < 1000 → (ns.zip vs).length < 1000 := fun ns vs h => by
        rw [List.length_zip]
        exact Nat.lt_of_le_of_lt (Nat.min_le_left _ _) h
      obtain ⟨a1, a2, a3, a4, a5⟩ := put_step (f := f1) (r := r1) (v := u1) o1 (hv.mono g1.ff) x1 k1
      obtain ⟨b1, b2, b3, b4, b5⟩ := put_step (f := f2) (r := r2) (v := u2) a4 a5 x2 k2
      obtain ⟨c1, c2, c3, c4, c5⟩ := put_step (f := f3) (r := r3) (v := u3) b4 b5 x3 k3
      refine ⟨a, [u1, u2, u3], e, SqT.of (o1.fh _ _ ha), rfl, u1, [u2, u3], rfl, _, h1, x, Cl, dx, _, rfl, a1, c, n1, len _ _ (by rw [List.length_map]; omega), ?_⟩
      rw [a2]
      refine ⟨u2, [u3], rfl, _, h1, x, Cl, dx, _, rfl, b1, c, n2, len _ _ (by rw [List.length_map, List.length_append]; show done.length + 1 < 1000; omega), ?_⟩
      rw [b2]
      refine ⟨u3, [], rfl, _, h1, x, Cl, dx, _, rfl, c1, c, n3, len _ _ (by rw [List.length_map, List.length_append, List.length_append]; show done.length + 1 + 1 < 1000; omega), rfl, ?_⟩
      rw [c2]
      exact q F1 _ σ _ (((g1.trans a3).trans b3).trans c3) c4 c5
end
end Dn
namespace W
open PySem L2 Dn HM
section
variable {K : PySem.W.Frag} {mg : Str → Option Value} {rs : List RP} {res : RP}
theorem sz {n : Nat} (h : n ≤ 100000) : n ≤ sizeLine := Nat.le_trans h (by decide)
theorem d_unit_rows (h : C_unit_rows K rs res) : Tr Z0 (t_unit_rows K) (startR ["many", "at", "place"] rs) [] No res := by
  obtain ⟨n, rfl, hn, rfl⟩ := h
  refine tr_ret (den_re (den_map (List.range n) (fun k : Nat => pI (k : Int)) (fun a => pIs ((List.range n).map fun p => if a = p then 1 else 0)) (deni_rngN (den_cons (den_var (i := 0) rfl) den_nil) (by omega)) (fun a _ => ⟨_, deng_name (by decide), ?_⟩) (sz (by rw [List.length_range]; omega))) (pLm_map pIs _ _))
  refine den_re (den_map (List.range n) (fun k : Nat => pI (k : Int)) (fun p => pI (if a = p then 1 else 0)) (deni_rngN (den_cons (den_var (i := 0) rfl) den_nil) (by omega)) (fun p _ => ⟨_, deng_name (by decide), ?_⟩) (sz (by rw [List.length_range]; omega))) (pLm_map pI _ _)
  refine den_re (den_callB (den_cons (den_op (den_var (i := 1) rfl) (den_var (i := 2) rfl) (opd_eq rfl)) den_nil) cd_intB) ?_
  show pI _ = pI _
  by_cases q : a = p
  · rw [if_pos q, if_pos (decide_eq_true (by rw [q]))]
  · rw [if_neg q, if_neg (by rw [decide_eq_false (fun z => q (by injection z with z; omega))]; decide)]
/-- the columns, with units behind -/
theorem den_cols {Z : Zx} {ρ : Rho} {tu : TE} {ir ia iu ix : Nat} {rows : List (List Int)} {w : Nat} (hl : Len w rows) (hc : rows.length ≤ 1000) (hw : w ≤ 1000) (hu : DenA Z (tCons tu tNil) ρ [pIss (unitRows w)])
    (hr : ∀ r1 r2, ((wipeR ((((wipeR ρ [ia, iu]).set ia (some r1)).set iu (some r2))) [])[ir]?) = some (some (pIss rows))) (hx : ∀ p : Nat, ∀ r2 r3, ((wipeR (((wipeR ρ [ia, iu]).set ia (some (pI (p : Int)))).set iu (some r2)) [ix]).set ix (some r3))[ia]? = some (some (pI (p : Int))))
    (hy : ∀ r1 r2 r3, ((wipeR (((wipeR ρ [ia, iu]).set ia (some r1)).set iu (some r2)) [ix]).set ix (some r3))[ix]? = some (some r3)) (hz : ∀ r1 r2, (((wipeR ρ [ia, iu]).set ia (some r1)).set iu (some r2))[iu]? = some (some r2)) :
    Den Z (tLc (iEnum K (tCons tu tNil)) (gTup K 2 (gCons (gName ia) (gCons (gName iu) gNil))) tYes (tOp rCat (tLc (iList K (tVar ir)) (gName ix) tYes (tOp (rIxL K) (tVar ix) (tVar ia)) [ix]) (tVar iu)) [ia, iu]) ρ (pIss (columns rows (unitRows w))) := by
  refine den_re (den_map (unitRows w).zipIdx (fun p => pT [pI (p.2 : Int), pIs p.1]) (fun p => pIs ((rows.map fun row => cel row p.2) ++ p.1)) (deni_enum hu) (fun p hp => ⟨_, deng_tup2 (by simp) (by simp), ?_⟩) (sz ?_)) (pLm_map pIs _ _)
  · have hg := zipIdx_get hp
    have hlt : p.2 < w := by
      have := (List.getElem?_eq_some_iff.mp hg).1
      rw [unit_len] at this
      exact this
    have hlen : p.1.length = w := by
      rw [unit_get hlt] at hg
      rw [← Option.some.inj hg, List.length_map, List.length_range]
    refine den_re (den_op (den_map rows pIs (fun row => pI (cel row p.2)) (deni_list (den_var (hr _ _))) (fun row hm => ⟨_, deng_name (by simp), den_op (den_var (hy _ _ _)) (den_var (hx _ _ _)) (opd_cel (by rw [hl row hm]; exact hlt))⟩) (sz (by omega))) (den_var (hz _ _)) (opd_cat (sz ?_))) ?_
    · rw [List.length_map, List.length_map, hlen]; omega
    · show pL _ = pL _
      rw [List.map_append, List.map_map]
      rfl
  · rw [List.length_zipIdx, unit_len]; omega
/-- the places of a ladder -/
theorem d_laddered (h : C_laddered K rs res) : Tr Z0 (t_laddered K) (startR ["rows", "wide", "left", "found", "places", "place", "some", "head", "late", "row"] rs) [] No res := by
  obtain ⟨rows, wide, n, M, rfl, fit, hw, hL, hF, rfl⟩ := h
  refine tr_seq (tr_par3F (r2 := pIss []) (den_var (i := 0) rfl) (den_lst den_nil (Nat.zero_le _)) (denf_lst den_nil (Nat.zero_le _))) ?_
  rintro _ _ ⟨q0, rfl, rfl⟩
  refine tr_seq (tr_for (vs := [5]) (deni_rngN (den_cons (den_var (i := 1) rfl) den_nil) (by have := fit.nl; omega)) (fun i ρ' ms' => ∃ q a5 a6 a7 a8 a9, ρ' = [some (pIss rows), some (pI (wide : Int)), some (pIss ((List.range i).foldl ladStep ⟨rows, [], []⟩).left), some (pIss ((List.range i).foldl ladStep ⟨rows, [], []⟩).found), some (pRef q), a5, a6, a7, a8, a9] ∧ ms' = [⟨q, ((List.range i).foldl ladStep ⟨rows, [], []⟩).places.map fun n : Nat => pI (n : Int)⟩])
    ⟨q0, none, none, none, none, none, rfl, rfl⟩ ?_) ?_
  · intro p r hr
    obtain ⟨p', hx, rfl⟩ := map_get hr
    obtain ⟨hpl, hpe⟩ := List.getElem?_eq_some_iff.mp hx
    rw [List.getElem_range] at hpe
    subst hpe
    rw [List.length_range] at hpl
    refine ⟨_, deng_name (by decide), ?_⟩
    rintro _ _ ⟨q, a5, a6, a7, a8, a9, rfl, rfl⟩
    have L := lad_upto fit.pos fit.len fit.bd p
    have e1 : (List.range (p + 1)).foldl ladStep ⟨rows, [], []⟩ = ladStep ((List.range p).foldl ladStep ⟨rows, [], []⟩) p := by
      rw [List.range_succ, List.foldl_append]
      rfl
    rw [e1]
    generalize (List.range p).foldl ladStep ⟨rows, [], []⟩ = s at L ⊢
    have cl : s.left.length ≤ 1000 := by have := L.ct; have := fit.ct; omega
    have cf : s.found.length ≤ 1000 := by have := L.ct; have := fit.ct; omega
    have hpn : p < n := by omega
    refine tr_seqI (tr_asg (den_lc s.left pIs (fun r => !decide (cel r p = 0)) pIs (deni_list (den_var (i := 2) rfl)) ?_ (sz (by omega)))) ?_
    · intro r hr
      refine ⟨_, deng_name (by decide), dent_imp (dent_test (den_op (den_op (den_var (i := 9) rfl) (den_var (i := 5) rfl) (opd_cel (by rw [L.ll r hr]; exact hpn))) den_v (opd_ne rfl))) (fun b e => ?_), fun _ => den_var (i := 9) rfl⟩
      rw [e]
      congr 1
      exact decide_eq_decide.mpr ⟨fun z => by injection z, fun z => by rw [z]⟩
    refine tr_if (dent_test (den_op (den_var (i := 6) rfl) (den_lst (rs := []) den_nil (Nat.zero_le _)) (opd_neIss (b := [])))) (fun e => ?_) fun e => ?_
    · have hne : s.left.filter (fun r => !decide (cel r p = 0)) ≠ [] := by
        intro z
        rw [z] at e
        exact nomatch e
      have es : ladStep s p = ⟨s.left.filter (fun r => decide (cel r p = 0)) ++ (aloneAt (s.left.filter fun r => !decide (cel r p = 0)) p).2, (s.found.map fun r => red p (aloneAt (s.left.filter fun r => !decide (cel r p = 0)) p).1 r) ++ [(aloneAt (s.left.filter fun r => !decide (cel r p = 0)) p).1], s.places ++ [p]⟩ := if_neg hne
      rw [es]
      have lt1 : s.found.length + 1 ≤ rows.length := by
        have a := L.ct
        have b := List.length_filter_le (fun r => !decide (cel r p = 0)) s.left
        have c := List.length_pos_iff.mpr hne
        omega
      have hLk : LB M (s.found.length + 1) < 2 ^ 9000 := Nat.lt_of_le_of_lt (LB_mono fit.pos lt1) hL
      have hLk' : 6 * LB M s.found.length ^ 3 < 2 ^ 9000 := hLk
      have sl : ∀ r ∈ s.left.filter (fun r => !decide (cel r p = 0)), r ∈ s.left := fun r m => (List.mem_filter.mp m).1
      have nz : NZ p (s.left.filter fun r => !decide (cel r p = 0)) := fun r m z => by
        have := (List.mem_filter.mp m).2
        rw [z] at this
        exact nomatch this
      have fl := List.length_filter_le (fun r => !decide (cel r p = 0)) s.left
      have fl2 := List.length_filter_le (fun r => decide (cel r p = 0)) s.left
      have al := alone_ok (p := p) (LB_pos fit.pos s.found.length) hne (fun r m => L.ll r (sl r m)) nz (fun r m => L.bl r (sl r m))
      generalize hs : s.left.filter (fun r => !decide (cel r p = 0)) = some_ at *
      refine tr_seqI (tr_asgG (den_call (den_cons (den_var (i := 6) rfl) (den_cons (den_var (i := 5) rfl) den_nil)) ⟨some_, p, n, LB M s.found.length, rfl, ⟨LB_pos fit.pos _, fun r m => L.ll r (sl r m), fun r m => L.bl r (sl r m), by omega, fit.nl⟩, hne, hpn, nz, hLk', rfl⟩) (deng_tup2 (vs := [7, 8]) (by decide) (by decide))) ?_
      generalize aloneAt some_ p = al2 at *
      obtain ⟨h, o⟩ := al2
      have al : Alone p n (LB M s.found.length) some_ h o := al
      refine tr_seqI (tr_asg (r := pIss (s.left.filter (fun r => decide (cel r p = 0)) ++ o)) (den_re (den_op (den_lc s.left pIs (fun r => decide (cel r p = 0)) pIs (deni_list (den_var (i := 2) rfl)) ?_ (sz (by omega))) (den_var (i := 8) rfl) (opd_cat (sz ?_))) ?_)) ?_
      · intro r hr
        refine ⟨_, deng_name (by decide), dent_imp (dent_test (den_op (den_op (den_var (i := 9) rfl) (den_var (i := 5) rfl) (opd_cel (by rw [L.ll r hr]; exact hpn))) den_v (opd_eq rfl))) (fun b e => ?_), fun _ => den_var (i := 9) rfl⟩
        rw [e]
        exact decide_eq_decide.mpr ⟨fun z => by injection z, fun z => by rw [z]⟩
      · have a := al.ct
        rw [List.length_map, List.length_map]
        show _ + o.length ≤ _
        omega
      · show pL _ = pL _
        rw [List.map_append]
      refine tr_seqI (tr_asg (r := pIss ((s.found.map fun r => red p h r) ++ [h])) (den_re (den_op (den_map s.found pIs (fun r => pIs (red p h r)) (deni_list (den_var (i := 3) rfl)) ?_ (sz (by omega))) (den_lst (rs := [pIs h]) (den_cons (den_var (i := 7) rfl) den_nil) (sz (by show 1 ≤ 100000; decide))) (opd_cat (sz ?_))) ?_)) ?_
      · intro r hr
        refine ⟨_, deng_name (by decide), den_red (n := n) (k := 90000) rfl rfl rfl al.lh (L.lf r hr) fit.nl hpn (by have := al.pos; omega) (fun i => Nat.lt_of_le_of_lt (al.bh i) hLk') (by decide) (by decide) ?_⟩
        exact Nat.lt_of_le_of_lt (L.bf r hr p) (Nat.lt_of_le_of_lt (FB_mono fit.pos (by omega)) hF)
      · rw [List.length_map]; show _ + 1 ≤ _; omega
      · show pL _ = pL _
        rw [List.map_append, List.map_map]
        rfl
      refine tr_imp (tr_append (k := 0) (i := 4) rfl rfl (den_var (i := 5) rfl) ?_) ?_
      · rw [List.length_map]
        have a := L.eq
        exact Nat.lt_of_le_of_lt (by omega) (show 1000 < sizeLine by decide)
      · rintro _ _ ⟨rfl, rfl⟩
        refine ⟨q, _, _, _, _, _, rfl, ?_⟩
        show [_] = [_]
        rw [List.map_append]
        rfl
    · have hem : s.left.filter (fun r => !decide (cel r p = 0)) = [] := by
        refine Classical.byContradiction fun z => ?_
        rw [decide_eq_false z] at e
        exact nomatch e
      have es : ladStep s p = s := if_pos hem
      rw [es]
      exact tr_next ⟨q, _, _, _, _, _, rfl, rfl⟩
  · rw [List.length_map, List.length_range]
    rintro _ _ ⟨q, a5, a6, a7, a8, a9, rfl, rfl⟩
    refine tr_freeze (i := 4) (k := 0) rfl rfl ?_
    exact tr_ret (den_tup (den_cons (den_var (i := 3) rfl) (den_cons (den_var (i := 4) rfl) (den_cons (den_var (i := 2) rfl) den_nil))) (sz (by show 3 ≤ 100000; decide)))
/-- a system's columns may be led to heads -/
theorem Sys.fit {w M : Nat} {rows : List (List Int)} (S : Sys w M rows) : Fit (rows.length + w) M (columns rows (unitRows w)) :=
  ⟨S.pos, cols_Len, cols_Bd S.bd S.pos, by rw [col_count]; have := S.wl; omega, by have := S.wl; have := S.ct; omega⟩
theorem Sys.lad {w M : Nat} {rows : List (List Int)} (S : Sys w M rows) : C_laddered K [pIss (columns rows (unitRows w)), pI (rows.length : Int)] (pT [pIss (ladOf rows w).found, pNs (ladOf rows w).places, pIss (ladOf rows w).left]) :=
  ⟨_, _, rows.length + w, M, rfl, S.fit, by omega, by rw [col_count]; exact S.lb, by rw [col_count]; exact S.fb, rfl⟩
theorem d_Ladder_init (T : Txt K mg) (x dx : Addr) (rs : List RP) (fs : List (Str × RP)) (h : C_Ladder_init K rs fs) : Ti x (cL K) dx [] (t_Ladder_init K) (startR ["self", "rows", "units", "columns", "at", "unit", "row"] (pRef x :: rs)) fs := by
  obtain ⟨rows, w, M, rfl, S, hne, rfl⟩ := h
  have h0 : 0 < rows.length := List.length_pos_iff.mpr hne
  have lw : (rows.getD 0 []).length = w := S.len _ (cel_getD_mem h0)
  have wl := S.wl
  have rl := S.ct
  refine ti_fld (r := pI (rows.length : Int)) rfl (fun us => den_re (den_callB (den_cons (den_var (i := 1) rfl) den_nil) cd_len) (by rw [List.length_map])) T.c_Ladder T.n_own_many (by show _ ∉ ([] : List Str); decide) (by show 0 < 1000; decide) ?_
  refine ti_pre (fun us => tr_asg (r := pIss (unitRows w)) (den_call (rs := [pI (w : Int)]) (den_cons (den_re (den_callB (den_cons (den_op (den_var (i := 1) rfl) (den_v (v := .int 0)) (opd_row (i := 0) [] h0)) den_nil) cd_len) (by rw [List.length_map, lw])) den_nil) ⟨w, rfl, by omega, rfl⟩)) ?_
  refine ti_pre (fun us => tr_asg (den_cols S.len (by omega) (by omega) (den_cons (den_var (i := 2) rfl) den_nil) (fun _ _ => rfl) (fun _ _ _ => rfl) (fun _ _ _ => rfl) (fun _ _ => rfl))) ?_
  exact ti_tup3 rfl (fun us => den_call (den_cons (den_var (i := 3) rfl) (den_cons (den_re (den_callB (den_cons (den_var (i := 1) rfl) den_nil) cd_len) (by rw [List.length_map])) den_nil)) S.lad) T.c_Ladder T.n_own_heads T.n_own_places T.n_own_left (by show _ ∉ (["own_many"] : List Str); decide) (by show _ ∉ (["own_many", "own_heads"] : List Str); decide) (by show _ ∉ (["own_many", "own_heads", "own_places"] : List Str); decide) (by show 1 < 900; decide)
theorem d_kernel_for (h : C_kernel_for K rs res) : Tr Z0 (t_kernel_for K) (startR ["rows", "wide", "columns", "left", "at", "unit", "row"] rs) [] No res := by
  obtain ⟨rows, w, M, rfl, S, rfl⟩ := h
  have wl := S.wl
  have rl := S.ct
  have LK := lad_ok S.pos (cols_Len (rows := rows) (w := w)) (cols_Bd S.bd S.pos) rows.length
  obtain ⟨k, kw, kc, kl, kb⟩ := ker_lad (w := w) S.pos S.bd
  refine tr_seqI (tr_asg (den_cols S.len (by omega) (by omega) (den_cons (den_call (den_cons (den_var (i := 1) rfl) den_nil) ⟨w, rfl, by omega, rfl⟩) den_nil) (fun _ _ => rfl) (fun _ _ _ => rfl) (fun _ _ _ => rfl) (fun _ _ => rfl))) ?_
  refine tr_seqI (tr_asg (den_op (den_call (den_cons (den_var (i := 2) rfl) (den_cons (den_re (den_callB (den_cons (den_var (i := 0) rfl) den_nil) cd_len) (by rw [List.length_map])) den_nil)) S.lad) (den_v (v := .int 2)) (opd_ixT (j := 2) rfl rfl))) ?_
  have cc : (ladOf rows w).left.length ≤ 60 := by show (laddered (columns rows (unitRows w)) rows.length).left.length ≤ 60; omega
  refine tr_ret (den_op (r1 := pT [pIss (kerOf rows w), _, _]) (den_call (rs := [pIss ((ladOf rows w).left.map fun r => r.drop rows.length), pI (w : Int)]) (den_cons (den_re (den_map (ladOf rows w).left pIs (fun r => pIs (r.drop rows.length)) (deni_list (den_var (i := 3) rfl)) (fun r hr => ⟨_, deng_name (by decide), den_re (den_slice (den_var (i := 6) rfl) (deno_some (den_re (den_callB (den_cons (den_var (i := 0) rfl) den_nil) cd_len) (by rw [List.length_map]))) deno_none (sld_drop (k := rows.length))) (by show pL _ = pL _; rw [List.map_drop])⟩) (sz (by omega))) (pLm_map pIs _ _)) (den_cons (den_var (i := 1) rfl) den_nil)) ⟨_, w, w, LB M k, rfl, ⟨LB_pos S.pos k, kl, kb, by rw [List.length_map]; omega, by omega⟩, Nat.le_refl _, ?_, ?_, rfl⟩) (den_v (v := .int 0)) (opd_ixT (j := 0) rfl rfl))
  · rw [LB_add, List.length_map]
    exact Nat.lt_of_le_of_lt (LB_mono S.pos (by show k + (laddered (columns rows (unitRows w)) rows.length).left.length ≤ w; omega)) S.lb
  · rw [List.length_map]
    refine Nat.lt_of_le_of_lt ?_ S.fb
    refine Nat.le_trans ?_ (FB_mono (M := M) S.pos (show k + (ladOf rows w).left.length ≤ w by show k + (laddered (columns rows (unitRows w)) rows.length).left.length ≤ w; omega))
    rw [← FB_add]
    exact Nat.le_mul_of_pos_left _ (FB_pos S.pos k)
end
end W
set_option Elab.async false
set_option linter.all false
set_option maxRecDepth 100000
set_option maxHeartbeats 4000000
namespace W
open PySem L2 Dn HM
/-! plain facts of what is had -/
theorem Sys.li {rows : List (List Int)} {w M : Nat} (S : Sys w M rows) : LI (rows.length + w) M (columns rows (unitRows w)) rows.length (ladOf rows w) := lad_ok S.pos cols_Len (cols_Bd S.bd S.pos) rows.length
theorem endOf_len : ∀ {E : List (List Int × Nat)} {l : List Int}, (endOf E l).length = l.length
  | [], _ => rfl
  | (h, p) :: t, l => by
    show (endOf t _).length = _
    rw [endOf_len, updI_len]
theorem csOf_len : ∀ {E : List (List Int × Nat)} {l : List Int}, (csOf E l).length = E.length
  | [], _ => rfl
  | (h, p) :: t, l => by
    show (csOf t _).length + 1 = _
    rw [csOf_len]
    rfl
theorem cs_small : ∀ {E : List (List Int × Nat)} {l : List Int}, Ex E l → ShSz E (toQ l) → Small 4000 (csOf E l)
  | [], _, _, _ => fun x m => nomatch m
  | (h, p) :: t, l, ⟨a, b, c, d⟩, ⟨_, _, s1, _, _, s2⟩ => by
    have e : shareOf (toQ l) h p = (((cel l p).fdiv (cel h p) : Int) : Rat) := by
      unfold shareOf
      rw [toQ_get a]
      have z := cast_mul_div (c := (cel l p).fdiv (cel h p)) b
      rw [← c] at z
      exact z
    rw [e] at s1 s2
    rw [upd_toQ] at s2
    intro x m
    rcases List.mem_cons.mp m with q | q
    · rw [q]
      exact s1.1
    · exact cs_small d s2 x q
section
variable {rows : List (List Int)} {w M : Nat} {goals x : List Int}
structure Hd (rows : List (List Int)) (w M : Nat) (goals : List Int) : Prop where
  ex : Ex ((ladOf rows w).found.zip (ladOf rows w).places) goals
  en : ∀ i, i < rows.length → cel (endOf ((ladOf rows w).found.zip (ladOf rows w).places) goals) i = 0
  sh : ShSz ((ladOf rows w).found.zip (ladOf rows w).places) (toQ goals)
  fl : (ladOf rows w).found.length ≤ w
  zl : ((ladOf rows w).found.zip (ladOf rows w).places).length = (ladOf rows w).found.length
theorem Had.hd (h : Had rows w M goals x) : Hd rows w M goals := by
  have L := h.sys.li
  have c := L.ct
  rw [col_count] at c
  have fl : (ladOf rows w).found.length ≤ w := by omega
  have zl : ((ladOf rows w).found.zip (ladOf rows w).places).length = (ladOf rows w).found.length := by rw [List.length_zip, ← L.eq, Nat.min_self]
  have sup : Sup w (cel x) := fun j hj => cel_out (by rw [h.xl]; exact hj)
  have k := (L.sm _).mp (ext_made (rows := rows) sup)
  have pl : ∀ q ∈ (ladOf rows w).found.zip (ladOf rows w).places, q.2 < rows.length := fun q m => L.pl _ (List.of_mem_zip m).2
  obtain ⟨e1, e2⟩ := ex_of (n := rows.length) (left := (ladOf rows w).left) (u := ext rows w (cel x)) L.z L.ech pl h.gl (fun i hi => by
    show _ = if i < rows.length then _ else _
    rw [if_pos hi]
    exact h.g i hi) (by rw [zip_fst L.eq]; exact k)
  refine ⟨e1, e2, ?_, fl, zl⟩
  obtain ⟨G, hG, hz⟩ := h.sz
  refine Ex.sz (F := FB M w) e1 (fun q m => ⟨?_, fun i => ?_⟩) hG ?_
  · rw [L.lf q.1 (List.of_mem_zip m).1, h.gl]; omega
  · exact Nat.le_trans (L.bf q.1 (List.of_mem_zip m).1 i) (FB_mono h.sys.pos fl)
  · refine Nat.le_trans (Nat.mul_le_mul_right _ (Nat.mul_le_mul_right _ (Nat.pow_le_pow_right (by omega) ?_))) hz
    rw [zl]
    exact fl
theorem solOf_eq (L : LI (rows.length + w) M (columns rows (unitRows w)) rows.length (ladOf rows w)) : solOf rows w goals = ((csOf ((ladOf rows w).found.zip (ladOf rows w).places) goals).zip (rws ((ladOf rows w).found.zip (ladOf rows w).places))).foldl (madeStep rows.length) (List.replicate w 0) := by
  rw [zip_fst L.eq]
  unfold solOf
  split
  · rename_i e
    rw [e, List.zip_nil_right]
    rfl
  · rfl
/-- the solution solves -/
theorem sol_ok (h : Had rows w M goals x) : (solOf rows w goals).length = w ∧ ∀ i, i < rows.length → dv w (cel (rows.getD i [])) (cel (solOf rows w goals)) = cel goals i := by
  have L := h.sys.li
  have d := h.hd
  have m := made_ok (rows := rows) (w := w) (found := List.replicate w 0) (u := fun _ => 0) d.ex (fun q m => ⟨L.lf q.1 (List.of_mem_zip m).1, (L.sm _).mpr (Sp.mem (List.mem_append_left _ (List.of_mem_zip m).1))⟩) h.gl (List.length_replicate ..) Sp.zero (fun j => by
    unfold cel
    rw [List.getD_eq_getElem?_getD, List.getElem?_replicate]
    split <;> rfl)
  rw [← solOf_eq L] at m
  refine ⟨m.1, fun i hi => ?_⟩
  rw [m.2 i hi, d.en i hi]
  omega
end
section
variable {K : PySem.W.Frag} {mg : Str → Option Value} {rs : List RP} {res : RP}
theorem sh_len : ∀ {E : List (List Int × Nat)} {l acc : List Rat}, (E.foldl shStep (l, acc)).1.length = l.length
  | [], _, _ => rfl
  | x :: t, l, acc => by
    show (t.foldl shStep (updR l _ _, _)).1.length = _
    rw [sh_len]
    unfold updR
    simp
theorem d_Ladder_shares (T : Txt K mg) (h : C_Ladder_shares K rs res) : Tr Z0 (t_Ladder_shares K) (startR ["self", "goals", "left", "found", "head", "place", "share", "at", "one"] rs) [] No res := by
  obtain ⟨m, s, goals, rfl, hs, gl, fl, feq, rfl⟩ := h
  refine tr_seq (tr_parF (r1 := pQs K goals) (den_callB (den_cons (den_var (i := 1) rfl) den_nil) cd_list) (denf_lst den_nil (Nat.zero_le _))) ?_
  rintro _ _ ⟨q0, rfl, rfl⟩
  refine tr_seq (tr_for (vs := [4, 5]) (deni_zip (f := pIs) (g := fun n : Nat => pI (n : Int)) (den_cons (den_fld T.c_Ladder T.n_own_heads (den_var (i := 0) rfl) rfl) (den_cons (den_fld T.c_Ladder T.n_own_places (den_var (i := 0) rfl) rfl) den_nil)))
    (fun i ρ' ms' => ∃ q a4 a5 a6 a7 a8, ρ' = [some (pLd K m s), some (pQs K goals), some (pQs K (((s.found.zip s.places).take i).foldl shStep (goals, [])).1), some (pRef q), a4, a5, a6, a7, a8] ∧ ms' = [⟨q, (((s.found.zip s.places).take i).foldl shStep (goals, [])).2.map (pQ K)⟩])
    ⟨q0, none, none, none, none, none, rfl, rfl⟩ ?_) ?_
  · intro i r hr
    obtain ⟨⟨hd, p⟩, hx, rfl⟩ := map_get hr
    refine ⟨_, deng_tup2 (by decide) (by decide), ?_⟩
    rintro _ _ ⟨q, a4, a5, a6, a7, a8, rfl, rfl⟩
    rw [fold_take hx]
    have ss := hs.at_ (acc := []) i
    obtain ⟨hi, ei⟩ := List.getElem?_eq_some_iff.mp hx
    rw [List.drop_eq_getElem_cons hi, ei] at ss
    have ln : (((s.found.zip s.places).take i).foldl shStep (goals, [])).1.length = goals.length := sh_len
    have le2 : (((s.found.zip s.places).take i).foldl shStep (goals, [])).2.length = i := by
      have gen : ∀ (E : List (List Int × Nat)) (l acc : List Rat), (E.foldl shStep (l, acc)).2.length = acc.length + E.length := by
        intro E
        induction E with
        | nil => intro l acc; rfl
        | cons y t ih =>
          intro l acc
          show (t.foldl shStep (_, acc ++ [_])).2.length = _
          rw [ih, List.length_append, List.length_cons, List.length_cons, List.length_nil]
          omega
      rw [gen, List.length_take]
      show 0 + _ = i
      omega
    have hi2 : i < s.found.length := by rw [List.length_zip] at hi; omega
    generalize ((s.found.zip s.places).take i).foldl shStep (goals, []) = st at ss ln le2 ⊢
    obtain ⟨l, acc⟩ := st
    obtain ⟨⟨hp, hlh, h0⟩, s1, s2, s3, s4, _⟩ := ss
    have ln : l.length = goals.length := ln
    have le2 : acc.length = i := le2
    refine tr_seqI (tr_asg (r := pQ K (shareOf l hd p)) (den_meth (rs := [pI (cel hd p)]) (den_op (den_var (i := 2) rfl) (den_var (i := 5) rfl) (opd_row (f := pQ K) (0 : Rat) hp)) (by show ((["own_top", "own_bottom"] : List Str).contains "over") = false; decide) (den_cons (den_op (den_var (i := 4) rfl) (den_var (i := 5) rfl) (opd_cel (by show p < hd.length; omega))) den_nil) ⟨l.getD p 0, ((cel hd p : Int) : Rat), _, rfl, .inl ⟨_, rfl, rfl⟩, ?_, ?_, szI (s3 p), rfl⟩)) ?_
    · intro e
      have e : ((cel hd p : Int) : Rat) = ((0 : Int) : Rat) := e
      exact h0 (Rat.intCast_inj.mp e)
    · refine s1 _ ?_
      rw [List.getD_eq_getElem?_getD, List.getElem?_eq_getElem hp]
      exact List.getElem_mem hp
    refine tr_seqI (tr_asg (r := pQs K (updR l (shareOf l hd p) hd)) (den_re (den_map l.zipIdx (fun y => pT [pI (y.2 : Int), pQ K y.1]) (fun y => pQ K (y.1 - shareOf l hd p * ((cel hd y.2 : Int) : Rat))) (deni_enum (f := pQ K) (den_cons (den_var (i := 2) rfl) den_nil)) ?_ (sz (by rw [List.length_zipIdx]; omega))) (pLm_map (pQ K) (fun y : Rat × Nat => y.1 - shareOf l hd p * ((cel hd y.2 : Int) : Rat)) l.zipIdx))) ?_
    · intro y hy
      have g := List.mem_zipIdx_iff_getElem?.mp hy
      have gl := (List.getElem?_eq_some_iff.mp g).1
      refine ⟨_, deng_tup2 (by decide) (by decide), den_op (r1 := pQ K y.1) (r2 := pQ K (shareOf l hd p * ((cel hd y.2 : Int) : Rat))) (den_var (i := 8) rfl) (den_op (r1 := pQ K (shareOf l hd p)) (den_var (i := 6) rfl) (den_op (den_var (i := 4) rfl) (den_var (i := 7) rfl) (opd_cel (by show y.2 < hd.length; omega))) (opd_ownI ⟨_, _, _, rfl, .inl ⟨_, rfl, rfl⟩, s2, szI (s3 _), rfl⟩)) (opd_ownO ⟨_, _, _, rfl, .inr rfl, s1 _ (List.mem_of_getElem? g), s4 _, rfl⟩)⟩
    refine tr_imp (tr_append (k := 0) (i := 3) rfl rfl (den_var (i := 6) rfl) ?_) ?_
    · rw [List.length_map]
      exact Nat.lt_of_le_of_lt (show _ ≤ 1000 by show acc.length ≤ 1000; omega) (show 1000 < sizeLine by decide)
    · rintro _ _ ⟨rfl, rfl⟩
      refine ⟨q, _, _, _, _, _, rfl, ?_⟩
      show [_] = [_]
      rw [show (shStep (l, acc) (hd, p)).2 = acc ++ [shareOf l hd p] from rfl, List.map_append]
      rfl
  · rw [List.length_map, List.take_length]
    rintro _ _ ⟨q, a4, a5, a6, a7, a8, rfl, rfl⟩
    refine tr_freeze (i := 3) (k := 0) rfl rfl ?_
    exact tr_ret (den_tup (den_cons (den_var (i := 3) rfl) (den_cons (den_var (i := 2) rfl) den_nil)) (sz (by show 2 ≤ 100000; decide)))
theorem rep_zero : ∀ n : Nat, (List.replicate n [pI 0]).flatten = (List.replicate n (0 : Int)).map pI
  | 0 => rfl
  | n + 1 => by
    rw [List.replicate_succ, List.replicate_succ, List.flatten_cons, rep_zero n]
    rfl
theorem d_Ladder_made (T : Txt K mg) (h : C_Ladder_made K rs res) : Tr Z0 (t_Ladder_made K) (startR ["self", "shares", "found", "share", "head", "one", "more"] rs) [] No res := by
  obtain ⟨m, w, s, cs, rfl, hl, hm, hw, fl, cl, sc, sh, rfl⟩ := h
  refine tr_seqI (tr_asg (r := pIs (if s.found = [] then [] else List.replicate w 0)) (den_if (dent_test (den_op (den_fld T.c_Ladder T.n_own_heads (den_var (i := 0) rfl) rfl) (den_lst (rs := []) den_nil (Nat.zero_le _)) (opd_neIss (b := [])))) (fun e => ?_) fun e => ?_)) ?_
  · have hne : s.found ≠ [] := fun z => by rw [z] at e; exact nomatch e
    have h0 : 0 < s.found.length := List.length_pos_iff.mpr hne
    rw [if_neg hne]
    refine den_re (den_op (r1 := pL [pI 0]) (r2 := pI (w : Int)) (den_lst (den_cons den_v den_nil) (sz (by show 1 ≤ 100000; decide))) (den_re (den_callB (den_cons (den_slice (den_op (den_fld T.c_Ladder T.n_own_heads (den_var (i := 0) rfl) rfl) (den_v (v := .int 0)) (opd_row (f := pIs) (i := 0) [] h0)) (deno_some (den_fld T.c_Ladder T.n_own_many (den_var (i := 0) rfl) rfl)) deno_none (sld_drop (k := m))) den_nil) cd_len) ?_) (opd_rep (by omega) (by omega) ?_)) ?_
    · rw [List.length_drop, List.length_map, hl _ (cel_getD_mem h0)]
      congr 2
      omega
    · show 1 * _ ≤ _
      rw [Int.toNat_natCast]
      exact sz (by omega)
    · rw [Int.toNat_natCast, rep_zero]
  · have hem : s.found = [] := Classical.byContradiction fun z => by rw [decide_eq_false z] at e; exact nomatch e
    rw [if_pos hem]
    exact den_lst den_nil (Nat.zero_le _)
  · refine tr_seq (tr_for (vs := [3, 4]) (deni_zip (f := fun z : Int => pQ K ((z : Int) : Rat)) (g := pIs) (xs := cs) (ys := s.found) (den_cons (den_re (den_var (i := 1) rfl) (pLm_map (pQ K) (fun z : Int => ((z : Int) : Rat)) cs).symm) (den_cons (den_fld T.c_Ladder T.n_own_heads (den_var (i := 0) rfl) rfl) den_nil)))
      (fun i ρ' ms' => ms' = [] ∧ ∃ a3 a4 a5 a6, ρ' = [some (pLd K m s), some (pQs K (toQ cs)), some (pIs (((cs.zip s.found).take i).foldl (madeStep m) (if s.found = [] then [] else List.replicate w 0))), a3, a4, a5, a6])
      ⟨rfl, none, none, none, none, rfl⟩ ?_) ?_
    · intro i r hr
      obtain ⟨⟨c, hd⟩, hx, rfl⟩ := map_get hr
      refine ⟨_, deng_tup2 (by decide) (by decide), ?_⟩
      rintro _ _ ⟨rfl, a3, a4, a5, a6, rfl⟩
      rw [fold_take hx]
      have hmem := List.of_mem_zip (List.mem_of_getElem? hx)
      generalize ((cs.zip s.found).take i).foldl (madeStep m) (if s.found = [] then [] else List.replicate w 0) = fo
      refine tr_imp (tr_asg (r := pIs (madeStep m fo (c, hd))) (den_re (den_map (fo.zip (hd.drop m)) (fun p => pT [pI p.1, pI p.2]) (fun p => pI (p.1 + c * p.2)) (deni_zip (f := pI) (g := pI) (den_cons (den_var (i := 2) rfl) (den_cons (den_re (den_slice (den_var (i := 4) rfl) (deno_some (den_fld T.c_Ladder T.n_own_many (den_var (i := 0) rfl) rfl)) deno_none (sld_drop (k := m))) (by show pL _ = pL _; rw [List.map_drop])) den_nil))) ?_ ?_) (pLm_map pI (fun p : Int × Int => p.1 + c * p.2) _))) ?_
      · intro p hp
        have hb : p.2 ∈ hd := List.mem_of_mem_drop (List.of_mem_zip hp).2
        refine ⟨_, deng_tup2 (by decide) (by decide), den_op (den_var (i := 5) rfl) (den_op (r1 := pI c) (den_prop (den_var (i := 3) rfl) ⟨((c : Int) : Rat), rfl, rfl⟩) (den_var (i := 6) rfl) (opd_I (wide_mul (sc _ hmem.1) (sh _ hmem.2 _ hb) (by decide) (by decide) (by decide)))) opd_I0⟩
      · refine sz ?_
        rw [List.length_zip, List.length_drop]
        have := hl _ hmem.2
        omega
      · rintro _ _ ⟨rfl, rfl⟩
        exact ⟨rfl, _, _, _, _, rfl⟩
    · rintro _ _ ⟨rfl, a3, a4, a5, a6, rfl⟩
      refine tr_ret (den_re (den_var (i := 2) rfl) ?_)
      rw [List.length_map, List.take_length]
      split
      · rename_i e
        rw [e, List.zip_nil_right]
        rfl
      · rfl
theorem d_Ladder_bar (T : Txt K mg) (h : C_Ladder_bar K rs res) : Tr Z0 (t_Ladder_bar K) (startR ["self", "goals", "shares", "left", "at", "share", "place", "one", "found", "head", "number"] rs) [] No res := by
  obtain ⟨m, s, goals, rfl, hs, gl, fl, feq, h1, h2, rfl⟩ := h
  refine tr_seqI (tr_asgG (den_meth (den_var (i := 0) rfl) (by show ((["own_many", "own_heads", "own_places", "own_left"] : List Str).contains "shares") = false; decide) (den_cons (den_var (i := 1) rfl) den_nil) ⟨m, s, goals, rfl, hs, gl, fl, feq, rfl⟩) (deng_tup2 (vs := [2, 3]) (by decide) (by decide))) ?_
  generalize (s.found.zip s.places).foldl shStep (goals, []) = st at h1 h2 ⊢
  refine tr_seq (tr_for (vs := [4, 5]) (deni_enum (f := pQ K) (den_cons (den_var (i := 2) rfl) den_nil)) (fun i ρ' ms' => ms' = [] ∧ ∃ a4 a5, ρ' = [some (pLd K m s), some (pQs K goals), some (pQs K st.2), some (pQs K st.1), a4, a5, none, none, none, none, none]) ⟨rfl, none, none, rfl⟩ ?_) ?_
  · intro i r hr
    obtain ⟨⟨q, j⟩, hx, rfl⟩ := map_get hr
    refine ⟨_, deng_tup2 (by decide) (by decide), ?_⟩
    rintro _ _ ⟨rfl, a4, a5, rfl⟩
    have hq : q.den = 1 := h1 _ (List.mem_of_getElem? (List.mem_zipIdx_iff_getElem?.mp (List.mem_of_getElem? hx)))
    refine tr_imp (tr_skip (dent_imp (dent_not (dent_val (den_prop (den_var (i := 5) rfl) ⟨q, rfl, rfl⟩))) fun b e => ?_)) ?_
    · rw [e, decide_eq_true hq]; rfl
    · rintro _ _ ⟨rfl, rfl⟩
      exact ⟨rfl, _, _, rfl⟩
  · rintro _ _ ⟨rfl, a4, a5, rfl⟩
    refine tr_seq (tr_for (vs := [6, 7]) (deni_enum (f := pQ K) (den_cons (den_var (i := 3) rfl) den_nil)) (fun i ρ' ms' => ms' = [] ∧ ∃ a6 a7, ρ' = [some (pLd K m s), some (pQs K goals), some (pQs K st.2), some (pQs K st.1), a4, a5, a6, a7, none, none, none]) ⟨rfl, none, none, rfl⟩ ?_) ?_
    · intro i r hr
      obtain ⟨⟨q, j⟩, hx, rfl⟩ := map_get hr
      refine ⟨_, deng_tup2 (by decide) (by decide), ?_⟩
      rintro _ _ ⟨rfl, a6, a7, rfl⟩
      have hq : q = 0 := h2 _ (List.mem_of_getElem? (List.mem_zipIdx_iff_getElem?.mp (List.mem_of_getElem? hx)))
      subst hq
      refine tr_imp (tr_skip (dent_imp (dent_test (den_op (den_prop (den_var (i := 7) rfl) ⟨(0 : Rat), rfl, rfl⟩) (den_v (v := .int 0)) (opd_ne rfl))) fun b e => ?_)) ?_
      · rw [e]; rfl
      · rintro _ _ ⟨rfl, rfl⟩
        exact ⟨rfl, _, _, rfl⟩
    · rintro _ _ ⟨rfl, a6, a7, rfl⟩
      exact tr_ret den_v
theorem Had.bar {rows : List (List Int)} {w M : Nat} {goals x : List Int} (h : Had rows w M goals x) : C_Ladder_bar K [pLd K rows.length (ladOf rows w), pQs K (toQ goals)] pNon := by
  have d := h.hd
  have L := h.sys.li
  have wl := h.sys.wl
  have rl := h.sys.ct
  refine ⟨_, _, _, rfl, d.sh, by rw [List.length_map, h.gl]; omega, by have := d.fl; omega, L.eq, ?_, ?_, rfl⟩
  · rw [Ex.fold d.ex]
    intro q m
    obtain ⟨z, _, rfl⟩ := List.mem_map.mp m
    rfl
  · rw [Ex.fold d.ex]
    intro q m
    obtain ⟨z, hz, rfl⟩ := List.mem_map.mp m
    obtain ⟨i, hi⟩ := List.mem_iff_getElem?.mp hz
    have hl := (List.getElem?_eq_some_iff.mp hi).1
    rw [endOf_len, h.gl] at hl
    have := d.en i hl
    unfold cel at this
    rw [List.getD_eq_getElem?_getD, hi] at this
    have e : z = 0 := this
    rw [e]
    rfl
theorem Had.mkL {rows : List (List Int)} {w M : Nat} {goals x : List Int} (h : Had rows w M goals x) : C_Ladder_init K [pIss rows] [("own_many", pI (rows.length : Int)), ("own_heads", pIss (ladOf rows w).found), ("own_places", pNs (ladOf rows w).places), ("own_left", pIss (ladOf rows w).left)] := ⟨rows, w, M, rfl, h.sys, h.ne, rfl⟩
theorem d_bar_for (h : C_bar_for K rs res) : Tr Z0 (t_bar_for K) (startR ["rows", "goals"] rs) [] No res := by
  obtain ⟨rows, w, M, goals, x, rfl, hd, rfl⟩ := h
  exact tr_ret (den_meth (den_make (rs := [pIss rows]) (drs := []) (den_cons (den_var (i := 0) rfl) den_nil) (fun _ => trivial) hd.mkL) (by show ((["own_many", "own_heads", "own_places", "own_left"] : List Str).contains "bar") = false; decide) (den_cons (den_var (i := 1) rfl) den_nil) hd.bar)
theorem d_solution_for (h : C_solution_for K rs res) : Tr Z0 (t_solution_for K) (startR ["rows", "goals", "ladder", "found"] rs) [] No res := by
  obtain ⟨rows, w, M, goals, x, rfl, hd, rfl⟩ := h
  have d := hd.hd
  have L := hd.sys.li
  have wl := hd.sys.wl
  have rl := hd.sys.ct
  have h0 : 0 < rows.length := List.length_pos_iff.mpr hd.ne
  have fl := d.fl
  refine tr_seqI (tr_asg (den_make (rs := [pIss rows]) (drs := []) (den_cons (den_var (i := 0) rfl) den_nil) (fun _ => trivial) hd.mkL)) ?_
  refine tr_seqI (tr_skip (dent_val (den_notN (b := true) (den_meth (den_var (i := 2) rfl) (by show ((["own_many", "own_heads", "own_places", "own_left"] : List Str).contains "bar") = false; decide) (den_cons (den_var (i := 1) rfl) den_nil) hd.bar) fun F v e => by cases e; rfl))) ?_
  have csh : C_Ladder_shares K [pLd K rows.length (ladOf rows w), pQs K (toQ goals)] (pT [pQs K (toQ (csOf ((ladOf rows w).found.zip (ladOf rows w).places) goals)), pQs K (toQ (endOf ((ladOf rows w).found.zip (ladOf rows w).places) goals))]) := by
    refine ⟨_, _, _, rfl, d.sh, by rw [List.length_map, hd.gl]; omega, by omega, L.eq, ?_⟩
    rw [Ex.fold d.ex]
    rfl
  refine tr_seqI (tr_asg (den_meth (rs := [pQs K (toQ (csOf ((ladOf rows w).found.zip (ladOf rows w).places) goals))]) (den_var (i := 2) rfl) (by show ((["own_many", "own_heads", "own_places", "own_left"] : List Str).contains "made") = false; decide) (den_cons (den_op (den_meth (den_var (i := 2) rfl) (by show ((["own_many", "own_heads", "own_places", "own_left"] : List Str).contains "shares") = false; decide) (den_cons (den_var (i := 1) rfl) den_nil) csh) (den_v (v := .int 0)) (opd_ixT (j := 0) rfl rfl)) den_nil)
    ⟨_, w, _, _, rfl, L.lf, by omega, by omega, by omega, by rw [csOf_len, d.zl], cs_small d.ex d.sh, fun hh mh => small_of fun i => ?_, rfl⟩)) ?_
  · exact Nat.lt_of_le_of_lt (Nat.le_trans (L.bf hh mh i) (FB_mono hd.sys.pos fl)) hd.sys.fb
  have so := sol_ok hd
  by_cases hf : (ladOf rows w).found = []
  · rw [if_pos hf]
    have e1 : solOf rows w goals = List.replicate w 0 := if_pos hf
    rw [e1]
    refine tr_ret (den_if (dent_test (den_op (den_var (i := 3) rfl) (den_lst (rs := []) den_nil (Nat.zero_le _)) (opd_neIs (b := [])))) (fun e => nomatch e) fun _ => ?_)
    refine den_re (den_op (r1 := pL [pI 0]) (r2 := pI (w : Int)) (den_lst (den_cons den_v den_nil) (sz (by show 1 ≤ 100000; decide))) (den_re (den_callB (den_cons (den_op (den_var (i := 0) rfl) (den_v (v := .int 0)) (opd_row (f := pIs) (i := 0) [] h0)) den_nil) cd_len) ?_) (opd_rep (by omega) (by omega) ?_)) ?_
    · rw [List.length_map, hd.sys.len _ (cel_getD_mem h0)]
    · show 1 * _ ≤ _
      rw [Int.toNat_natCast]
      exact sz (by omega)
    · rw [Int.toNat_natCast, rep_zero]
  · rw [if_neg hf]
    have e1 : solOf rows w goals = ((csOf ((ladOf rows w).found.zip (ladOf rows w).places) goals).zip (ladOf rows w).found).foldl (madeStep rows.length) (List.replicate w 0) := if_neg hf
    rw [← e1]
    have hne : solOf rows w goals ≠ [] := fun z => by have := so.1; rw [z] at this; have : 0 = w := this; omega
    refine tr_ret (den_if (dent_test (den_op (den_var (i := 3) rfl) (den_lst (rs := []) den_nil (Nat.zero_le _)) (opd_neIs (b := [])))) (fun _ => den_var (i := 3) rfl) fun e => ?_)
    rw [decide_eq_false hne] at e
    exact nomatch e
theorem d_Ratio_eq (T : Txt K mg) (X : Fx K) (h : C_Ratio_eq K rs res) : Tr Z0 (t_Ratio_eq K) (startR ["self", "other"] rs) [] No res := by
  obtain ⟨a, b, rfl, rfl⟩ := h
  refine tr_seqI (tr_skip (dent_not (dent_val (den_callB (den_cons (den_var rfl) (den_cons den_v den_nil)) (cd_isi (kd_own T.c_Ratio X.kr) (.own _) X.rr))))) ?_
  refine tr_ret (den_re (den_andV (den_op (den_fld T.c_Ratio T.n_own_top (den_var (i := 0) rfl) rfl) (den_fld T.c_Ratio T.n_own_top (den_var (i := 1) rfl) rfl) (opd_eq rfl)) fun _ => den_op (den_fld T.c_Ratio T.n_own_bottom (den_var (i := 0) rfl) rfl) (den_fld T.c_Ratio T.n_own_bottom (den_var (i := 1) rfl) rfl) (opd_eq rfl)) ?_)
  show pB _ = pB _
  congr 1
  refine Bool.eq_iff_iff.mpr ?_
  rw [Bool.and_eq_true, decide_eq_true_iff, decide_eq_true_iff, decide_eq_true_iff]
  constructor
  · rintro ⟨z1, z2⟩
    injection z1 with z1
    injection z2 with z2
    exact Rat.ext z1 (by omega)
  · rintro rfl
    exact ⟨rfl, rfl⟩
end
end W
set_option Elab.async false
set_option linter.all false
set_option maxRecDepth 100000
set_option maxHeartbeats 4000000
namespace Dn
open PySem L2
theorem den_all {Z : Zx} {ρ : Rho} {K : PySem.W.Frag} {α : Type} {wi : TI} {g : TG} {te : TE} {vs : List Nat} (xs : List α) (item : α → RP) (b : α → Bool) (hi : DenI Z wi ρ (xs.map item))
    (hx : ∀ x ∈ xs, ∃ up, DenG vs g (item x) up ∧ Den Z te (up (wipeR ρ vs)) (pB (b x))) (hz : xs.length ≤ sizeLine) : Den Z (tCB (rAll K) (tCons (tLc wi g tYes te vs) tNil)) ρ (pB (xs.all b)) := by
  have e : (xs.map b).all id = xs.all b := by rw [List.all_map]; rfl
  rw [← e]
  exact den_callB (den_cons (den_re (den_map xs item (fun x => pB (b x)) hi hx hz) (pLm_map pB b xs)) den_nil) cd_all
theorem den_allT {Z : Zx} {ρ : Rho} {K : PySem.W.Frag} {α : Type} {wi : TI} {g : TG} {te : TE} {vs : List Nat} (xs : List α) (item : α → RP) (hi : DenI Z wi ρ (xs.map item))
    (hx : ∀ x ∈ xs, ∃ up, DenG vs g (item x) up ∧ Den Z te (up (wipeR ρ vs)) (pB true)) (hz : xs.length ≤ sizeLine) : Den Z (tCB (rAll K) (tCons (tLc wi g tYes te vs) tNil)) ρ (pB true) :=
  den_re (den_all xs item (fun _ => true) hi hx hz) (by rw [List.all_eq_true.mpr fun _ _ => rfl])
end Dn
namespace W
open PySem L2 Dn HM
section
variable {K : PySem.W.Frag} {mg : Str → Option Value} {rs : List RP} {res : RP}
theorem d_are_whole_rows (X : Fx K) (h : C_are_whole_rows K rs res) : Tr Z0 (t_are_whole_rows K) (startR ["value", "row", "number"] rs) [] No res := by
  obtain ⟨rows, w, rfl, R, rfl⟩ := h
  have wl := R.wl
  have rl := R.ct
  refine tr_seqI (tr_skip (dent_imp (dent_or (b := false) (dent_not (dent_val (den_call (den_cons (den_var (i := 0) rfl) den_nil) (cl_list X _)))) fun _ => dent_or (dent_test (den_op (den_callB (den_cons (den_var (i := 0) rfl) den_nil) cd_len) (den_v (v := .int 60)) opd_I0)) fun _ => dent_not (dent_val (den_allT rows pIs (deni_list (den_var (i := 0) rfl)) (fun r hr => ⟨_, deng_name (by decide), den_call (den_cons (den_var (i := 1) rfl) den_nil) (cl_list X _)⟩) (sz (by omega))))) fun b e => ?_)) ?_
  · rw [e, List.length_map, decide_eq_false (by omega)]
    rfl
  refine tr_seqI (tr_skip (dent_not (dent_val (den_allT rows pIs (deni_list (den_var (i := 0) rfl)) (fun r hr => ⟨_, deng_name (by decide), ?_⟩) (sz (by omega)))))) ?_
  · have h0 : 0 < rows.length := List.length_pos_iff.mpr (List.ne_nil_of_mem hr)
    refine den_re (den_andV (den_chain (den_v (v := .int 1)) (den_callB (den_cons (den_var (i := 1) rfl) den_nil) cd_len) (den_v (v := .int 60)) opd_I0 opd_I0) fun _ => den_op (den_callB (den_cons (den_var (i := 1) rfl) den_nil) cd_len) (den_callB (den_cons (den_op (den_var (i := 0) rfl) (den_v (v := .int 0)) (opd_row (f := pIs) (i := 0) [] h0)) den_nil) cd_len) (opd_eq rfl)) ?_
    rw [List.length_map, List.length_map, R.len r hr, R.len _ (cel_getD_mem h0), decide_eq_true (by omega), decide_eq_true (by omega), decide_eq_true rfl]
    rfl
  exact tr_ret (den_allT rows pIs (deni_list (den_var (i := 0) rfl)) (fun r hr => ⟨_, deng_name (by decide), den_allT r pI (deni_list (den_var (i := 1) rfl)) (fun z hz => ⟨_, deng_name (by decide), den_call (den_cons (den_var (i := 2) rfl) den_nil) (ci_int X z)⟩) (sz (by rw [R.len r hr]; omega))⟩) (sz (by omega)))
theorem d_want_whole_rows (h : C_want_whole_rows K rs res) : Tr Z0 (t_want_whole_rows K) (startR ["value", "least", "row"] rs) [] No res := by
  obtain ⟨rows, w, l, rfl, R, hl, rfl⟩ := h
  have rl := R.ct
  refine tr_seqI (tr_skip (dent_imp (dent_or (b := false) (dent_not (dent_val (den_call (den_cons (den_var (i := 0) rfl) den_nil) (show C_are_whole_rows K [pIss rows] (pB true) from ⟨rows, w, rfl, R, rfl⟩)))) fun _ => dent_test (den_op (den_callB (den_cons (den_var (i := 0) rfl) den_nil) cd_len) (den_var (i := 1) rfl) opd_I0)) fun b e => ?_)) ?_
  · rw [e, List.length_map, decide_eq_false (by omega)]
    rfl
  exact tr_ret (den_map rows pIs pIs (deni_list (den_var (i := 0) rfl)) (fun r hr => ⟨_, deng_name (by decide), den_callB (den_cons (den_var (i := 2) rfl) den_nil) cd_list⟩) (sz (by omega)))
theorem d_want_goals (X : Fx K) (h : C_want_goals K rs res) : Tr Z0 (t_want_goals K) (startR ["rows", "value", "number"] rs) [] No res := by
  obtain ⟨rows, goals, rfl, hl, hr, rfl⟩ := h
  refine tr_seqI (tr_skip (dent_imp (dent_or (b := false) (dent_not (dent_val (den_call (den_cons (den_var (i := 1) rfl) den_nil) (cl_list X _)))) fun _ => dent_or (dent_test (den_op (den_callB (den_cons (den_var (i := 1) rfl) den_nil) cd_len) (den_callB (den_cons (den_var (i := 0) rfl) den_nil) cd_len) (opd_ne rfl))) fun _ => dent_not (dent_val (den_allT goals pI (deni_list (den_var (i := 1) rfl)) (fun z hz => ⟨_, deng_name (by decide), den_call (den_cons (den_var (i := 2) rfl) den_nil) ⟨_, _, rfl, .inl ⟨z, rfl, rfl⟩, rfl⟩⟩) (sz (by omega))))) fun b e => ?_)) ?_
  · rw [e, List.length_map, List.length_map, hl, decide_eq_true rfl]
    rfl
  refine tr_ret (den_re (den_map goals pI (fun z => pQ K ((z : Int) : Rat)) (deni_list (den_var (i := 1) rfl)) (fun z hz => ⟨_, deng_name (by decide), den_call (den_cons (den_var (i := 2) rfl) den_nil) ⟨_, _, rfl, .inl ⟨z, rfl, rfl⟩, rfl⟩⟩) (sz (by omega))) (pLm_map (pQ K) (fun z : Int => ((z : Int) : Rat)) goals))
theorem Sys.rw' {rows : List (List Int)} {w M : Nat} (S : Sys w M rows) : Rw w rows := ⟨S.len, S.ct, S.wl⟩
theorem d_whole_kernel (h : C_whole_kernel K rs res) : Tr Z0 (t_whole_kernel K) (startR ["rows", "wide", "told", "row"] rs) [] No res := by
  obtain ⟨rows, w, M, rfl, S, rfl⟩ := h
  have wl := S.wl
  have rl := S.ct
  refine tr_seqI (tr_asg (den_callD (drs := [pI 0]) (den_cons (den_var (i := 0) rfl) den_nil) (fun _ => ⟨rfl, trivial⟩) ⟨rows, w, 0, rfl, S.rw', by omega, rfl⟩)) ?_
  refine tr_seqI (tr_drop (den_call (den_cons (den_var (i := 1) rfl) (den_cons (den_v (v := .int 60)) (den_cons (den_v (v := .int 1)) den_nil))) ⟨(w : Int), 60, 1, rfl, by omega, by omega, by omega, rfl⟩)) ?_
  refine tr_seqI (tr_skip (dent_not (dent_val (den_allT rows pIs (deni_list (den_var (i := 2) rfl)) (fun r hr => ⟨_, deng_name (by decide), den_re (den_op (den_callB (den_cons (den_var (i := 3) rfl) den_nil) cd_len) (den_var (i := 1) rfl) (opd_eq rfl)) ?_⟩) (sz (by omega)))))) ?_
  · rw [List.length_map, S.len r hr, decide_eq_true rfl]
  exact tr_ret (den_call (den_cons (den_var (i := 2) rfl) (den_cons (den_var (i := 1) rfl) den_nil)) ⟨rows, w, M, rfl, S, rfl⟩)
theorem d_whole_solution (h : C_whole_solution K rs res) : Tr Z0 (t_whole_solution K) (startR ["rows", "goals", "told"] rs) [] No res := by
  obtain ⟨rows, w, M, goals, x, rfl, H, rfl⟩ := h
  have h0 : 0 < rows.length := List.length_pos_iff.mpr H.ne
  refine tr_seqI (tr_asg (den_call (den_cons (den_var (i := 0) rfl) (den_cons (den_v (v := .int 1)) den_nil)) ⟨rows, w, 1, rfl, H.sys.rw', by omega, rfl⟩)) ?_
  exact tr_ret (den_call (den_cons (den_var (i := 2) rfl) (den_cons (den_call (den_cons (den_var (i := 2) rfl) (den_cons (den_var (i := 1) rfl) den_nil)) ⟨rows, goals, rfl, H.gl, H.sys.ct, rfl⟩) den_nil)) ⟨rows, w, M, goals, x, rfl, H, rfl⟩)
theorem d_whole_bar (h : C_whole_bar K rs res) : Tr Z0 (t_whole_bar K) (startR ["rows", "goals", "told"] rs) [] No res := by
  obtain ⟨rows, w, M, goals, x, rfl, H, rfl⟩ := h
  have h0 : 0 < rows.length := List.length_pos_iff.mpr H.ne
  refine tr_seqI (tr_asg (den_call (den_cons (den_var (i := 0) rfl) (den_cons (den_v (v := .int 1)) den_nil)) ⟨rows, w, 1, rfl, H.sys.rw', by omega, rfl⟩)) ?_
  exact tr_ret (den_call (den_cons (den_var (i := 2) rfl) (den_cons (den_call (den_cons (den_var (i := 2) rfl) (den_cons (den_var (i := 1) rfl) den_nil)) ⟨rows, goals, rfl, H.gl, H.sys.ct, rfl⟩) den_nil)) ⟨rows, w, M, goals, x, rfl, H, rfl⟩)
/-- sum([one * two for one, two in zip(row, v)]) -/
theorem den_dot {Z : Zx} {ρ : Rho} {ir iv i1 i2 : Nat} {row v : List Int} {a b : Nat} (e1 : ρ[ir]? = some (some (pIs row))) (e2 : ρ[iv]? = some (some (pIs v))) (e3 : ∀ r1 r2, (((wipeR ρ [i1, i2]).set i1 (some r1)).set i2 (some r2))[i1]? = some (some r1)) (e4 : ∀ r1 r2, (((wipeR ρ [i1, i2]).set i1 (some r1)).set i2 (some r2))[i2]? = some (some r2))
    (hl : row.length ≤ 1000) (ha : Small a row) (hb : Small b v) (h0 : 0 < a) (h1 : 0 < b) (h : a + b ≤ 1000000) :
    Den Z (tCB (rSum K) (tCons (tLc (iZip K (tCons (tVar ir) (tCons (tVar iv) tNil))) (gTup K 2 (gCons (gName i1) (gCons (gName i2) gNil))) tYes (tOp oMul (tVar i1) (tVar i2)) [i1, i2]) tNil)) ρ (pI (dot row v)) := by
  refine den_callB (den_cons (den_re (den_map (row.zip v) (fun p => pT [pI p.1, pI p.2]) (fun p => pI (p.1 * p.2)) (deni_zip (f := pI) (g := pI) (den_cons (den_var e1) (den_cons (den_var e2) den_nil))) ?_ ?_) (pLm_map pI (fun p : Int × Int => p.1 * p.2) _)) den_nil) cd_sum
  · intro p hp
    have m := List.of_mem_zip hp
    exact ⟨_, deng_tup2 (by simp) (by simp), den_op (den_var (e3 _ _)) (den_var (e4 _ _)) (opd_I (wide_mul (ha _ m.1) (hb _ m.2) h0 h1 h))⟩
  · refine sz ?_
    rw [List.length_zip]
    omega
theorem d_is_whole_solution (X : Fx K) (h : C_is_whole_solution K rs res) : Tr Z0 (t_is_whole_solution K) (startR ["rows", "goals", "value", "told", "wanted", "number", "row", "one"] rs) [] No res := by
  obtain ⟨rows, w, goals, x, rfl, R, hne, xl, gl, sr, sx, rfl⟩ := h
  have wl := R.wl
  have rl := R.ct
  have h0 : 0 < rows.length := List.length_pos_iff.mpr hne
  refine tr_seqI (tr_asg (den_call (den_cons (den_var (i := 0) rfl) (den_cons (den_v (v := .int 1)) den_nil)) ⟨rows, w, 1, rfl, R, by omega, rfl⟩)) ?_
  refine tr_seqI (tr_asg (den_call (den_cons (den_var (i := 3) rfl) (den_cons (den_var (i := 1) rfl) den_nil)) ⟨rows, goals, rfl, gl, rl, rfl⟩)) ?_
  refine tr_seqI (tr_skip (dent_imp (dent_or (b := false) (dent_not (dent_val (den_call (den_cons (den_var (i := 2) rfl) den_nil) (cl_list X _)))) fun _ => dent_or (dent_test (den_op (den_callB (den_cons (den_var (i := 2) rfl) den_nil) cd_len) (den_callB (den_cons (den_op (den_var (i := 3) rfl) (den_v (v := .int 0)) (opd_row (f := pIs) (i := 0) [] h0)) den_nil) cd_len) (opd_ne rfl))) fun _ => dent_not (dent_val (den_allT x pI (deni_list (den_var (i := 2) rfl)) (fun z hz => ⟨_, deng_name (by decide), den_call (den_cons (den_var (i := 5) rfl) den_nil) (ci_int X z)⟩) (sz (by omega))))) fun b e => ?_)) ?_
  · rw [e, List.length_map, List.length_map, xl, R.len _ (cel_getD_mem h0), decide_eq_true rfl]
    rfl
  refine tr_ret (den_re (den_op (den_re (den_map rows pIs (fun r => pQ K ((dot r x : Int) : Rat)) (deni_list (den_var (i := 3) rfl)) (fun r hr => ⟨_, deng_name (by decide), den_make (rs := [pI (dot r x)]) (drs := [pI 1]) (den_cons (den_dot (a := 4000) (b := 90000) rfl rfl (fun _ _ => rfl) (fun _ _ => rfl) (by rw [R.len r hr]; omega) (sr r hr) sx (by decide) (by decide) (by decide)) den_nil) (fun _ => ⟨rfl, trivial⟩) (den_ratio (by decide) (Nat.lt_of_lt_of_le (by decide : (1 : Int).natAbs < 2 ^ 1) (pw (by decide))) (Rat.num_divInt_den ((dot r x : Int) : Rat)))⟩) (sz (by omega))) (pLm_map (pQ K) (fun r => ((dot r x : Int) : Rat)) rows)) (den_var (i := 4) rfl) (opd_eqQ ?_)) ?_)
  · rw [List.length_map, List.length_map, gl]
  · show pB _ = pB _
    congr 1
    refine decide_eq_decide.mpr ⟨fun z => ?_, fun z => ?_⟩
    · refine List.ext_getElem (by rw [List.length_map, gl]) fun i h1 h2 => ?_
      have e : (rows.map fun r => ((dot r x : Int) : Rat))[i]? = (toQ goals)[i]? := by rw [z]
      rw [List.length_map] at h1
      rw [List.getElem?_map, List.getElem?_map, List.getElem?_eq_getElem h1, List.getElem?_eq_getElem h2] at e
      rw [List.getElem_map]
      exact Rat.intCast_inj.mp (Option.some.inj e)
    · rw [← z]
      show _ = List.map _ _
      rw [List.map_map]
      rfl
end
end W
set_option Elab.async false
set_option linter.all false
set_option maxRecDepth 100000
set_option maxHeartbeats 4000000
namespace Dn
open PySem L2
theorem den_pix {K : PySem.W.Frag} {ρ : Rho} {p : Addr} {vs : List V} {i j : Nat} {z : Int} {v : V} (hi : ρ[i]? = some (some (pRef p))) (hz : z = (j : Int)) (hj : vs[j]? = some v) : Den (Zp p (.lst vs)) (tOp (rIxL K) (tVar i) (tC (.int z))) ρ (pV v) := fun F H σ env ok Q q => by
  obtain ⟨w, h1, h2⟩ := env.at_ i _ hi
  have h2 : w = .ref p := h2
  subst h2
  exact ⟨_, h1, p, vs, z, v, rfl, rfl, SqL.of ok.j, at_of hz hj, q v F H (Go.refl F H) ok rfl⟩
end Dn
namespace W
open PySem L2 Dn HM
section
variable {K : PySem.W.Frag} {mg : Str → Option Value} {rs : List RP} {res : RP}
theorem lists_len : ∀ n, (listsOf n).length = 7 ^ n
  | 0 => rfl
  | n + 1 => by
    have h : ∀ l : List (List Int), ((l.map fun low => (List.range 7).map fun k : Nat => low ++ [(-3 : Int) + (k : Int)]).flatten).length = l.length * 7 := by
      intro l
      induction l with
      | nil => rfl
      | cons a t ih => rw [List.map_cons, List.flatten_cons, List.length_append, ih, List.length_map, List.length_range, List.length_cons]; omega
    show (_ : List (List Int)).length = _
    rw [show listsOf (n + 1) = ((listsOf n).map fun low => (List.range 7).map fun k : Nat => low ++ [(-3 : Int) + (k : Int)]).flatten from rfl, h, lists_len n, Nat.pow_succ]
theorem d_law_lists (h : C_law_lists K rs res) : Tr Z0 (t_law_lists K) (startR ["width", "found", "place", "longer", "low", "one"] rs) [] No res := by
  obtain ⟨n, rfl, hn, rfl⟩ := h
  refine tr_seqI (tr_asg (r := pIss [[]]) (den_lst (rs := [pIs []]) (den_cons (den_lst (rs := []) den_nil (Nat.zero_le _)) den_nil) (sz (by show 1 ≤ 100000; decide)))) ?_
  refine tr_seq (tr_for (vs := [2]) (deni_rngN (den_cons (den_var (i := 0) rfl) den_nil) (by omega)) (fun i ρ' ms' => ms' = [] ∧ ∃ a2 a3 a4 a5, ρ' = [some (pI (n : Int)), some (pIss (listsOf i)), a2, a3, a4, a5]) ⟨rfl, none, none, none, none, rfl⟩ ?_) ?_
  · intro i r hr
    obtain ⟨i', hx, rfl⟩ := map_get hr
    obtain ⟨hpl, hpe⟩ := List.getElem?_eq_some_iff.mp hx
    rw [List.getElem_range] at hpe
    subst hpe
    rw [List.length_range] at hpl
    refine ⟨_, deng_name (by decide), ?_⟩
    rintro _ _ ⟨rfl, a2, a3, a4, a5, rfl⟩
    refine tr_seq (tr_asgF (i := 3) (denf_lst (rs := []) den_nil (Nat.zero_le _))) ?_
    rintro _ _ ⟨p, rfl, rfl⟩
    have ln : (listsOf i).length ≤ 343 := by
      rw [lists_len]
      exact Nat.le_trans (Nat.pow_le_pow_right (by decide) (show i ≤ 3 by omega)) (by decide)
    refine tr_seq (tr_for (vs := [4]) (deni_list (f := pIs) (xs := listsOf i) (den_var (i := 1) rfl)) (fun j ρ' ms' => ∃ b4 b5, ρ' = [some (pI (n : Int)), some (pIss (listsOf i)), some (pI (i : Int)), some (pRef p), b4, b5] ∧ ms' = [⟨p, ((((listsOf i).take j).map fun low => (List.range 7).map fun k : Nat => low ++ [(-3 : Int) + (k : Int)]).flatten).map pIs⟩]) ⟨_, _, rfl, rfl⟩ ?_) ?_
    · intro j r2 hr2
      obtain ⟨low, hlow, rfl⟩ := map_get hr2
      obtain ⟨hj, ej⟩ := List.getElem?_eq_some_iff.mp hlow
      refine ⟨_, deng_name (by decide), ?_⟩
      rintro _ _ ⟨b4, b5, rfl, rfl⟩
      have ll : ∀ l : List (List Int), ((l.map fun low => (List.range 7).map fun k : Nat => low ++ [(-3 : Int) + (k : Int)]).flatten).length = l.length * 7 := by
        intro l
        induction l with
        | nil => rfl
        | cons a t ih => rw [List.map_cons, List.flatten_cons, List.length_append, ih, List.length_map, List.length_range, List.length_cons]; omega
      have ez : ∀ m : Nat, i = m → True := fun _ _ => trivial
      have llow : low.length ≤ 1000 := by
        have gen : ∀ n, ∀ l ∈ listsOf n, l.length = n := by
          intro n
          induction n with
          | zero => intro l m; rw [List.mem_singleton.mp m]; rfl
          | succ n ih =>
            intro l m
            obtain ⟨l2, m2, m3⟩ := List.mem_flatten.mp m
            obtain ⟨l3, m4, rfl⟩ := List.mem_map.mp m2
            obtain ⟨k, _, rfl⟩ := List.mem_map.mp m3
            rw [List.length_append, ih l3 m4]
            rfl
        have := gen i low (List.mem_of_getElem? hlow)
        omega
      refine tr_imp (tr_extend (k := 0) (i := 3) (rs2 := ((List.range 7).map fun k : Nat => low ++ [(-3 : Int) + (k : Int)]).map pIs) rfl rfl (den_re (den_map (List.range 7) (fun k : Nat => pI ((-3 : Int) + (k : Int))) (fun k : Nat => pIs (low ++ [(-3 : Int) + (k : Int)])) (deni_rng2 (lo := -3) (n := 4) (den_cons (den_un (den_v (v := .int 3)) und_neg) (den_cons (den_v (v := .int 4)) den_nil)) (by omega)) ?_ (sz (by decide))) (pLm_map pIs (fun k : Nat => low ++ [(-3 : Int) + (k : Int)]) (List.range 7))) ?_) ?_
      · intro k hk
        refine ⟨_, deng_name (by decide), den_re (den_op (den_var (i := 4) rfl) (den_lst (rs := [pI ((-3 : Int) + (k : Int))]) (den_cons (den_var (i := 5) rfl) den_nil) (sz (by show 1 ≤ 100000; decide))) (opd_cat (sz ?_))) ?_⟩
        · rw [List.length_map]; show _ + 1 ≤ _; omega
        · show pL _ = pL _
          rw [List.map_append]
          rfl
      · rw [List.length_map, List.length_map, ll, List.length_map, List.length_range, List.length_take]
        exact sz (by omega)
      · rintro _ _ ⟨rfl, rfl⟩
        refine ⟨_, _, rfl, ?_⟩
        rw [List.take_succ_eq_append_getElem hj, ej, List.map_append, List.flatten_append, List.map_append]
        show [_] = [_]
        rw [show ([low].map fun low => (List.range 7).map fun k : Nat => low ++ [(-3 : Int) + (k : Int)]).flatten = (List.range 7).map fun k : Nat => low ++ [(-3 : Int) + (k : Int)] from List.append_nil _]
    · rw [List.length_map, List.take_length]
      rintro _ _ ⟨b4, b5, rfl, rfl⟩
      refine tr_freeze (i := 3) (k := 0) rfl rfl ?_
      refine tr_imp (tr_asg (den_var (i := 3) rfl)) ?_
      rintro _ _ ⟨rfl, rfl⟩
      exact ⟨rfl, _, _, _, _, rfl⟩
  · rw [List.length_map, List.length_range]
    rintro _ _ ⟨rfl, a2, a3, a4, a5, rfl⟩
    exact tr_ret (den_var (i := 1) rfl)
theorem first_place : ∀ (h : List Int) (p k : Nat), (∀ i, i < p → cel h i = 0) → cel h p ≠ 0 → ((h.zipIdx k).filter fun y => !decide (y.1 = 0))[0]? = some (cel h p, k + p)
  | [], p, k, _, h0 => absurd rfl h0
  | x :: t, 0, k, _, h0 => by
    have hx : x ≠ 0 := h0
    rw [List.zipIdx_cons, List.filter_cons, if_pos (by rw [decide_eq_false hx]; rfl)]
    rfl
  | x :: t, p + 1, k, hz, h0 => by
    have hx : x = 0 := hz 0 (by omega)
    rw [List.zipIdx_cons, List.filter_cons, if_neg (by rw [decide_eq_true hx]; decide), first_place t p (k + 1) (fun i hi => hz (i + 1) (by omega)) h0]
    rw [show k + 1 + p = k + (p + 1) by omega]
    rfl
theorem offOf_len {w : Nat} : ∀ {E : List (List Int × Nat)} {v : List Int}, (∀ q ∈ E, q.1.length = w) → v.length = w → (offOf E v).length = w
  | [], _, _, h => h
  | (h, p) :: t, v, hE, hv => by
    show (offOf t (red p h v)).length = w
    exact offOf_len (fun q m => hE q (List.mem_cons_of_mem _ m)) (red_len (hE (h, p) List.mem_cons_self) hv)
theorem d_law_is_made (h : C_law_is_made K rs res) : Tr Z0 (t_law_is_made K) (startR ["row", "steps", "left", "step", "at", "many", "place", "one", "two"] rs) [] No res := by
  obtain ⟨row, E, w, l, rfl, ech, hE, hl, hw, he, sr, so, rfl⟩ := h
  have lens : ∀ i, (offOf (E.take i) row).length = w := fun i => offOf_len (fun q m => (hE q (List.mem_of_mem_take m)).1) hl
  refine tr_seqI (tr_asg (den_callB (den_cons (den_var (i := 0) rfl) den_nil) cd_list)) ?_
  refine tr_seq (tr_for (vs := [3]) (deni_list (f := pIs) (xs := rws E) (den_var (i := 1) rfl)) (fun i ρ' ms' => ms' = [] ∧ ∃ a3 a4 a5 a6 a7 a8, ρ' = [some (pIs row), some (pIss (rws E)), some (pIs (offOf (E.take i) row)), a3, a4, a5, a6, a7, a8]) ⟨rfl, none, none, none, none, none, none, rfl⟩ ?_) ?_
  · intro i r hr
    obtain ⟨hd, hx, rfl⟩ := map_get hr
    obtain ⟨p, hx⟩ : ∃ p, E[i]? = some (hd, p) := by
      rw [List.getElem?_map] at hx
      cases q : E[i]? with
      | none => rw [q] at hx; cases hx
      | some y => rw [q] at hx; exact ⟨y.2, by rw [← Option.some.inj hx]⟩
    refine ⟨_, deng_name (by decide), ?_⟩
    rintro _ _ ⟨rfl, a3, a4, a5, a6, a7, a8, rfl⟩
    have hm := List.mem_of_getElem? hx
    obtain ⟨hlw, hpw, hsm⟩ := hE _ hm
    have hlw : hd.length = w := hlw
    have hpw : p < w := hpw
    obtain ⟨_, hz, hpos⟩ := ech.low _ hm
    have hpos : 0 < cel hd p := hpos
    have lo := lens i
    have so := so i
    have e1 : offOf (E.take (i + 1)) row = red p hd (offOf (E.take i) row) := by
      show (E.take (i + 1)).foldl _ _ = _
      rw [fold_take hx]
      rfl
    rw [e1]
    generalize offOf (E.take i) row = left at lo so ⊢
    have clm : cel left p ∈ left := List.mem_of_getElem? (cel_in (by omega))
    have chm : cel hd p ∈ hd := List.mem_of_getElem? (cel_in (by omega))
    refine tr_seqI (tr_asg (r := pI (p : Int)) (den_op (den_lc hd.zipIdx (fun y => pT [pI (y.2 : Int), pI y.1]) (fun y => !decide (y.1 = 0)) (fun y => pI (y.2 : Int)) (deni_enum (f := pI) (den_cons (den_var (i := 3) rfl) den_nil)) (fun y hy => ⟨_, deng_tup2 (by decide) (by decide), dent_imp (dent_test (den_op (den_var (i := 7) rfl) den_v (opd_ne rfl))) (fun b e => ?_), fun _ => den_var (i := 6) rfl⟩) (sz (by rw [List.length_zipIdx]; omega))) (den_v (v := .int 0)) (opd_ixL (j := 0) rfl ?_))) ?_
    · rw [e]
      congr 1
      exact decide_eq_decide.mpr ⟨fun z => by injection z, fun z => by rw [z]⟩
    · rw [List.getElem?_map, first_place hd p 0 hz (by omega)]
      show some _ = some _
      rw [Nat.zero_add]
    refine tr_seqI (tr_asg (r := pI ((cel left p).fdiv (cel hd p))) (den_op (den_op (den_var (i := 2) rfl) (den_var (i := 4) rfl) (opd_cel (by omega))) (den_op (den_var (i := 3) rfl) (den_var (i := 4) rfl) (opd_cel (by omega))) (opd_I (cDiv (by omega) (hsm _ chm) (by decide) (Nat.le_refl _))))) ?_
    refine tr_imp (tr_asg (r := pIs (red p hd left)) (den_re (den_map (left.zip hd) (fun y => pT [pI y.1, pI y.2]) (fun y => pI (y.1 - (cel left p).fdiv (cel hd p) * y.2)) (deni_zip (f := pI) (g := pI) (den_cons (den_var (i := 2) rfl) (den_cons (den_var (i := 3) rfl) den_nil))) ?_ ?_) (pLm_map pI (fun y : Int × Int => y.1 - (cel left p).fdiv (cel hd p) * y.2) _))) ?_
    · intro y hy
      have m := List.of_mem_zip hy
      exact ⟨_, deng_tup2 (by decide) (by decide), den_op (den_var (i := 7) rfl) (den_op (den_var (i := 5) rfl) (den_var (i := 8) rfl) (opd_I (wide_mul (fdiv_bd (k := 90000) (by omega) (so _ clm) (Nat.lt_of_lt_of_le (hsm _ chm) (pw (by decide)))) (hsm _ m.2) (by decide) (by decide) (by decide)))) opd_I0⟩
    · refine sz ?_
      rw [List.length_zip]
      omega
    · rintro _ _ ⟨rfl, rfl⟩
      exact ⟨rfl, _, _, _, _, _, _, rfl⟩
  · rw [List.length_map, List.length_map, List.take_length]
    rintro _ _ ⟨rfl, a3, a4, a5, a6, a7, a8, rfl⟩
    have lo := lens E.length
    rw [List.take_length] at lo
    generalize offOf E row = left at lo ⊢
    refine tr_ret (den_re (den_op (r1 := pIs (left.filter fun z => !decide (z = 0))) (den_lc left pI (fun z => !decide (z = 0)) pI (deni_list (den_var (i := 2) rfl)) (fun z hz => ⟨_, deng_name (by decide), dent_imp (dent_test (den_op (den_var (i := 7) rfl) den_v (opd_ne rfl))) (fun b e => ?_), fun _ => den_var (i := 7) rfl⟩) (sz (by omega))) (den_lst (rs := []) den_nil (Nat.zero_le _)) (opd_eqIs (b := []))) ?_)
    · rw [e]
      congr 1
      exact decide_eq_decide.mpr ⟨fun z => by injection z, fun z => by rw [z]⟩
    · show pB _ = pB _
      congr 1
      refine decide_eq_decide.mpr ?_
      rw [List.filter_eq_nil_iff]
      refine ⟨fun z x m => ?_, fun z x m => ?_⟩
      · have := z x m
        exact Classical.byContradiction fun q => this (by rw [decide_eq_false q]; rfl)
      · rw [z x m]; decide
theorem mulT {a b : Int} {i j : Nat} (ha : a.natAbs < 2 ^ i) (hb : b.natAbs < 2 ^ j) (hi : 0 < i := by decide) (hj : 0 < j := by decide) (h : i + j ≤ 1000000 := by decide) : CMulW a b := wide_mul ha hb hi hj h
theorem p_law_pot {vs : List V} {H : Hp} {Q : VK} {E : XK} (h : spPot K vs H Q E) : t_law_pot K { nx := fun _ H' => Q .non H', rt := Q } (L2.start ["script", "k", "cell"] vs) H := by
  obtain ⟨F, script, k, s, hv, hk, q⟩ := h
  have c0 : 0 ≤ (if k < script.length then ((script.getD k 0).natAbs : Int) else 1913 * (k : Int) + 1031) := by split <;> omega
  have hc : Den Z0 (tIf (tTest (tOp oLt (tVar 1) (tCB (uLen K) (tCons (tVar 0) tNil)))) (tCB uAbs (tCons (tOp (rIxL K) (tVar 0) (tVar 1)) tNil)) (tOp oAdd (tOp oMul (tC (.int 1913)) (tVar 1)) (tC (.int 1031)))) (startR ["script", "k", "cell"] [pSq K script, pI (k : Int)]) (pI (if k < script.length then ((script.getD k 0).natAbs : Int) else 1913 * (k : Int) + 1031)) := by
    refine den_if (dent_test (den_op (den_var (i := 1) rfl) (den_callB (den_cons (den_var (i := 0) rfl) den_nil) cd_lenS) opd_I0)) (fun e => ?_) fun e => ?_
    · have e : (k : Int) < (script.length : Int) := of_decide_eq_true e.symm
      have hl : k < script.length := by omega
      rw [if_pos hl]
      exact den_callB (den_cons (den_op (den_var (i := 0) rfl) (den_var (i := 1) rfl) (opd_ixS (j := k) rfl (get_getD hl))) den_nil) cd_abs
    · have e : ¬ (k : Int) < (script.length : Int) := of_decide_eq_false e.symm
      rw [if_neg (by omega)]
      exact den_op (den_op den_v (den_var (i := 1) rfl) (opd_I (mulT (i := 11) (j := 2) (by decide) (by omega)))) den_v opd_I0
  generalize (if k < script.length then ((script.getD k 0).natAbs : Int) else 1913 * (k : Int) + 1031) = c at c0 hc
  refine tr_asg (ms := []) (i := 2) (R := pNo) hc F H _ ⟨start_ok hv, Ok.z0 s, (fun _ h => nomatch h), (fun _ h => nomatch h), List.nodup_nil⟩ { nx := _, rt := Q } (fun F1 H1 σ1 ρ1 ms1 ⟨e1, e2⟩ g1 s1 _ => ?_) (fun _ _ _ _ _ z => z.elim)
  subst e1 e2
  have hf : DenF Z0 _ _ [pI (max 0 (c - 10 ^ 18)), pI ((c % 2147483549 * 40487 + 6469 * (k : Int) + 599) % 2147483563 + 1)] := denf_lst (ρ := (startR ["script", "k", "cell"] [pSq K script, pI (k : Int)]).set 2 (some (pI c)))
    (den_cons (den_callB (den_cons (den_v (v := .int 0)) (den_cons (den_op (den_var (i := 2) rfl) (den_op (den_v (v := .int 10)) (den_v (v := .int 18)) (opd_I (C := CPow) (g := fun i j => .int (i ^ j.toNat)) ⟨by decide, by decide, by decide⟩)) (opd_I0 (g := fun i j => .int (i - j)))) den_nil)) cd_max)
      (den_cons (den_op (den_op (den_callB (den_cons (den_op (den_op (den_op (den_op (den_callB (den_cons (den_var (i := 2) rfl) den_nil) cd_int) (den_v (v := .int 2147483549)) (opd_I (C := fun _ j => 0 < j) (g := fun i j => .int (i % j)) (by decide))) (den_v (v := .int 40487)) (opd_I (C := CMulW) (g := fun i j => .int (i * j)) (mulT (i := 32) (j := 16) (by omega) (by decide)))) (den_op (den_v (v := .int 6469)) (den_var (i := 1) rfl) (opd_I (C := CMulW) (g := fun i j => .int (i * j)) (mulT (i := 13) (j := 2) (by decide) (by omega)))) (opd_I0 (g := fun i j => .int (i + j)))) (den_v (v := .int 599)) (opd_I0 (g := fun i j => .int (i + j)))) den_nil) cd_int) (den_v (v := .int 2147483563)) (opd_I (C := fun _ j => 0 < j) (g := fun i j => .int (i % j)) (by decide))) (den_v (v := .int 1)) (opd_I0 (g := fun i j => .int (i + j)))) den_nil)) (sz (by show 2 ≤ 100000; decide))
  refine hf F1 H1 σ1 s1.env s1.ok _ fun p us F2 H2 hp g2 k2 fp ho hu => ?_
  match us, hu with
  | [u1, u2], ⟨x1, x2, _⟩ =>
    have x1 : u1 = .int _ := x1
    have x2 : u2 = .int _ := x2
    subst x1 x2
    have g1' : Go0 F H F1 H1 := g1.weak fun b t => by
      rcases t with t | t
      · exact t
      · cases t
    exact q p F2 H2 _ _ (none_back (g1.dm p) hp) (g1'.trans g2) k2.fh fp ho (by omega) (by omega) (by omega)
theorem p_law_draw {vs : List V} {H : Hp} {Q : VK} {E : XK} (h : spDraw vs H Q E) : t_law_draw K { nx := fun _ H' => Q .non H', rt := Q } (L2.start ["pot", "many", "digit"] vs) H := by
  obtain ⟨p, a, b, many, rfl, hp, ha, hb, hb2, hm, hm2, q⟩ := h
  have en : EnvOk (fun _ => none) (L2.start ["pot", "many", "digit"] [.ref p, .int many]) (startR ["pot", "many", "digit"] [pRef p, pI many]) := start_ok ⟨rfl, rfl, trivial⟩
  have ok : Ok (Zp p (.lst [.int a, .int b])) (fun _ => none) H := ⟨(fun _ _ e => nomatch e), (fun _ _ => rfl), hp⟩
  have dt := dent_test (Z := Zp p (.lst [.int a, .int b])) (ρ := startR ["pot", "many", "digit"] [pRef p, pI many]) (den_op (den_pix (K := K) (i := 0) (z := 0) (j := 0) rfl rfl rfl) (den_v (v := .int 0)) (opd_I0 (g := fun i j => .bl (decide (j < i)))))
  refine dt _ H _ en ok _ fun c F1 H1 g1 k1 ec => ?_
  have e1 := en.mono g1.ff
  cases c with
  | true =>
    have ec : (0 : Int) < a := of_decide_eq_true ec.symm
    rw [if_pos rfl]
    have dd := den_callB (Z := Zp p (.lst [.int a, .int b])) (ρ := startR ["pot", "many", "digit"] [pRef p, pI many]) (den_cons (den_pix (K := K) (i := 0) (z := 0) (j := 0) rfl rfl rfl) (den_cons (den_var (i := 1) rfl) den_nil)) (cd_divmod (i := a) (j := many) ⟨by omega, by omega⟩)
    refine dd F1 H1 _ e1 k1 _ fun v F2 H2 g2 k2 ⟨t, us, ev, ht, hu⟩ => ?_
    subst ev
    match us, hu with
    | [u1, u2], ⟨x1, x2, _⟩ =>
      have x1 : u1 = .int _ := x1
      have x2 : u2 = .int _ := x2
      subst x1 x2
      have hp2 : H2 p = some (.lst [.int a, .int b]) := k2.j
      have g := g1.trans g2
      refine ⟨t, _, rfl, SqT.of (k2.fh _ _ ht), rfl, _, _, rfl, _, rfl, p, _, 0, 0, rfl, rfl, hp2, rfl, _, _, rfl, rfl, _, rfl, ?_⟩
      refine q (a / many) b (a % many) _ (Int.ediv_nonneg ha (by omega)) hb hb2 (Int.emod_nonneg _ (by omega)) (Int.emod_lt_of_pos _ (by omega)) (fun c o hc e => ?_) (fun c e => ?_) upd_same
      · rw [upd_ne hc]; exact g.hh c o hc e
      · by_cases z : c = p
        · subst z; rw [upd_same]; exact fun z => nomatch z
        · rw [upd_ne z]; exact g.dm c e
  | false =>
    rw [if_neg Bool.false_ne_true]
    have d1 := den_op (Z := Zp p (.lst [.int a, .int b])) (ρ := startR ["pot", "many", "digit"] [pRef p, pI many]) (den_callB (den_cons (den_op (den_op (den_pix (K := K) (i := 0) (z := 1) (j := 1) rfl rfl rfl) (den_v (v := .int 40692)) (opd_I (C := CMulW) (g := fun i j => .int (i * j)) (mulT (i := 32) (j := 16) (by omega) (by decide)))) (den_v (v := .int 9619)) (opd_I0 (g := fun i j => .int (i + j)))) den_nil) cd_int) (den_v (v := .int 2147483563)) (opd_I (C := fun _ j => 0 < j) (g := fun i j => .int (i % j)) (by decide))
    refine d1 F1 H1 _ e1 k1 _ fun v F2 H2 g2 k2 ev => ?_
    have ev : v = .int ((b * 40692 + 9619) % 2147483563) := ev
    subst ev
    have hp2 : H2 p = some (.lst [.int a, .int b]) := k2.j
    have g := g1.trans g2
    refine ⟨_, rfl, p, _, 1, 1, rfl, rfl, hp2, rfl, ?_⟩
    have b0 : 0 ≤ (b * 40692 + 9619) % 2147483563 := Int.emod_nonneg _ (by decide)
    have b1 : (b * 40692 + 9619) % 2147483563 < 2147483563 := Int.emod_lt_of_pos _ (by decide)
    generalize (b * 40692 + 9619) % 2147483563 = b' at b0 b1 ⊢
    have k3 : Ok (Zp p (.lst [.int a, .int b'])) F2 (upd H2 p (.lst [.int a, .int b'])) := ⟨fun c o e => by
      have : c ≠ p := fun z => by rw [z, k2.fr p rfl] at e; cases e
      rw [upd_ne this]; exact k2.fh c o e, k2.fr, upd_same⟩
    have d2 := den_op (Z := Zp p (.lst [.int a, .int b'])) (ρ := startR ["pot", "many", "digit"] [pRef p, pI many]) (den_callB (den_cons (den_op (den_op (den_callB (den_cons (den_op (den_pix (K := K) (i := 0) (z := 1) (j := 1) rfl rfl rfl) (den_pix (K := K) (i := 0) (z := 1) (j := 1) rfl rfl rfl) (opd_I (C := CMulW) (g := fun i j => .int (i * j)) (mulT (i := 32) (j := 32) (by omega) (by omega)))) den_nil) cd_int) (den_v (v := .int 2147483549)) (opd_I (C := fun _ j => 0 < j) (g := fun i j => .int (i % j)) (by decide))) (den_v (v := .int 19)) (opd_I (C := CDivA) (g := fun i j => .int (i.fdiv j)) ⟨by decide, by decide⟩)) den_nil) cd_int) (den_var (i := 1) rfl) (opd_I (C := fun _ j => 0 < j) (g := fun i j => .int (i % j)) (i := (b' * b' % 2147483549).fdiv 19) (j := many) (by omega))
    refine d2 F2 _ _ (e1.mono g2.ff) k3 _ fun v F3 H3 g3 k4 ev => ?_
    have ev : v = .int ((b' * b' % 2147483549).fdiv 19 % many) := ev
    subst ev
    refine q a b' _ H3 ha b0 (by omega) (Int.emod_nonneg _ (by omega)) (Int.emod_lt_of_pos _ (by omega)) (fun c o hc e => ?_) (fun c e => ?_) k4.j
    · refine g3.hh c o hc ?_
      rw [upd_ne hc]
      exact g.hh c o hc e
    · refine g3.dm c ?_
      by_cases z : c = p
      · subst z; rw [upd_same]; exact fun z => nomatch z
      · rw [upd_ne z]; exact g.dm c e
end
end W
set_option Elab.async false
set_option linter.all false
set_option maxRecDepth 100000
set_option maxHeartbeats 4000000
namespace W
open PySem L2 Dn HM
/-! the plain law -/
theorem lb4 : LB 12 4 < 2 ^ 9000 := by decide +kernel
theorem fb4 : FB 12 4 < 2 ^ 900 := by decide +kernel
theorem sz4 : (1 + FB 12 4) ^ 4 * (1 + 144) * (1 + FB 12 4) ≤ 2 ^ 4000 := by decide +kernel
theorem cel_of_small {row : List Int} {B : Nat} (h : ∀ z ∈ row, z.natAbs ≤ B) (i : Nat) : (cel row i).natAbs ≤ B := by
  by_cases hi : i < row.length
  · exact h _ (List.mem_of_getElem? (cel_in hi))
  · rw [cel_out (by omega)]; exact Nat.zero_le _
theorem cel_mem {row : List Int} {i : Nat} (h : i < row.length) : cel row i ∈ row := List.mem_of_getElem? (cel_in h)
/-- sums -/
theorem sum_sumF : ∀ {row : List Int} {w : Nat}, row.length ≤ w → row.sum = dv w (cel row) fun i => 1
  | row, w, h => by
    have gen : ∀ (row : List Int), dot row (List.replicate row.length 1) = row.sum := by
      intro row
      induction row with
      | nil => rfl
      | cons a t ih =>
        show ((((a :: t).zip (1 :: List.replicate t.length 1)).map fun p => p.1 * p.2).sum) = _
        rw [List.zip_cons_cons, List.map_cons, List.sum_cons, List.sum_cons]
        show a * 1 + dot t _ = _
        rw [ih, Int.mul_one]
    rw [← gen, dot_eq h]
    refine sumF_congr fun i hi => ?_
    by_cases q : i < row.length
    · have : cel (List.replicate row.length 1) i = 1 := by
        unfold cel
        rw [List.getD_eq_getElem?_getD, List.getElem?_replicate, if_pos q]
        rfl
      rw [this]
    · rw [cel_out (row := row) (by omega), Int.zero_mul, Int.zero_mul]
theorem sumF_bd {C : Nat} : ∀ {w : Nat} {g : Nat → Int}, (∀ i, (g i).natAbs ≤ C) → (sumF w g).natAbs ≤ w * C
  | 0, _, _ => by show (0 : Int).natAbs ≤ _; omega
  | w + 1, g, h => by
    have ih := sumF_bd (w := w) (g := fun i => g (i + 1)) fun i => h (i + 1)
    have h0 := h 0
    show (g 0 + sumF w fun i => g (i + 1)).natAbs ≤ _
    rw [Nat.add_mul, Nat.one_mul]
    omega
theorem dv_bd {u v : Vec} {A B : Nat} (hu : ∀ i, (u i).natAbs ≤ A) (hv : ∀ i, (v i).natAbs ≤ B) (w : Nat) : (dv w u v).natAbs ≤ w * (A * B) :=
  sumF_bd fun i => by rw [Int.natAbs_mul]; exact Nat.mul_le_mul (hu i) (hv i)
/-- what is drawn -/
structure Cs (w : Nat) (rows : List (List Int)) (some_ : List Int) : Prop where
  w2 : 2 ≤ w
  w4 : w ≤ 4
  n1 : 1 ≤ rows.length
  n3 : rows.length ≤ 3
  rl : ∀ r ∈ rows, r.length = w
  rb : ∀ r ∈ rows, ∀ z ∈ r, z.natAbs ≤ 4
  sl : some_.length = w
  sb : ∀ z ∈ some_, z.natAbs ≤ 3
/-- any system of rows that wide with numbers to 12 -/
theorem sys_of {w : Nat} {rows : List (List Int)} (h1 : 1 ≤ w) (h4 : w ≤ 4) (hc : rows.length ≤ 60) (hl : ∀ r ∈ rows, r.length = w) (hb : ∀ r ∈ rows, ∀ z ∈ r, z.natAbs ≤ 12) : Sys w 12 rows :=
  ⟨by decide, hl, fun r m i => cel_of_small (hb r m) i, hc, ⟨h1, by omega⟩, Nat.lt_of_le_of_lt (LB_mono (by decide) h4) lb4, Nat.lt_of_le_of_lt (FB_mono (by decide) h4) (Nat.lt_of_lt_of_le fb4 (pw (by decide)))⟩
theorem had_of {w : Nat} {rows : List (List Int)} {x goals : List Int} (S : Sys w 12 rows) (h4 : w ≤ 4) (hne : rows ≠ []) (xl : x.length = w) (hg : goals = rows.map fun r => dot r x) (hs : ∀ i, (cel goals i).natAbs ≤ 144) : Had rows w 12 goals x := by
  refine ⟨S, hne, xl, by rw [hg, List.length_map], fun i hi => ?_, 144, hs, ?_⟩
  · have e : goals[i]? = some (dot (rows.getD i []) x) := by rw [hg, List.getElem?_map, get_getD hi (d := [])]; rfl
    unfold cel
    rw [List.getD_eq_getElem?_getD, e]
    exact dot_eq (by rw [S.len _ (cel_getD_mem hi)]; exact Nat.le_refl _)
  · refine Nat.le_trans ?_ sz4
    have a : FB 12 w ≤ FB 12 4 := FB_mono (by decide) h4
    refine Nat.mul_le_mul (Nat.mul_le_mul_right _ ?_) (by omega)
    exact Nat.le_trans (Nat.pow_le_pow_left (by omega) w) (Nat.pow_le_pow_right (by omega) h4)
/-- solved: as the program tells it -/
theorem solved_iff {w : Nat} {rows : List (List Int)} {x goals : List Int} (hl : ∀ r ∈ rows, r.length = w) (gl : goals.length = rows.length) : (rows.map fun r => dot r x) = goals ↔ ∀ i, i < rows.length → dv w (cel (rows.getD i [])) (cel x) = cel goals i := by
  constructor
  · rintro e i hi
    rw [← e]
    unfold cel
    rw [List.getD_eq_getElem?_getD (l := List.map _ _), List.getElem?_map, get_getD hi (d := [])]
    exact (dot_eq (by rw [hl _ (cel_getD_mem hi)]; exact Nat.le_refl _)).symm
  · intro h
    refine List.ext_getElem (by rw [List.length_map, gl]) fun i h1 h2 => ?_
    rw [List.length_map] at h1
    have a := h i h1
    have b := cel_in (row := goals) (i := i) h2
    rw [List.getElem?_eq_getElem h2] at b
    rw [List.getElem_map, Option.some.inj b, ← a, dot_eq (w := w) (by rw [hl _ (List.getElem_mem h1)]; exact Nat.le_refl _)]
    rw [List.getD_eq_getElem?_getD, List.getElem?_eq_getElem h1]
    rfl
theorem made_small {m : Nat} : ∀ (l : List (Int × List Int)), (∀ q ∈ l, q.1.natAbs < 2 ^ 4000 ∧ Small 900 q.2) → ∀ (found : List Int) (a : Nat), 5000 ≤ a → Small a found → Small (a + l.length) (l.foldl (madeStep m) found)
  | [], _, found, a, _, h => h
  | (c, hd) :: t, hl, found, a, ha, h => by
    show Small (a + (t.length + 1)) (t.foldl (madeStep m) (madeStep m found (c, hd)))
    rw [show a + (t.length + 1) = (a + 1) + t.length by omega]
    refine made_small t (fun q m => hl q (List.mem_cons_of_mem _ m)) _ (a + 1) (by omega) ?_
    obtain ⟨h1, h2⟩ := hl (c, hd) List.mem_cons_self
    intro z hz
    obtain ⟨y, hy, rfl⟩ := List.mem_map.mp hz
    obtain ⟨m1, m2⟩ := List.of_mem_zip hy
    have b1 := h _ m1
    have b2 := h2 _ (List.mem_of_mem_drop m2)
    have b3 : (c * y.2).natAbs < 2 ^ a := by
      rw [Int.natAbs_mul]
      refine Nat.lt_of_le_of_lt (Nat.mul_le_mul (Nat.le_of_lt h1) (Nat.le_of_lt b2)) ?_
      rw [← Nat.pow_add]
      exact Nat.pow_lt_pow_right (by decide) (by omega)
    show (y.1 + c * y.2).natAbs < _
    rw [Nat.pow_succ]
    omega
theorem sol_small {w : Nat} {rows : List (List Int)} {x goals : List Int} (H : Had rows w 12 goals x) (h4 : w ≤ 4) : Small 6000 (solOf rows w goals) := by
  have L := H.sys.li
  have d := H.hd
  have fl := d.fl
  rw [solOf_eq L]
  intro z hz
  have := made_small (m := rows.length) ((csOf ((ladOf rows w).found.zip (ladOf rows w).places) goals).zip (rws ((ladOf rows w).found.zip (ladOf rows w).places))) (fun q m => ⟨cs_small d.ex d.sh _ (List.of_mem_zip m).1, ?_⟩) (List.replicate w 0) 5000 (Nat.le_refl _) (fun z m => by rw [List.eq_of_mem_replicate m]; exact Nat.pow_pos (by decide)) z hz
  · refine Nat.lt_of_lt_of_le this (pw ?_)
    rw [List.length_zip, csOf_len, d.zl]
    omega
  · have m2 := (List.of_mem_zip m).2
    rw [zip_fst L.eq] at m2
    refine small_of fun i => ?_
    exact Nat.lt_of_le_of_lt (Nat.le_trans (L.bf _ m2 i) (FB_mono (by decide) (by omega))) fb4
/-- the kernel's rows -/
theorem ker_facts {w : Nat} {rows : List (List Int)} (S : Sys w 12 rows) (h4 : w ≤ 4) : ∃ E : List (List Int × Nat), kerOf rows w = rws E ∧ Ech 0 E ∧ (∀ q ∈ E, q.1.length = w ∧ q.2 < w ∧ Small 900 q.1) ∧ E.length ≤ 4 := by
  obtain ⟨k1, ⟨places, k2, k3, k4⟩, _⟩ := ker_ok (w := w) S.pos S.bd
  obtain ⟨k, kw, kc, kl, kb⟩ := ker_lad (w := w) S.pos S.bd
  have L := lad_ok (LB_pos S.pos k) kl kb w
  have ct := L.ct
  rw [List.length_map] at ct
  have cl : (kerOf rows w).length ≤ w - k := by
    show (laddered _ w).found.length ≤ _
    omega
  refine ⟨(kerOf rows w).zip places, (zip_fst k2).symm, k3, fun q m => ⟨k1 _ (List.of_mem_zip m).1, k4 _ (List.of_mem_zip m).2, small_of fun i => ?_⟩, ?_⟩
  · refine Nat.lt_of_le_of_lt (L.bf q.1 (List.of_mem_zip m).1 i) (Nat.lt_of_le_of_lt ?_ fb4)
    refine Nat.le_trans (Nat.le_mul_of_pos_left _ (FB_pos (M := 12) (by decide) k)) ?_
    rw [FB_add]
    exact FB_mono (by decide) (by show k + (kerOf rows w).length ≤ 4; omega)
  · rw [List.length_zip]
    omega
theorem red_small {p n a b : Nat} {base row : List Int} (l1 : base.length = n) (l2 : row.length = n) (h0 : cel base p ≠ 0) (hb : Small b base) (hr : Small a row) (hab : b ≤ a) (ha : 0 < a) : Small (a + b + 2) (red p base row) := by
  have cb : ∀ i, (cel base i).natAbs < 2 ^ b := fun i => by
    by_cases hi : i < base.length
    · exact hb _ (cel_mem hi)
    · rw [cel_out (by omega)]; exact Nat.pow_pos (by decide)
  have cr : ∀ i, (cel row i).natAbs < 2 ^ a := fun i => by
    by_cases hi : i < row.length
    · exact hr _ (cel_mem hi)
    · rw [cel_out (by omega)]; exact Nat.pow_pos (by decide)
  refine small_of fun i => ?_
  unfold red
  rw [cel_lessRow (by omega)]
  have q := fdiv_bd (k := a) h0 (cr p) (Nat.lt_of_lt_of_le (cb p) (pw hab))
  have m : ((cel row p).fdiv (cel base p) * cel base i).natAbs < 2 ^ (a + 1 + b) := by
    rw [Int.natAbs_mul, Nat.pow_add]
    exact Nat.mul_lt_mul_of_lt_of_le q (Nat.le_of_lt (cb i)) (Nat.pow_pos (by decide))
  have r := Nat.lt_of_lt_of_le (cr i) (pw (show a ≤ a + 1 + b by omega))
  rw [show a + b + 2 = (a + 1 + b) + 1 by omega, Nat.pow_succ]
  generalize (cel row p).fdiv (cel base p) * cel base i = t at m ⊢
  omega
theorem off_small {w : Nat} : ∀ {E : List (List Int × Nat)} {l a : Nat} {v : List Int}, Ech l E → (∀ q ∈ E, q.1.length = w ∧ q.2 < w ∧ Small 900 q.1) → v.length = w → 900 ≤ a → Small a v → Small (a + E.length * 902) (offOf E v)
  | [], _, a, v, _, _, _, _, h => by
    show Small (a + 0 * 902) v
    rw [Nat.zero_mul]
    exact h
  | (h, p) :: t, l, a, v, ⟨a1, b, c, d, e⟩, hE, lv, ha, hs => by
    obtain ⟨h1, h2, h3⟩ := hE (h, p) List.mem_cons_self
    show Small (a + (t.length + 1) * 902) (offOf t (red p h v))
    rw [show a + (t.length + 1) * 902 = (a + 900 + 2) + t.length * 902 by omega]
    exact off_small e (fun q m => hE q (List.mem_cons_of_mem _ m)) (red_len h1 lv) (by omega) (red_small h1 lv (by omega) h3 hs ha (by omega))
theorem ech_take : ∀ {E : List (List Int × Nat)} {l : Nat} (i : Nat), Ech l E → Ech l (E.take i)
  | [], _, i, h => by rw [List.take_nil]; exact h
  | _ :: _, _, 0, _ => trivial
  | (h, p) :: t, l, i + 1, ⟨a, b, c, d, e⟩ => ⟨a, b, c, fun q m => d q (List.mem_of_mem_take m), ech_take i e⟩
/-- two solutions differ by what the kernel makes -/
theorem differ_iff {w : Nat} {rows : List (List Int)} {E : List (List Int × Nat)} {told goals value dif : List Int} (S : Sys w 12 rows) (hE : kerOf rows w = rws E) (ech : Ech 0 E) (hq : ∀ q ∈ E, q.1.length = w ∧ q.2 < w ∧ Small 900 q.1)
    (gl : goals.length = rows.length) (ht : ∀ i, i < rows.length → dv w (cel (rows.getD i [])) (cel told) = cel goals i) (dl : dif.length = w) (hd : ∀ i, cel dif i = cel value i - cel told i) :
    (∀ x ∈ offOf E dif, x = 0) ↔ (rows.map fun r => dot r value) = goals := by
  rw [off_iff ech (fun q m => (hq q m).1) dl, ← hE, (ker_ok (w := w) S.pos S.bd).2.2, solved_iff S.len gl]
  have lin : ∀ r : Vec, dv w r (cel dif) = dv w r (cel value) - dv w r (cel told) := fun r => by
    have : dv w r (cel dif) = dv w r fun i => cel value i + (-1) * cel told i := dv_congr fun i _ => by rw [hd]; omega
    rw [this, dv_lin]
    omega
  constructor
  · rintro ⟨_, k⟩ i hi
    have a := k _ (cel_getD_mem hi)
    rw [lin, ht i hi] at a
    omega
  · intro k
    refine ⟨fun j hj => cel_out (by omega), fun r m => ?_⟩
    obtain ⟨i, hi, rfl⟩ := getD_mem m
    rw [lin, ht i hi, k i hi]
    omega
/-- one more row that says nothing new -/
theorem ker_more {w : Nat} {rows : List (List Int)} {r : List Int} {i j : Nat} {c : Int} (S : Sys w 12 rows) (S2 : Sys w 12 (rows ++ [r]).reverse) (hi : i < rows.length) (hj : j < rows.length) (hr : ∀ k, cel r k = cel (rows.getD i []) k + c * cel (rows.getD j []) k) : kerOf (rows ++ [r]).reverse w = kerOf rows w := by
  refine ker_one S2.pos S.pos S2.bd S.bd fun x => ?_
  constructor
  · rintro ⟨a, b⟩
    exact ⟨a, fun r m => b r (List.mem_reverse.mpr (List.mem_append_left _ m))⟩
  · rintro ⟨a, b⟩
    refine ⟨a, fun q m => ?_⟩
    rcases List.mem_append.mp (List.mem_reverse.mp m) with z | z
    · exact b q z
    · rw [List.mem_singleton.mp z]
      have e : dv w (cel r) x = dv w (fun k => cel (rows.getD i []) k + c * cel (rows.getD j []) k) x := by
        refine sumF_congr fun k _ => ?_
        rw [hr]
      rw [e, dv_linL, b _ (cel_getD_mem hi), b _ (cel_getD_mem hj)]
      simp
/-- the last question -/
theorem last_iff {w : Nat} {rows : List (List Int)} {told up goals : List Int} (hl : ∀ r ∈ rows, r.length = w) (gl : goals.length = rows.length) (ht : ∀ i, i < rows.length → dv w (cel (rows.getD i [])) (cel told) = cel goals i) (tl : told.length = w) (hu : up = told.map fun z => z + 1) :
    decide ((rows.map fun r => dot r up) = goals) = rows.all fun r => decide (r.sum = 0) := by
  refine Bool.eq_iff_iff.mpr ?_
  rw [decide_eq_true_iff, List.all_eq_true, solved_iff hl gl]
  have cu : ∀ i, i < w → cel up i = cel told i + 1 * 1 := fun i hi => by
    have e : up[i]? = some (cel told i + 1) := by rw [hu, List.getElem?_map, cel_in (by omega)]; rfl
    have e2 := cel_in (row := up) (i := i) (by rw [hu, List.length_map]; omega)
    rw [e] at e2
    rw [← Option.some.inj e2]
    omega
  have lin : ∀ i, i < rows.length → dv w (cel (rows.getD i [])) (cel up) = cel goals i + (rows.getD i []).sum := fun i hi => by
    have e : dv w (cel (rows.getD i [])) (cel up) = dv w (cel (rows.getD i [])) fun k => cel told k + 1 * (fun _ => (1 : Int)) k := dv_congr cu
    rw [e, dv_lin, ht i hi, sum_sumF (w := w) (by rw [hl _ (cel_getD_mem hi)]; exact Nat.le_refl _)]
    omega
  constructor
  · intro k r m
    obtain ⟨i, hi, rfl⟩ := getD_mem m
    have a := k i hi
    rw [lin i hi] at a
    exact decide_eq_true (by omega)
  · intro k i hi
    have a := of_decide_eq_true (k _ (cel_getD_mem hi))
    rw [lin i hi, a]
    omega
end W
set_option Elab.async false
set_option linter.all false
set_option maxRecDepth 100000
set_option maxHeartbeats 4000000
namespace Dn
open PySem L2
def Zpot (p : Addr) : Zx := ⟨fun b => b = p, fun H => ∃ a b : Int, H p = some (.lst [.int a, .int b]) ∧ 0 ≤ a ∧ 0 ≤ b ∧ b < 4294967296, fun h ⟨a, b, e, z⟩ => ⟨a, b, by rw [h p rfl]; exact e, z⟩, fun {H c} ⟨a, b, e, _⟩ t => by
  have t : c = p := t
  rw [t, e]; exact fun z => nomatch z⟩
section
variable {Z : Zx} {ρ : Rho} {α : Type} {op : R2} {P : α → Prop} {f g : α → RP} {r1 r : RP}
theorem opd_X2 (h : ∀ x, P x → OpD op r1 (f x) (g x)) : OpD op r1 (pX P f) (pX P g) := fun F H x y s hx ⟨z, p, hz⟩ Q q => h z p F H x y s hx hz Q fun v F' H' g' s' rv => q v F' H' g' s' ⟨z, p, rv⟩
theorem opd_X1 (h : ∀ x, P x → OpD op (f x) r1 (g x)) : OpD op (pX P f) r1 (pX P g) := fun F H x y s ⟨z, p, hz⟩ hy Q q => h z p F H x y s hz hy Q fun v F' H' g' s' rv => q v F' H' g' s' ⟨z, p, rv⟩
theorem opd_notB {a b : Bool} : OpD rNotB (pB a) (pB b) (pB (!decide (a = b))) := fun F H x y s hx hy Q q => ⟨a, b, hx, hy, q _ F H (Go.refl F H) s rfl⟩
theorem vrs_X {β : Type} {F : Hp} : ∀ {xs : List β} {vs : List V}, Vrs F vs (xs.map fun _ => pX P f) → ∃ l : List α, l.length = xs.length ∧ (∀ x ∈ l, P x) ∧ Vrs F vs (l.map f)
  | [], [], _ => ⟨[], rfl, (fun _ m => nomatch m), trivial⟩
  | x :: xs, v :: vs, ⟨⟨a, pa, ra⟩, h⟩ => by
    obtain ⟨l, l1, l2, l3⟩ := vrs_X h
    refine ⟨a :: l, by rw [List.length_cons, List.length_cons, l1], fun x m => ?_, ra, l3⟩
    rcases List.mem_cons.mp m with e | e
    · rw [e]; exact pa
    · exact l2 x e
  | [], _ :: _, h => h.elim
  | _ :: _, [], h => h.elim
theorem plx {β : Type} {xs : List β} : ∀ F v, (pLm (fun _ : β => pX P f) xs).R F v → (pX (fun l : List α => l.length = xs.length ∧ ∀ x ∈ l, P x) (pLm f)).R F v := fun F v ⟨a, vs, e, h, hv⟩ => by
  obtain ⟨l, l1, l2, l3⟩ := vrs_X hv
  exact ⟨l, ⟨l1, l2⟩, a, vs, e, h, l3⟩
theorem den_rngX {h : α → Int} {tn te : TE} {tg : TG} {tt : TT} {vs : List Nat} (hn : Den Z tn ρ (pX P fun a => pI (h a))) (k : ∀ x, P x → Den Z (tLc (iRng1 (tCons (tC (.int (h x))) tNil)) tg tt te vs) ρ r) : Den Z (tLc (iRng1 (tCons tn tNil)) tg tt te vs) ρ r := fun F H σ env ok Q q =>
  hn F H σ env ok _ fun v F1 H1 g1 k1 ⟨x, px, ev⟩ => by
    have ev : v = .int (h x) := ev
    subst ev
    exact k x px F1 H1 σ (env.mono g1.ff) k1 Q fun v F' H' g' k' rv => q v F' H' (g1.trans g') k' rv
end
end Dn
namespace W
open PySem L2 Dn HM
theorem den_draw {ρ : Rho} {p : Addr} {te : TE} {many : Int} {i : Nat} {E : XK} (hi : ρ[i]? = some (some (pRef p))) (ht : Den (Zpot p) te ρ (pI many)) (h1 : 1 ≤ many) (h2 : many ≤ 1000) : Den (Zpot p) (tCall spDraw [] E (tCons (tVar i) (tCons te tNil))) ρ (pX (fun r : Int => 0 ≤ r ∧ r < many) pI) := fun F H σ env ok Q q => by
  obtain ⟨w, e1, e2⟩ := env.at_ i _ hi
  have e2 : w = .ref p := e2
  subst e2
  refine ⟨_, e1, ht F H σ env ok _ fun v F1 H1 g1 k1 ev => ?_⟩
  have ev : v = .int many := ev
  subst ev
  obtain ⟨a, b, ep, ha, hb, hb2⟩ := k1.j
  refine ⟨p, a, b, many, rfl, ep, ha, hb, hb2, h1, h2, fun a' b' r H' ha' hb' hb2' hr0 hr1 hh hd hp => ?_⟩
  refine q (.int r) F1 H' (g1.trans ⟨fun _ _ e => e, fun c o hc e => hh c o hc e, fun c o e => .inl e, hd⟩) ⟨fun c o e => hh c o (fun z => by rw [z, k1.fr p rfl] at e; cases e) (k1.fh c o e), k1.fr, a', b', hp, ha', hb', hb2'⟩ ⟨r, ⟨hr0, hr1⟩, rfl⟩
section
variable {K : PySem.W.Frag} {mg : Str → Option Value}
theorem q_law_right (X : Fx K) (p : Addr) : Tr (Zpot p) (t_law_right K) (startR ["pot", "width", "rows", "some", "goals", "told", "kernel", "at", "many", "more", "wider", "value", "due", "turn", "place", "row", "one", "two"] [pRef p]) [] No (pB true) := by
  -- the width
  refine tr_seqI (tr_asg (r := pX (fun r : Int => 0 ≤ r ∧ r < 3) fun r => pI (2 + r)) (den_op (den_v (v := .int 2)) (den_draw (i := 0) rfl (den_v (v := .int 3)) (by decide) (by decide)) (opd_X2 fun x _ => opd_I0))) ?_
  refine tr_open (i := 1) rfl fun rw_ hrw => ?_
  obtain ⟨w, hw⟩ : ∃ w : Nat, 2 + rw_ = (w : Int) := ⟨(2 + rw_).toNat, by omega⟩
  have w2 : 2 ≤ w := by omega
  have w4 : w ≤ 4 := by omega
  rw [hw]
  -- the rows
  refine tr_seqI (tr_asg (r := pX (fun rows : List (List Int) => (1 ≤ rows.length ∧ rows.length ≤ 3) ∧ ∀ r ∈ rows, r.length = w ∧ ∀ z ∈ r, z.natAbs ≤ 4) pIss) (den_rngX (P := fun r : Int => 0 ≤ r ∧ r < 3) (h := fun r => 1 + r) (den_op (den_v (v := .int 1)) (den_draw (i := 0) rfl (den_v (v := .int 3)) (by decide) (by decide)) (opd_X2 fun x _ => opd_I0)) fun rn hrn => ?_)) ?_
  · obtain ⟨n, hn⟩ : ∃ n : Nat, 1 + rn = (n : Int) := ⟨(1 + rn).toNat, by omega⟩
    rw [hn]
    refine den_imp (den_imp (den_map (List.range n) (fun k : Nat => pI (k : Int)) (fun _ => pX (fun r : List Int => r.length = w ∧ ∀ z ∈ r, z.natAbs ≤ 4) pIs) (deni_rngN (den_cons den_v den_nil) (by omega)) (fun k _ => ⟨_, deng_name (by decide), ?_⟩) (sz (by rw [List.length_range]; omega))) plx) ?_
    · refine den_imp (den_imp (den_map (List.range w) (fun k : Nat => pI (k : Int)) (fun _ => pX (fun z : Int => z.natAbs ≤ 4) pI) (deni_rngN (den_cons (den_var (i := 1) rfl) den_nil) (by omega)) (fun k _ => ⟨_, deng_name (by decide), den_imp (den_op (den_draw (i := 0) rfl (den_v (v := .int 9)) (by decide) (by decide)) (den_v (v := .int 4)) (opd_X1 (g := fun x : Int => pI (x - 4)) fun x _ => opd_I0)) ?_⟩) (sz (by rw [List.length_range]; omega))) plx) ?_
      · rintro F v ⟨x, hx, e⟩
        exact ⟨x - 4, by omega, e⟩
      · rintro F v ⟨l, ⟨h1, h2⟩, e⟩
        exact ⟨l, ⟨by rw [h1, List.length_range], h2⟩, e⟩
    · rintro F v ⟨l, ⟨h1, h2⟩, e⟩
      rw [List.length_range] at h1
      exact ⟨l, ⟨by omega, h2⟩, e⟩
  refine tr_open (i := 2) rfl fun rows ⟨⟨n1, n3⟩, hrows⟩ => ?_
  show Tr (Zpot p) _ [some (pRef p), some (pI (w : Int)), some (pIss rows), none, none, none, none, none, none, none, none, none, none, none, none, none, none, none] [] No (pB true)
  -- some
  refine tr_seqI (tr_asg (r := pX (fun l : List Int => l.length = w ∧ ∀ z ∈ l, z.natAbs ≤ 3) pIs) (den_imp (den_imp (den_map (List.range w) (fun k : Nat => pI (k : Int)) (fun _ => pX (fun z : Int => z.natAbs ≤ 3) pI) (deni_rngN (den_cons (den_var (i := 1) rfl) den_nil) (by omega)) (fun k _ => ⟨_, deng_name (by decide), den_imp (den_op (den_draw (i := 0) rfl (den_v (v := .int 7)) (by decide) (by decide)) (den_v (v := .int 3)) (opd_X1 (g := fun x : Int => pI (x - 3)) fun x _ => opd_I0)) ?_⟩) (sz (by rw [List.length_range]; omega))) plx) ?_)) ?_
  · rintro F v ⟨x, hx, e⟩
    exact ⟨x - 3, by omega, e⟩
  · rintro F v ⟨l, ⟨h1, h2⟩, e⟩
    exact ⟨l, ⟨by rw [h1, List.length_range], h2⟩, e⟩
  refine tr_open (i := 3) rfl fun some_ ⟨sl, sb⟩ => ?_
  -- plain facts
  have hlen : ∀ r ∈ rows, r.length = w := fun r m => (hrows r m).1
  have hb4 : ∀ r ∈ rows, ∀ z ∈ r, z.natAbs ≤ 4 := fun r m => (hrows r m).2
  have h0 : 0 < rows.length := n1
  have hne : rows ≠ [] := List.length_pos_iff.mp h0
  have S : Sys w 12 rows := sys_of (by omega) w4 (by omega) hlen fun r m z hz => Nat.le_trans (hb4 r m z hz) (by decide)
  have sm : ∀ r ∈ rows, ∀ k, 3 ≤ k → Small k r := fun r m k hk z hz => Nat.lt_of_le_of_lt (hb4 r m z hz) (Nat.lt_of_lt_of_le (by decide : 4 < 2 ^ 3) (pw hk))
  have ss : Small 3 some_ := fun z hz => Nat.lt_of_le_of_lt (sb z hz) (by decide)
  have cr4 : ∀ i k, (cel (rows.getD i []) k).natAbs ≤ 4 := fun i k => by
    by_cases hi : i < rows.length
    · exact cel_of_small (hb4 _ (cel_getD_mem hi)) k
    · rw [List.getD_eq_getElem?_getD, List.getElem?_eq_none (by omega)]
      show (cel [] k).natAbs ≤ 4
      rw [cel_out (Nat.zero_le _)]
      decide
  show Tr (Zpot p) _ [some (pRef p), some (pI (w : Int)), some (pIss rows), some (pIs some_), none, none, none, none, none, none, none, none, none, none, none, none, none, none] [] No (pB true)
  -- goals
  refine tr_seqI (tr_asg (r := pIs (rows.map fun r => dot r some_)) (den_re (den_map rows pIs (fun r => pI (dot r some_)) (deni_list (den_var (i := 2) rfl)) (fun r hr => ⟨_, deng_name (by decide), den_dot (a := 3) (b := 3) rfl rfl (fun _ _ => rfl) (fun _ _ => rfl) (by rw [hlen r hr]; omega) (sm r hr 3 (by decide)) ss (by decide) (by decide) (by decide)⟩) (sz (by omega))) (pLm_map pI (fun r => dot r some_) rows))) ?_
  obtain ⟨goals, hg⟩ : ∃ goals, goals = rows.map fun r => dot r some_ := ⟨_, rfl⟩
  rw [← hg]
  show Tr (Zpot p) _ [some (pRef p), some (pI (w : Int)), some (pIss rows), some (pIs some_), some (pIs goals), none, none, none, none, none, none, none, none, none, none, none, none, none] [] No (pB true)
  have gl : goals.length = rows.length := by rw [hg, List.length_map]
  have gb : ∀ i, (cel goals i).natAbs ≤ 48 := fun i => by
    by_cases hi : i < rows.length
    · have e : goals[i]? = some (dot (rows.getD i []) some_) := by rw [hg, List.getElem?_map, get_getD hi (d := [])]; rfl
      have e2 : cel goals i = dot (rows.getD i []) some_ := by
        unfold cel
        rw [List.getD_eq_getElem?_getD, e]
        rfl
      rw [e2, dot_eq (w := w) (by rw [hlen _ (cel_getD_mem hi)]; exact Nat.le_refl _)]
      refine Nat.le_trans (dv_bd (cr4 i) (cel_of_small sb) w) ?_
      omega
    · rw [cel_out (by omega)]; decide
  have Hd : Had rows w 12 goals some_ := had_of S w4 hne sl hg fun i => Nat.le_trans (gb i) (by decide)
  obtain ⟨sol1, sol2⟩ := sol_ok Hd
  have sol3 := sol_small Hd w4
  obtain ⟨E, hE, ech, hq, hE4⟩ := ker_facts S w4
  refine tr_seqI (tr_par (r1 := pIs (solOf rows w goals)) (r2 := pIss (kerOf rows w)) (den_call (den_cons (den_var (i := 2) rfl) (den_cons (den_var (i := 4) rfl) den_nil)) ⟨rows, w, 12, goals, some_, rfl, Hd, rfl⟩) (den_call (den_cons (den_var (i := 2) rfl) (den_cons (den_var (i := 1) rfl) den_nil)) ⟨rows, w, 12, rfl, S, rfl⟩)) ?_
  generalize solOf rows w goals = told at sol1 sol2 sol3 ⊢
  show Tr (Zpot p) _ [some (pRef p), some (pI (w : Int)), some (pIss rows), some (pIs some_), some (pIs goals), some (pIs told), some (pIss (kerOf rows w)), none, none, none, none, none, none, none, none, none, none, none] [] No (pB true)
  refine tr_seqI (tr_skip (dent_or (dent_val (den_isN (r := pIs told) (b := false) (den_var (i := 5) rfl) fun F v h => by obtain ⟨a, us, e, _⟩ := h; rw [e]; rfl)) fun _ => dent_val (den_notN (b := true) (den_callN0 (ks := [pIs goals, pIss rows]) (gR := [pIss rows, pIs goals]) (den_cons (den_var (i := 4) rfl) (den_cons (den_var (i := 2) rfl) den_nil)) rfl (fun F zs h => h.rev) (show C_whole_bar K [pIss rows, pIs goals] pNon from ⟨rows, w, 12, goals, some_, rfl, Hd, rfl⟩)) fun F v e => by cases e; rfl))) ?_
  -- at, many
  refine tr_seqI (tr_asgG (den_tup (rs := [pX (fun r : Int => 0 ≤ r ∧ r < (rows.length : Int)) pI, pX (fun z : Int => z.natAbs ≤ 2) pI]) (den_cons (den_draw (i := 0) rfl (den_re (den_callB (den_cons (den_var (i := 2) rfl) den_nil) cd_len) (by rw [List.length_map])) (by omega) (by omega)) (den_cons (den_imp (den_op (den_draw (i := 0) rfl (den_v (v := .int 5)) (by decide) (by decide)) (den_v (v := .int 2)) (opd_X1 (g := fun x : Int => pI (x - 2)) fun x _ => opd_I0)) ?_) den_nil)) (sz (by show 2 ≤ 100000; decide))) (deng_tup2 (vs := [7, 8]) (by decide) (by decide))) ?_
  · rintro F v ⟨x, hx, e⟩
    exact ⟨x - 2, by omega, e⟩
  refine tr_open (i := 7) rfl fun at_ hat => ?_
  refine tr_open (i := 8) rfl fun many hmany => ?_
  obtain ⟨j, rfl⟩ : ∃ j : Nat, at_ = (j : Int) := ⟨at_.toNat, by omega⟩
  show Tr (Zpot p) _ [some (pRef p), some (pI (w : Int)), some (pIss rows), some (pIs some_), some (pIs goals), some (pIs told), some (pIss (kerOf rows w)), some (pI (j : Int)), some (pI many), none, none, none, none, none, none, none, none, none] [] No (pB true)
  have hj : j < rows.length := by omega
  have sm2 : many.natAbs < 2 ^ 3 := by omega
  have l0 : (rows.getD 0 []).length = w := hlen _ (cel_getD_mem h0)
  have lj : (rows.getD j []).length = w := hlen _ (cel_getD_mem hj)
  -- one more row
  refine tr_seqI (tr_asg (r := pIss (rows ++ [((rows.getD 0 []).zip (rows.getD j [])).map fun y => y.1 + many * y.2])) (den_re (den_op (den_var (i := 2) rfl) (den_lst (rs := [pIs (((rows.getD 0 []).zip (rows.getD j [])).map fun y => y.1 + many * y.2)]) (den_cons (den_re (den_map ((rows.getD 0 []).zip (rows.getD j [])) (fun y => pT [pI y.1, pI y.2]) (fun y => pI (y.1 + many * y.2)) (deni_zip (f := pI) (g := pI) (den_cons (den_op (den_var (i := 2) rfl) (den_v (v := .int 0)) (opd_row (f := pIs) (i := 0) [] h0)) (den_cons (den_op (den_var (i := 2) rfl) (den_var (i := 7) rfl) (opd_row (f := pIs) [] hj)) den_nil))) ?_ ?_) (pLm_map pI (fun y : Int × Int => y.1 + many * y.2) _)) den_nil) (sz (by show 1 ≤ 100000; decide))) (opd_cat (sz ?_))) ?_)) ?_
  · intro y hy
    exact ⟨_, deng_tup2 (by decide) (by decide), den_op (den_var (i := 16) rfl) (den_op (den_var (i := 8) rfl) (den_var (i := 17) rfl) (opd_I (wide_mul sm2 (sm _ (cel_getD_mem hj) 3 (by decide) _ (List.of_mem_zip hy).2) (by decide) (by decide) (by decide)))) opd_I0⟩
  · refine sz ?_
    rw [List.length_zip]
    omega
  · rw [List.length_map]; show _ + 1 ≤ _; omega
  · show pL _ = pL _
    rw [List.map_append]
    rfl
  obtain ⟨nr, hnr⟩ : ∃ nr, nr = ((rows.getD 0 []).zip (rows.getD j [])).map fun y => y.1 + many * y.2 := ⟨_, rfl⟩
  rw [← hnr]
  show Tr (Zpot p) _ [some (pRef p), some (pI (w : Int)), some (pIss rows), some (pIs some_), some (pIs goals), some (pIs told), some (pIss (kerOf rows w)), some (pI (j : Int)), some (pI many), some (pIss (rows ++ [nr])), none, none, none, none, none, none, none, none] [] No (pB true)
  have nrl : nr.length = w := by rw [hnr, List.length_map, List.length_zip]; omega
  have nrc : ∀ k, cel nr k = cel (rows.getD 0 []) k + many * cel (rows.getD j []) k := fun k => by
    by_cases hk : k < w
    · have e : nr[k]? = some (cel (rows.getD 0 []) k + many * cel (rows.getD j []) k) := by
        rw [hnr, List.getElem?_map, show ((rows.getD 0 []).zip (rows.getD j []))[k]? = some (cel (rows.getD 0 []) k, cel (rows.getD j []) k) by
          rw [List.getElem?_zip_eq_some]
          exact ⟨cel_in (by omega), cel_in (by omega)⟩]
        rfl
      have e2 := cel_in (row := nr) (i := k) (by omega)
      rw [e] at e2
      exact (Option.some.inj e2).symm
    · rw [cel_out (by omega), cel_out (by omega), cel_out (by omega)]
      simp
  have nrb : ∀ z ∈ nr, z.natAbs ≤ 12 := fun z hz => by
    obtain ⟨k, hk⟩ := List.mem_iff_getElem?.mp hz
    have hkl := (List.getElem?_eq_some_iff.mp hk).1
    rw [cel_in hkl] at hk
    rw [← Option.some.inj hk, nrc]
    have a1 := cr4 0 k
    have a2 : (many * cel (rows.getD j []) k).natAbs ≤ 2 * 4 := by rw [Int.natAbs_mul]; exact Nat.mul_le_mul hmany (cr4 j k)
    omega
  have ml : ∀ r ∈ rows ++ [nr], r.length = w := fun r m => by
    rcases List.mem_append.mp m with z | z
    · exact hlen r z
    · rw [List.mem_singleton.mp z]; exact nrl
  have mb : ∀ r ∈ rows ++ [nr], ∀ z ∈ r, z.natAbs ≤ 12 := fun r m => by
    rcases List.mem_append.mp m with q | q
    · exact fun z hz => Nat.le_trans (hb4 r q z hz) (by decide)
    · rw [List.mem_singleton.mp q]; exact nrb
  have mc : (rows ++ [nr]).length = rows.length + 1 := by rw [List.length_append]; rfl
  have S2 : Sys w 12 (rows ++ [nr]) := sys_of (by omega) w4 (by omega) ml mb
  have S3 : Sys w 12 (rows ++ [nr]).reverse := sys_of (by omega) w4 (by rw [List.length_reverse]; omega) (fun r m => ml r (List.mem_reverse.mp m)) fun r m => mb r (List.mem_reverse.mp m)
  -- one more goal
  refine tr_seqI (tr_asg (r := pIs (goals ++ [cel goals 0 + many * cel goals j])) (den_re (den_op (den_var (i := 4) rfl) (den_lst (rs := [pI (cel goals 0 + many * cel goals j)]) (den_cons (den_op (den_op (den_var (i := 4) rfl) (den_v (v := .int 0)) (opd_cel (i := 0) (by omega))) (den_op (den_var (i := 8) rfl) (den_op (den_var (i := 4) rfl) (den_var (i := 7) rfl) (opd_cel (by omega))) (opd_I (wide_mul (b := 6) sm2 (Nat.lt_of_le_of_lt (gb j) (by decide)) (by decide) (by decide) (by decide)))) opd_I0) den_nil) (sz (by show 1 ≤ 100000; decide))) (opd_cat (sz ?_))) ?_)) ?_
  · rw [List.length_map]; show _ + 1 ≤ _; omega
  · show pL _ = pL _
    rw [List.map_append]
    rfl
  have hg2 : goals ++ [cel goals 0 + many * cel goals j] = (rows ++ [nr]).map fun r => dot r some_ := by
    rw [List.map_append, ← hg]
    congr 1
    show [_] = [_]
    congr 1
    have g0 := Hd.g 0 h0
    have gj := Hd.g j hj
    rw [g0, gj, show (fun r => dot r some_) nr = dv w (cel nr) (cel some_) from dot_eq (by omega), ← dv_linL]
    exact (sumF_congr fun k _ => by rw [nrc]).symm
  have g2b : ∀ i, (cel (goals ++ [cel goals 0 + many * cel goals j]) i).natAbs ≤ 144 := cel_of_small fun z hz => by
    rcases List.mem_append.mp hz with q | q
    · obtain ⟨k, hk⟩ := List.mem_iff_getElem?.mp q
      have hkl := (List.getElem?_eq_some_iff.mp hk).1
      rw [cel_in hkl] at hk
      rw [← Option.some.inj hk]
      exact Nat.le_trans (gb k) (by decide)
    · rw [List.mem_singleton.mp q]
      have a1 := gb 0
      have a2 : (many * cel goals j).natAbs ≤ 2 * 48 := by rw [Int.natAbs_mul]; exact Nat.mul_le_mul hmany (gb j)
      omega
  have mne : rows ++ [nr] ≠ [] := fun z => by have := congrArg List.length z; rw [mc] at this; exact nomatch this
  have Hd2 : Had (rows ++ [nr]) w 12 (goals ++ [cel goals 0 + many * cel goals j]) some_ := had_of S2 w4 mne sl hg2 g2b
  obtain ⟨tol1, tol2⟩ := sol_ok Hd2
  have tol3 := sol_small Hd2 w4
  have g2l : (goals ++ [cel goals 0 + many * cel goals j]).length = (rows ++ [nr]).length := Hd2.gl
  generalize goals ++ [cel goals 0 + many * cel goals j] = wider at Hd2 tol1 tol2 tol3 g2l ⊢
  show Tr (Zpot p) _ [some (pRef p), some (pI (w : Int)), some (pIss rows), some (pIs some_), some (pIs goals), some (pIs told), some (pIss (kerOf rows w)), some (pI (j : Int)), some (pI many), some (pIss (rows ++ [nr])), some (pIs wider), none, none, none, none, none, none, none] [] No (pB true)
  refine tr_seqI (tr_skip (dent_imp (dent_or (dent_test (den_op (r1 := pIss (kerOf (rows ++ [nr]).reverse w)) (r2 := pIss (kerOf rows w)) (den_call (rs := [pIss (rows ++ [nr]).reverse, pI (w : Int)]) (den_cons (den_re (den_revL (den_var (i := 9) rfl)) (by show pL _ = pL _; rw [List.map_reverse])) (den_cons (den_var (i := 1) rfl) den_nil)) ⟨_, w, 12, rfl, S3, rfl⟩) (den_var (i := 6) rfl) opd_neIss)) fun _ => dent_not (dent_val (den_call (rs := [pIss (rows ++ [nr]), pIs wider, pIs (solOf (rows ++ [nr]) w wider)]) (den_cons (den_var (i := 9) rfl) (den_cons (den_var (i := 10) rfl) (den_cons (den_callN0 (ks := [pIss (rows ++ [nr]), pIs wider]) (gR := [pIss (rows ++ [nr]), pIs wider]) (den_cons (den_var (i := 9) rfl) (den_cons (den_var (i := 10) rfl) den_nil)) rfl (fun F zs h => h) (show C_whole_solution K [pIss (rows ++ [nr]), pIs wider] (pIs (solOf (rows ++ [nr]) w wider)) from ⟨_, w, 12, _, some_, rfl, Hd2, rfl⟩)) den_nil)))
    ⟨_, w, _, _, rfl, S2.rw', mne, tol1, g2l, fun r m => fun z hz => Nat.lt_of_le_of_lt (mb r m z hz) (Nat.lt_of_lt_of_le (by decide : 12 < 2 ^ 4) (pw (by decide))), fun z hz => Nat.lt_of_lt_of_le (tol3 z hz) (pw (by decide)), rfl⟩))) fun b e => ?_)) ?_
  · rw [e, ker_more S S3 h0 hj nrc, decide_eq_true rfl, decide_eq_true ((solved_iff S2.len g2l).mpr tol2)]
    rfl
  -- all values
  refine tr_seq (tr_for (vs := [11]) (deni_list (f := pIs) (xs := listsOf w) (den_call (den_cons (den_var (i := 1) rfl) den_nil) ⟨w, rfl, w4, rfl⟩)) (fun i ρ' ms' => ms' = [] ∧ ∃ a11 a12, ρ' = [some (pRef p), some (pI (w : Int)), some (pIss rows), some (pIs some_), some (pIs goals), some (pIs told), some (pIss (kerOf rows w)), some (pI (j : Int)), some (pI many), some (pIss (rows ++ [nr])), some (pIs wider), a11, a12, none, none, none, none, none]) ⟨rfl, none, none, rfl⟩ ?_) ?_
  · intro i r hr
    obtain ⟨value, hx, rfl⟩ := map_get hr
    have hval : value.length = w ∧ ∀ z ∈ value, z.natAbs ≤ 3 := by
      have gen : ∀ n, ∀ l ∈ listsOf n, l.length = n ∧ ∀ z ∈ l, z.natAbs ≤ 3 := by
        intro n
        induction n with
        | zero =>
          intro l m
          rw [List.mem_singleton.mp m]
          exact ⟨rfl, fun _ m => nomatch m⟩
        | succ n ih =>
          intro l m
          obtain ⟨l2, m2, m3⟩ := List.mem_flatten.mp m
          obtain ⟨l3, m4, rfl⟩ := List.mem_map.mp m2
          obtain ⟨k, hk, rfl⟩ := List.mem_map.mp m3
          obtain ⟨i1, i2⟩ := ih l3 m4
          refine ⟨by rw [List.length_append, i1]; rfl, fun z hz => ?_⟩
          rcases List.mem_append.mp hz with q | q
          · exact i2 z q
          · rw [List.mem_singleton.mp q]
            have := List.mem_range.mp hk
            omega
      exact gen w value (List.mem_of_getElem? hx)
    obtain ⟨vl, vb⟩ := hval
    refine ⟨_, deng_name (by decide), ?_⟩
    rintro _ _ ⟨rfl, a11, a12, rfl⟩
    have sv : ∀ k, 2 ≤ k → Small k value := fun k hk z hz => Nat.lt_of_le_of_lt (vb z hz) (Nat.lt_of_lt_of_le (by decide : 3 < 2 ^ 2) (pw hk))
    refine tr_seqI (tr_asg (r := pB (decide ((rows.map fun r => dot r value) = goals))) (den_op (r1 := pIs (rows.map fun r => dot r value)) (r2 := pIs goals) (den_re (den_map rows pIs (fun r => pI (dot r value)) (deni_list (den_var (i := 2) rfl)) (fun r hr => ⟨_, deng_name (by decide), den_dot (a := 3) (b := 2) rfl rfl (fun _ _ => rfl) (fun _ _ => rfl) (by rw [hlen r hr]; omega) (sm r hr 3 (by decide)) (sv 2 (by decide)) (by decide) (by decide) (by decide)⟩) (sz (by omega))) (pLm_map pI (fun r => dot r value) rows)) (den_var (i := 4) rfl) opd_eqIs)) ?_
    obtain ⟨dif, hdif⟩ : ∃ dif, dif = (value.zip told).map fun y => y.1 - y.2 := ⟨_, rfl⟩
    have dl : dif.length = w := by rw [hdif, List.length_map, List.length_zip]; omega
    have dc : ∀ k, cel dif k = cel value k - cel told k := fun k => by
      by_cases hk : k < w
      · have e : dif[k]? = some (cel value k - cel told k) := by
          rw [hdif, List.getElem?_map, show (value.zip told)[k]? = some (cel value k, cel told k) by
            rw [List.getElem?_zip_eq_some]
            exact ⟨cel_in (by omega), cel_in (by omega)⟩]
          rfl
        have e2 := cel_in (row := dif) (i := k) (by omega)
        rw [e] at e2
        exact (Option.some.inj e2).symm
      · rw [cel_out (by omega), cel_out (by omega), cel_out (by omega)]
        rfl
    have ds : Small 6001 dif := fun z hz => by
      rw [hdif] at hz
      obtain ⟨y, hy, rfl⟩ := List.mem_map.mp hz
      obtain ⟨m1, m2⟩ := List.of_mem_zip hy
      have a1 := sv 6000 (by decide) _ m1
      have a2 := sol3 _ m2
      show (y.1 - y.2).natAbs < _
      rw [show 6001 = 6000 + 1 from rfl, Nat.pow_succ]
      omega
    have made : C_law_is_made K [pIs dif, pIss (kerOf rows w)] (pB (decide (∀ x ∈ offOf E dif, x = 0))) := by
      rw [hE]
      refine ⟨dif, E, w, 0, rfl, ech, fun q m => ⟨(hq q m).1, (hq q m).2.1, fun z hz => Nat.lt_of_lt_of_le ((hq q m).2.2 z hz) (pw (by decide))⟩, dl, by omega, by omega, fun z hz => Nat.lt_of_lt_of_le (ds z hz) (pw (by decide)), fun i => ?_, rfl⟩
      have o := off_small (ech_take i ech) (fun q m => hq q (List.mem_of_mem_take m)) dl (by decide) ds
      intro z hz
      refine Nat.lt_of_lt_of_le (o z hz) (pw ?_)
      rw [List.length_take]
      omega
    have iff := differ_iff (value := value) S hE ech hq gl sol2 dl dc
    refine tr_seqI (tr_skip (dent_imp (dent_test (den_op (den_var (i := 12) rfl) (den_call (rs := [pIs dif, pIss (kerOf rows w)]) (den_cons (den_re (den_map (value.zip told) (fun y => pT [pI y.1, pI y.2]) (fun y => pI (y.1 - y.2)) (deni_zip (f := pI) (g := pI) (den_cons (den_var (i := 11) rfl) (den_cons (den_var (i := 5) rfl) den_nil))) (fun y _ => ⟨_, deng_tup2 (by decide) (by decide), den_op (den_var (i := 16) rfl) (den_var (i := 17) rfl) opd_I0⟩) (sz (by rw [List.length_zip]; omega))) (by rw [hdif]; exact pLm_map pI (fun y : Int × Int => y.1 - y.2) _)) (den_cons (den_var (i := 6) rfl) den_nil)) made) (opd_ne rfl))) fun b e => ?_)) ?_
    · rw [e, decide_eq_decide.mpr iff, decide_eq_true rfl]
      rfl
    refine tr_imp (tr_skip (dent_imp (P := (· = (decide ((rows.map fun r => dot r value) = goals) && !decide (decide ((rows.map fun r => dot r value) = goals) = true)))) (dent_and (dent_val (den_var (i := 12) rfl)) fun _ => dent_test (den_op (den_call (den_cons (den_var (i := 2) rfl) (den_cons (den_var (i := 4) rfl) (den_cons (den_var (i := 11) rfl) den_nil))) ⟨rows, w, goals, value, rfl, S.rw', hne, vl, gl, fun r m => sm r m 4000 (by decide), sv 90000 (by decide), rfl⟩) (den_v (v := .bl true)) opd_notB)) fun b e => ?_)) ?_
    · rw [e]
      cases decide ((rows.map fun r => dot r value) = goals) <;> rfl
    · rintro _ _ ⟨rfl, rfl⟩
      exact ⟨rfl, _, _, rfl⟩
  · rintro _ _ ⟨rfl, a11, a12, rfl⟩
    obtain ⟨up, hup⟩ : ∃ up, up = told.map fun z => z + 1 := ⟨_, rfl⟩
    have ul : up.length = w := by rw [hup, List.length_map, sol1]
    have us : Small 90000 up := fun z hz => by
      rw [hup] at hz
      obtain ⟨y, hy, rfl⟩ := List.mem_map.mp hz
      have a := sol3 y hy
      refine Nat.lt_of_lt_of_le (m := 2 ^ 6001) ?_ (pw (by decide))
      rw [show 6001 = 6000 + 1 from rfl, Nat.pow_succ]
      have := Nat.one_lt_two_pow (n := 6000) (by decide)
      omega
    refine tr_ret (den_re (den_op (den_call (rs := [pIss rows, pIs goals, pIs up]) (den_cons (den_var (i := 2) rfl) (den_cons (den_var (i := 4) rfl) (den_cons (den_re (den_map told pI (fun z => pI (z + 1)) (deni_list (den_var (i := 5) rfl)) (fun z _ => ⟨_, deng_name (by decide), den_op (den_var (i := 16) rfl) (den_v (v := .int 1)) opd_I0⟩) (sz (by omega))) (by rw [hup]; exact pLm_map pI (fun z : Int => z + 1) told)) den_nil))) ⟨rows, w, goals, up, rfl, S.rw', hne, ul, gl, fun r m => sm r m 4000 (by decide), us, rfl⟩)
      (den_all rows pIs (fun r => decide (r.sum = 0)) (deni_list (den_var (i := 2) rfl)) (fun r hr => ⟨_, deng_name (by decide), den_re (den_op (den_callB (den_cons (den_var (i := 15) rfl) den_nil) cd_sum) (den_v (v := .int 0)) (opd_eq rfl)) ?_⟩) (sz (by omega))) (opd_eq rfl)) ?_)
    · show pB _ = pB _
      congr 1
      exact decide_eq_decide.mpr ⟨fun z => by injection z, fun z => by rw [z]⟩
    · rw [last_iff hlen gl sol2 sol1 hup, decide_eq_true rfl]
theorem p_law_right (X : Fx K) {vs : List V} {H : Hp} {Q : VK} {E : XK} (h : spRight vs H Q E) : t_law_right K { nx := fun _ H' => Q .non H', rt := Q } (L2.start ["pot", "width", "rows", "some", "goals", "told", "kernel", "at", "many", "more", "wider", "value", "due", "turn", "place", "row", "one", "two"] vs) H := by
  obtain ⟨F, p, a, b, rfl, s, fp, hp, ha, hb, hb2, q⟩ := h
  refine q_law_right X p F H _ ⟨start_ok (vs := [V.ref p]) (rs := [pRef p]) ⟨rfl, trivial⟩, ⟨s, fun c t => ?_, a, b, hp, ha, hb, hb2⟩, (fun _ h => nomatch h), (fun _ h => nomatch h), List.nodup_nil⟩ _ (fun _ _ _ _ _ z => z.elim) fun v F' H' g k rv => ?_
  · have t : c = p := t
    rw [t]; exact fp
  · have rv : v = .bl true := rv
    subst rv
    refine q F' H' (g.weak fun c t => ?_) k.fh (k.fr p rfl)
    rcases t with t | t
    · exact t
    · cases t
theorem p_law {vs : List V} {H : Hp} {Q : VK} {E : XK} (h : spLaw K vs H Q E) : t_law K { nx := fun _ H' => Q .non H', rt := Q } (L2.start ["script", "k"] vs) H := by
  obtain ⟨a, ns, rfl, hn, hS, q⟩ := h
  have hm : ∀ n : Nat, n ≤ 63 → ∃ m : Nat, max 1 (min 2 (n : Int)) = (m : Int) ∧ m ≤ 2 := fun n h => ⟨(max 1 (min 2 (n : Int))).toNat, by omega, by omega⟩
  obtain ⟨m, em, hm2⟩ := hm ns.length hn
  have body : Tr Z0 (t_law K) (startR ["script", "k"] [pSq K ns]) [] No (pB true) := by
    refine tr_ret (den_allT (List.range m) (fun k : Nat => pI (k : Int)) (deni_rngN (den_cons (den_re (den_callB (den_cons (den_v (v := .int 1)) (den_cons (den_callB (den_cons (den_v (v := .int 2)) (den_cons (den_callB (den_cons (den_var (i := 0) rfl) den_nil) cd_lenS) den_nil)) cd_min) den_nil)) cd_max) (by rw [em])) den_nil) (by omega)) (fun k hk => ⟨_, deng_name (by decide), ?_⟩) (sz (by rw [List.length_range]; omega)))
    have hk := List.mem_range.mp hk
    intro F H σ env ok Q q
    obtain ⟨v0, x0, y0⟩ := env.at_ 0 (pSq K ns) rfl
    obtain ⟨v1, x1, y1⟩ := env.at_ 1 (pI (k : Int)) rfl
    refine ⟨v0, x0, v1, x1, ?_⟩
    refine ⟨F, ns, k, ok.fh, ⟨y0, y1, trivial⟩, by omega, fun p F1 H1 a b hp g s fp hp1 ha hb hb2 => ?_⟩
    refine ⟨F1, p, a, b, rfl, s, fp, hp1, ha, hb, hb2, fun F2 H2 g2 s2 fp2 => ?_⟩
    have g3 : Go0 F H F2 H2 := by
      refine ⟨g.ff.trans g2.ff, fun c o _ e => g2.hh c o (fun z => ?_) (g.hh c o (fun z => z) e), fun c o e => ?_, fun c e => g2.dm c (g.dm c e)⟩
      · have z : c = p := z
        rw [z, hp] at e; cases e
      · rcases g2.gr c o e with z | z | z
        · exact g.gr c o z
        · exact .inr (.inl (none_back (g.dm c) z))
        · exact .inr (.inl (by have z : c = p := z; rw [z]; exact hp))
    obtain ⟨g4, k4⟩ := ok.step g3 s2
    exact q _ F2 H2 g4 k4 rfl
  refine body H H _ ⟨start_ok (vs := [V.ref a]) (rs := [pSq K ns]) ⟨⟨a, rfl, hS⟩, trivial⟩, Ok.z0 fun _ _ e => e, (fun _ h => nomatch h), (fun _ h => nomatch h), List.nodup_nil⟩ _ (fun _ _ _ _ _ z => z.elim) fun v F' H' g k rv => ?_
  have rv : v = .bl true := rv
  subst rv
  exact q H'
end
end W
set_option Elab.async false
set_option linter.all false
set_option maxRecDepth 100000
set_option maxHeartbeats 0
namespace W
open PySem L2 Dn
def fa : List DnH.KB := [fun K => (He.Fa.free "abs").ok K,
  fun K => (He.Fa.free "all").ok K,
  fun K => (He.Fa.free "bool").ok K,
  fun K => (He.Fa.free "divmod").ok K,
  fun K => (He.Fa.free "enumerate").ok K,
  fun K => (He.Fa.free "int").ok K,
  fun K => (He.Fa.free "isinstance").ok K,
  fun K => (He.Fa.free "len").ok K,
  fun K => (He.Fa.free "list").ok K,
  fun K => (He.Fa.free "max").ok K,
  fun K => (He.Fa.free "min").ok K,
  fun K => (He.Fa.free "range").ok K,
  fun K => (He.Fa.free "sum").ok K,
  fun K => (He.Fa.free "tuple").ok K,
  fun K => (He.Fa.free "zip").ok K,
  fun K => (He.Fa.int "MOST_ROWS" 60).ok K,
  fun K => (He.Fa.int "MOST_WIDE" 60).ok K,
  fun K => DnH.bltB "gcd" "math.gcd" K,
  fun K => (He.Fa.glo "Ratio").ok K,
  fun K => (He.Fa.cls "Ratio").ok K,
  fun K => (He.Fa.mkr "Ratio").ok K,
  fun K => (He.Fa.glo "Ladder").ok K,
  fun K => (He.Fa.cls "Ladder").ok K,
  fun K => (He.Fa.mkr "Ladder").ok K,
  fun K => (He.Fa.noat "Ratio" "own_top").ok K,
  fun K => (He.Fa.noat "Ratio" "own_bottom").ok K,
  fun K => (He.Fa.noat "Ladder" "own_many").ok K,
  fun K => (He.Fa.noat "Ladder" "own_heads").ok K,
  fun K => (He.Fa.noat "Ladder" "own_places").ok K,
  fun K => (He.Fa.noat "Ladder" "own_left").ok K,
  fun K => (He.Fa.glo "is_integer").ok K,
  fun K => (He.Fa.glo "is_count").ok K,
  fun K => (He.Fa.glo "is_list").ok K,
  fun K => (He.Fa.glo "want_many").ok K,
  fun K => (He.Fa.glo "divisor_of").ok K,
  fun K => DnH.propB "Ratio" "top" K,
  fun K => DnH.propB "Ratio" "bottom" K,
  fun K => DnH.propB "Ratio" "sign" K,
  fun K => DnH.propB "Ratio" "is_whole" K,
  fun K => (He.Fa.glo "told_pair").ok K,
  fun K => DnH.operB "Ratio" "__mul__" "__rmul__" K,
  fun K => DnH.operB "Ratio" "__sub__" "__rsub__" K,
  fun K => (He.Fa.meth "Ratio" "over").ok K,
  fun K => (He.Fa.meth "Ratio" "__eq__").ok K,
  fun K => (He.Fa.glo "is_number").ok K,
  fun K => (He.Fa.glo "ratio_of").ok K,
  fun K => (He.Fa.glo "less_row").ok K,
  fun K => (He.Fa.glo "least_at").ok K,
  fun K => (He.Fa.glo "alone_at").ok K,
  fun K => (He.Fa.glo "laddered").ok K,
  fun K => (He.Fa.glo "unit_rows").ok K,
  fun K => (He.Fa.meth "Ladder" "shares").ok K,
  fun K => (He.Fa.meth "Ladder" "made").ok K,
  fun K => (He.Fa.meth "Ladder" "bar").ok K,
  fun K => (He.Fa.glo "solution_for").ok K,
  fun K => (He.Fa.glo "bar_for").ok K,
  fun K => (He.Fa.glo "kernel_for").ok K,
  fun K => (He.Fa.glo "are_whole_rows").ok K,
  fun K => (He.Fa.glo "want_whole_rows").ok K,
  fun K => (He.Fa.glo "want_goals").ok K,
  fun K => (He.Fa.glo "whole_kernel").ok K,
  fun K => (He.Fa.glo "whole_solution").ok K,
  fun K => (He.Fa.glo "is_whole_solution").ok K,
  fun K => (He.Fa.glo "whole_bar").ok K,
  fun K => (He.Fa.glo "_law_pot").ok K,
  fun K => (He.Fa.glo "_law_draw").ok K,
  fun K => (He.Fa.glo "_law_lists").ok K,
  fun K => (He.Fa.glo "_law_is_made").ok K,
  fun K => (He.Fa.glo "_law_right").ok K,
  fun K => (He.Fa.glo "law").ok K,
  fun K => decide (PySem.W.kitOne K (.type "int") (.type "int") = some true),
  fun K => decide (PySem.W.kitOne K (.type "int") (.type "bool") = some false),
  fun K => decide (PySem.W.kitOne K (.ref (He.ga K "Ratio")) (.type "int") = some false),
  fun K => decide (PySem.W.kitOne K (.ref (He.ga K "Ratio")) (.ref (He.ga K "Ratio")) = some true),
  fun K => decide (PySem.W.kitOne K (.type "int") (.ref (He.ga K "Ratio")) = some false),
  fun K => decide (PySem.W.kitAny K (.type "list") [.type "list", .type "tuple"] = some true),
  fun K => Dn.insB "Ratio" K]
def dx_is_integer : DnH.DefX := ⟨(fun K => He.ga K "is_integer"), "is_integer", "is_integer", defArgs s_is_integer, defBody s_is_integer, defScope s_is_integer, []⟩
def dx_is_count : DnH.DefX := ⟨(fun K => He.ga K "is_count"), "is_count", "is_count", defArgs s_is_count, defBody s_is_count, defScope s_is_count, []⟩
def dx_is_list : DnH.DefX := ⟨(fun K => He.ga K "is_list"), "is_list", "is_list", defArgs s_is_list, defBody s_is_list, defScope s_is_list, []⟩
def dx_want_many : DnH.DefX := ⟨(fun K => He.ga K "want_many"), "want_many", "want_many", defArgs s_want_many, defBody s_want_many, defScope s_want_many, [.non, .int 0]⟩
def dx_divisor_of : DnH.DefX := ⟨(fun K => He.ga K "divisor_of"), "divisor_of", "divisor_of", defArgs s_divisor_of, defBody s_divisor_of, defScope s_divisor_of, []⟩
def dx_Ratio_init : DnH.DefX := ⟨(fun K => He.ma K (He.ga K "Ratio") "__init__"), "__init__", "Ratio.__init__", defArgs s_Ratio_init, defBody s_Ratio_init, defScope s_Ratio_init, [.int 1]⟩
def dx_Ratio_top : DnH.DefX := ⟨(fun K => DnH.getr K (He.ga K "Ratio") "top"), "top", "Ratio.top", defArgs s_Ratio_top, defBody s_Ratio_top, defScope s_Ratio_top, []⟩
def dx_Ratio_bottom : DnH.DefX := ⟨(fun K => DnH.getr K (He.ga K "Ratio") "bottom"), "bottom", "Ratio.bottom", defArgs s_Ratio_bottom, defBody s_Ratio_bottom, defScope s_Ratio_bottom, []⟩
def dx_Ratio_sign : DnH.DefX := ⟨(fun K => DnH.getr K (He.ga K "Ratio") "sign"), "sign", "Ratio.sign", defArgs s_Ratio_sign, defBody s_Ratio_sign, defScope s_Ratio_sign, []⟩
def dx_Ratio_is_whole : DnH.DefX := ⟨(fun K => DnH.getr K (He.ga K "Ratio") "is_whole"), "is_whole", "Ratio.is_whole", defArgs s_Ratio_is_whole, defBody s_Ratio_is_whole, defScope s_Ratio_is_whole, []⟩
def dx_told_pair : DnH.DefX := ⟨(fun K => He.ga K "told_pair"), "told_pair", "told_pair", defArgs s_told_pair, defBody s_told_pair, defScope s_told_pair, []⟩
def dx_Ratio_mul : DnH.DefX := ⟨(fun K => He.ma K (He.ga K "Ratio") "__mul__"), "__mul__", "Ratio.__mul__", defArgs s_Ratio_mul, defBody s_Ratio_mul, defScope s_Ratio_mul, []⟩
def dx_Ratio_sub : DnH.DefX := ⟨(fun K => He.ma K (He.ga K "Ratio") "__sub__"), "__sub__", "Ratio.__sub__", defArgs s_Ratio_sub, defBody s_Ratio_sub, defScope s_Ratio_sub, []⟩
def dx_Ratio_over : DnH.DefX := ⟨(fun K => He.ma K (He.ga K "Ratio") "over"), "over", "Ratio.over", defArgs s_Ratio_over, defBody s_Ratio_over, defScope s_Ratio_over, []⟩
def dx_Ratio_eq : DnH.DefX := ⟨(fun K => He.ma K (He.ga K "Ratio") "__eq__"), "__eq__", "Ratio.__eq__", defArgs s_Ratio_eq, defBody s_Ratio_eq, defScope s_Ratio_eq, []⟩
def dx_is_number : DnH.DefX := ⟨(fun K => He.ga K "is_number"), "is_number", "is_number", defArgs s_is_number, defBody s_is_number, defScope s_is_number, []⟩
def dx_ratio_of : DnH.DefX := ⟨(fun K => He.ga K "ratio_of"), "ratio_of", "ratio_of", defArgs s_ratio_of, defBody s_ratio_of, defScope s_ratio_of, []⟩
def dx_less_row : DnH.DefX := ⟨(fun K => He.ga K "less_row"), "less_row", "less_row", defArgs s_less_row, defBody s_less_row, defScope s_less_row, []⟩
def dx_least_at : DnH.DefX := ⟨(fun K => He.ga K "least_at"), "least_at", "least_at", defArgs s_least_at, defBody s_least_at, defScope s_least_at, []⟩
def dx_alone_at : DnH.DefX := ⟨(fun K => He.ga K "alone_at"), "alone_at", "alone_at", defArgs s_alone_at, defBody s_alone_at, defScope s_alone_at, []⟩
def dx_laddered : DnH.DefX := ⟨(fun K => He.ga K "laddered"), "laddered", "laddered", defArgs s_laddered, defBody s_laddered, defScope s_laddered, []⟩
def dx_unit_rows : DnH.DefX := ⟨(fun K => He.ga K "unit_rows"), "unit_rows", "unit_rows", defArgs s_unit_rows, defBody s_unit_rows, defScope s_unit_rows, []⟩
def dx_Ladder_init : DnH.DefX := ⟨(fun K => He.ma K (He.ga K "Ladder") "__init__"), "__init__", "Ladder.__init__", defArgs s_Ladder_init, defBody s_Ladder_init, defScope s_Ladder_init, []⟩
def dx_Ladder_shares : DnH.DefX := ⟨(fun K => He.ma K (He.ga K "Ladder") "shares"), "shares", "Ladder.shares", defArgs s_Ladder_shares, defBody s_Ladder_shares, defScope s_Ladder_shares, []⟩
def dx_Ladder_made : DnH.DefX := ⟨(fun K => He.ma K (He.ga K "Ladder") "made"), "made", "Ladder.made", defArgs s_Ladder_made, defBody s_Ladder_made, defScope s_Ladder_made, []⟩
def dx_Ladder_bar : DnH.DefX := ⟨(fun K => He.ma K (He.ga K "Ladder") "bar"), "bar", "Ladder.bar", defArgs s_Ladder_bar, defBody s_Ladder_bar, defScope s_Ladder_bar, []⟩
def dx_solution_for : DnH.DefX := ⟨(fun K => He.ga K "solution_for"), "solution_for", "solution_for", defArgs s_solution_for, defBody s_solution_for, defScope s_solution_for, []⟩
def dx_bar_for : DnH.DefX := ⟨(fun K => He.ga K "bar_for"), "bar_for", "bar_for", defArgs s_bar_for, defBody s_bar_for, defScope s_bar_for, []⟩
def dx_kernel_for : DnH.DefX := ⟨(fun K => He.ga K "kernel_for"), "kernel_for", "kernel_for", defArgs s_kernel_for, defBody s_kernel_for, defScope s_kernel_for, []⟩
def dx_are_whole_rows : DnH.DefX := ⟨(fun K => He.ga K "are_whole_rows"), "are_whole_rows", "are_whole_rows", defArgs s_are_whole_rows, defBody s_are_whole_rows, defScope s_are_whole_rows, []⟩
def dx_want_whole_rows : DnH.DefX := ⟨(fun K => He.ga K "want_whole_rows"), "want_whole_rows", "want_whole_rows", defArgs s_want_whole_rows, defBody s_want_whole_rows, defScope s_want_whole_rows, [.int 0]⟩
def dx_want_goals : DnH.DefX := ⟨(fun K => He.ga K "want_goals"), "want_goals", "want_goals", defArgs s_want_goals, defBody s_want_goals, defScope s_want_goals, []⟩
def dx_whole_kernel : DnH.DefX := ⟨(fun K => He.ga K "whole_kernel"), "whole_kernel", "whole_kernel", defArgs s_whole_kernel, defBody s_whole_kernel, defScope s_whole_kernel, []⟩
def dx_whole_solution : DnH.DefX := ⟨(fun K => He.ga K "whole_solution"), "whole_solution", "whole_solution", defArgs s_whole_solution, defBody s_whole_solution, defScope s_whole_solution, []⟩
def dx_is_whole_solution : DnH.DefX := ⟨(fun K => He.ga K "is_whole_solution"), "is_whole_solution", "is_whole_solution", defArgs s_is_whole_solution, defBody s_is_whole_solution, defScope s_is_whole_solution, []⟩
def dx_whole_bar : DnH.DefX := ⟨(fun K => He.ga K "whole_bar"), "whole_bar", "whole_bar", defArgs s_whole_bar, defBody s_whole_bar, defScope s_whole_bar, []⟩
def dx_law_pot : DnH.DefX := ⟨(fun K => He.ga K "_law_pot"), "_law_pot", "_law_pot", defArgs s_law_pot, defBody s_law_pot, defScope s_law_pot, []⟩
def dx_law_draw : DnH.DefX := ⟨(fun K => He.ga K "_law_draw"), "_law_draw", "_law_draw", defArgs s_law_draw, defBody s_law_draw, defScope s_law_draw, []⟩
def dx_law_lists : DnH.DefX := ⟨(fun K => He.ga K "_law_lists"), "_law_lists", "_law_lists", defArgs s_law_lists, defBody s_law_lists, defScope s_law_lists, []⟩
def dx_law_is_made : DnH.DefX := ⟨(fun K => He.ga K "_law_is_made"), "_law_is_made", "_law_is_made", defArgs s_law_is_made, defBody s_law_is_made, defScope s_law_is_made, []⟩
def dx_law_right : DnH.DefX := ⟨(fun K => He.ga K "_law_right"), "_law_right", "_law_right", defArgs s_law_right, defBody s_law_right, defScope s_law_right, []⟩
def dx_law : DnH.DefX := ⟨(fun K => He.ga K "law"), "law", "law", defArgs s_law, defBody s_law, defScope s_law, []⟩
def fnx : List DnH.DefX := [dx_is_integer, dx_is_count, dx_is_list, dx_want_many, dx_divisor_of, dx_Ratio_init, dx_Ratio_top, dx_Ratio_bottom, dx_Ratio_sign, dx_Ratio_is_whole, dx_told_pair, dx_Ratio_mul, dx_Ratio_sub, dx_Ratio_over, dx_Ratio_eq, dx_is_number, dx_ratio_of, dx_less_row, dx_least_at, dx_alone_at, dx_laddered, dx_unit_rows, dx_Ladder_init, dx_Ladder_shares, dx_Ladder_made, dx_Ladder_bar, dx_solution_for, dx_bar_for, dx_kernel_for, dx_are_whole_rows, dx_want_whole_rows, dx_want_goals, dx_whole_kernel, dx_whole_solution, dx_is_whole_solution, dx_whole_bar, dx_law_pot, dx_law_draw, dx_law_lists, dx_law_is_made, dx_law_right, dx_law]
end W
namespace HX
open PySem PySem.W PySem.Calls PyProof.Rows
abbrev R : OpenRow := OpenLaw.row PySem.Challenge.rw_wholefillrows_k19_whole_solutions_all_of
abbrev qv : Program := view R.prog [0, 49]
def names1 : List PySem.Str := ["_wall", "__name__", "BookError", "InvalidNumber", "DividedByZero", "InvalidGoals", "InvalidMany", "InvalidRows", "is_integer", "is_count", "is_list", "want_many", "PART", "digits_of", "divisor_of", "Ratio", "told_pair", "is_number", "ratio_of", "total_of", "MOST_ROWS", "MOST_WIDE", "less_row", "least_at", "alone_at", "laddered", "unit_rows", "Ladder"]
def names2 : List PySem.Str := ["solution_for", "bar_for", "kernel_for", "are_whole_rows", "want_whole_rows", "want_goals", "whole_kernel", "whole_solution", "is_whole_solution", "whole_bar", "_law_pot", "_law_draw", "_law_pick", "_law_lists", "_law_is_made", "_law_right"]
def names : List PySem.Str := names1 ++ names2
abbrev hk : Hook := DnH.hookX 6 W.fa W.fnx
def ob (s : SharedT) : He.AlD := DnH.seenXG 6 W.fa W.fnx (HandSHeadRun.getT s)
theorem ob_eq (s : SharedT) : ob s = hk.obs s.abs := DnH.seenXG_eq (HandSHeadRun.getT_eq s)
theorem run (w : World) : HandSHeadRun.RunEqI R qv hk ob 12000 names w := by
  unfold HandSHeadRun.RunEqI
  kernel_rfl
end HX
set_option Elab.async false
set_option linter.all false
set_option maxRecDepth 100000
set_option maxHeartbeats 4000000
namespace W
open PySem L2 Dn HM
section
variable {P : Program} {w : World} {K : PySem.W.Frag} {mg : Str → Option Value} {base h : Heap}
theorem txt (X0 : K.In h) (G0 : h.Ns mainGlobals mg) (c : DnH.SaysX fa fnx K) : Txt K mg := ⟨DnH.blt_ok X0 G0 (x := "gcd") (c.fact 17 rfl),
  He.free_ok X0 G0 (x := "abs") (c.fact 0 rfl),
  He.free_ok X0 G0 (x := "all") (c.fact 1 rfl),
  He.free_ok X0 G0 (x := "bool") (c.fact 2 rfl),
  He.free_ok X0 G0 (x := "divmod") (c.fact 3 rfl),
  He.free_ok X0 G0 (x := "enumerate") (c.fact 4 rfl),
  He.free_ok X0 G0 (x := "int") (c.fact 5 rfl),
  He.free_ok X0 G0 (x := "isinstance") (c.fact 6 rfl),
  He.free_ok X0 G0 (x := "len") (c.fact 7 rfl),
  He.free_ok X0 G0 (x := "list") (c.fact 8 rfl),
  He.free_ok X0 G0 (x := "max") (c.fact 9 rfl),
  He.free_ok X0 G0 (x := "min") (c.fact 10 rfl),
  He.free_ok X0 G0 (x := "range") (c.fact 11 rfl),
  He.free_ok X0 G0 (x := "sum") (c.fact 12 rfl),
  He.free_ok X0 G0 (x := "tuple") (c.fact 13 rfl),
  He.free_ok X0 G0 (x := "zip") (c.fact 14 rfl),
  He.glo_ok X0 G0 (x := "Ladder") (c.fact 21 rfl),
  He.glo_ok X0 G0 (x := "Ratio") (c.fact 18 rfl),
  He.int_ok X0 G0 (x := "MOST_ROWS") (c.fact 15 rfl),
  He.int_ok X0 G0 (x := "MOST_WIDE") (c.fact 16 rfl),
  He.cls_ok (x := "Ratio") (c.fact 19 rfl),
  He.cls_ok (x := "Ladder") (c.fact 22 rfl),
  He.noat_ok (x := "Ratio") (f := "own_top") (c.fact 24 rfl),
  He.noat_ok (x := "Ratio") (f := "own_bottom") (c.fact 25 rfl),
  He.noat_ok (x := "Ladder") (f := "own_many") (c.fact 26 rfl),
  He.noat_ok (x := "Ladder") (f := "own_heads") (c.fact 27 rfl),
  He.noat_ok (x := "Ladder") (f := "own_places") (c.fact 28 rfl),
  He.noat_ok (x := "Ladder") (f := "own_left") (c.fact 29 rfl)⟩
theorem fx (c : DnH.SaysX fa fnx K) : Fx K := ⟨of_decide_eq_true (c.fact 70 rfl), of_decide_eq_true (c.fact 71 rfl), of_decide_eq_true (c.fact 72 rfl), of_decide_eq_true (c.fact 73 rfl), of_decide_eq_true (c.fact 74 rfl), of_decide_eq_true (c.fact 75 rfl), (c.fact 76 rfl)⟩
theorem vals_nil {ds : List Value} (r : Vals ([] : List V) ds) : ds = [] := by cases r; rfl
theorem ok_is_integer (X0 : K.In h) (G0 : h.Ns mainGlobals mg) (c : DnH.SaysX fa fnx K) : ∃ fd, FunD K "is_integer" "is_integer" (defArgs s_is_integer) (defBody s_is_integer) (defScope s_is_integer) [] [] (He.ga K "is_integer") fd ∧ FnOk P w K mg base CX0 1 (He.ga K "is_integer") fd ["value"] (pureSp (C_is_integer K)) := by
  obtain ⟨fd, F⟩ := c.dfn 0 (d := dx_is_integer) rfl
  exact ⟨fd, F, FunD.ok (dvs := []) F sc_is_integer (pureSp_len (by intro rs r h; first | (obtain ⟨_, rfl, _⟩ := h; rfl) | (obtain ⟨_, _, rfl, _⟩ := h; rfl) | (obtain ⟨_, _, _, rfl, _⟩ := h; rfl) | (obtain ⟨_, _, _, _, rfl, _⟩ := h; rfl) | (obtain ⟨_, _, _, _, _, rfl, _⟩ := h; rfl) | (rcases h with ⟨_, rfl, _⟩ | ⟨_, rfl, _⟩ <;> rfl))) fun cdv A outer s H vs Q E hr h => ⟨t_is_integer K, body_is_integer (txt X0 G0 c)  hr, pure_of (Nx := No) h fun rs r cc => ⟨d_is_integer  cc, fun _ _ z => z.elim⟩⟩⟩
theorem b_fn_is_integer (X0 : K.In h) (G0 : h.Ns mainGlobals mg) (c : DnH.SaysX fa fnx K) : Cal P w K mg base "is_integer" 1 ["value"] (pureSp (C_is_integer K)) := by
  obtain ⟨fd, F, O⟩ := ok_is_integer (P := P) (w := w) (base := base) X0 G0 c
  exact ⟨_, fd, O, He.glo_ok X0 G0 (x := "is_integer") (c.fact 30 rfl), F.kp, F.bindsN fun _ _ _ _ _ _ us hl => match us, hl with | [_], _ => rfl⟩
theorem ok_is_count (X0 : K.In h) (G0 : h.Ns mainGlobals mg) (c : DnH.SaysX fa fnx K) : ∃ fd, FunD K "is_count" "is_count" (defArgs s_is_count) (defBody s_is_count) (defScope s_is_count) [] [] (He.ga K "is_count") fd ∧ FnOk P w K mg base CX0 2 (He.ga K "is_count") fd ["value"] (pureSp (C_is_count K)) := by
  obtain ⟨fd, F⟩ := c.dfn 1 (d := dx_is_count) rfl
  exact ⟨fd, F, FunD.ok (dvs := []) F sc_is_count (pureSp_len (by intro rs r h; first | (obtain ⟨_, rfl, _⟩ := h; rfl) | (obtain ⟨_, _, rfl, _⟩ := h; rfl) | (obtain ⟨_, _, _, rfl, _⟩ := h; rfl) | (obtain ⟨_, _, _, _, rfl, _⟩ := h; rfl) | (obtain ⟨_, _, _, _, _, rfl, _⟩ := h; rfl) | (rcases h with ⟨_, rfl, _⟩ | ⟨_, rfl, _⟩ <;> rfl))) fun cdv A outer s H vs Q E hr h => ⟨t_is_count K, body_is_count (txt X0 G0 c) (b_fn_is_integer (w := w) (base := base) X0 G0 c) hr, pure_of (Nx := No) h fun rs r cc => ⟨d_is_count (fx c) cc, fun _ _ z => z.elim⟩⟩⟩
theorem ok_is_list (X0 : K.In h) (G0 : h.Ns mainGlobals mg) (c : DnH.SaysX fa fnx K) : ∃ fd, FunD K "is_list" "is_list" (defArgs s_is_list) (defBody s_is_list) (defScope s_is_list) [] [] (He.ga K "is_list") fd ∧ FnOk P w K mg base CX0 1 (He.ga K "is_list") fd ["value"] (pureSp (C_is_list K)) := by
  obtain ⟨fd, F⟩ := c.dfn 2 (d := dx_is_list) rfl
  exact ⟨fd, F, FunD.ok (dvs := []) F sc_is_list (pureSp_len (by intro rs r h; first | (obtain ⟨_, rfl, _⟩ := h; rfl) | (obtain ⟨_, _, rfl, _⟩ := h; rfl) | (obtain ⟨_, _, _, rfl, _⟩ := h; rfl) | (obtain ⟨_, _, _, _, rfl, _⟩ := h; rfl) | (obtain ⟨_, _, _, _, _, rfl, _⟩ := h; rfl) | (rcases h with ⟨_, rfl, _⟩ | ⟨_, rfl, _⟩ <;> rfl))) fun cdv A outer s H vs Q E hr h => ⟨t_is_list K, body_is_list (txt X0 G0 c)  hr, pure_of (Nx := No) h fun rs r cc => ⟨d_is_list  cc, fun _ _ z => z.elim⟩⟩⟩
theorem b_fn_is_count (X0 : K.In h) (G0 : h.Ns mainGlobals mg) (c : DnH.SaysX fa fnx K) : Cal P w K mg base "is_count" 2 ["value"] (pureSp (C_is_count K)) := by
  obtain ⟨fd, F, O⟩ := ok_is_count (P := P) (w := w) (base := base) X0 G0 c
  exact ⟨_, fd, O, He.glo_ok X0 G0 (x := "is_count") (c.fact 31 rfl), F.kp, F.bindsN fun _ _ _ _ _ _ us hl => match us, hl with | [_], _ => rfl⟩
theorem ok_want_many (X0 : K.In h) (G0 : h.Ns mainGlobals mg) (c : DnH.SaysX fa fnx K) : ∃ fd, FunD K "want_many" "want_many" (defArgs s_want_many) (defBody s_want_many) (defScope s_want_many) [.non, .int 0] [] (He.ga K "want_many") fd ∧ FnOk P w K mg base CX0 3 (He.ga K "want_many") fd ["value", "most", "least"] (pureSp (C_want_many K)) := by
  obtain ⟨fd, F⟩ := c.dfn 3 (d := dx_want_many) rfl
  exact ⟨fd, F, FunD.ok (dvs := [.non, .int 0]) F sc_want_many (pureSp_len (by intro rs r h; first | (obtain ⟨_, rfl, _⟩ := h; rfl) | (obtain ⟨_, _, rfl, _⟩ := h; rfl) | (obtain ⟨_, _, _, rfl, _⟩ := h; rfl) | (obtain ⟨_, _, _, _, rfl, _⟩ := h; rfl) | (obtain ⟨_, _, _, _, _, rfl, _⟩ := h; rfl) | (rcases h with ⟨_, rfl, _⟩ | ⟨_, rfl, _⟩ <;> rfl))) fun cdv A outer s H vs Q E hr h => ⟨t_want_many K, body_want_many (txt X0 G0 c) (b_fn_is_count (w := w) (base := base) X0 G0 c) hr, pure_of (Nx := fun _ _ => True) h fun rs r cc => ⟨(d_want_many (fx c) cc).1, fun _ _ _ F => (d_want_many (fx c) cc).2 F⟩⟩⟩
theorem ok_divisor_of (X0 : K.In h) (G0 : h.Ns mainGlobals mg) (c : DnH.SaysX fa fnx K) : ∃ fd, FunD K "divisor_of" "divisor_of" (defArgs s_divisor_of) (defBody s_divisor_of) (defScope s_divisor_of) [] [] (He.ga K "divisor_of") fd ∧ FnOk P w K mg base CX0 1 (He.ga K "divisor_of") fd ["one", "other"] (pureSp (C_divisor_of K)) := by
  obtain ⟨fd, F⟩ := c.dfn 4 (d := dx_divisor_of) rfl
  exact ⟨fd, F, FunD.ok (dvs := []) F sc_divisor_of (pureSp_len (by intro rs r h; first | (obtain ⟨_, rfl, _⟩ := h; rfl) | (obtain ⟨_, _, rfl, _⟩ := h; rfl) | (obtain ⟨_, _, _, rfl, _⟩ := h; rfl) | (obtain ⟨_, _, _, _, rfl, _⟩ := h; rfl) | (obtain ⟨_, _, _, _, _, rfl, _⟩ := h; rfl) | (rcases h with ⟨_, rfl, _⟩ | ⟨_, rfl, _⟩ <;> rfl))) fun cdv A outer s H vs Q E hr h => ⟨t_divisor_of K, body_divisor_of (txt X0 G0 c)  hr, pure_of (Nx := No) h fun rs r cc => ⟨d_divisor_of  cc, fun _ _ z => z.elim⟩⟩⟩
theorem b_fn_divisor_of (X0 : K.In h) (G0 : h.Ns mainGlobals mg) (c : DnH.SaysX fa fnx K) : Cal P w K mg base "divisor_of" 1 ["one", "other"] (pureSp (C_divisor_of K)) := by
  obtain ⟨fd, F, O⟩ := ok_divisor_of (P := P) (w := w) (base := base) X0 G0 c
  exact ⟨_, fd, O, He.glo_ok X0 G0 (x := "divisor_of") (c.fact 34 rfl), F.kp, F.bindsN fun _ _ _ _ _ _ us hl => match us, hl with | [_, _], _ => rfl⟩
theorem ok_Ratio_init (X0 : K.In h) (G0 : h.Ns mainGlobals mg) (c : DnH.SaysX fa fnx K) : ∃ fd, FunD K "__init__" "Ratio.__init__" (defArgs s_Ratio_init) (defBody s_Ratio_init) (defScope s_Ratio_init) [.int 1] [] (He.ma K (He.ga K "Ratio") "__init__") fd ∧ FnOk P w K mg base CX0 2 (He.ma K (He.ga K "Ratio") "__init__") fd ["self", "top", "bottom"] (initSp (He.ga K "Ratio") (C_Ratio_init K)) := by
  obtain ⟨fd, F⟩ := c.dfn 5 (d := dx_Ratio_init) rfl
  exact ⟨fd, F, FunD.ok (dvs := [.int 1]) F sc_Ratio_init (initSp_len (n := 2) (by intro rs r h; first | (obtain ⟨_, rfl, _⟩ := h; rfl) | (obtain ⟨_, _, rfl, _⟩ := h; rfl) | (obtain ⟨_, _, _, rfl, _⟩ := h; rfl) | (obtain ⟨_, _, _, _, rfl, _⟩ := h; rfl) | (obtain ⟨_, _, _, _, _, rfl, _⟩ := h; rfl) | (rcases h with ⟨_, rfl, _⟩ | ⟨_, rfl, _⟩ <;> rfl))) fun cdv A outer s H vs Q E hr h => ⟨t_Ratio_init K, body_Ratio_init (txt X0 G0 c) (b_fn_is_integer (w := w) (base := base) X0 G0 c) (b_fn_divisor_of (w := w) (base := base) X0 G0 c) hr, init_of h fun x dx rs fs cc => d_Ratio_init (txt X0 G0 c) (fx c) x dx rs fs cc⟩⟩
theorem ok_Ratio_top (X0 : K.In h) (G0 : h.Ns mainGlobals mg) (c : DnH.SaysX fa fnx K) : ∃ fd, FunD K "top" "Ratio.top" (defArgs s_Ratio_top) (defBody s_Ratio_top) (defScope s_Ratio_top) [] [] (DnH.getr K (He.ga K "Ratio") "top") fd ∧ FnOk P w K mg base CX0 1 (DnH.getr K (He.ga K "Ratio") "top") fd ["self"] (pureSp (C_Ratio_top K)) := by
  obtain ⟨fd, F⟩ := c.dfn 6 (d := dx_Ratio_top) rfl
  exact ⟨fd, F, FunD.ok (dvs := []) F sc_Ratio_top (pureSp_len (by intro rs r h; first | (obtain ⟨_, rfl, _⟩ := h; rfl) | (obtain ⟨_, _, rfl, _⟩ := h; rfl) | (obtain ⟨_, _, _, rfl, _⟩ := h; rfl) | (obtain ⟨_, _, _, _, rfl, _⟩ := h; rfl) | (obtain ⟨_, _, _, _, _, rfl, _⟩ := h; rfl) | (rcases h with ⟨_, rfl, _⟩ | ⟨_, rfl, _⟩ <;> rfl))) fun cdv A outer s H vs Q E hr h => ⟨t_Ratio_top K, body_Ratio_top (txt X0 G0 c)  hr, pure_of (Nx := No) h fun rs r cc => ⟨d_Ratio_top (txt X0 G0 c) cc, fun _ _ z => z.elim⟩⟩⟩
theorem ok_Ratio_bottom (X0 : K.In h) (G0 : h.Ns mainGlobals mg) (c : DnH.SaysX fa fnx K) : ∃ fd, FunD K "bottom" "Ratio.bottom" (defArgs s_Ratio_bottom) (defBody s_Ratio_bottom) (defScope s_Ratio_bottom) [] [] (DnH.getr K (He.ga K "Ratio") "bottom") fd ∧ FnOk P w K mg base CX0 1 (DnH.getr K (He.ga K "Ratio") "bottom") fd ["self"] (pureSp (C_Ratio_bottom K)) := by
  obtain ⟨fd, F⟩ := c.dfn 7 (d := dx_Ratio_bottom) rfl
  exact ⟨fd, F, FunD.ok (dvs := []) F sc_Ratio_bottom (pureSp_len (by intro rs r h; first | (obtain ⟨_, rfl, _⟩ := h; rfl) | (obtain ⟨_, _, rfl, _⟩ := h; rfl) | (obtain ⟨_, _, _, rfl, _⟩ := h; rfl) | (obtain ⟨_, _, _, _, rfl, _⟩ := h; rfl) | (obtain ⟨_, _, _, _, _, rfl, _⟩ := h; rfl) | (rcases h with ⟨_, rfl, _⟩ | ⟨_, rfl, _⟩ <;> rfl))) fun cdv A outer s H vs Q E hr h => ⟨t_Ratio_bottom K, body_Ratio_bottom (txt X0 G0 c)  hr, pure_of (Nx := No) h fun rs r cc => ⟨d_Ratio_bottom (txt X0 G0 c) cc, fun _ _ z => z.elim⟩⟩⟩
theorem ok_Ratio_sign (X0 : K.In h) (G0 : h.Ns mainGlobals mg) (c : DnH.SaysX fa fnx K) : ∃ fd, FunD K "sign" "Ratio.sign" (defArgs s_Ratio_sign) (defBody s_Ratio_sign) (defScope s_Ratio_sign) [] [] (DnH.getr K (He.ga K "Ratio") "sign") fd ∧ FnOk P w K mg base CX0 1 (DnH.getr K (He.ga K "Ratio") "sign") fd ["self"] (pureSp (C_Ratio_sign K)) := by
  obtain ⟨fd, F⟩ := c.dfn 8 (d := dx_Ratio_sign) rfl
  exact ⟨fd, F, FunD.ok (dvs := []) F sc_Ratio_sign (pureSp_len (by intro rs r h; first | (obtain ⟨_, rfl, _⟩ := h; rfl) | (obtain ⟨_, _, rfl, _⟩ := h; rfl) | (obtain ⟨_, _, _, rfl, _⟩ := h; rfl) | (obtain ⟨_, _, _, _, rfl, _⟩ := h; rfl) | (obtain ⟨_, _, _, _, _, rfl, _⟩ := h; rfl) | (rcases h with ⟨_, rfl, _⟩ | ⟨_, rfl, _⟩ <;> rfl))) fun cdv A outer s H vs Q E hr h => ⟨t_Ratio_sign K, body_Ratio_sign (txt X0 G0 c)  hr, pure_of (Nx := No) h fun rs r cc => ⟨d_Ratio_sign (txt X0 G0 c) cc, fun _ _ z => z.elim⟩⟩⟩
theorem ok_Ratio_is_whole (X0 : K.In h) (G0 : h.Ns mainGlobals mg) (c : DnH.SaysX fa fnx K) : ∃ fd, FunD K "is_whole" "Ratio.is_whole" (defArgs s_Ratio_is_whole) (defBody s_Ratio_is_whole) (defScope s_Ratio_is_whole) [] [] (DnH.getr K (He.ga K "Ratio") "is_whole") fd ∧ FnOk P w K mg base CX0 1 (DnH.getr K (He.ga K "Ratio") "is_whole") fd ["self"] (pureSp (C_Ratio_is_whole K)) := by
  obtain ⟨fd, F⟩ := c.dfn 9 (d := dx_Ratio_is_whole) rfl
  exact ⟨fd, F, FunD.ok (dvs := []) F sc_Ratio_is_whole (pureSp_len (by intro rs r h; first | (obtain ⟨_, rfl, _⟩ := h; rfl) | (obtain ⟨_, _, rfl, _⟩ := h; rfl) | (obtain ⟨_, _, _, rfl, _⟩ := h; rfl) | (obtain ⟨_, _, _, _, rfl, _⟩ := h; rfl) | (obtain ⟨_, _, _, _, _, rfl, _⟩ := h; rfl) | (rcases h with ⟨_, rfl, _⟩ | ⟨_, rfl, _⟩ <;> rfl))) fun cdv A outer s H vs Q E hr h => ⟨t_Ratio_is_whole K, body_Ratio_is_whole (txt X0 G0 c)  hr, pure_of (Nx := No) h fun rs r cc => ⟨d_Ratio_is_whole (txt X0 G0 c) cc, fun _ _ z => z.elim⟩⟩⟩
theorem ok_told_pair (X0 : K.In h) (G0 : h.Ns mainGlobals mg) (c : DnH.SaysX fa fnx K) : ∃ fd, FunD K "told_pair" "told_pair" (defArgs s_told_pair) (defBody s_told_pair) (defScope s_told_pair) [] [] (He.ga K "told_pair") fd ∧ FnOk P w K mg base CX0 2 (He.ga K "told_pair") fd ["value"] (pureSp (C_told_pair K)) := by
  obtain ⟨fd, F⟩ := c.dfn 10 (d := dx_told_pair) rfl
  exact ⟨fd, F, FunD.ok (dvs := []) F sc_told_pair (pureSp_len (by intro rs r h; rcases h with ⟨_, rfl, _⟩ | ⟨_, rfl, _⟩ <;> rfl)) fun cdv A outer s H vs Q E hr h => ⟨t_told_pair K, body_told_pair (txt X0 G0 c) (b_fn_is_integer (w := w) (base := base) X0 G0 c) hr, pure_of (Nx := No) h fun rs r cc => ⟨d_told_pair (txt X0 G0 c) (fx c) cc, fun _ _ z => z.elim⟩⟩⟩
theorem b_fn_told_pair (X0 : K.In h) (G0 : h.Ns mainGlobals mg) (c : DnH.SaysX fa fnx K) : Cal P w K mg base "told_pair" 2 ["value"] (pureSp (C_told_pair K)) := by
  obtain ⟨fd, F, O⟩ := ok_told_pair (P := P) (w := w) (base := base) X0 G0 c
  exact ⟨_, fd, O, He.glo_ok X0 G0 (x := "told_pair") (c.fact 39 rfl), F.kp, F.bindsN fun _ _ _ _ _ _ us hl => match us, hl with | [_], _ => rfl⟩
theorem b_mk0_Ratio_init (X0 : K.In h) (G0 : h.Ns mainGlobals mg) (c : DnH.SaysX fa fnx K) : MkC P w K mg base "Ratio" (He.ga K "Ratio") 2 ["self", "top", "bottom"] (initSp (He.ga K "Ratio") (C_Ratio_init K)) [] := by
  obtain ⟨fd, F, O⟩ := ok_Ratio_init (P := P) (w := w) (base := base) X0 G0 c
  obtain ⟨ds, rv, B⟩ := F.binds1 (ps := ["self", "top", "bottom"]) 3 1 (fun e => nomatch e) rfl fun T kV doc pm an cdv ct us its h1 h2 => by
    match us, h1, its, h2 with
    | [_, _, _], _, [_], _ => exact ⟨_, rfl, by kernel_rfl⟩
  exact ⟨_, fd, ds, He.mkr_ok (x := "Ratio") (c.fact 20 rfl), O, B, rv, He.glo_ok X0 G0 (x := "Ratio") (c.fact 18 rfl)⟩
theorem ok_Ratio_mul (X0 : K.In h) (G0 : h.Ns mainGlobals mg) (c : DnH.SaysX fa fnx K) : ∃ fd, FunD K "__mul__" "Ratio.__mul__" (defArgs s_Ratio_mul) (defBody s_Ratio_mul) (defScope s_Ratio_mul) [] [] (He.ma K (He.ga K "Ratio") "__mul__") fd ∧ FnOk P w K mg base CX0 4 (He.ma K (He.ga K "Ratio") "__mul__") fd ["self", "other"] (pureSp (C_Ratio_mul K)) := by
  obtain ⟨fd, F⟩ := c.dfn 11 (d := dx_Ratio_mul) rfl
  exact ⟨fd, F, FunD.ok (dvs := []) F sc_Ratio_mul (pureSp_len (by intro rs r h; first | (obtain ⟨_, rfl, _⟩ := h; rfl) | (obtain ⟨_, _, rfl, _⟩ := h; rfl) | (obtain ⟨_, _, _, rfl, _⟩ := h; rfl) | (obtain ⟨_, _, _, _, rfl, _⟩ := h; rfl) | (obtain ⟨_, _, _, _, _, rfl, _⟩ := h; rfl) | (rcases h with ⟨_, rfl, _⟩ | ⟨_, rfl, _⟩ <;> rfl))) fun cdv A outer s H vs Q E hr h => ⟨t_Ratio_mul K, body_Ratio_mul (txt X0 G0 c) (b_fn_told_pair (w := w) (base := base) X0 G0 c) (b_mk0_Ratio_init (w := w) (base := base) X0 G0 c) hr, pure_of (Nx := No) h fun rs r cc => ⟨d_Ratio_mul (txt X0 G0 c) cc, fun _ _ z => z.elim⟩⟩⟩
theorem ok_Ratio_sub (X0 : K.In h) (G0 : h.Ns mainGlobals mg) (c : DnH.SaysX fa fnx K) : ∃ fd, FunD K "__sub__" "Ratio.__sub__" (defArgs s_Ratio_sub) (defBody s_Ratio_sub) (defScope s_Ratio_sub) [] [] (He.ma K (He.ga K "Ratio") "__sub__") fd ∧ FnOk P w K mg base CX0 4 (He.ma K (He.ga K "Ratio") "__sub__") fd ["self", "other"] (pureSp (C_Ratio_sub K)) := by
  obtain ⟨fd, F⟩ := c.dfn 12 (d := dx_Ratio_sub) rfl
  exact ⟨fd, F, FunD.ok (dvs := []) F sc_Ratio_sub (pureSp_len (by intro rs r h; first | (obtain ⟨_, rfl, _⟩ := h; rfl) | (obtain ⟨_, _, rfl, _⟩ := h; rfl) | (obtain ⟨_, _, _, rfl, _⟩ := h; rfl) | (obtain ⟨_, _, _, _, rfl, _⟩ := h; rfl) | (obtain ⟨_, _, _, _, _, rfl, _⟩ := h; rfl) | (rcases h with ⟨_, rfl, _⟩ | ⟨_, rfl, _⟩ <;> rfl))) fun cdv A outer s H vs Q E hr h => ⟨t_Ratio_sub K, body_Ratio_sub (txt X0 G0 c) (b_fn_told_pair (w := w) (base := base) X0 G0 c) (b_mk0_Ratio_init (w := w) (base := base) X0 G0 c) hr, pure_of (Nx := No) h fun rs r cc => ⟨d_Ratio_sub (txt X0 G0 c) cc, fun _ _ z => z.elim⟩⟩⟩
theorem ok_Ratio_over (X0 : K.In h) (G0 : h.Ns mainGlobals mg) (c : DnH.SaysX fa fnx K) : ∃ fd, FunD K "over" "Ratio.over" (defArgs s_Ratio_over) (defBody s_Ratio_over) (defScope s_Ratio_over) [] [] (He.ma K (He.ga K "Ratio") "over") fd ∧ FnOk P w K mg base CX0 4 (He.ma K (He.ga K "Ratio") "over") fd ["self", "other"] (pureSp (C_Ratio_over K)) := by
  obtain ⟨fd, F⟩ := c.dfn 13 (d := dx_Ratio_over) rfl
  exact ⟨fd, F, FunD.ok (dvs := []) F sc_Ratio_over (pureSp_len (by intro rs r h; first | (obtain ⟨_, rfl, _⟩ := h; rfl) | (obtain ⟨_, _, rfl, _⟩ := h; rfl) | (obtain ⟨_, _, _, rfl, _⟩ := h; rfl) | (obtain ⟨_, _, _, _, rfl, _⟩ := h; rfl) | (obtain ⟨_, _, _, _, _, rfl, _⟩ := h; rfl) | (rcases h with ⟨_, rfl, _⟩ | ⟨_, rfl, _⟩ <;> rfl))) fun cdv A outer s H vs Q E hr h => ⟨t_Ratio_over K, body_Ratio_over (txt X0 G0 c) (b_fn_told_pair (w := w) (base := base) X0 G0 c) (b_mk0_Ratio_init (w := w) (base := base) X0 G0 c) hr, pure_of (Nx := No) h fun rs r cc => ⟨d_Ratio_over (txt X0 G0 c) cc, fun _ _ z => z.elim⟩⟩⟩
theorem ok_Ratio_eq (X0 : K.In h) (G0 : h.Ns mainGlobals mg) (c : DnH.SaysX fa fnx K) : ∃ fd, FunD K "__eq__" "Ratio.__eq__" (defArgs s_Ratio_eq) (defBody s_Ratio_eq) (defScope s_Ratio_eq) [] [] (He.ma K (He.ga K "Ratio") "__eq__") fd ∧ FnOk P w K mg base CX0 1 (He.ma K (He.ga K "Ratio") "__eq__") fd ["self", "other"] (pureSp (C_Ratio_eq K)) := by
  obtain ⟨fd, F⟩ := c.dfn 14 (d := dx_Ratio_eq) rfl
  exact ⟨fd, F, FunD.ok (dvs := []) F sc_Ratio_eq (pureSp_len (by intro rs r h; first | (obtain ⟨_, rfl, _⟩ := h; rfl) | (obtain ⟨_, _, rfl, _⟩ := h; rfl) | (obtain ⟨_, _, _, rfl, _⟩ := h; rfl) | (obtain ⟨_, _, _, _, rfl, _⟩ := h; rfl) | (obtain ⟨_, _, _, _, _, rfl, _⟩ := h; rfl) | (rcases h with ⟨_, rfl, _⟩ | ⟨_, rfl, _⟩ <;> rfl))) fun cdv A outer s H vs Q E hr h => ⟨t_Ratio_eq K, body_Ratio_eq (txt X0 G0 c)  hr, pure_of (Nx := No) h fun rs r cc => ⟨d_Ratio_eq (txt X0 G0 c) (fx c) cc, fun _ _ z => z.elim⟩⟩⟩
theorem ok_is_number (X0 : K.In h) (G0 : h.Ns mainGlobals mg) (c : DnH.SaysX fa fnx K) : ∃ fd, FunD K "is_number" "is_number" (defArgs s_is_number) (defBody s_is_number) (defScope s_is_number) [] [] (He.ga K "is_number") fd ∧ FnOk P w K mg base CX0 2 (He.ga K "is_number") fd ["value"] (pureSp (C_is_number K)) := by
  obtain ⟨fd, F⟩ := c.dfn 15 (d := dx_is_number) rfl
  exact ⟨fd, F, FunD.ok (dvs := []) F sc_is_number (pureSp_len (by intro rs r h; first | (obtain ⟨_, rfl, _⟩ := h; rfl) | (obtain ⟨_, _, rfl, _⟩ := h; rfl) | (obtain ⟨_, _, _, rfl, _⟩ := h; rfl) | (obtain ⟨_, _, _, _, rfl, _⟩ := h; rfl) | (obtain ⟨_, _, _, _, _, rfl, _⟩ := h; rfl) | (rcases h with ⟨_, rfl, _⟩ | ⟨_, rfl, _⟩ <;> rfl))) fun cdv A outer s H vs Q E hr h => ⟨t_is_number K, body_is_number (txt X0 G0 c) (b_fn_is_integer (w := w) (base := base) X0 G0 c) hr, pure_of (Nx := No) h fun rs r cc => ⟨d_is_number (txt X0 G0 c) (fx c) cc, fun _ _ z => z.elim⟩⟩⟩
theorem b_mk1_Ratio_init (X0 : K.In h) (G0 : h.Ns mainGlobals mg) (c : DnH.SaysX fa fnx K) : MkC P w K mg base "Ratio" (He.ga K "Ratio") 2 ["self", "top", "bottom"] (initSp (He.ga K "Ratio") (C_Ratio_init K)) [.int 1] := by
  obtain ⟨fd, F, O⟩ := ok_Ratio_init (P := P) (w := w) (base := base) X0 G0 c
  obtain ⟨ds, rv, B⟩ := F.binds1 (ps := ["self", "top", "bottom"]) 2 0 (fun e => nomatch e) rfl fun T kV doc pm an cdv ct us its h1 h2 => by
    match us, h1, its, h2 with
    | [_, _], _, [_], _ => exact ⟨_, rfl, by kernel_rfl⟩
  exact ⟨_, fd, ds, He.mkr_ok (x := "Ratio") (c.fact 20 rfl), O, B, rv, He.glo_ok X0 G0 (x := "Ratio") (c.fact 18 rfl)⟩
theorem ok_ratio_of (X0 : K.In h) (G0 : h.Ns mainGlobals mg) (c : DnH.SaysX fa fnx K) : ∃ fd, FunD K "ratio_of" "ratio_of" (defArgs s_ratio_of) (defBody s_ratio_of) (defScope s_ratio_of) [] [] (He.ga K "ratio_of") fd ∧ FnOk P w K mg base CX0 4 (He.ga K "ratio_of") fd ["number"] (pureSp (C_ratio_of K)) := by
  obtain ⟨fd, F⟩ := c.dfn 16 (d := dx_ratio_of) rfl
  exact ⟨fd, F, FunD.ok (dvs := []) F sc_ratio_of (pureSp_len (by intro rs r h; first | (obtain ⟨_, rfl, _⟩ := h; rfl) | (obtain ⟨_, _, rfl, _⟩ := h; rfl) | (obtain ⟨_, _, _, rfl, _⟩ := h; rfl) | (obtain ⟨_, _, _, _, rfl, _⟩ := h; rfl) | (obtain ⟨_, _, _, _, _, rfl, _⟩ := h; rfl) | (rcases h with ⟨_, rfl, _⟩ | ⟨_, rfl, _⟩ <;> rfl))) fun cdv A outer s H vs Q E hr h => ⟨t_ratio_of K, body_ratio_of (txt X0 G0 c) (b_mk1_Ratio_init (w := w) (base := base) X0 G0 c) hr, pure_of (Nx := No) h fun rs r cc => ⟨d_ratio_of (txt X0 G0 c) (fx c) cc, fun _ _ z => z.elim⟩⟩⟩
theorem ok_less_row (X0 : K.In h) (G0 : h.Ns mainGlobals mg) (c : DnH.SaysX fa fnx K) : ∃ fd, FunD K "less_row" "less_row" (defArgs s_less_row) (defBody s_less_row) (defScope s_less_row) [] [] (He.ga K "less_row") fd ∧ FnOk P w K mg base CX0 1 (He.ga K "less_row") fd ["row", "base", "many"] (pureSp (C_less_row K)) := by
  obtain ⟨fd, F⟩ := c.dfn 17 (d := dx_less_row) rfl
  exact ⟨fd, F, FunD.ok (dvs := []) F sc_less_row (pureSp_len (by intro rs r h; first | (obtain ⟨_, rfl, _⟩ := h; rfl) | (obtain ⟨_, _, rfl, _⟩ := h; rfl) | (obtain ⟨_, _, _, rfl, _⟩ := h; rfl) | (obtain ⟨_, _, _, _, rfl, _⟩ := h; rfl) | (obtain ⟨_, _, _, _, _, rfl, _⟩ := h; rfl) | (rcases h with ⟨_, rfl, _⟩ | ⟨_, rfl, _⟩ <;> rfl))) fun cdv A outer s H vs Q E hr h => ⟨t_less_row K, body_less_row (txt X0 G0 c)  hr, pure_of (Nx := No) h fun rs r cc => ⟨d_less_row  cc, fun _ _ z => z.elim⟩⟩⟩
theorem ok_least_at (X0 : K.In h) (G0 : h.Ns mainGlobals mg) (c : DnH.SaysX fa fnx K) : ∃ fd, FunD K "least_at" "least_at" (defArgs s_least_at) (defBody s_least_at) (defScope s_least_at) [] [] (He.ga K "least_at") fd ∧ FnOk P w K mg base CX0 1 (He.ga K "least_at") fd ["rows", "place"] (pureSp (C_least_at K)) := by
  obtain ⟨fd, F⟩ := c.dfn 18 (d := dx_least_at) rfl
  exact ⟨fd, F, FunD.ok (dvs := []) F sc_least_at (pureSp_len (by intro rs r h; first | (obtain ⟨_, rfl, _⟩ := h; rfl) | (obtain ⟨_, _, rfl, _⟩ := h; rfl) | (obtain ⟨_, _, _, rfl, _⟩ := h; rfl) | (obtain ⟨_, _, _, _, rfl, _⟩ := h; rfl) | (obtain ⟨_, _, _, _, _, rfl, _⟩ := h; rfl) | (rcases h with ⟨_, rfl, _⟩ | ⟨_, rfl, _⟩ <;> rfl))) fun cdv A outer s H vs Q E hr h => ⟨t_least_at K, body_least_at (txt X0 G0 c)  hr, pure_of (Nx := No) h fun rs r cc => ⟨d_least_at  cc, fun _ _ z => z.elim⟩⟩⟩
theorem b_fn_least_at (X0 : K.In h) (G0 : h.Ns mainGlobals mg) (c : DnH.SaysX fa fnx K) : Cal P w K mg base "least_at" 1 ["rows", "place"] (pureSp (C_least_at K)) := by
  obtain ⟨fd, F, O⟩ := ok_least_at (P := P) (w := w) (base := base) X0 G0 c
  exact ⟨_, fd, O, He.glo_ok X0 G0 (x := "least_at") (c.fact 47 rfl), F.kp, F.bindsN fun _ _ _ _ _ _ us hl => match us, hl with | [_, _], _ => rfl⟩
theorem b_fn_less_row (X0 : K.In h) (G0 : h.Ns mainGlobals mg) (c : DnH.SaysX fa fnx K) : Cal P w K mg base "less_row" 1 ["row", "base", "many"] (pureSp (C_less_row K)) := by
  obtain ⟨fd, F, O⟩ := ok_less_row (P := P) (w := w) (base := base) X0 G0 c
  exact ⟨_, fd, O, He.glo_ok X0 G0 (x := "less_row") (c.fact 46 rfl), F.kp, F.bindsN fun _ _ _ _ _ _ us hl => match us, hl with | [_, _, _], _ => rfl⟩
theorem ok_alone_at (X0 : K.In h) (G0 : h.Ns mainGlobals mg) (c : DnH.SaysX fa fnx K) : ∃ fd, FunD K "alone_at" "alone_at" (defArgs s_alone_at) (defBody s_alone_at) (defScope s_alone_at) [] [] (He.ga K "alone_at") fd ∧ FnOk P w K mg base CX0 2 (He.ga K "alone_at") fd ["rows", "place"] (pureSp (C_alone_at K)) := by
  obtain ⟨fd, F⟩ := c.dfn 19 (d := dx_alone_at) rfl
  exact ⟨fd, F, FunD.ok (dvs := []) F sc_alone_at (pureSp_len (by intro rs r h; first | (obtain ⟨_, rfl, _⟩ := h; rfl) | (obtain ⟨_, _, rfl, _⟩ := h; rfl) | (obtain ⟨_, _, _, rfl, _⟩ := h; rfl) | (obtain ⟨_, _, _, _, rfl, _⟩ := h; rfl) | (obtain ⟨_, _, _, _, _, rfl, _⟩ := h; rfl) | (rcases h with ⟨_, rfl, _⟩ | ⟨_, rfl, _⟩ <;> rfl))) fun cdv A outer s H vs Q E hr h => ⟨t_alone_at K, body_alone_at (txt X0 G0 c) (b_fn_least_at (w := w) (base := base) X0 G0 c) (b_fn_less_row (w := w) (base := base) X0 G0 c) hr, pure_of (Nx := No) h fun rs r cc => ⟨d_alone_at (txt X0 G0 c) cc, fun _ _ z => z.elim⟩⟩⟩
theorem b_fn_alone_at (X0 : K.In h) (G0 : h.Ns mainGlobals mg) (c : DnH.SaysX fa fnx K) : Cal P w K mg base "alone_at" 2 ["rows", "place"] (pureSp (C_alone_at K)) := by
  obtain ⟨fd, F, O⟩ := ok_alone_at (P := P) (w := w) (base := base) X0 G0 c
  exact ⟨_, fd, O, He.glo_ok X0 G0 (x := "alone_at") (c.fact 48 rfl), F.kp, F.bindsN fun _ _ _ _ _ _ us hl => match us, hl with | [_, _], _ => rfl⟩
theorem ok_laddered (X0 : K.In h) (G0 : h.Ns mainGlobals mg) (c : DnH.SaysX fa fnx K) : ∃ fd, FunD K "laddered" "laddered" (defArgs s_laddered) (defBody s_laddered) (defScope s_laddered) [] [] (He.ga K "laddered") fd ∧ FnOk P w K mg base CX0 3 (He.ga K "laddered") fd ["rows", "wide"] (pureSp (C_laddered K)) := by
  obtain ⟨fd, F⟩ := c.dfn 20 (d := dx_laddered) rfl
  exact ⟨fd, F, FunD.ok (dvs := []) F sc_laddered (pureSp_len (by intro rs r h; first | (obtain ⟨_, rfl, _⟩ := h; rfl) | (obtain ⟨_, _, rfl, _⟩ := h; rfl) | (obtain ⟨_, _, _, rfl, _⟩ := h; rfl) | (obtain ⟨_, _, _, _, rfl, _⟩ := h; rfl) | (obtain ⟨_, _, _, _, _, rfl, _⟩ := h; rfl) | (rcases h with ⟨_, rfl, _⟩ | ⟨_, rfl, _⟩ <;> rfl))) fun cdv A outer s H vs Q E hr h => ⟨t_laddered K, body_laddered (txt X0 G0 c) (b_fn_alone_at (w := w) (base := base) X0 G0 c) (b_fn_less_row (w := w) (base := base) X0 G0 c) hr, pure_of (Nx := No) h fun rs r cc => ⟨d_laddered  cc, fun _ _ z => z.elim⟩⟩⟩
theorem ok_unit_rows (X0 : K.In h) (G0 : h.Ns mainGlobals mg) (c : DnH.SaysX fa fnx K) : ∃ fd, FunD K "unit_rows" "unit_rows" (defArgs s_unit_rows) (defBody s_unit_rows) (defScope s_unit_rows) [] [] (He.ga K "unit_rows") fd ∧ FnOk P w K mg base CX0 1 (He.ga K "unit_rows") fd ["many"] (pureSp (C_unit_rows K)) := by
  obtain ⟨fd, F⟩ := c.dfn 21 (d := dx_unit_rows) rfl
  exact ⟨fd, F, FunD.ok (dvs := []) F sc_unit_rows (pureSp_len (by intro rs r h; first | (obtain ⟨_, rfl, _⟩ := h; rfl) | (obtain ⟨_, _, rfl, _⟩ := h; rfl) | (obtain ⟨_, _, _, rfl, _⟩ := h; rfl) | (obtain ⟨_, _, _, _, rfl, _⟩ := h; rfl) | (obtain ⟨_, _, _, _, _, rfl, _⟩ := h; rfl) | (rcases h with ⟨_, rfl, _⟩ | ⟨_, rfl, _⟩ <;> rfl))) fun cdv A outer s H vs Q E hr h => ⟨t_unit_rows K, body_unit_rows (txt X0 G0 c)  hr, pure_of (Nx := No) h fun rs r cc => ⟨d_unit_rows  cc, fun _ _ z => z.elim⟩⟩⟩
theorem b_fn_unit_rows (X0 : K.In h) (G0 : h.Ns mainGlobals mg) (c : DnH.SaysX fa fnx K) : Cal P w K mg base "unit_rows" 1 ["many"] (pureSp (C_unit_rows K)) := by
  obtain ⟨fd, F, O⟩ := ok_unit_rows (P := P) (w := w) (base := base) X0 G0 c
  exact ⟨_, fd, O, He.glo_ok X0 G0 (x := "unit_rows") (c.fact 50 rfl), F.kp, F.bindsN fun _ _ _ _ _ _ us hl => match us, hl with | [_], _ => rfl⟩
theorem b_fn_laddered (X0 : K.In h) (G0 : h.Ns mainGlobals mg) (c : DnH.SaysX fa fnx K) : Cal P w K mg base "laddered" 3 ["rows", "wide"] (pureSp (C_laddered K)) := by
  obtain ⟨fd, F, O⟩ := ok_laddered (P := P) (w := w) (base := base) X0 G0 c
  exact ⟨_, fd, O, He.glo_ok X0 G0 (x := "laddered") (c.fact 49 rfl), F.kp, F.bindsN fun _ _ _ _ _ _ us hl => match us, hl with | [_, _], _ => rfl⟩
theorem ok_Ladder_init (X0 : K.In h) (G0 : h.Ns mainGlobals mg) (c : DnH.SaysX fa fnx K) : ∃ fd, FunD K "__init__" "Ladder.__init__" (defArgs s_Ladder_init) (defBody s_Ladder_init) (defScope s_Ladder_init) [] [] (He.ma K (He.ga K "Ladder") "__init__") fd ∧ FnOk P w K mg base CX0 4 (He.ma K (He.ga K "Ladder") "__init__") fd ["self", "rows"] (initSp (He.ga K "Ladder") (C_Ladder_init K)) := by
  obtain ⟨fd, F⟩ := c.dfn 22 (d := dx_Ladder_init) rfl
  exact ⟨fd, F, FunD.ok (dvs := []) F sc_Ladder_init (initSp_len (n := 1) (by intro rs r h; first | (obtain ⟨_, rfl, _⟩ := h; rfl) | (obtain ⟨_, _, rfl, _⟩ := h; rfl) | (obtain ⟨_, _, _, rfl, _⟩ := h; rfl) | (obtain ⟨_, _, _, _, rfl, _⟩ := h; rfl) | (obtain ⟨_, _, _, _, _, rfl, _⟩ := h; rfl) | (rcases h with ⟨_, rfl, _⟩ | ⟨_, rfl, _⟩ <;> rfl))) fun cdv A outer s H vs Q E hr h => ⟨t_Ladder_init K, body_Ladder_init (txt X0 G0 c) (b_fn_unit_rows (w := w) (base := base) X0 G0 c) (b_fn_laddered (w := w) (base := base) X0 G0 c) hr, init_of h fun x dx rs fs cc => d_Ladder_init (txt X0 G0 c) x dx rs fs cc⟩⟩
theorem b_meth_Ratio_over (X0 : K.In h) (G0 : h.Ns mainGlobals mg) (c : DnH.SaysX fa fnx K) : MetC P w K mg base (He.ga K "Ratio") "over" 4 ["self", "other"] (pureSp (C_Ratio_over K)) := by
  obtain ⟨fd, F, O⟩ := ok_Ratio_over (P := P) (w := w) (base := base) X0 G0 c
  exact ⟨_, fd, He.meth_ok (x := "Ratio") (m := "over") (c.fact 42 rfl), O, F.bindsN fun _ _ _ _ _ _ us hl => match us, hl with | [_, _], _ => rfl⟩
theorem b_op_Ratio_mul (X0 : K.In h) (G0 : h.Ns mainGlobals mg) (c : DnH.SaysX fa fnx K) : OpC P w K mg base (He.ga K "Ratio") "__mul__" "__rmul__" 4 ["self", "other"] (pureSp (C_Ratio_mul K)) := by
  obtain ⟨fd, F, O⟩ := ok_Ratio_mul (P := P) (w := w) (base := base) X0 G0 c
  obtain ⟨o1, o2, o3, o4, ⟨fo, o5⟩, ⟨ro, o6⟩, o7⟩ := DnH.oper_ok (x := "Ratio") (m := "__mul__") (rm := "__rmul__") (c.fact 40 rfl)
  exact ⟨_, fd, fo, ro, _, o1, o2, o3, o4, .inr ⟨_, rfl⟩, o5, o6, o7, O, F.bindsN fun _ _ _ _ _ _ us hl => match us, hl with | [_, _], _ => rfl⟩
theorem b_op_Ratio_sub (X0 : K.In h) (G0 : h.Ns mainGlobals mg) (c : DnH.SaysX fa fnx K) : OpC P w K mg base (He.ga K "Ratio") "__sub__" "__rsub__" 4 ["self", "other"] (pureSp (C_Ratio_sub K)) := by
  obtain ⟨fd, F, O⟩ := ok_Ratio_sub (P := P) (w := w) (base := base) X0 G0 c
  obtain ⟨o1, o2, o3, o4, ⟨fo, o5⟩, ⟨ro, o6⟩, o7⟩ := DnH.oper_ok (x := "Ratio") (m := "__sub__") (rm := "__rsub__") (c.fact 41 rfl)
  exact ⟨_, fd, fo, ro, _, o1, o2, o3, o4, .inr ⟨_, rfl⟩, o5, o6, o7, O, F.bindsN fun _ _ _ _ _ _ us hl => match us, hl with | [_, _], _ => rfl⟩
theorem ok_Ladder_shares (X0 : K.In h) (G0 : h.Ns mainGlobals mg) (c : DnH.SaysX fa fnx K) : ∃ fd, FunD K "shares" "Ladder.shares" (defArgs s_Ladder_shares) (defBody s_Ladder_shares) (defScope s_Ladder_shares) [] [] (He.ma K (He.ga K "Ladder") "shares") fd ∧ FnOk P w K mg base CX0 5 (He.ma K (He.ga K "Ladder") "shares") fd ["self", "goals"] (pureSp (C_Ladder_shares K)) := by
  obtain ⟨fd, F⟩ := c.dfn 23 (d := dx_Ladder_shares) rfl
  exact ⟨fd, F, FunD.ok (dvs := []) F sc_Ladder_shares (pureSp_len (by intro rs r h; first | (obtain ⟨_, rfl, _⟩ := h; rfl) | (obtain ⟨_, _, rfl, _⟩ := h; rfl) | (obtain ⟨_, _, _, rfl, _⟩ := h; rfl) | (obtain ⟨_, _, _, _, rfl, _⟩ := h; rfl) | (obtain ⟨_, _, _, _, _, rfl, _⟩ := h; rfl) | (rcases h with ⟨_, rfl, _⟩ | ⟨_, rfl, _⟩ <;> rfl))) fun cdv A outer s H vs Q E hr h => ⟨t_Ladder_shares K, body_Ladder_shares (txt X0 G0 c) (b_meth_Ratio_over (w := w) (base := base) X0 G0 c) (b_op_Ratio_mul (w := w) (base := base) X0 G0 c) (b_op_Ratio_sub (w := w) (base := base) X0 G0 c) hr, pure_of (Nx := No) h fun rs r cc => ⟨d_Ladder_shares (txt X0 G0 c) cc, fun _ _ z => z.elim⟩⟩⟩
theorem b_prop_Ratio_top (X0 : K.In h) (G0 : h.Ns mainGlobals mg) (c : DnH.SaysX fa fnx K) : PrC P w K mg base (He.ga K "Ratio") "top" 1 ["self"] (pureSp (C_Ratio_top K)) := by
  obtain ⟨fd, F, O⟩ := ok_Ratio_top (P := P) (w := w) (base := base) X0 G0 c
  exact ⟨_, _, fd, DnH.prop_ok (x := "Ratio") (f := "top") (c.fact 35 rfl), O, F.bindsN fun _ _ _ _ _ _ us hl => match us, hl with | [_], _ => rfl⟩
theorem ok_Ladder_made (X0 : K.In h) (G0 : h.Ns mainGlobals mg) (c : DnH.SaysX fa fnx K) : ∃ fd, FunD K "made" "Ladder.made" (defArgs s_Ladder_made) (defBody s_Ladder_made) (defScope s_Ladder_made) [] [] (He.ma K (He.ga K "Ladder") "made") fd ∧ FnOk P w K mg base CX0 3 (He.ma K (He.ga K "Ladder") "made") fd ["self", "shares"] (pureSp (C_Ladder_made K)) := by
  obtain ⟨fd, F⟩ := c.dfn 24 (d := dx_Ladder_made) rfl
  exact ⟨fd, F, FunD.ok (dvs := []) F sc_Ladder_made (pureSp_len (by intro rs r h; first | (obtain ⟨_, rfl, _⟩ := h; rfl) | (obtain ⟨_, _, rfl, _⟩ := h; rfl) | (obtain ⟨_, _, _, rfl, _⟩ := h; rfl) | (obtain ⟨_, _, _, _, rfl, _⟩ := h; rfl) | (obtain ⟨_, _, _, _, _, rfl, _⟩ := h; rfl) | (rcases h with ⟨_, rfl, _⟩ | ⟨_, rfl, _⟩ <;> rfl))) fun cdv A outer s H vs Q E hr h => ⟨t_Ladder_made K, body_Ladder_made (txt X0 G0 c) (b_prop_Ratio_top (w := w) (base := base) X0 G0 c) hr, pure_of (Nx := No) h fun rs r cc => ⟨d_Ladder_made (txt X0 G0 c) cc, fun _ _ z => z.elim⟩⟩⟩
theorem b_meth_Ladder_shares (X0 : K.In h) (G0 : h.Ns mainGlobals mg) (c : DnH.SaysX fa fnx K) : MetC P w K mg base (He.ga K "Ladder") "shares" 5 ["self", "goals"] (pureSp (C_Ladder_shares K)) := by
  obtain ⟨fd, F, O⟩ := ok_Ladder_shares (P := P) (w := w) (base := base) X0 G0 c
  exact ⟨_, fd, He.meth_ok (x := "Ladder") (m := "shares") (c.fact 51 rfl), O, F.bindsN fun _ _ _ _ _ _ us hl => match us, hl with | [_, _], _ => rfl⟩
theorem b_prop_Ratio_is_whole (X0 : K.In h) (G0 : h.Ns mainGlobals mg) (c : DnH.SaysX fa fnx K) : PrC P w K mg base (He.ga K "Ratio") "is_whole" 1 ["self"] (pureSp (C_Ratio_is_whole K)) := by
  obtain ⟨fd, F, O⟩ := ok_Ratio_is_whole (P := P) (w := w) (base := base) X0 G0 c
  exact ⟨_, _, fd, DnH.prop_ok (x := "Ratio") (f := "is_whole") (c.fact 38 rfl), O, F.bindsN fun _ _ _ _ _ _ us hl => match us, hl with | [_], _ => rfl⟩
theorem b_prop_Ratio_sign (X0 : K.In h) (G0 : h.Ns mainGlobals mg) (c : DnH.SaysX fa fnx K) : PrC P w K mg base (He.ga K "Ratio") "sign" 1 ["self"] (pureSp (C_Ratio_sign K)) := by
  obtain ⟨fd, F, O⟩ := ok_Ratio_sign (P := P) (w := w) (base := base) X0 G0 c
  exact ⟨_, _, fd, DnH.prop_ok (x := "Ratio") (f := "sign") (c.fact 37 rfl), O, F.bindsN fun _ _ _ _ _ _ us hl => match us, hl with | [_], _ => rfl⟩
theorem ok_Ladder_bar (X0 : K.In h) (G0 : h.Ns mainGlobals mg) (c : DnH.SaysX fa fnx K) : ∃ fd, FunD K "bar" "Ladder.bar" (defArgs s_Ladder_bar) (defBody s_Ladder_bar) (defScope s_Ladder_bar) [] [] (He.ma K (He.ga K "Ladder") "bar") fd ∧ FnOk P w K mg base CX0 6 (He.ma K (He.ga K "Ladder") "bar") fd ["self", "goals"] (pureSp (C_Ladder_bar K)) := by
  obtain ⟨fd, F⟩ := c.dfn 25 (d := dx_Ladder_bar) rfl
  exact ⟨fd, F, FunD.ok (dvs := []) F sc_Ladder_bar (pureSp_len (by intro rs r h; first | (obtain ⟨_, rfl, _⟩ := h; rfl) | (obtain ⟨_, _, rfl, _⟩ := h; rfl) | (obtain ⟨_, _, _, rfl, _⟩ := h; rfl) | (obtain ⟨_, _, _, _, rfl, _⟩ := h; rfl) | (obtain ⟨_, _, _, _, _, rfl, _⟩ := h; rfl) | (rcases h with ⟨_, rfl, _⟩ | ⟨_, rfl, _⟩ <;> rfl))) fun cdv A outer s H vs Q E hr h => ⟨t_Ladder_bar K, body_Ladder_bar (txt X0 G0 c) (b_meth_Ladder_shares (w := w) (base := base) X0 G0 c) (b_prop_Ratio_is_whole (w := w) (base := base) X0 G0 c) (b_prop_Ratio_sign (w := w) (base := base) X0 G0 c) hr, pure_of (Nx := No) h fun rs r cc => ⟨d_Ladder_bar (txt X0 G0 c) cc, fun _ _ z => z.elim⟩⟩⟩
theorem b_mk0_Ladder_init (X0 : K.In h) (G0 : h.Ns mainGlobals mg) (c : DnH.SaysX fa fnx K) : MkC P w K mg base "Ladder" (He.ga K "Ladder") 4 ["self", "rows"] (initSp (He.ga K "Ladder") (C_Ladder_init K)) [] := by
  obtain ⟨fd, F, O⟩ := ok_Ladder_init (P := P) (w := w) (base := base) X0 G0 c
  exact ⟨_, fd, [], He.mkr_ok (x := "Ladder") (c.fact 23 rfl), O, (F.bindsN fun _ _ _ _ _ _ us hl => match us, hl with | [_, _], _ => rfl), .nil, He.glo_ok X0 G0 (x := "Ladder") (c.fact 21 rfl)⟩
theorem b_meth_Ladder_bar (X0 : K.In h) (G0 : h.Ns mainGlobals mg) (c : DnH.SaysX fa fnx K) : MetC P w K mg base (He.ga K "Ladder") "bar" 6 ["self", "goals"] (pureSp (C_Ladder_bar K)) := by
  obtain ⟨fd, F, O⟩ := ok_Ladder_bar (P := P) (w := w) (base := base) X0 G0 c
  exact ⟨_, fd, He.meth_ok (x := "Ladder") (m := "bar") (c.fact 53 rfl), O, F.bindsN fun _ _ _ _ _ _ us hl => match us, hl with | [_, _], _ => rfl⟩
theorem b_meth_Ladder_made (X0 : K.In h) (G0 : h.Ns mainGlobals mg) (c : DnH.SaysX fa fnx K) : MetC P w K mg base (He.ga K "Ladder") "made" 3 ["self", "shares"] (pureSp (C_Ladder_made K)) := by
  obtain ⟨fd, F, O⟩ := ok_Ladder_made (P := P) (w := w) (base := base) X0 G0 c
  exact ⟨_, fd, He.meth_ok (x := "Ladder") (m := "made") (c.fact 52 rfl), O, F.bindsN fun _ _ _ _ _ _ us hl => match us, hl with | [_, _], _ => rfl⟩
theorem ok_solution_for (X0 : K.In h) (G0 : h.Ns mainGlobals mg) (c : DnH.SaysX fa fnx K) : ∃ fd, FunD K "solution_for" "solution_for" (defArgs s_solution_for) (defBody s_solution_for) (defScope s_solution_for) [] [] (He.ga K "solution_for") fd ∧ FnOk P w K mg base CX0 7 (He.ga K "solution_for") fd ["rows", "goals"] (pureSp (C_solution_for K)) := by
  obtain ⟨fd, F⟩ := c.dfn 26 (d := dx_solution_for) rfl
  exact ⟨fd, F, FunD.ok (dvs := []) F sc_solution_for (pureSp_len (by intro rs r h; first | (obtain ⟨_, rfl, _⟩ := h; rfl) | (obtain ⟨_, _, rfl, _⟩ := h; rfl) | (obtain ⟨_, _, _, rfl, _⟩ := h; rfl) | (obtain ⟨_, _, _, _, rfl, _⟩ := h; rfl) | (obtain ⟨_, _, _, _, _, rfl, _⟩ := h; rfl) | (rcases h with ⟨_, rfl, _⟩ | ⟨_, rfl, _⟩ <;> rfl))) fun cdv A outer s H vs Q E hr h => ⟨t_solution_for K, body_solution_for (txt X0 G0 c) (b_mk0_Ladder_init (w := w) (base := base) X0 G0 c) (b_meth_Ladder_bar (w := w) (base := base) X0 G0 c) (b_meth_Ladder_made (w := w) (base := base) X0 G0 c) (b_meth_Ladder_shares (w := w) (base := base) X0 G0 c) hr, pure_of (Nx := No) h fun rs r cc => ⟨d_solution_for  cc, fun _ _ z => z.elim⟩⟩⟩
theorem ok_bar_for (X0 : K.In h) (G0 : h.Ns mainGlobals mg) (c : DnH.SaysX fa fnx K) : ∃ fd, FunD K "bar_for" "bar_for" (defArgs s_bar_for) (defBody s_bar_for) (defScope s_bar_for) [] [] (He.ga K "bar_for") fd ∧ FnOk P w K mg base CX0 7 (He.ga K "bar_for") fd ["rows", "goals"] (pureSp (C_bar_for K)) := by
  obtain ⟨fd, F⟩ := c.dfn 27 (d := dx_bar_for) rfl
  exact ⟨fd, F, FunD.ok (dvs := []) F sc_bar_for (pureSp_len (by intro rs r h; first | (obtain ⟨_, rfl, _⟩ := h; rfl) | (obtain ⟨_, _, rfl, _⟩ := h; rfl) | (obtain ⟨_, _, _, rfl, _⟩ := h; rfl) | (obtain ⟨_, _, _, _, rfl, _⟩ := h; rfl) | (obtain ⟨_, _, _, _, _, rfl, _⟩ := h; rfl) | (rcases h with ⟨_, rfl, _⟩ | ⟨_, rfl, _⟩ <;> rfl))) fun cdv A outer s H vs Q E hr h => ⟨t_bar_for K, body_bar_for (txt X0 G0 c) (b_mk0_Ladder_init (w := w) (base := base) X0 G0 c) (b_meth_Ladder_bar (w := w) (base := base) X0 G0 c) hr, pure_of (Nx := No) h fun rs r cc => ⟨d_bar_for  cc, fun _ _ z => z.elim⟩⟩⟩
theorem ok_kernel_for (X0 : K.In h) (G0 : h.Ns mainGlobals mg) (c : DnH.SaysX fa fnx K) : ∃ fd, FunD K "kernel_for" "kernel_for" (defArgs s_kernel_for) (defBody s_kernel_for) (defScope s_kernel_for) [] [] (He.ga K "kernel_for") fd ∧ FnOk P w K mg base CX0 4 (He.ga K "kernel_for") fd ["rows", "wide"] (pureSp (C_kernel_for K)) := by
  obtain ⟨fd, F⟩ := c.dfn 28 (d := dx_kernel_for) rfl
  exact ⟨fd, F, FunD.ok (dvs := []) F sc_kernel_for (pureSp_len (by intro rs r h; first | (obtain ⟨_, rfl, _⟩ := h; rfl) | (obtain ⟨_, _, rfl, _⟩ := h; rfl) | (obtain ⟨_, _, _, rfl, _⟩ := h; rfl) | (obtain ⟨_, _, _, _, rfl, _⟩ := h; rfl) | (obtain ⟨_, _, _, _, _, rfl, _⟩ := h; rfl) | (rcases h with ⟨_, rfl, _⟩ | ⟨_, rfl, _⟩ <;> rfl))) fun cdv A outer s H vs Q E hr h => ⟨t_kernel_for K, body_kernel_for (txt X0 G0 c) (b_fn_unit_rows (w := w) (base := base) X0 G0 c) (b_fn_laddered (w := w) (base := base) X0 G0 c) hr, pure_of (Nx := No) h fun rs r cc => ⟨d_kernel_for  cc, fun _ _ z => z.elim⟩⟩⟩
theorem b_fn_is_list (X0 : K.In h) (G0 : h.Ns mainGlobals mg) (c : DnH.SaysX fa fnx K) : Cal P w K mg base "is_list" 1 ["value"] (pureSp (C_is_list K)) := by
  obtain ⟨fd, F, O⟩ := ok_is_list (P := P) (w := w) (base := base) X0 G0 c
  exact ⟨_, fd, O, He.glo_ok X0 G0 (x := "is_list") (c.fact 32 rfl), F.kp, F.bindsN fun _ _ _ _ _ _ us hl => match us, hl with | [_], _ => rfl⟩
theorem ok_are_whole_rows (X0 : K.In h) (G0 : h.Ns mainGlobals mg) (c : DnH.SaysX fa fnx K) : ∃ fd, FunD K "are_whole_rows" "are_whole_rows" (defArgs s_are_whole_rows) (defBody s_are_whole_rows) (defScope s_are_whole_rows) [] [] (He.ga K "are_whole_rows") fd ∧ FnOk P w K mg base CX0 2 (He.ga K "are_whole_rows") fd ["value"] (pureSp (C_are_whole_rows K)) := by
  obtain ⟨fd, F⟩ := c.dfn 29 (d := dx_are_whole_rows) rfl
  exact ⟨fd, F, FunD.ok (dvs := []) F sc_are_whole_rows (pureSp_len (by intro rs r h; first | (obtain ⟨_, rfl, _⟩ := h; rfl) | (obtain ⟨_, _, rfl, _⟩ := h; rfl) | (obtain ⟨_, _, _, rfl, _⟩ := h; rfl) | (obtain ⟨_, _, _, _, rfl, _⟩ := h; rfl) | (obtain ⟨_, _, _, _, _, rfl, _⟩ := h; rfl) | (rcases h with ⟨_, rfl, _⟩ | ⟨_, rfl, _⟩ <;> rfl))) fun cdv A outer s H vs Q E hr h => ⟨t_are_whole_rows K, body_are_whole_rows (txt X0 G0 c) (b_fn_is_list (w := w) (base := base) X0 G0 c) (b_fn_is_integer (w := w) (base := base) X0 G0 c) hr, pure_of (Nx := No) h fun rs r cc => ⟨d_are_whole_rows (fx c) cc, fun _ _ z => z.elim⟩⟩⟩
theorem b_fn_are_whole_rows (X0 : K.In h) (G0 : h.Ns mainGlobals mg) (c : DnH.SaysX fa fnx K) : Cal P w K mg base "are_whole_rows" 2 ["value"] (pureSp (C_are_whole_rows K)) := by
  obtain ⟨fd, F, O⟩ := ok_are_whole_rows (P := P) (w := w) (base := base) X0 G0 c
  exact ⟨_, fd, O, He.glo_ok X0 G0 (x := "are_whole_rows") (c.fact 57 rfl), F.kp, F.bindsN fun _ _ _ _ _ _ us hl => match us, hl with | [_], _ => rfl⟩
theorem ok_want_whole_rows (X0 : K.In h) (G0 : h.Ns mainGlobals mg) (c : DnH.SaysX fa fnx K) : ∃ fd, FunD K "want_whole_rows" "want_whole_rows" (defArgs s_want_whole_rows) (defBody s_want_whole_rows) (defScope s_want_whole_rows) [.int 0] [] (He.ga K "want_whole_rows") fd ∧ FnOk P w K mg base CX0 3 (He.ga K "want_whole_rows") fd ["value", "least"] (pureSp (C_want_whole_rows K)) := by
  obtain ⟨fd, F⟩ := c.dfn 30 (d := dx_want_whole_rows) rfl
  exact ⟨fd, F, FunD.ok (dvs := [.int 0]) F sc_want_whole_rows (pureSp_len (by intro rs r h; first | (obtain ⟨_, rfl, _⟩ := h; rfl) | (obtain ⟨_, _, rfl, _⟩ := h; rfl) | (obtain ⟨_, _, _, rfl, _⟩ := h; rfl) | (obtain ⟨_, _, _, _, rfl, _⟩ := h; rfl) | (obtain ⟨_, _, _, _, _, rfl, _⟩ := h; rfl) | (rcases h with ⟨_, rfl, _⟩ | ⟨_, rfl, _⟩ <;> rfl))) fun cdv A outer s H vs Q E hr h => ⟨t_want_whole_rows K, body_want_whole_rows (txt X0 G0 c) (b_fn_are_whole_rows (w := w) (base := base) X0 G0 c) hr, pure_of (Nx := No) h fun rs r cc => ⟨d_want_whole_rows  cc, fun _ _ z => z.elim⟩⟩⟩
theorem b_fn_is_number (X0 : K.In h) (G0 : h.Ns mainGlobals mg) (c : DnH.SaysX fa fnx K) : Cal P w K mg base "is_number" 2 ["value"] (pureSp (C_is_number K)) := by
  obtain ⟨fd, F, O⟩ := ok_is_number (P := P) (w := w) (base := base) X0 G0 c
  exact ⟨_, fd, O, He.glo_ok X0 G0 (x := "is_number") (c.fact 44 rfl), F.kp, F.bindsN fun _ _ _ _ _ _ us hl => match us, hl with | [_], _ => rfl⟩
theorem b_fn_ratio_of (X0 : K.In h) (G0 : h.Ns mainGlobals mg) (c : DnH.SaysX fa fnx K) : Cal P w K mg base "ratio_of" 4 ["number"] (pureSp (C_ratio_of K)) := by
  obtain ⟨fd, F, O⟩ := ok_ratio_of (P := P) (w := w) (base := base) X0 G0 c
  exact ⟨_, fd, O, He.glo_ok X0 G0 (x := "ratio_of") (c.fact 45 rfl), F.kp, F.bindsN fun _ _ _ _ _ _ us hl => match us, hl with | [_], _ => rfl⟩
theorem ok_want_goals (X0 : K.In h) (G0 : h.Ns mainGlobals mg) (c : DnH.SaysX fa fnx K) : ∃ fd, FunD K "want_goals" "want_goals" (defArgs s_want_goals) (defBody s_want_goals) (defScope s_want_goals) [] [] (He.ga K "want_goals") fd ∧ FnOk P w K mg base CX0 5 (He.ga K "want_goals") fd ["rows", "value"] (pureSp (C_want_goals K)) := by
  obtain ⟨fd, F⟩ := c.dfn 31 (d := dx_want_goals) rfl
  exact ⟨fd, F, FunD.ok (dvs := []) F sc_want_goals (pureSp_len (by intro rs r h; first | (obtain ⟨_, rfl, _⟩ := h; rfl) | (obtain ⟨_, _, rfl, _⟩ := h; rfl) | (obtain ⟨_, _, _, rfl, _⟩ := h; rfl) | (obtain ⟨_, _, _, _, rfl, _⟩ := h; rfl) | (obtain ⟨_, _, _, _, _, rfl, _⟩ := h; rfl) | (rcases h with ⟨_, rfl, _⟩ | ⟨_, rfl, _⟩ <;> rfl))) fun cdv A outer s H vs Q E hr h => ⟨t_want_goals K, body_want_goals (txt X0 G0 c) (b_fn_is_list (w := w) (base := base) X0 G0 c) (b_fn_is_number (w := w) (base := base) X0 G0 c) (b_fn_ratio_of (w := w) (base := base) X0 G0 c) hr, pure_of (Nx := No) h fun rs r cc => ⟨d_want_goals (fx c) cc, fun _ _ z => z.elim⟩⟩⟩
theorem b_dfl1_want_whole_rows (X0 : K.In h) (G0 : h.Ns mainGlobals mg) (c : DnH.SaysX fa fnx K) : CalD P w K mg base "want_whole_rows" 3 ["value", "least"] (pureSp (C_want_whole_rows K)) [.int 0] := by
  obtain ⟨fd, F, O⟩ := ok_want_whole_rows (P := P) (w := w) (base := base) X0 G0 c
  obtain ⟨ds, rv, B⟩ := F.binds1 (ps := ["value", "least"]) 1 0 (fun e => nomatch e) rfl fun T kV doc pm an cdv ct us its h1 h2 => by
    match us, h1, its, h2 with
    | [_], _, [_], _ => exact ⟨_, rfl, by kernel_rfl⟩
  exact ⟨_, fd, ds, O, He.glo_ok X0 G0 (x := "want_whole_rows") (c.fact 58 rfl), F.kp, B, rv⟩
theorem b_fn_want_many (X0 : K.In h) (G0 : h.Ns mainGlobals mg) (c : DnH.SaysX fa fnx K) : Cal P w K mg base "want_many" 3 ["value", "most", "least"] (pureSp (C_want_many K)) := by
  obtain ⟨fd, F, O⟩ := ok_want_many (P := P) (w := w) (base := base) X0 G0 c
  obtain ⟨ds, rv, B⟩ := F.binds1 (ps := ["value", "most", "least"]) 3 2 (fun e => nomatch e) rfl fun T kV doc pm an cdv ct us its h1 h2 => by
    match us, h1, its, h2 with
    | [_, _, _], _, [_, _], _ => exact ⟨_, rfl, by kernel_rfl⟩
  have e := vals_nil rv
  subst e
  exact ⟨_, fd, O, He.glo_ok X0 G0 (x := "want_many") (c.fact 33 rfl), F.kp, B⟩
theorem b_fn_kernel_for (X0 : K.In h) (G0 : h.Ns mainGlobals mg) (c : DnH.SaysX fa fnx K) : Cal P w K mg base "kernel_for" 4 ["rows", "wide"] (pureSp (C_kernel_for K)) := by
  obtain ⟨fd, F, O⟩ := ok_kernel_for (P := P) (w := w) (base := base) X0 G0 c
  exact ⟨_, fd, O, He.glo_ok X0 G0 (x := "kernel_for") (c.fact 56 rfl), F.kp, F.bindsN fun _ _ _ _ _ _ us hl => match us, hl with | [_, _], _ => rfl⟩
theorem ok_whole_kernel (X0 : K.In h) (G0 : h.Ns mainGlobals mg) (c : DnH.SaysX fa fnx K) : ∃ fd, FunD K "whole_kernel" "whole_kernel" (defArgs s_whole_kernel) (defBody s_whole_kernel) (defScope s_whole_kernel) [] [] (He.ga K "whole_kernel") fd ∧ FnOk P w K mg base CX0 5 (He.ga K "whole_kernel") fd ["rows", "wide"] (pureSp (C_whole_kernel K)) := by
  obtain ⟨fd, F⟩ := c.dfn 32 (d := dx_whole_kernel) rfl
  exact ⟨fd, F, FunD.ok (dvs := []) F sc_whole_kernel (pureSp_len (by intro rs r h; first | (obtain ⟨_, rfl, _⟩ := h; rfl) | (obtain ⟨_, _, rfl, _⟩ := h; rfl) | (obtain ⟨_, _, _, rfl, _⟩ := h; rfl) | (obtain ⟨_, _, _, _, rfl, _⟩ := h; rfl) | (obtain ⟨_, _, _, _, _, rfl, _⟩ := h; rfl) | (rcases h with ⟨_, rfl, _⟩ | ⟨_, rfl, _⟩ <;> rfl))) fun cdv A outer s H vs Q E hr h => ⟨t_whole_kernel K, body_whole_kernel (txt X0 G0 c) (b_dfl1_want_whole_rows (w := w) (base := base) X0 G0 c) (b_fn_want_many (w := w) (base := base) X0 G0 c) (b_fn_kernel_for (w := w) (base := base) X0 G0 c) hr, pure_of (Nx := No) h fun rs r cc => ⟨d_whole_kernel  cc, fun _ _ z => z.elim⟩⟩⟩
theorem b_fn_want_whole_rows (X0 : K.In h) (G0 : h.Ns mainGlobals mg) (c : DnH.SaysX fa fnx K) : Cal P w K mg base "want_whole_rows" 3 ["value", "least"] (pureSp (C_want_whole_rows K)) := by
  obtain ⟨fd, F, O⟩ := ok_want_whole_rows (P := P) (w := w) (base := base) X0 G0 c
  obtain ⟨ds, rv, B⟩ := F.binds1 (ps := ["value", "least"]) 2 1 (fun e => nomatch e) rfl fun T kV doc pm an cdv ct us its h1 h2 => by
    match us, h1, its, h2 with
    | [_, _], _, [_], _ => exact ⟨_, rfl, by kernel_rfl⟩
  have e := vals_nil rv
  subst e
  exact ⟨_, fd, O, He.glo_ok X0 G0 (x := "want_whole_rows") (c.fact 58 rfl), F.kp, B⟩
theorem b_fn_want_goals (X0 : K.In h) (G0 : h.Ns mainGlobals mg) (c : DnH.SaysX fa fnx K) : Cal P w K mg base "want_goals" 5 ["rows", "value"] (pureSp (C_want_goals K)) := by
  obtain ⟨fd, F, O⟩ := ok_want_goals (P := P) (w := w) (base := base) X0 G0 c
  exact ⟨_, fd, O, He.glo_ok X0 G0 (x := "want_goals") (c.fact 59 rfl), F.kp, F.bindsN fun _ _ _ _ _ _ us hl => match us, hl with | [_, _], _ => rfl⟩
theorem b_fn_solution_for (X0 : K.In h) (G0 : h.Ns mainGlobals mg) (c : DnH.SaysX fa fnx K) : Cal P w K mg base "solution_for" 7 ["rows", "goals"] (pureSp (C_solution_for K)) := by
  obtain ⟨fd, F, O⟩ := ok_solution_for (P := P) (w := w) (base := base) X0 G0 c
  exact ⟨_, fd, O, He.glo_ok X0 G0 (x := "solution_for") (c.fact 54 rfl), F.kp, F.bindsN fun _ _ _ _ _ _ us hl => match us, hl with | [_, _], _ => rfl⟩
theorem ok_whole_solution (X0 : K.In h) (G0 : h.Ns mainGlobals mg) (c : DnH.SaysX fa fnx K) : ∃ fd, FunD K "whole_solution" "whole_solution" (defArgs s_whole_solution) (defBody s_whole_solution) (defScope s_whole_solution) [] [] (He.ga K "whole_solution") fd ∧ FnOk P w K mg base CX0 8 (He.ga K "whole_solution") fd ["rows", "goals"] (pureSp (C_whole_solution K)) := by
  obtain ⟨fd, F⟩ := c.dfn 33 (d := dx_whole_solution) rfl
  exact ⟨fd, F, FunD.ok (dvs := []) F sc_whole_solution (pureSp_len (by intro rs r h; first | (obtain ⟨_, rfl, _⟩ := h; rfl) | (obtain ⟨_, _, rfl, _⟩ := h; rfl) | (obtain ⟨_, _, _, rfl, _⟩ := h; rfl) | (obtain ⟨_, _, _, _, rfl, _⟩ := h; rfl) | (obtain ⟨_, _, _, _, _, rfl, _⟩ := h; rfl) | (rcases h with ⟨_, rfl, _⟩ | ⟨_, rfl, _⟩ <;> rfl))) fun cdv A outer s H vs Q E hr h => ⟨t_whole_solution K, body_whole_solution (txt X0 G0 c) (b_fn_want_whole_rows (w := w) (base := base) X0 G0 c) (b_fn_want_goals (w := w) (base := base) X0 G0 c) (b_fn_solution_for (w := w) (base := base) X0 G0 c) hr, pure_of (Nx := No) h fun rs r cc => ⟨d_whole_solution  cc, fun _ _ z => z.elim⟩⟩⟩
theorem b_owneq_Ratio_eq (X0 : K.In h) (G0 : h.Ns mainGlobals mg) (c : DnH.SaysX fa fnx K) : EqC P w K mg base (He.ga K "Ratio") 1 ["self", "other"] (pureSp (C_Ratio_eq K)) := by
  obtain ⟨fd, F, O⟩ := ok_Ratio_eq (P := P) (w := w) (base := base) X0 G0 c
  have M := He.meth_ok (x := "Ratio") (m := "__eq__") (c.fact 43 rfl)
  exact ⟨_, fd, M.at_, M.fn, O, F.bindsN fun _ _ _ _ _ _ us hl => match us, hl with | [_, _], _ => rfl⟩
theorem ok_is_whole_solution (X0 : K.In h) (G0 : h.Ns mainGlobals mg) (c : DnH.SaysX fa fnx K) : ∃ fd, FunD K "is_whole_solution" "is_whole_solution" (defArgs s_is_whole_solution) (defBody s_is_whole_solution) (defScope s_is_whole_solution) [] [] (He.ga K "is_whole_solution") fd ∧ FnOk P w K mg base CX0 6 (He.ga K "is_whole_solution") fd ["rows", "goals", "value"] (pureSp (C_is_whole_solution K)) := by
  obtain ⟨fd, F⟩ := c.dfn 34 (d := dx_is_whole_solution) rfl
  exact ⟨fd, F, FunD.ok (dvs := []) F sc_is_whole_solution (pureSp_len (by intro rs r h; first | (obtain ⟨_, rfl, _⟩ := h; rfl) | (obtain ⟨_, _, rfl, _⟩ := h; rfl) | (obtain ⟨_, _, _, rfl, _⟩ := h; rfl) | (obtain ⟨_, _, _, _, rfl, _⟩ := h; rfl) | (obtain ⟨_, _, _, _, _, rfl, _⟩ := h; rfl) | (rcases h with ⟨_, rfl, _⟩ | ⟨_, rfl, _⟩ <;> rfl))) fun cdv A outer s H vs Q E hr h => ⟨t_is_whole_solution K, body_is_whole_solution (txt X0 G0 c) (b_fn_want_whole_rows (w := w) (base := base) X0 G0 c) (b_fn_want_goals (w := w) (base := base) X0 G0 c) (b_fn_is_list (w := w) (base := base) X0 G0 c) (b_fn_is_integer (w := w) (base := base) X0 G0 c) (b_owneq_Ratio_eq (w := w) (base := base) X0 G0 c) (b_mk1_Ratio_init (w := w) (base := base) X0 G0 c) hr, pure_of (Nx := No) h fun rs r cc => ⟨d_is_whole_solution (fx c) cc, fun _ _ z => z.elim⟩⟩⟩
theorem b_fn_bar_for (X0 : K.In h) (G0 : h.Ns mainGlobals mg) (c : DnH.SaysX fa fnx K) : Cal P w K mg base "bar_for" 7 ["rows", "goals"] (pureSp (C_bar_for K)) := by
  obtain ⟨fd, F, O⟩ := ok_bar_for (P := P) (w := w) (base := base) X0 G0 c
  exact ⟨_, fd, O, He.glo_ok X0 G0 (x := "bar_for") (c.fact 55 rfl), F.kp, F.bindsN fun _ _ _ _ _ _ us hl => match us, hl with | [_, _], _ => rfl⟩
theorem ok_whole_bar (X0 : K.In h) (G0 : h.Ns mainGlobals mg) (c : DnH.SaysX fa fnx K) : ∃ fd, FunD K "whole_bar" "whole_bar" (defArgs s_whole_bar) (defBody s_whole_bar) (defScope s_whole_bar) [] [] (He.ga K "whole_bar") fd ∧ FnOk P w K mg base CX0 8 (He.ga K "whole_bar") fd ["rows", "goals"] (pureSp (C_whole_bar K)) := by
  obtain ⟨fd, F⟩ := c.dfn 35 (d := dx_whole_bar) rfl
  exact ⟨fd, F, FunD.ok (dvs := []) F sc_whole_bar (pureSp_len (by intro rs r h; first | (obtain ⟨_, rfl, _⟩ := h; rfl) | (obtain ⟨_, _, rfl, _⟩ := h; rfl) | (obtain ⟨_, _, _, rfl, _⟩ := h; rfl) | (obtain ⟨_, _, _, _, rfl, _⟩ := h; rfl) | (obtain ⟨_, _, _, _, _, rfl, _⟩ := h; rfl) | (rcases h with ⟨_, rfl, _⟩ | ⟨_, rfl, _⟩ <;> rfl))) fun cdv A outer s H vs Q E hr h => ⟨t_whole_bar K, body_whole_bar (txt X0 G0 c) (b_fn_want_whole_rows (w := w) (base := base) X0 G0 c) (b_fn_want_goals (w := w) (base := base) X0 G0 c) (b_fn_bar_for (w := w) (base := base) X0 G0 c) hr, pure_of (Nx := No) h fun rs r cc => ⟨d_whole_bar  cc, fun _ _ z => z.elim⟩⟩⟩
theorem ok_law_pot (X0 : K.In h) (G0 : h.Ns mainGlobals mg) (c : DnH.SaysX fa fnx K) : ∃ fd, FunD K "_law_pot" "_law_pot" (defArgs s_law_pot) (defBody s_law_pot) (defScope s_law_pot) [] [] (He.ga K "_law_pot") fd ∧ FnOk P w K mg base CX0 1 (He.ga K "_law_pot") fd ["script", "k"] (spPot K) := by
  obtain ⟨fd, F⟩ := c.dfn 36 (d := dx_law_pot) rfl
  exact ⟨fd, F, FunD.ok (dvs := []) F sc_law_pot (fun vs H Q E h => by obtain ⟨F, sc, k, _, hv, _⟩ := h; exact hv.len) fun cdv A outer s H vs Q E hr h => ⟨t_law_pot K, body_law_pot (txt X0 G0 c)  hr, p_law_pot  h⟩⟩
theorem ok_law_draw (X0 : K.In h) (G0 : h.Ns mainGlobals mg) (c : DnH.SaysX fa fnx K) : ∃ fd, FunD K "_law_draw" "_law_draw" (defArgs s_law_draw) (defBody s_law_draw) (defScope s_law_draw) [] [] (He.ga K "_law_draw") fd ∧ FnOk P w K mg base CX0 1 (He.ga K "_law_draw") fd ["pot", "many"] spDraw := by
  obtain ⟨fd, F⟩ := c.dfn 37 (d := dx_law_draw) rfl
  exact ⟨fd, F, FunD.ok (dvs := []) F sc_law_draw (fun vs H Q E h => by obtain ⟨_, _, _, _, rfl, _⟩ := h; rfl) fun cdv A outer s H vs Q E hr h => ⟨t_law_draw K, body_law_draw (txt X0 G0 c)  hr, p_law_draw  h⟩⟩
theorem ok_law_lists (X0 : K.In h) (G0 : h.Ns mainGlobals mg) (c : DnH.SaysX fa fnx K) : ∃ fd, FunD K "_law_lists" "_law_lists" (defArgs s_law_lists) (defBody s_law_lists) (defScope s_law_lists) [] [] (He.ga K "_law_lists") fd ∧ FnOk P w K mg base CX0 1 (He.ga K "_law_lists") fd ["width"] (pureSp (C_law_lists K)) := by
  obtain ⟨fd, F⟩ := c.dfn 38 (d := dx_law_lists) rfl
  exact ⟨fd, F, FunD.ok (dvs := []) F sc_law_lists (pureSp_len (by intro rs r h; first | (obtain ⟨_, rfl, _⟩ := h; rfl) | (obtain ⟨_, _, rfl, _⟩ := h; rfl) | (obtain ⟨_, _, _, rfl, _⟩ := h; rfl) | (obtain ⟨_, _, _, _, rfl, _⟩ := h; rfl) | (obtain ⟨_, _, _, _, _, rfl, _⟩ := h; rfl) | (rcases h with ⟨_, rfl, _⟩ | ⟨_, rfl, _⟩ <;> rfl))) fun cdv A outer s H vs Q E hr h => ⟨t_law_lists K, body_law_lists (txt X0 G0 c)  hr, pure_of (Nx := No) h fun rs r cc => ⟨d_law_lists  cc, fun _ _ z => z.elim⟩⟩⟩
theorem ok_law_is_made (X0 : K.In h) (G0 : h.Ns mainGlobals mg) (c : DnH.SaysX fa fnx K) : ∃ fd, FunD K "_law_is_made" "_law_is_made" (defArgs s_law_is_made) (defBody s_law_is_made) (defScope s_law_is_made) [] [] (He.ga K "_law_is_made") fd ∧ FnOk P w K mg base CX0 1 (He.ga K "_law_is_made") fd ["row", "steps"] (pureSp (C_law_is_made K)) := by
  obtain ⟨fd, F⟩ := c.dfn 39 (d := dx_law_is_made) rfl
  exact ⟨fd, F, FunD.ok (dvs := []) F sc_law_is_made (pureSp_len (by intro rs r h; first | (obtain ⟨_, rfl, _⟩ := h; rfl) | (obtain ⟨_, _, rfl, _⟩ := h; rfl) | (obtain ⟨_, _, _, rfl, _⟩ := h; rfl) | (obtain ⟨_, _, _, _, rfl, _⟩ := h; rfl) | (obtain ⟨_, _, _, _, _, rfl, _⟩ := h; rfl) | (rcases h with ⟨_, rfl, _⟩ | ⟨_, rfl, _⟩ <;> rfl))) fun cdv A outer s H vs Q E hr h => ⟨t_law_is_made K, body_law_is_made (txt X0 G0 c)  hr, pure_of (Nx := No) h fun rs r cc => ⟨d_law_is_made  cc, fun _ _ z => z.elim⟩⟩⟩
theorem b_fn_law_draw (X0 : K.In h) (G0 : h.Ns mainGlobals mg) (c : DnH.SaysX fa fnx K) : Cal P w K mg base "_law_draw" 1 ["pot", "many"] spDraw := by
  obtain ⟨fd, F, O⟩ := ok_law_draw (P := P) (w := w) (base := base) X0 G0 c
  exact ⟨_, fd, O, He.glo_ok X0 G0 (x := "_law_draw") (c.fact 65 rfl), F.kp, F.bindsN fun _ _ _ _ _ _ us hl => match us, hl with | [_, _], _ => rfl⟩
theorem b_fn_whole_kernel (X0 : K.In h) (G0 : h.Ns mainGlobals mg) (c : DnH.SaysX fa fnx K) : Cal P w K mg base "whole_kernel" 5 ["rows", "wide"] (pureSp (C_whole_kernel K)) := by
  obtain ⟨fd, F, O⟩ := ok_whole_kernel (P := P) (w := w) (base := base) X0 G0 c
  exact ⟨_, fd, O, He.glo_ok X0 G0 (x := "whole_kernel") (c.fact 60 rfl), F.kp, F.bindsN fun _ _ _ _ _ _ us hl => match us, hl with | [_, _], _ => rfl⟩
theorem b_fn_whole_solution (X0 : K.In h) (G0 : h.Ns mainGlobals mg) (c : DnH.SaysX fa fnx K) : Cal P w K mg base "whole_solution" 8 ["rows", "goals"] (pureSp (C_whole_solution K)) := by
  obtain ⟨fd, F, O⟩ := ok_whole_solution (P := P) (w := w) (base := base) X0 G0 c
  exact ⟨_, fd, O, He.glo_ok X0 G0 (x := "whole_solution") (c.fact 61 rfl), F.kp, F.bindsN fun _ _ _ _ _ _ us hl => match us, hl with | [_, _], _ => rfl⟩
theorem b_kwgoals_rows_whole_bar (X0 : K.In h) (G0 : h.Ns mainGlobals mg) (c : DnH.SaysX fa fnx K) : CalN P w K mg base "whole_bar" 8 ["rows", "goals"] (pureSp (C_whole_bar K)) ["goals", "rows"] (fun _ zs => zs.reverse) := by
  obtain ⟨fd, F, O⟩ := ok_whole_bar (P := P) (w := w) (base := base) X0 G0 c
  refine ⟨_, fd, (fun _ zs => zs.reverse), O, He.glo_ok X0 G0 (x := "whole_bar") (c.fact 63 rfl), F.kp, ⟨?_, fun _ r => r.reverse⟩⟩
  obtain ⟨oc, od, dV, kV, doc, pm, an, cdv, ct, osl, rfl, lk, hcd, hD, hK⟩ := F.ex
  rcases hD with ⟨_, rfl⟩ | ⟨e, _⟩
  · intro s us ws _ h1 h2
    match us, h1, ws, h2 with
    | [], _, [a, b], _ => exact .of_eq rfl
  · exact absurd rfl e
theorem b_kwrows_goals_whole_solution (X0 : K.In h) (G0 : h.Ns mainGlobals mg) (c : DnH.SaysX fa fnx K) : CalN P w K mg base "whole_solution" 8 ["rows", "goals"] (pureSp (C_whole_solution K)) ["rows", "goals"] (fun _ zs => zs) := by
  obtain ⟨fd, F, O⟩ := ok_whole_solution (P := P) (w := w) (base := base) X0 G0 c
  refine ⟨_, fd, (fun _ zs => zs), O, He.glo_ok X0 G0 (x := "whole_solution") (c.fact 61 rfl), F.kp, ⟨?_, fun _ r => r⟩⟩
  obtain ⟨oc, od, dV, kV, doc, pm, an, cdv, ct, osl, rfl, lk, hcd, hD, hK⟩ := F.ex
  rcases hD with ⟨_, rfl⟩ | ⟨e, _⟩
  · intro s us ws _ h1 h2
    match us, h1, ws, h2 with
    | [], _, [a, b], _ => exact .of_eq rfl
  · exact absurd rfl e
theorem b_fn_is_whole_solution (X0 : K.In h) (G0 : h.Ns mainGlobals mg) (c : DnH.SaysX fa fnx K) : Cal P w K mg base "is_whole_solution" 6 ["rows", "goals", "value"] (pureSp (C_is_whole_solution K)) := by
  obtain ⟨fd, F, O⟩ := ok_is_whole_solution (P := P) (w := w) (base := base) X0 G0 c
  exact ⟨_, fd, O, He.glo_ok X0 G0 (x := "is_whole_solution") (c.fact 62 rfl), F.kp, F.bindsN fun _ _ _ _ _ _ us hl => match us, hl with | [_, _, _], _ => rfl⟩
theorem b_fn_law_lists (X0 : K.In h) (G0 : h.Ns mainGlobals mg) (c : DnH.SaysX fa fnx K) : Cal P w K mg base "_law_lists" 1 ["width"] (pureSp (C_law_lists K)) := by
  obtain ⟨fd, F, O⟩ := ok_law_lists (P := P) (w := w) (base := base) X0 G0 c
  exact ⟨_, fd, O, He.glo_ok X0 G0 (x := "_law_lists") (c.fact 66 rfl), F.kp, F.bindsN fun _ _ _ _ _ _ us hl => match us, hl with | [_], _ => rfl⟩
theorem b_fn_law_is_made (X0 : K.In h) (G0 : h.Ns mainGlobals mg) (c : DnH.SaysX fa fnx K) : Cal P w K mg base "_law_is_made" 1 ["row", "steps"] (pureSp (C_law_is_made K)) := by
  obtain ⟨fd, F, O⟩ := ok_law_is_made (P := P) (w := w) (base := base) X0 G0 c
  exact ⟨_, fd, O, He.glo_ok X0 G0 (x := "_law_is_made") (c.fact 67 rfl), F.kp, F.bindsN fun _ _ _ _ _ _ us hl => match us, hl with | [_, _], _ => rfl⟩
theorem ok_law_right (X0 : K.In h) (G0 : h.Ns mainGlobals mg) (c : DnH.SaysX fa fnx K) : ∃ fd, FunD K "_law_right" "_law_right" (defArgs s_law_right) (defBody s_law_right) (defScope s_law_right) [] [] (He.ga K "_law_right") fd ∧ FnOk P w K mg base CX0 9 (He.ga K "_law_right") fd ["pot"] spRight := by
  obtain ⟨fd, F⟩ := c.dfn 40 (d := dx_law_right) rfl
  exact ⟨fd, F, FunD.ok (dvs := []) F sc_law_right (fun vs H Q E h => by obtain ⟨_, _, _, _, rfl, _⟩ := h; rfl) fun cdv A outer s H vs Q E hr h => ⟨t_law_right K, body_law_right (txt X0 G0 c) (b_fn_law_draw (w := w) (base := base) X0 G0 c) (b_fn_whole_kernel (w := w) (base := base) X0 G0 c) (b_fn_whole_solution (w := w) (base := base) X0 G0 c) (b_kwgoals_rows_whole_bar (w := w) (base := base) X0 G0 c) (b_kwrows_goals_whole_solution (w := w) (base := base) X0 G0 c) (b_fn_is_whole_solution (w := w) (base := base) X0 G0 c) (b_fn_law_lists (w := w) (base := base) X0 G0 c) (b_fn_law_is_made (w := w) (base := base) X0 G0 c) hr, p_law_right (fx c) h⟩⟩
theorem b_fn_law_pot (X0 : K.In h) (G0 : h.Ns mainGlobals mg) (c : DnH.SaysX fa fnx K) : Cal P w K mg base "_law_pot" 1 ["script", "k"] (spPot K) := by
  obtain ⟨fd, F, O⟩ := ok_law_pot (P := P) (w := w) (base := base) X0 G0 c
  exact ⟨_, fd, O, He.glo_ok X0 G0 (x := "_law_pot") (c.fact 64 rfl), F.kp, F.bindsN fun _ _ _ _ _ _ us hl => match us, hl with | [_, _], _ => rfl⟩
theorem b_fn_law_right (X0 : K.In h) (G0 : h.Ns mainGlobals mg) (c : DnH.SaysX fa fnx K) : Cal P w K mg base "_law_right" 9 ["pot"] spRight := by
  obtain ⟨fd, F, O⟩ := ok_law_right (P := P) (w := w) (base := base) X0 G0 c
  exact ⟨_, fd, O, He.glo_ok X0 G0 (x := "_law_right") (c.fact 68 rfl), F.kp, F.bindsN fun _ _ _ _ _ _ us hl => match us, hl with | [_], _ => rfl⟩
theorem ok_law (X0 : K.In h) (G0 : h.Ns mainGlobals mg) (c : DnH.SaysX fa fnx K) : ∃ fd, FunD K "law" "law" (defArgs s_law) (defBody s_law) (defScope s_law) [] [] (He.ga K "law") fd ∧ FnOk P w K mg base CX0 10 (He.ga K "law") fd ["script"] (spLaw K) := by
  obtain ⟨fd, F⟩ := c.dfn 41 (d := dx_law) rfl
  exact ⟨fd, F, FunD.ok (dvs := []) F sc_law (fun vs H Q E h => by obtain ⟨_, _, rfl, _⟩ := h; rfl) fun cdv A outer s H vs Q E hr h => ⟨t_law K, body_law (txt X0 G0 c) (b_fn_law_pot (w := w) (base := base) X0 G0 c) (b_fn_law_right (w := w) (base := base) X0 G0 c) hr, p_law  h⟩⟩
theorem facts (X0 : K.In h) (G0 : h.Ns mainGlobals mg) (c : DnH.SaysX fa fnx K) {f : Addr} (hfa : mg ("law" : Str) = some (.ref f)) :
    ∃ fd : FuncData, (∀ (s : Shared) (v : Value), BindsTo s fd ⟨[v], []⟩ [("script", v)]) ∧ ∀ base : Heap, K.In base → base.Ns mainGlobals mg → FnOk P w K mg base CX0 10 f fd ["script"] (spLaw K) := by
  obtain ⟨fd, F⟩ := c.dfn 41 (d := dx_law) rfl
  have e := hfa.symm.trans (He.glo_ok X0 G0 (x := "law") (c.fact 69 rfl))
  cases e
  have b := FunD.bindsA (ps := ["script"]) F fun _ _ _ _ _ _ us hl => match us, hl with | [_], _ => rfl
  refine ⟨fd, fun s v => b s [v] rfl, fun base _ _ => ?_⟩
  obtain ⟨fd2, F2, O⟩ := ok_law (P := P) (w := w) (base := base) X0 G0 c
  have e2 : fd = fd2 := by
    obtain ⟨oc, od, dV, kV, doc, pm, an, cdv, ct, osl, e1, l1, _⟩ := F.ex
    obtain ⟨oc', od', dV', kV', doc', pm', an', cdv', ct', osl', e1', l1', _⟩ := F2.ex
    have l1 : K.lookup (He.ga K "law") = _ := l1
    rw [l1] at l1'
    injection l1' with l2
    injection l2 with _ _ l3 _
    injection l3
  rw [e2]
  exact O
end
end W
open PySem PySem.W PySem.Calls PyProof.Rows
theorem PySem.Challenge.cw_wholefillrows_k19_whole_solutions_all_of_holds : PySem.Challenge.rw_wholefillrows_k19_whole_solutions_all_of.Holds := by
  w_on; o_law
  refine HandSHeadRun.head_imp (r := OpenLaw.row PySem.Challenge.rw_wholefillrows_k19_whole_solutions_all_of) (q := HX.qv) (H := HX.hk) (ob := HX.ob) (M := 12000) (loose := HX.names) (d := HandSHeadRun.topDef (OpenLaw.row PySem.Challenge.rw_wholefillrows_k19_whole_solutions_all_of).prog 49) (kwd := []) HX.ob_eq HX.run
    (by kernel_rfl) (by kernel_rfl) (by kernel_rfl) (by rfl) (by first | assumption | decide +kernel) (by decide +kernel) ⟨rfl, rfl, rfl, rfl, rfl, by decide +kernel⟩ ?hw ?hc
  case hw => w_witness2
  case hc =>
    refine L2.walk_ofE (l := PySem.Challenge.rw_wholefillrows_k19_whole_solutions_all_of) (n := 63) (k := 10) (x := "script") (CX := L2.CX0) rfl (by decide) (by kernel_rfl) ⟨rfl, by decide, by decide⟩ ?F (fun _ _ _ _ z => z)
    intro w mg fa h Y G hmg0
    obtain ⟨K, KX, c⟩ := Y
    have hmg : mg ("law" : PySem.Str) = some (.ref fa) := by
      have e : (HandSHeadRun.topDef (OpenLaw.row PySem.Challenge.rw_wholefillrows_k19_whole_solutions_all_of).prog 49).name = ("law" : PySem.Str) := by kernel_rfl
      rw [← e]
      exact hmg0
    obtain ⟨fd, hb, hF⟩ := W.facts (P := (PySem.Challenge.rw_wholefillrows_k19_whole_solutions_all_of).prog) (w := w) KX G c hmg
    exact ⟨K, fd, W.spLaw K, KX, hb, fun H a ns hl _ hS => ⟨a, ns, rfl, hl, hS, fun _ => rfl⟩, hF⟩
