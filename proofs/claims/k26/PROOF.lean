import PyProof.Rows.All
import Wide.All
import OpenK.AllK
import Wide.FinOn
import HandS.ForMost
import HandS.Walk
import HandS.Property
import HandS.IsInst
import HandS.Defaults
import HandS.Gcd
import HandS.Wide
import HandS.WideBits
import HandS.Style
import HandS.Codes
import HandS.ListEq
import HandS.OwnEq
import HandS.Flow
import KE.KStateDown
import HandS.Head0
import HandS.Head1
import HandS.Head2
import HandS.Head3
import HandS.HeadEnd
import HandS.HeadHook1
import HandS.HeadHook2
import KE.KOpsOwn
import KE.KMathGC
import HandS.Comp
import HandS.TryOnly
import PyProof.ReprRoads
import HandS.More
import PySem.Challenge.RW_wholefillrows_k26_whole_courses_reckoned
set_option Elab.async false
set_option linter.all false
set_option maxRecDepth 100000
set_option maxHeartbeats 4000000
/-! Readings by what they denote: RP a meaning of a value over a growing known heap; Den, Tr: an expression's, a statement's. -/
namespace Dn
open PySem L2

/-- what a value means over a known heap -/
structure RP where
  R : Hp → V → Prop
  mono : ∀ {F F' : Hp} {v : V}, Same F F' → R F v → R F' v
abbrev Rho := List (Option RP)

def Vrs (F : Hp) : List V → List RP → Prop
  | [], [] => True
  | v :: vs, r :: rs => r.R F v ∧ Vrs F vs rs
  | _, _ => False
theorem Vrs.len {F : Hp} : ∀ {vs : List V} {rs : List RP}, Vrs F vs rs → vs.length = rs.length
  | [], [], _ => rfl
  | _ :: _, _ :: _, h => congrArg Nat.succ (Vrs.len h.2)
  | [], _ :: _, h => h.elim
  | _ :: _, [], h => h.elim
theorem Vrs.mono {F F' : Hp} (e : Same F F') : ∀ {vs : List V} {rs : List RP}, Vrs F vs rs → Vrs F' vs rs
  | [], [], _ => trivial
  | _ :: _, _ :: _, h => ⟨RP.mono _ e h.1, Vrs.mono e h.2⟩
  | [], _ :: _, h => h.elim
  | _ :: _, [], h => h.elim
theorem Vrs.get {F : Hp} : ∀ {vs : List V} {rs : List RP} {i : Nat} {r : RP}, Vrs F vs rs → rs[i]? = some r → ∃ v, vs[i]? = some v ∧ r.R F v
  | [], [], i, r, _, e => by simp at e
  | v :: _, _ :: _, 0, r, h, e => by
    obtain rfl := Option.some.inj e
    exact ⟨v, rfl, h.1⟩
  | _ :: _, _ :: _, i + 1, r, h, e => Vrs.get (i := i) h.2 (by simpa using e)
  | [], _ :: _, _, _, h, _ => h.elim
  | _ :: _, [], _, _, h, _ => h.elim
theorem Vrs.back {F : Hp} : ∀ {vs : List V} {rs : List RP} {i : Nat} {v : V}, Vrs F vs rs → vs[i]? = some v → ∃ r, rs[i]? = some r ∧ r.R F v
  | [], [], i, v, _, e => by simp at e
  | _ :: _, r :: _, 0, v, h, e => by
    obtain rfl := Option.some.inj e
    exact ⟨r, rfl, h.1⟩
  | _ :: _, _ :: _, i + 1, v, h, e => Vrs.back (i := i) h.2 (by simpa using e)
  | [], _ :: _, _, _, h, _ => h.elim
  | _ :: _, [], _, _, h, _ => h.elim
theorem Vrs.app {F : Hp} : ∀ {vs : List V} {rs : List RP} {ws : List V} {ss : List RP}, Vrs F vs rs → Vrs F ws ss → Vrs F (vs ++ ws) (rs ++ ss)
  | [], [], _, _, _, g => g
  | _ :: _, _ :: _, _, _, h, g => ⟨h.1, Vrs.app h.2 g⟩
  | [], _ :: _, _, _, h, _ => h.elim
  | _ :: _, [], _, _, h, _ => h.elim
theorem Vrs.drop {F : Hp} : ∀ (n : Nat) {vs : List V} {rs : List RP}, Vrs F vs rs → Vrs F (vs.drop n) (rs.drop n)
  | 0, _, _, h => h
  | _ + 1, [], [], _ => trivial
  | n + 1, _ :: _, _ :: _, h => Vrs.drop n h.2
  | _ + 1, [], _ :: _, h => h.elim
  | _ + 1, _ :: _, [], h => h.elim
theorem Vrs.take {F : Hp} : ∀ (n : Nat) {vs : List V} {rs : List RP}, Vrs F vs rs → Vrs F (vs.take n) (rs.take n)
  | 0, _, _, _ => trivial
  | _ + 1, [], [], _ => trivial
  | n + 1, _ :: _, _ :: _, h => ⟨h.1, Vrs.take n h.2⟩
  | _ + 1, [], _ :: _, h => h.elim
  | _ + 1, _ :: _, [], h => h.elim
theorem Vrs.rev {F : Hp} : ∀ {vs : List V} {rs : List RP}, Vrs F vs rs → Vrs F vs.reverse rs.reverse
  | [], [], _ => trivial
  | v :: vs, r :: rs, h => by
    rw [List.reverse_cons, List.reverse_cons]
    exact Vrs.app (Vrs.rev h.2) ⟨h.1, trivial⟩
  | [], _ :: _, h => h.elim
  | _ :: _, [], h => h.elim
theorem Vrs.set {F : Hp} {v : V} {r : RP} (hr : r.R F v) : ∀ {vs : List V} {rs : List RP} (i : Nat), Vrs F vs rs → Vrs F (vs.set i v) (rs.set i r)
  | [], [], _, _ => trivial
  | _ :: _, _ :: _, 0, h => ⟨hr, h.2⟩
  | _ :: _, _ :: _, i + 1, h => ⟨h.1, Vrs.set hr i h.2⟩
  | [], _ :: _, _, h => h.elim
  | _ :: _, [], _, h => h.elim
theorem Vrs.rep {F : Hp} {vs : List V} {rs : List RP} (h : Vrs F vs rs) : ∀ n : Nat, Vrs F (List.replicate n vs).flatten (List.replicate n rs).flatten
  | 0 => trivial
  | n + 1 => by
    rw [List.replicate_succ, List.replicate_succ, List.flatten_cons, List.flatten_cons]
    exact Vrs.app h (Vrs.rep h n)

/-! ### meanings -/
def pV (w : V) : RP := ⟨fun _ v => v = w, fun _ h => h⟩
abbrev pI (i : Int) : RP := pV (.int i)
abbrev pB (b : Bool) : RP := pV (.bl b)
abbrev pNon : RP := pV .non
def pL (rs : List RP) : RP := ⟨fun F v => ∃ a vs, v = .ref a ∧ F a = some (.lst vs) ∧ Vrs F vs rs, fun e ⟨a, vs, h1, h2, h3⟩ => ⟨a, vs, h1, e _ _ h2, h3.mono e⟩⟩
def pT (rs : List RP) : RP := ⟨fun F v => ∃ a vs, v = .ref a ∧ F a = some (.tup vs) ∧ Vrs F vs rs, fun e ⟨a, vs, h1, h2, h3⟩ => ⟨a, vs, h1, e _ _ h2, h3.mono e⟩⟩
/-- an instance of the class at C with just these attributes -/
def pO (C : Addr) (fs : List (Str × RP)) : RP :=
  ⟨fun F v => ∃ a dx vs, v = .ref a ∧ F a = some (.ins C dx ((fs.map Prod.fst).zip vs)) ∧ Vrs F vs (fs.map Prod.snd), by
    rintro F F' v e ⟨a, dx, vs, h1, h2, h3⟩
    exact ⟨a, dx, vs, h1, e _ _ h2, h3.mono e⟩⟩
/-- one of some -/
def pX {α : Type} (P : α → Prop) (f : α → RP) : RP := ⟨fun F v => ∃ x, P x ∧ (f x).R F v, fun e ⟨x, h1, h2⟩ => ⟨x, h1, (f x).mono e h2⟩⟩
abbrev pLm {α : Type} (f : α → RP) (xs : List α) : RP := pL (xs.map f)
abbrev pIs (ns : List Int) : RP := pLm pI ns
abbrev pIss (rows : List (List Int)) : RP := pLm pIs rows

/-! ### the names' meanings -/
structure EnvOk (F : Hp) (σ : L2.St) (ρ : Rho) : Prop where
  len : σ.length = ρ.length
  at_ : ∀ (i : Nat) (r : RP), ρ[i]? = some (some r) → ∃ v, σ[i]? = some (some v) ∧ r.R F v
theorem EnvOk.mono {F F' : Hp} {σ : L2.St} {ρ : Rho} (h : EnvOk F σ ρ) (e : Same F F') : EnvOk F' σ ρ :=
  ⟨h.len, fun i r q => by
    obtain ⟨v, h1, h2⟩ := h.at_ i r q
    exact ⟨v, h1, r.mono e h2⟩⟩
theorem EnvOk.set {F : Hp} {σ : L2.St} {ρ : Rho} {v : V} {r : RP} (h : EnvOk F σ ρ) (i : Nat) (hr : r.R F v) : EnvOk F (σ.set i (some v)) (ρ.set i (some r)) := by
  refine ⟨by rw [List.length_set, List.length_set]; exact h.len, fun j r' q => ?_⟩
  by_cases hij : i = j
  · subst hij
    by_cases hl : i < ρ.length
    · rw [List.getElem?_set_self hl] at q
      obtain rfl := Option.some.inj (Option.some.inj q)
      exact ⟨v, List.getElem?_set_self (by rw [h.len]; exact hl), hr⟩
    · rw [List.getElem?_eq_none (by rw [List.length_set]; omega)] at q
      cases q
  · rw [List.getElem?_set_ne hij] at q
    obtain ⟨w, h1, h2⟩ := h.at_ j r' q
    exact ⟨w, by rw [List.getElem?_set_ne hij]; exact h1, h2⟩
theorem EnvOk.unset {F : Hp} {σ : L2.St} {ρ : Rho} {o : Option V} (h : EnvOk F σ ρ) (i : Nat) : EnvOk F (σ.set i o) (ρ.set i none) := by
  refine ⟨by rw [List.length_set, List.length_set]; exact h.len, fun j r' q => ?_⟩
  by_cases hij : i = j
  · subst hij
    by_cases hl : i < ρ.length
    · rw [List.getElem?_set_self hl] at q
      cases q
    · rw [List.getElem?_eq_none (by rw [List.length_set]; omega)] at q
      cases q
  · rw [List.getElem?_set_ne hij] at q
    obtain ⟨w, h1, h2⟩ := h.at_ j r' q
    exact ⟨w, by rw [List.getElem?_set_ne hij]; exact h1, h2⟩
def wipeR (ρ : Rho) : List Nat → Rho
  | [] => ρ
  | v :: vs => (wipeR ρ vs).set v none
theorem EnvOk.wipe {F : Hp} {σ : L2.St} {ρ : Rho} (h : EnvOk F σ ρ) : ∀ vs : List Nat, EnvOk F (L2.wipe σ vs) (wipeR ρ vs)
  | [] => h
  | v :: vs => (EnvOk.wipe h vs).unset v
theorem wipe_set {σ : L2.St} {j : Nat} {o : Option V} : ∀ {vs : List Nat}, j ∈ vs → L2.wipe (σ.set j o) vs = L2.wipe σ vs
  | v :: vs, h => by
    show (L2.wipe (σ.set j o) vs).set v none = (L2.wipe σ vs).set v none
    by_cases e : j ∈ vs
    · rw [wipe_set e]
    · have e2 : j = v := by
        rcases List.mem_cons.mp h with q | q
        · exact q
        · exact absurd q e
      subst e2
      have k : ∀ us : List Nat, ¬ j ∈ us → L2.wipe (σ.set j o) us = (L2.wipe σ us).set j o := by
        intro us
        induction us with
        | nil => intro _; rfl
        | cons u us ih =>
          intro hu
          show (L2.wipe (σ.set j o) us).set u none = ((L2.wipe σ us).set u none).set j o
          rw [ih (fun q => hu (List.mem_cons_of_mem _ q)), List.set_comm _ _ (fun q => hu (by rw [q]; exact List.mem_cons_self))]
      rw [k vs e, List.set_set]

/-! ### steps -/
/-- the known heap grows from F to F', the heap goes from H to H'; T: what may be written -/
structure Go (T : Addr → Prop) (F H F' H' : Hp) : Prop where
  ff : Same F F'
  hh : ∀ b o, ¬ T b → H b = some o → H' b = some o
  gr : ∀ b o, F' b = some o → F b = some o ∨ H b = none ∨ T b
  dm : ∀ b, H b ≠ none → H' b ≠ none
abbrev Go0 : Hp → Hp → Hp → Hp → Prop := Go fun _ => False
theorem Go.refl {T : Addr → Prop} (F H : Hp) : Go T F H F H := ⟨fun _ _ h => h, fun _ _ _ h => h, fun _ _ h => .inl h, fun _ h => h⟩
theorem none_back {H H' : Hp} {b : Addr} (dm : H b ≠ none → H' b ≠ none) (h : H' b = none) : H b = none := Classical.byContradiction fun q => dm q h
theorem Go.trans {T : Addr → Prop} {F H F1 H1 F2 H2 : Hp} (a : Go T F H F1 H1) (b : Go T F1 H1 F2 H2) : Go T F H F2 H2 :=
  ⟨a.ff.trans b.ff, fun x o t h => b.hh x o t (a.hh x o t h), fun x o h => by
    rcases b.gr x o h with q | q | q
    · exact a.gr x o q
    · exact .inr (.inl (none_back (a.dm x) q))
    · exact .inr (.inr q), fun x h => b.dm x (a.dm x h)⟩
theorem Go.weak {T T' : Addr → Prop} {F H F' H' : Hp} (t : ∀ b, T b → T' b) (a : Go T F H F' H') : Go T' F H F' H' :=
  ⟨a.ff, fun x o q h => a.hh x o (fun z => q (t x z)) h, fun x o h => by
    rcases a.gr x o h with q | q | q
    · exact .inl q
    · exact .inr (.inl q)
    · exact .inr (.inr (t x q)), a.dm⟩
theorem Go0.same {F H F' H' : Hp} (a : Go0 F H F' H') : Same H H' := fun b o h => a.hh b o (fun z => z) h
/-- a new object, known from now on -/
theorem Go.new {T : Addr → Prop} {F H : Hp} {p : Addr} {o : HO} (s : Same F H) (h : H p = none) : Go T F H (upd F p o) (upd H p o) := by
  have hF : F p = none := s.free h
  refine ⟨fun b u e => by rw [upd_ne (ne_of_none e hF)]; exact e, fun b u _ e => by rw [upd_ne (ne_of_none e h)]; exact e, fun b u e => ?_, fun b e => ?_⟩
  · by_cases q : b = p
    · subst q
      exact .inr (.inl h)
    · rw [upd_ne q] at e
      exact .inl e
  · by_cases q : b = p
    · subst q
      exact absurd h e
    · rw [upd_ne q]
      exact e
/-- a new object that is not known -/
theorem Go.new' {T : Addr → Prop} {F H : Hp} {p : Addr} {o : HO} (h : H p = none) : Go T F H F (upd H p o) := by
  refine ⟨fun _ _ e => e, fun b u _ e => by rw [upd_ne (ne_of_none e h)]; exact e, fun b u e => .inl e, fun b e => ?_⟩
  by_cases q : b = p
  · subst q
    exact absurd h e
  · rw [upd_ne q]
    exact e
theorem same_new {F H : Hp} {p : Addr} {o : HO} (s : Same F H) (h : H p = none) : Same (upd F p o) (upd H p o) := by
  intro b u e
  by_cases q : b = p
  · subst q
    rw [upd_same] at e
    rw [upd_same]
    exact e
  · rw [upd_ne q] at e
    rw [upd_ne q]
    exact s b u e
theorem same_new' {F H : Hp} {p : Addr} {o : HO} (s : Same F H) (h : H p = none) : Same F (upd H p o) := fun b u e => by
  rw [upd_ne (ne_of_none (s b u e) h)]
  exact s b u e

/-- what an impure expression may write, and what stays true of it -/
structure Zx where
  T : Addr → Prop
  J : Hp → Prop
  stay : ∀ {H H' : Hp}, (∀ b, T b → H' b = H b) → J H → J H'
  has : ∀ {H : Hp} {b : Addr}, J H → T b → H b ≠ none
theorem Zx.mono (Z : Zx) {H H' : Hp} (s : Same H H') (j : Z.J H) : Z.J H' := Z.stay (fun b t => by
  cases q : H b with
  | none => exact absurd q (Z.has j t)
  | some o => exact s b o q) j
def Z0 : Zx := ⟨fun _ => False, fun _ => True, fun _ _ => trivial, fun _ h => h.elim⟩
structure Ok (Z : Zx) (F H : Hp) : Prop where
  fh : Same F H
  fr : ∀ b, Z.T b → F b = none
  j : Z.J H
theorem Ok.z0 {F H : Hp} (h : Same F H) : Ok Z0 F H := ⟨h, fun _ q => q.elim, trivial⟩
theorem Ok.step {Z : Zx} {F H F' H' : Hp} (k : Ok Z F H) (g : Go0 F H F' H') (s : Same F' H') : Go Z.T F H F' H' ∧ Ok Z F' H' := by
  refine ⟨g.weak fun _ q => q.elim, s, fun b t => ?_, Z.mono g.same k.j⟩
  cases q : F' b with
  | none => rfl
  | some o =>
    rcases g.gr b o q with z | z | z
    · rw [k.fr b t] at z
      cases z
    · exact absurd z (Z.has k.j t)
    · exact z.elim

/-! ### denotations -/
def Den (Z : Zx) (te : TE) (ρ : Rho) (r : RP) : Prop :=
  ∀ F H σ, EnvOk F σ ρ → Ok Z F H → ∀ Q : VK, (∀ v F' H', Go Z.T F H F' H' → Ok Z F' H' → r.R F' v → Q v H') → te σ H Q
def DenT (Z : Zx) (tt : TT) (ρ : Rho) (P : Bool → Prop) : Prop :=
  ∀ F H σ, EnvOk F σ ρ → Ok Z F H → ∀ Q : Bool → Hp → Prop, (∀ b F' H', Go Z.T F H F' H' → Ok Z F' H' → P b → Q b H') → tt σ H Q
def DenA (Z : Zx) (ta : TA) (ρ : Rho) (rs : List RP) : Prop :=
  ∀ F H σ, EnvOk F σ ρ → Ok Z F H → ∀ Q : List V → Hp → Prop, (∀ vs F' H', Go Z.T F H F' H' → Ok Z F' H' → Vrs F' vs rs → Q vs H') → ta σ H Q
def DenO (Z : Zx) (to : TO) (ρ : Rho) (o : Option Int) : Prop :=
  ∀ F H σ, EnvOk F σ ρ → Ok Z F H → ∀ Q : Option Int → Hp → Prop, (∀ F' H', Go Z.T F H F' H' → Ok Z F' H' → Q o H') → to σ H Q
/-- an operator, a built-in on values -/
def OpD (op : R2) (r1 r2 r : RP) : Prop :=
  ∀ F H x y, Same F H → r1.R F x → r2.R F y → ∀ Q : VK, (∀ v F' H', Go0 F H F' H' → Same F' H' → r.R F' v → Q v H') → op x y H Q
def CD (c : List V → Hp → VK → Prop) (rs : List RP) (r : RP) : Prop :=
  ∀ F H vs, Same F H → Vrs F vs rs → ∀ Q : VK, (∀ v F' H', Go0 F H F' H' → Same F' H' → r.R F' v → Q v H') → c vs H Q
def UnD (c : V → Hp → VK → Prop) (r1 r : RP) : Prop :=
  ∀ F H x, Same F H → r1.R F x → ∀ Q : VK, (∀ v F' H', Go0 F H F' H' → Same F' H' → r.R F' v → Q v H') → c x H Q
def SlD (c : V → Option Int → Option Int → Hp → VK → Prop) (r1 : RP) (lo hi : Option Int) (r : RP) : Prop :=
  ∀ F H x, Same F H → r1.R F x → ∀ Q : VK, (∀ v F' H', Go0 F H F' H' → Same F' H' → r.R F' v → Q v H') → c x lo hi H Q

/-- a new list that nobody knows yet -/
def DenF (Z : Zx) (te : TE) (ρ : Rho) (rs : List RP) : Prop :=
  ∀ F H σ, EnvOk F σ ρ → Ok Z F H → ∀ Q : VK, (∀ p vs F' H', H p = none → Go Z.T F H F' H' → Ok Z F' H' → F' p = none → H' p = some (.lst vs) → Vrs F' vs rs → Q (.ref p) H') → te σ H Q

section
variable {Z : Zx} {ρ : Rho} {ta tb tc te : TE} {tt tu : TT} {tas : TA} {r r1 r2 r3 : RP} {rs : List RP} {K : PySem.W.Frag} {P P1 P2 : Bool → Prop}
/-- from now on it is known -/
theorem freeze {Z : Zx} {F H F' H' : Hp} {p : Addr} {o : HO} (hp : H p = none) (k : Z.J H) (g : Go Z.T F H F' H') (ok : Ok Z F' H') (fp : F' p = none) (ho : H' p = some o) :
    Go Z.T F H (upd F' p o) H' ∧ Ok Z (upd F' p o) H' ∧ Same F' (upd F' p o) := by
  have sm : Same F' (upd F' p o) := fun b u e => by rw [upd_ne (fun q => by rw [q, fp] at e; cases e)]; exact e
  have nt : ¬ Z.T p := fun t => Z.has k t hp
  refine ⟨⟨g.ff.trans sm, g.hh, fun b u e => ?_, g.dm⟩, ⟨fun b u e => ?_, fun b t => ?_, ok.j⟩, sm⟩
  · by_cases hb : b = p
    · subst hb; exact .inr (.inl hp)
    · rw [upd_ne hb] at e; exact g.gr b u e
  · by_cases hb : b = p
    · subst hb; rw [upd_same] at e; rw [ho]; exact e
    · rw [upd_ne hb] at e; exact ok.fh b u e
  · rw [upd_ne (fun q => nt (by rw [← q]; exact t))]; exact ok.fr b t
theorem den_of_f (h : DenF Z te ρ rs) : Den Z te ρ (pL rs) := fun F H σ env ok Q q =>
  h F H σ env ok Q fun p vs F' H' hp g k fp ho hv => by
    obtain ⟨g2, k2, sm⟩ := freeze hp ok.j g k fp ho
    exact q _ _ _ g2 k2 ⟨p, vs, rfl, upd_same, hv.mono sm⟩
theorem den_var {i : Nat} (h : ρ[i]? = some (some r)) : Den Z (tVar i) ρ r := fun F H σ env ok Q q => by
  obtain ⟨v, h1, h2⟩ := env.at_ i r h
  exact ⟨v, h1, q v F H (Go.refl F H) ok h2⟩
theorem den_c {v : V} (h : ∀ F, r.R F v) : Den Z (tC v) ρ r := fun F H σ _ ok Q q => q v F H (Go.refl F H) ok (h F)
theorem den_v {v : V} : Den Z (tC v) ρ (pV v) := den_c fun _ => rfl
theorem den_imp (h : Den Z te ρ r) (k : ∀ F v, r.R F v → r1.R F v) : Den Z te ρ r1 := fun F H σ env ok Q q => h F H σ env ok Q fun v F' H' g k' rv => q v F' H' g k' (k _ _ rv)
theorem den_op {op : R2} (ha : Den Z ta ρ r1) (hb : Den Z tb ρ r2) (ho : OpD op r1 r2 r) : Den Z (tOp op ta tb) ρ r := fun F H σ env ok Q q =>
  ha F H σ env ok _ fun x F1 H1 g1 k1 x1 => hb F1 H1 σ (env.mono g1.ff) k1 _ fun y F2 H2 g2 k2 y2 => ho F2 H2 x y k2.fh (r1.mono g2.ff x1) y2 Q fun v F3 H3 g3 s3 v3 => by
    obtain ⟨g3', k3⟩ := k2.step g3 s3
    exact q v F3 H3 ((g1.trans g2).trans g3') k3 v3
theorem den_un {op : V → Hp → VK → Prop} (ha : Den Z ta ρ r1) (ho : UnD op r1 r) : Den Z (tUn op ta) ρ r := fun F H σ env ok Q q =>
  ha F H σ env ok _ fun x F1 H1 g1 k1 x1 => ho F1 H1 x k1.fh x1 Q fun v F3 H3 g3 s3 v3 => by
    obtain ⟨g3', k3⟩ := k1.step g3 s3
    exact q v F3 H3 (g1.trans g3') k3 v3
theorem den_nil : DenA Z tNil ρ [] := fun F H σ _ ok Q q => q [] F H (Go.refl F H) ok trivial
theorem den_cons (ha : Den Z ta ρ r) (hs : DenA Z tas ρ rs) : DenA Z (tCons ta tas) ρ (r :: rs) := fun F H σ env ok Q q =>
  ha F H σ env ok _ fun x F1 H1 g1 k1 x1 => hs F1 H1 σ (env.mono g1.ff) k1 _ fun xs F2 H2 g2 k2 x2 => q (x :: xs) F2 H2 (g1.trans g2) k2 ⟨r.mono g2.ff x1, x2⟩
theorem den_tup (ha : DenA Z tas ρ rs) (hz : rs.length ≤ sizeLine) : Den Z (tTup tas) ρ (pT rs) := fun F H σ env ok Q q =>
  ha F H σ env ok _ fun xs F1 H1 g1 k1 x1 => ⟨by rw [x1.len]; exact hz, fun p hp => by
    have g2 : Go0 F1 H1 (upd F1 p (.tup xs)) (upd H1 p (.tup xs)) := Go.new k1.fh hp
    obtain ⟨g3, k3⟩ := k1.step g2 (same_new k1.fh hp)
    exact q _ _ _ (g1.trans g3) k3 ⟨p, xs, rfl, upd_same, x1.mono g2.ff⟩⟩
theorem den_lst (ha : DenA Z tas ρ rs) (hz : rs.length ≤ sizeLine) : Den Z (tLst tas) ρ (pL rs) := fun F H σ env ok Q q =>
  ha F H σ env ok _ fun xs F1 H1 g1 k1 x1 => ⟨by rw [x1.len]; exact hz, fun p hp => by
    have g2 : Go0 F1 H1 (upd F1 p (.lst xs)) (upd H1 p (.lst xs)) := Go.new k1.fh hp
    obtain ⟨g3, k3⟩ := k1.step g2 (same_new k1.fh hp)
    exact q _ _ _ (g1.trans g3) k3 ⟨p, xs, rfl, upd_same, x1.mono g2.ff⟩⟩
theorem denf_lst (ha : DenA Z tas ρ rs) (hz : rs.length ≤ sizeLine) : DenF Z (tLst tas) ρ rs := fun F H σ env ok Q q =>
  ha F H σ env ok _ fun xs F1 H1 g1 k1 x1 => ⟨by rw [x1.len]; exact hz, fun p hp => by
    have hp0 : H p = none := none_back (g1.dm p) hp
    have nt : ¬ Z.T p := fun t => Z.has ok.j t hp0
    refine q p xs F1 (upd H1 p (.lst xs)) hp0 (g1.trans (Go.new' hp)) ⟨same_new' k1.fh hp, k1.fr, Z.stay (fun b t => ?_) k1.j⟩ (k1.fh.free hp) upd_same x1
    rw [upd_ne (fun e => nt (by rw [← e]; exact t))]⟩
theorem den_callB {c : List V → Hp → VK → Prop} (ha : DenA Z tas ρ rs) (hc : CD c rs r) : Den Z (tCB c tas) ρ r := fun F H σ env ok Q q =>
  ha F H σ env ok _ fun xs F1 H1 g1 k1 x1 => hc F1 H1 xs k1.fh x1 Q fun v F3 H3 g3 s3 v3 => by
    obtain ⟨g3', k3⟩ := k1.step g3 s3
    exact q v F3 H3 (g1.trans g3') k3 v3
theorem den_if (ht : DenT Z tt ρ P) (h1 : P true → Den Z ta ρ r) (h2 : P false → Den Z tb ρ r) : Den Z (tIf tt ta tb) ρ r := fun F H σ env ok Q q =>
  ht F H σ env ok _ fun b F1 H1 g1 k1 p => by
    cases b with
    | true =>
      rw [if_pos rfl]
      exact h1 p F1 H1 σ (env.mono g1.ff) k1 Q fun v F2 H2 g2 k2 r2 => q v F2 H2 (g1.trans g2) k2 r2
    | false =>
      rw [if_neg Bool.false_ne_true]
      exact h2 p F1 H1 σ (env.mono g1.ff) k1 Q fun v F2 H2 g2 k2 r2 => q v F2 H2 (g1.trans g2) k2 r2
theorem den_isN {b : Bool} (ha : Den Z ta ρ r) (h : ∀ F v, r.R F v → decide (v = .non) = b) : Den Z (tIsN ta) ρ (pB b) := fun F H σ env ok Q q =>
  ha F H σ env ok _ fun x F1 H1 g1 k1 x1 => q _ F1 H1 g1 k1 (by rw [h _ _ x1]; exact rfl)
theorem den_notN {b : Bool} (ha : Den Z ta ρ r) (h : ∀ F v, r.R F v → decide (v = .non) = b) : Den Z (tNotN ta) ρ (pB (!b)) := fun F H σ env ok Q q =>
  ha F H σ env ok _ fun x F1 H1 g1 k1 x1 => q _ F1 H1 g1 k1 (by rw [h _ _ x1]; exact rfl)
theorem den_notV {b : Bool} (ha : Den Z ta ρ (pB b)) : Den Z (tNotV ta) ρ (pB (!b)) := fun F H σ env ok Q q =>
  ha F H σ env ok _ fun x F1 H1 g1 k1 x1 => ⟨b, x1, q _ F1 H1 g1 k1 rfl⟩
theorem den_andV {b c : Bool} (ha : Den Z ta ρ (pB b)) (hb : b = true → Den Z tb ρ (pB c)) : Den Z (tAndV ta tb) ρ (pB (b && c)) := fun F H σ env ok Q q =>
  ha F H σ env ok _ fun x F1 H1 g1 k1 x1 => ⟨b, x1, by
    cases b with
    | true =>
      rw [if_pos rfl]
      exact hb rfl F1 H1 σ (env.mono g1.ff) k1 Q fun v F2 H2 g2 k2 r2 => q v F2 H2 (g1.trans g2) k2 r2
    | false =>
      rw [if_neg Bool.false_ne_true]
      exact q _ F1 H1 g1 k1 rfl⟩
theorem den_orV {b c : Bool} (ha : Den Z ta ρ (pB b)) (hb : b = false → Den Z tb ρ (pB c)) : Den Z (tOrV ta tb) ρ (pB (b || c)) := fun F H σ env ok Q q =>
  ha F H σ env ok _ fun x F1 H1 g1 k1 x1 => ⟨b, x1, by
    cases b with
    | true =>
      rw [if_pos rfl]
      exact q _ F1 H1 g1 k1 rfl
    | false =>
      rw [if_neg Bool.false_ne_true]
      exact hb rfl F1 H1 σ (env.mono g1.ff) k1 Q fun v F2 H2 g2 k2 r2 => q v F2 H2 (g1.trans g2) k2 r2⟩
theorem den_slice {c : V → Option Int → Option Int → Hp → VK → Prop} {tl th : TO} {lo hi : Option Int} (ha : Den Z ta ρ r1) (hl : DenO Z tl ρ lo) (hh : DenO Z th ρ hi) (hc : SlD c r1 lo hi r) : Den Z (tSl c ta tl th) ρ r := fun F H σ env ok Q q =>
  ha F H σ env ok _ fun x F1 H1 g1 k1 x1 => hl F1 H1 σ (env.mono g1.ff) k1 _ fun F2 H2 g2 k2 => hh F2 H2 σ (env.mono (g1.trans g2).ff) k2 _ fun F3 H3 g3 k3 =>
    hc F3 H3 x k3.fh (r1.mono (g2.trans g3).ff x1) Q fun v F4 H4 g4 s4 v4 => by
      obtain ⟨g4', k4⟩ := k3.step g4 s4
      exact q v F4 H4 (((g1.trans g2).trans g3).trans g4') k4 v4
theorem deno_none : DenO Z tNoPart ρ none := fun F H σ _ ok Q q => q F H (Go.refl F H) ok
theorem deno_some {i : Int} (ha : Den Z ta ρ (pI i)) : DenO Z (tPart ta) ρ (some i) := fun F H σ env ok Q q =>
  ha F H σ env ok _ fun x F1 H1 g1 k1 x1 => ⟨i, x1, q F1 H1 g1 k1⟩
/-- xs[::-1] -/
theorem den_revL (ha : Den Z ta ρ (pL rs)) : Den Z (tRevL K ta) ρ (pL rs.reverse) := fun F H σ env ok Q q =>
  ha F H σ env ok _ fun x F1 H1 g1 k1 ⟨a, vs, e, h, hv⟩ => ⟨a, vs, e, SqL.of (k1.fh _ _ h), fun p hp => by
    have g2 : Go0 F1 H1 (upd F1 p (.lst vs.reverse)) (upd H1 p (.lst vs.reverse)) := Go.new k1.fh hp
    obtain ⟨g3, k3⟩ := k1.step g2 (same_new k1.fh hp)
    exact q _ _ _ (g1.trans g3) k3 ⟨p, _, rfl, upd_same, hv.rev.mono g2.ff⟩⟩
/-! tests -/
theorem dent_imp (h : DenT Z tt ρ P) (k : ∀ b, P b → P1 b) : DenT Z tt ρ P1 := fun F H σ env ok Q q => h F H σ env ok Q fun b F' H' g k' p => q b F' H' g k' (k b p)
theorem dent_val {b : Bool} (ha : Den Z ta ρ (pB b)) : DenT Z (tB ta) ρ (· = b) := fun F H σ env ok Q q =>
  ha F H σ env ok _ fun x F1 H1 g1 k1 x1 => ⟨b, x1, q b F1 H1 g1 k1 rfl⟩
theorem dent_valX (ha : Den Z ta ρ (pX P pB)) : DenT Z (tB ta) ρ P := fun F H σ env ok Q q =>
  ha F H σ env ok _ fun x F1 H1 g1 k1 ⟨b, p, x1⟩ => ⟨b, x1, q b F1 H1 g1 k1 p⟩
theorem dent_test {b : Bool} (ha : Den Z ta ρ (pB b)) : DenT Z (tTest ta) ρ (· = b) := fun F H σ env ok Q q =>
  ha F H σ env ok _ fun x F1 H1 g1 k1 x1 => ⟨b, x1, q b F1 H1 g1 k1 rfl⟩
theorem dent_testX (ha : Den Z ta ρ (pX P pB)) : DenT Z (tTest ta) ρ P := fun F H σ env ok Q q =>
  ha F H σ env ok _ fun x F1 H1 g1 k1 ⟨b, p, x1⟩ => ⟨b, x1, q b F1 H1 g1 k1 p⟩
theorem dent_not {b : Bool} (ht : DenT Z tt ρ (· = b)) : DenT Z (tNot tt) ρ (· = !b) := fun F H σ env ok Q q =>
  ht F H σ env ok _ fun c F1 H1 g1 k1 e => q _ F1 H1 g1 k1 (by rw [e])
theorem dent_and {b c : Bool} (ht : DenT Z tt ρ (· = b)) (hu : b = true → DenT Z tu ρ (· = c)) : DenT Z (tAnd tt tu) ρ (· = (b && c)) := fun F H σ env ok Q q =>
  ht F H σ env ok _ fun d F1 H1 g1 k1 e => by
    subst e
    cases d with
    | true =>
      rw [if_pos rfl]
      exact hu rfl F1 H1 σ (env.mono g1.ff) k1 Q fun d F2 H2 g2 k2 e => q d F2 H2 (g1.trans g2) k2 e
    | false =>
      rw [if_neg Bool.false_ne_true]
      exact q _ F1 H1 g1 k1 rfl
theorem dent_or {b c : Bool} (ht : DenT Z tt ρ (· = b)) (hu : b = false → DenT Z tu ρ (· = c)) : DenT Z (tOr tt tu) ρ (· = (b || c)) := fun F H σ env ok Q q =>
  ht F H σ env ok _ fun d F1 H1 g1 k1 e => by
    subst e
    cases d with
    | true =>
      rw [if_pos rfl]
      exact q _ F1 H1 g1 k1 rfl
    | false =>
      rw [if_neg Bool.false_ne_true]
      exact hu rfl F1 H1 σ (env.mono g1.ff) k1 Q fun d F2 H2 g2 k2 e => q d F2 H2 (g1.trans g2) k2 e
/-- a first test whose answer may be one of some -/
theorem dent_andX (ht : DenT Z tt ρ P1) (hu : P1 true → DenT Z tu ρ P) (h0 : P1 false → P false) : DenT Z (tAnd tt tu) ρ P := fun F H σ env ok Q q =>
  ht F H σ env ok _ fun d F1 H1 g1 k1 e => by
    cases d with
    | true =>
      rw [if_pos rfl]
      exact hu e F1 H1 σ (env.mono g1.ff) k1 Q fun d F2 H2 g2 k2 e => q d F2 H2 (g1.trans g2) k2 e
    | false =>
      rw [if_neg Bool.false_ne_true]
      exact q _ F1 H1 g1 k1 (h0 e)
theorem dent_orX (ht : DenT Z tt ρ P1) (hu : P1 false → DenT Z tu ρ P) (h0 : P1 true → P true) : DenT Z (tOr tt tu) ρ P := fun F H σ env ok Q q =>
  ht F H σ env ok _ fun d F1 H1 g1 k1 e => by
    cases d with
    | true =>
      rw [if_pos rfl]
      exact q _ F1 H1 g1 k1 (h0 e)
    | false =>
      rw [if_neg Bool.false_ne_true]
      exact hu e F1 H1 σ (env.mono g1.ff) k1 Q fun d F2 H2 g2 k2 e => q d F2 H2 (g1.trans g2) k2 e
theorem dent_yes : DenT Z tYes ρ (· = true) := fun F H σ _ ok Q q => q true F H (Go.refl F H) ok rfl
/-- a op b op' c -/
theorem den_chain {op op' : R2} {b c : Bool} (ha : Den Z ta ρ r1) (hb : Den Z tb ρ r2) (hc : Den Z tc ρ r3) (h1 : OpD op r1 r2 (pB b)) (h2 : OpD op' r2 r3 (pB c)) : Den Z (tChain op op' ta tb tc) ρ (pB (b && c)) := fun F H σ env ok Q q =>
  ha F H σ env ok _ fun x F1 H1 g1 k1 x1 => hb F1 H1 σ (env.mono g1.ff) k1 _ fun y F2 H2 g2 k2 y2 => h1 F2 H2 x y k2.fh (r1.mono g2.ff x1) y2 _ fun v F3 H3 g3 s3 v3 => ⟨b, v3, by
    obtain ⟨g3', k3⟩ := k2.step g3 s3
    cases b with
    | true =>
      rw [if_pos rfl]
      exact hc F3 H3 σ (env.mono ((g1.trans g2).trans g3').ff) k3 _ fun w F4 H4 g4 k4 w4 => h2 F4 H4 y w k4.fh (r2.mono (g3'.trans g4).ff y2) w4 Q fun v' F5 H5 g5 s5 v5 => by
        obtain ⟨g5', k5⟩ := k4.step g5 s5
        exact q v' F5 H5 ((((g1.trans g2).trans g3').trans g4).trans g5') k5 v5
    | false =>
      rw [if_neg Bool.false_ne_true]
      exact q _ F3 H3 ((g1.trans g2).trans g3') k3 rfl⟩
/-! operators on values -/
theorem opd_I {C : Int → Int → Prop} {g : Int → Int → V} {i j : Int} (hc : C i j) : OpD (rI C g) (pI i) (pI j) (pV (g i j)) := fun F H x y s hx hy Q q => ⟨i, j, hx, hy, hc, q _ F H (Go.refl F H) s rfl⟩
theorem opd_I0 {g : Int → Int → V} {i j : Int} : OpD (rI0 g) (pI i) (pI j) (pV (g i j)) := fun F H x y s hx hy Q q => ⟨i, j, hx, hy, q _ F H (Go.refl F H) s rfl⟩
theorem opd_eq {x y : V} (h : scal x y = true) : OpD rEq (pV x) (pV y) (pB (decide (x = y))) := fun F H x y s hx hy Q q => by
  cases hx
  cases hy
  exact ⟨h, q _ F H (Go.refl F H) s rfl⟩
theorem opd_ne {x y : V} (h : scal x y = true) : OpD rNe (pV x) (pV y) (pB (!decide (x = y))) := fun F H x y s hx hy Q q => by
  cases hx
  cases hy
  exact ⟨h, q _ F H (Go.refl F H) s rfl⟩
theorem und_neg {i : Int} : UnD (rU fun i => .int (-i)) (pI i) (pI (-i)) := fun F H x s hx Q q => ⟨i, hx, q _ F H (Go.refl F H) s rfl⟩
theorem opd_cat {xs ys : List RP} (hz : xs.length + ys.length ≤ sizeLine) : OpD rCat (pL xs) (pL ys) (pL (xs ++ ys)) := fun F H x y s ⟨a, vs, e1, h1, v1⟩ ⟨b, ws, e2, h2, v2⟩ Q q =>
  ⟨a, b, vs, ws, e1, e2, s _ _ h1, s _ _ h2, by rw [v1.len, v2.len]; exact hz, fun p hp => by
    have g : Go0 F H (upd F p (.lst (vs ++ ws))) (upd H p (.lst (vs ++ ws))) := Go.new s hp
    exact q _ _ _ g (same_new s hp) ⟨p, _, rfl, upd_same, (v1.app v2).mono g.ff⟩⟩
theorem opd_rep {xs : List RP} {k : Int} (h1 : -(2 ^ 63) ≤ k) (h2 : k < 2 ^ 63) (hz : xs.length * k.toNat ≤ sizeLine) : OpD rRep (pL xs) (pI k) (pL (List.replicate k.toNat xs).flatten) := fun F H x y s ⟨a, vs, e1, hh, v1⟩ hy Q q =>
  ⟨a, k, vs, e1, hy, s _ _ hh, h1, h2, by rw [v1.len]; exact hz, fun p hp => by
    have g : Go0 F H (upd F p (.lst (List.replicate k.toNat vs).flatten)) (upd H p (.lst (List.replicate k.toNat vs).flatten)) := Go.new s hp
    exact q _ _ _ g (same_new s hp) ⟨p, _, rfl, upd_same, (v1.rep _).mono g.ff⟩⟩
theorem opd_ixL {xs : List RP} {i : Int} {j : Nat} (e : i = (j : Int)) (h : xs[j]? = some r) : OpD (rIxL K) (pL xs) (pI i) r := fun F H x y s ⟨a, vs, e1, hh, v1⟩ hy Q q => by
  obtain ⟨v, h2, h3⟩ := v1.get h
  exact ⟨a, vs, i, v, e1, hy, SqL.of (s _ _ hh), at_of e h2, q v F H (Go.refl F H) s h3⟩
theorem opd_ixT {xs : List RP} {i : Int} {j : Nat} (e : i = (j : Int)) (h : xs[j]? = some r) : OpD (rIxT K) (pT xs) (pI i) r := fun F H x y s ⟨a, vs, e1, hh, v1⟩ hy Q q => by
  obtain ⟨v, h2, h3⟩ := v1.get h
  exact ⟨a, vs, i, v, e1, hy, SqT.of (s _ _ hh), at_of e h2, q v F H (Go.refl F H) s h3⟩
theorem sld_list {xs : List RP} {lo hi : Option Int} : SlD (rSlL K) (pL xs) lo hi (pL ((xs.drop (HT.sIx xs.length 0 lo)).take (HT.sIx xs.length xs.length hi - HT.sIx xs.length 0 lo))) := fun F H x s ⟨a, vs, e1, hh, v1⟩ Q q =>
  ⟨a, vs, e1, SqL.of (s _ _ hh), fun p hp => by
    have g : Go0 F H (upd F p (.lst (cutV vs lo hi))) (upd H p (.lst (cutV vs lo hi))) := Go.new s hp
    refine q _ _ _ g (same_new s hp) ⟨p, cutV vs lo hi, rfl, upd_same, ?_⟩
    have c : Vrs F (cutV vs lo hi) ((xs.drop (HT.sIx xs.length 0 lo)).take (HT.sIx xs.length xs.length hi - HT.sIx xs.length 0 lo)) := by
      unfold cutV
      rw [v1.len]
      exact (v1.drop _).take _
    exact c.mono g.ff⟩
end
end Dn
set_option Elab.async false
set_option linter.all false
set_option maxRecDepth 100000
set_option maxHeartbeats 4000000
namespace Dn
open PySem L2

/-! ### what is walked -/
def ItOk (J : It) (rs : List RP) (F : Hp) : Prop :=
  ∃ (G : Hp → Prop) (Y : Nat → Hp → V → Hp → Prop), Walk J rs.length G Y ∧ (∀ H, Same F H → G H) ∧
    ∀ (i : Nat) (H : Hp) (x : V) (H1 : Hp) (r : RP) (F1 : Hp), Y i H x H1 → rs[i]? = some r → Same F F1 → Same F1 H → ∃ F2, Go0 F1 H F2 H1 ∧ Same F2 H1 ∧ r.R F2 x
def DenI (Z : Zx) (wi : TI) (ρ : Rho) (rs : List RP) : Prop :=
  ∀ F H σ, EnvOk F σ ρ → Ok Z F H → ∀ R : It → Hp → Prop, (∀ J F' H', Go Z.T F H F' H' → Ok Z F' H' → ItOk J rs F' → R J H') → wi σ H R
/-- a target takes a value: vs its slots, up what it makes of the names' meanings -/
def DenG (vs : List Nat) (g : TG) (r : RP) (up : Rho → Rho) : Prop :=
  ∀ F H σ ρ v (Q : L2.St → Hp → Prop), EnvOk F σ ρ → Same F H → r.R F v → (∀ σ', EnvOk F σ' (up ρ) → L2.wipe σ' vs = L2.wipe σ vs → Q σ' H) → g v σ H Q
section
variable {Z : Zx} {ρ : Rho} {ta tb tc te tl : TE} {tt tu : TT} {tas : TA} {r r1 r2 r3 : RP} {rs : List RP} {K : PySem.W.Frag} {P P1 P2 : Bool → Prop}
theorem deni_listR (h : Den Z tl ρ (pL rs)) : DenI Z (iList K tl) ρ rs := fun F H σ env ok R q =>
  h F H σ env ok _ fun x F1 H1 g1 k1 ⟨a, vs, e, ha, hv⟩ => ⟨a, e, ⟨vs, SqL.of (k1.fh _ _ ha)⟩, q _ F1 H1 g1 k1 ⟨fun H => SqL K H a vs, YAt vs, by
    have w := walk_list (K := K) (a := a) (xs := vs)
    rw [hv.len] at w
    exact w, fun H s => SqL.of (s _ _ ha), fun i H x H' r F2 ⟨y1, y2⟩ er s1 s2 => by
      obtain ⟨v, h1, h2⟩ := hv.get er
      rw [h1] at y2
      obtain rfl := Option.some.inj y2
      subst y1
      exact ⟨F2, Go.refl _ _, s2, r.mono s1 h2⟩⟩⟩
theorem deni_list {α : Type} {xs : List α} {f : α → RP} (h : Den Z tl ρ (pLm f xs)) : DenI Z (iList K tl) ρ (xs.map f) := deni_listR h
theorem deni_tupR (h : Den Z tl ρ (pT rs)) : DenI Z (iTup K tl) ρ rs := fun F H σ env ok R q =>
  h F H σ env ok _ fun x F1 H1 g1 k1 ⟨a, vs, e, ha, hv⟩ => ⟨a, e, ⟨vs, SqT.of (k1.fh _ _ ha)⟩, q _ F1 H1 g1 k1 ⟨fun H => SqT K H a vs, YAt vs, by
    have w := walk_tup (K := K) (a := a) (xs := vs)
    rw [hv.len] at w
    exact w, fun H s => SqT.of (s _ _ ha), fun i H x H' r F2 ⟨y1, y2⟩ er s1 s2 => by
      obtain ⟨v, h1, h2⟩ := hv.get er
      rw [h1] at y2
      obtain rfl := Option.some.inj y2
      subst y1
      exact ⟨F2, Go.refl _ _, s2, r.mono s1 h2⟩⟩⟩
theorem itok_range {lo : Int} {n : Nat} {F : Hp} : ItOk (Itr lo n) ((List.range n).map fun k : Nat => pI (lo + (k : Int))) F := by
  refine ⟨fun _ => True, YFn fun i => .int (lo + i), by
    have w := walk_range (lo := lo) (n := n)
    rw [show ((List.range n).map fun k : Nat => pI (lo + (k : Int))).length = n by simp]
    exact w, fun _ _ => trivial, fun i H x H' r F2 ⟨y1, y2⟩ er s1 s2 => ?_⟩
  subst y1 y2
  rw [List.getElem?_map] at er
  have hi : (List.range n)[i]? = some i := by
    cases q : (List.range n)[i]? with
    | none => rw [q] at er; cases er
    | some j =>
      obtain ⟨h1, h2⟩ := List.getElem?_eq_some_iff.mp q
      rw [List.getElem_range] at h2
      rw [h2]
  rw [hi] at er
  obtain rfl := Option.some.inj er
  exact ⟨F2, Go.refl _ _, s2, rfl⟩
theorem deni_rng1 {n : Int} (h : DenA Z tas ρ [pI n]) (h1 : -(2 ^ 62) ≤ n) (h2 : n < 2 ^ 62) : DenI Z (iRng1 tas) ρ ((List.range n.toNat).map fun k : Nat => pI (k : Int)) := fun F H σ env ok R q =>
  h F H σ env ok _ fun vs F1 H1 g1 k1 hv => by
    match vs, hv with
    | [v], ⟨e, _⟩ =>
      refine ⟨n, by rw [show v = V.int n from e], h1, h2, q _ F1 H1 g1 k1 ?_⟩
      have w := itok_range (lo := 0) (n := n.toNat) (F := F1)
      rw [show (fun k : Nat => pI (0 + (k : Int))) = fun k : Nat => pI (k : Int) by funext k; rw [Int.zero_add]] at w
      exact w
theorem deni_rng2 {lo n : Int} (h : DenA Z tas ρ [pI lo, pI n]) (h1 : -(2 ^ 62) ≤ lo ∧ lo < 2 ^ 62 ∧ -(2 ^ 62) ≤ n ∧ n < 2 ^ 62) : DenI Z (iRng2 tas) ρ ((List.range (n - lo).toNat).map fun k : Nat => pI (lo + (k : Int))) := fun F H σ env ok R q =>
  h F H σ env ok _ fun vs F1 H1 g1 k1 hv => by
    match vs, hv with
    | [v, u], ⟨e, e2, _⟩ => exact ⟨lo, n, by rw [show v = V.int lo from e, show u = V.int n from e2], h1, q _ F1 H1 g1 k1 itok_range⟩
theorem deni_enum {α : Type} {xs : List α} {f : α → RP} (h : DenA Z tas ρ [pLm f xs]) : DenI Z (iEnum K tas) ρ (xs.zipIdx.map fun p => pT [pI (p.2 : Int), f p.1]) := fun F H σ env ok R q =>
  h F H σ env ok _ fun us F1 H1 g1 k1 hu => by
    match us, hu with
    | [u], ⟨⟨a, vs, e, ha, hv⟩, _⟩ =>
      refine ⟨a, vs, by rw [e], SqL.of (k1.fh _ _ ha), q _ F1 H1 g1 k1 ⟨_, _, by
        have w := walk_enum (K := K) (a := a) (xs := vs)
        rw [show (xs.zipIdx.map fun p => pT [pI (p.2 : Int), f p.1]).length = vs.length by rw [hv.len]; simp]
        exact w, fun H s => SqL.of (s _ _ ha), fun i H x H' r F2 y er s1 s2 => ?_⟩⟩
      obtain ⟨T, x1, y1, ex, hT, eH, ei, ey⟩ := y
      subst ex eH
      obtain rfl := Option.some.inj ei
      rw [List.getElem?_map, List.getElem?_zipIdx] at er
      obtain ⟨r0, h1, h2⟩ := hv.back ey
      rw [List.getElem?_map] at h1
      cases hx : xs[i]? with
      | none => rw [hx] at h1; cases h1
      | some x0 =>
        rw [hx] at h1 er
        obtain rfl := Option.some.inj h1
        obtain rfl := Option.some.inj er
        refine ⟨upd F2 T (.tup [.int (i : Nat), y1]), Go.new s2 hT, same_new s2 hT, T, _, rfl, upd_same, ?_, ?_, trivial⟩
        · show V.int _ = V.int _
          rw [Nat.zero_add]
        · exact (f x0).mono (s1.trans fun b o e => by rw [upd_ne (ne_of_none (s2 b o e) hT)]; exact e) h2
theorem deni_zip {α β : Type} {xs : List α} {ys : List β} {f : α → RP} {g : β → RP} (h : DenA Z tas ρ [pLm f xs, pLm g ys]) : DenI Z (iZip K tas) ρ ((xs.zip ys).map fun p => pT [f p.1, g p.2]) := fun F H σ env ok R q =>
  h F H σ env ok _ fun us F1 H1 g1 k1 hu => by
    match us, hu with
    | [u, u'], ⟨⟨a, vs, e, ha, hv⟩, ⟨b, ws, e', hb, hw⟩, _⟩ =>
      have l1 := hv.len
      have l2 := hw.len
      rw [List.length_map] at l1 l2
      refine ⟨a, b, vs, ws, by rw [e, e'], SqL.of (k1.fh _ _ ha), SqL.of (k1.fh _ _ hb), q _ F1 H1 g1 k1 ⟨fun H => SqL K H a vs ∧ SqL K H b ws, YPair (fun i => vs[i]?) (fun i => ws[i]?), by
        have w := walk_zip (K := K) (a := a) (b := b) (xs := vs) (ys := ws) (n := ((xs.zip ys).map fun p => pT [f p.1, g p.2]).length) (by simp [l1, l2])
        exact w, fun H s => ⟨SqL.of (s _ _ ha), SqL.of (s _ _ hb)⟩, fun i H x H' r F2 y er s1 s2 => ?_⟩⟩
      obtain ⟨T, x1, y1, ex, hT, eH, e1, e2⟩ := y
      subst ex eH
      rw [List.getElem?_map] at er
      obtain ⟨r1, h1, h2⟩ := hv.back e1
      obtain ⟨r2, h3, h4⟩ := hw.back e2
      rw [List.getElem?_map] at h1 h3
      cases hx : xs[i]? with
      | none => rw [hx] at h1; cases h1
      | some x0 =>
        cases hy : ys[i]? with
        | none => rw [hy] at h3; cases h3
        | some y0 =>
          rw [hx] at h1
          rw [hy] at h3
          have hz : (xs.zip ys)[i]? = some (x0, y0) := by
            rw [List.getElem?_zip_eq_some]
            exact ⟨hx, hy⟩
          rw [hz] at er
          obtain rfl := Option.some.inj h1
          obtain rfl := Option.some.inj h3
          obtain rfl := Option.some.inj er
          have s3 : Same F1 (upd F2 T (.tup [x1, y1])) := s1.trans fun b o e => by rw [upd_ne (ne_of_none (s2 b o e) hT)]; exact e
          exact ⟨upd F2 T (.tup [x1, y1]), Go.new s2 hT, same_new s2 hT, T, _, rfl, upd_same, (f x0).mono s3 h2, (g y0).mono s3 h4, trivial⟩
/-! targets -/
theorem deng_name {vs : List Nat} {j : Nat} (h : j ∈ vs) : DenG vs (gName j) r fun ρ => ρ.set j (some r) := fun F H σ ρ v Q env s hr q => q _ (env.set j hr) (wipe_set h)
theorem deng_tup2 {vs : List Nat} {i j : Nat} (hi : i ∈ vs) (hj : j ∈ vs) : DenG vs (gTup K 2 (gCons (gName i) (gCons (gName j) gNil))) (pT [r1, r2]) fun ρ => (ρ.set i (some r1)).set j (some r2) := fun F H σ ρ v Q env s hr q => by
  obtain ⟨a, us, e, ha, hv⟩ := hr
  match us, hv with
  | [u, w], ⟨h1, h2, _⟩ => exact ⟨a, [u, w], e, SqT.of (s _ _ ha), rfl, u, [w], rfl, w, [], rfl, rfl, q _ ((env.set i h1).set j h2) (by rw [wipe_set hj, wipe_set hi])⟩
theorem deng_tup3 {vs : List Nat} {i j k : Nat} (hi : i ∈ vs) (hj : j ∈ vs) (hk : k ∈ vs) : DenG vs (gTup K 3 (gCons (gName i) (gCons (gName j) (gCons (gName k) gNil)))) (pT [r1, r2, r3]) fun ρ => ((ρ.set i (some r1)).set j (some r2)).set k (some r3) := fun F H σ ρ v Q env s hr q => by
  obtain ⟨a, us, e, ha, hv⟩ := hr
  match us, hv with
  | [u, w, y], ⟨h1, h2, h3, _⟩ => exact ⟨a, [u, w, y], e, SqT.of (s _ _ ha), rfl, u, [w, y], rfl, w, [y], rfl, y, [], rfl, rfl, q _ (((env.set i h1).set j h2).set k h3) (by rw [wipe_set hk, wipe_set hj, wipe_set hi])⟩

/-! ### comprehensions -/
theorem denf_lc {α : Type} {wi : TI} {g : TG} {vs : List Nat} (xs : List α) (item : α → RP) (keep : α → Bool) (out : α → RP) (hi : DenI Z wi ρ (xs.map item))
    (hx : ∀ x ∈ xs, ∃ up, DenG vs g (item x) up ∧ DenT Z tt (up (wipeR ρ vs)) (· = keep x) ∧ (keep x = true → Den Z te (up (wipeR ρ vs)) (out x))) (hz : xs.length ≤ sizeLine) :
    DenF Z (tLc wi g tt te vs) ρ ((xs.filter keep).map out) := fun F H σ env ok Q q =>
  hi F H σ env ok _ fun J F1 H1 g1 k1 it D hD => by
    obtain ⟨G, Y, w, hG, hY⟩ := it
    rw [List.length_map] at w
    refine lc_it w (fun i Hi => ∃ Fi vsi, Go Z.T F1 H1 Fi Hi ∧ Ok Z Fi Hi ∧ Fi D = none ∧ Hi D = some (.lst vsi) ∧ Vrs Fi vsi (((xs.take i).filter keep).map out)) ?_ ?_ ?_ ?_
    · refine ⟨F1, [], Go.new' hD, ?_, k1.fh.free hD, upd_same, trivial⟩
      exact ⟨same_new' k1.fh hD, k1.fr, Z.mono (same_new' (fun _ _ e => e) hD) k1.j⟩
    · rintro i Hi _ ⟨Fi, vsi, gi, ki, _⟩
      exact hG Hi (gi.ff.trans ki.fh)
    · rintro i x Hi Hi' hi ⟨Fi, vsi, gi, ki, dF, dH, hv⟩ y
      have hxi : xs[i]? = some xs[i] := List.getElem?_eq_getElem hi
      obtain ⟨F2, g2, s2, rx⟩ := hY i Hi x Hi' (item xs[i]) Fi y (by rw [List.getElem?_map, hxi]; rfl) gi.ff ki.fh
      obtain ⟨g2', k2⟩ := ki.step g2 s2
      obtain ⟨up, hg, ht, he⟩ := hx xs[i] (List.getElem_mem hi)
      have dF2 : F2 D = none := by
        cases e : F2 D with
        | none => rfl
        | some o =>
          rcases g2.gr D o e with z | z | z
          · rw [dF] at z; cases z
          · rw [dH] at z; cases z
          · exact z.elim
      have dH2 : Hi' D = some (.lst vsi) := g2.same _ _ dH
      have notT : ∀ {Fx Hx : Hp} {z : HO}, Ok Z Fx Hx → ¬ Z.T D := fun {Fx Hx z} _ t => Z.has k1.j t hD
      have ntD : ¬ Z.T D := fun t => Z.has k1.j t hD
      have etake : (xs.take (i + 1)).filter keep = (xs.take i).filter keep ++ (if keep xs[i] = true then [xs[i]] else []) := by
        rw [List.take_succ_eq_append_getElem hi, List.filter_append]
        cases hk : keep xs[i] with
        | true => rw [List.filter_cons, if_pos hk, if_pos rfl]; rfl
        | false => rw [List.filter_cons, if_neg (by rw [hk]; decide), if_neg (by decide)]; rfl
      refine hg F2 Hi' (L2.wipe σ vs) (wipeR ρ vs) x _ ((env.wipe vs).mono (g1.ff.trans (gi.ff.trans g2.ff))) s2 rx fun σ' env' ew => ?_
      have eww : L2.wipe σ' vs = L2.wipe σ vs := by
        rw [ew]
        have idem : ∀ us : List Nat, (∀ u ∈ us, u ∈ vs) → L2.wipe (L2.wipe σ vs) us = L2.wipe σ vs := by
          intro us
          induction us with
          | nil => intro _; rfl
          | cons u us ih =>
            intro hu
            show (L2.wipe (L2.wipe σ vs) us).set u none = L2.wipe σ vs
            rw [ih fun z hz => hu z (List.mem_cons_of_mem _ hz)]
            apply List.ext_getElem?
            intro m
            by_cases hm : u = m
            · subst hm
              have huv : u ∈ vs := hu u List.mem_cons_self
              by_cases hl : u < (L2.wipe σ vs).length
              · rw [List.getElem?_set_self hl]
                cases hq : (L2.wipe σ vs)[u]? with
                | none =>
                  rw [List.getElem?_eq_none_iff] at hq
                  omega
                | some o =>
                  cases o with
                  | none => rfl
                  | some v => exact absurd huv (wipe_some hq).2
              · rw [List.getElem?_eq_none (by simpa using hl), List.getElem?_eq_none (by simpa using hl)]
            · rw [List.getElem?_set_ne hm]
        exact idem vs fun _ h => h
      refine ⟨eww, ?_⟩
      refine ht F2 Hi' σ' env' k2 _ fun b F3 H3 g3 k3 eb => ?_
      subst eb
      have dF3 : F3 D = none := by
        cases e : F3 D with
        | none => rfl
        | some o =>
          rcases g3.gr D o e with z | z | z
          · rw [dF2] at z; cases z
          · rw [dH2] at z; cases z
          · exact absurd z ntD
      have dH3 : H3 D = some (.lst vsi) := g3.hh _ _ ntD dH2
      have gi3 : Go Z.T F1 H1 F3 H3 := (gi.trans g2').trans g3
      cases hk : keep xs[i] with
      | false =>
        rw [if_neg Bool.false_ne_true]
        refine ⟨F3, vsi, gi3, k3, dF3, dH3, ?_⟩
        rw [etake, hk, if_neg Bool.false_ne_true, List.append_nil]
        exact hv.mono (g2.ff.trans g3.ff)
      | true =>
        rw [if_pos rfl]
        refine he hk F3 H3 σ' (env'.mono g3.ff) k3 _ fun z F4 H4 g4 k4 rz => ?_
        have dF4 : F4 D = none := by
          cases e : F4 D with
          | none => rfl
          | some o =>
            rcases g4.gr D o e with z | z | z
            · rw [dF3] at z; cases z
            · rw [dH3] at z; cases z
            · exact absurd z ntD
        have dH4 : H4 D = some (.lst vsi) := g4.hh _ _ ntD dH3
        have lv : vsi.length < sizeLine := by
          have l1 := hv.len
          rw [List.length_map] at l1
          have l2 := List.length_filter_le keep (xs.take i)
          rw [List.length_take] at l2
          omega
        have gi4 := gi3.trans g4
        refine ⟨vsi, dH4, lv, F4, vsi ++ [z], ⟨gi4.ff, fun b o t e => ?_, gi4.gr, fun b e => ?_⟩, ⟨fun b o e => ?_, k4.fr, ?_⟩, dF4, upd_same, ?_⟩
        · have hbD : b ≠ D := fun q => by rw [q, hD] at e; cases e
          rw [upd_ne hbD]
          exact gi4.hh b o t e
        · by_cases hbD : b = D
          · subst hbD; exact absurd hD e
          · rw [upd_ne hbD]; exact gi4.dm b e
        · have hbD : b ≠ D := fun q => by rw [q, dF4] at e; cases e
          rw [upd_ne hbD]
          exact k4.fh b o e
        · have kD : Z.J H1 := k1.j
          exact Z.stay (fun b t => by
            have hbD : b ≠ D := fun q => ntD (by rw [← q]; exact t)
            rw [upd_ne hbD]) k4.j
        · rw [etake, hk, if_pos rfl, List.map_append]
          exact (hv.mono ((g2.ff.trans g3.ff).trans g4.ff)).app ⟨rz, trivial⟩
    · rintro Hn ⟨Fn, vsn, gn, kn, dF, dH, hv⟩
      rw [List.take_length] at hv
      exact q D vsn Fn Hn (none_back (g1.dm D) hD) (g1.trans gn) kn dF dH hv
theorem den_lc {α : Type} {wi : TI} {g : TG} {vs : List Nat} (xs : List α) (item : α → RP) (keep : α → Bool) (out : α → RP) (hi : DenI Z wi ρ (xs.map item))
    (hx : ∀ x ∈ xs, ∃ up, DenG vs g (item x) up ∧ DenT Z tt (up (wipeR ρ vs)) (· = keep x) ∧ (keep x = true → Den Z te (up (wipeR ρ vs)) (out x))) (hz : xs.length ≤ sizeLine) :
    Den Z (tLc wi g tt te vs) ρ (pLm out (xs.filter keep)) := den_of_f (denf_lc xs item keep out hi hx hz)
/-- without tests -/
theorem denf_map {α : Type} {wi : TI} {g : TG} {vs : List Nat} (xs : List α) (item : α → RP) (out : α → RP) (hi : DenI Z wi ρ (xs.map item))
    (hx : ∀ x ∈ xs, ∃ up, DenG vs g (item x) up ∧ Den Z te (up (wipeR ρ vs)) (out x)) (hz : xs.length ≤ sizeLine) : DenF Z (tLc wi g tYes te vs) ρ (xs.map out) := by
  have h := denf_lc (tt := tYes) xs item (fun _ => true) out hi (fun x m => by
    obtain ⟨up, h1, h2⟩ := hx x m
    exact ⟨up, h1, dent_yes, fun _ => h2⟩) hz
  rw [List.filter_eq_self.mpr (fun _ _ => rfl)] at h
  exact h
theorem den_map {α : Type} {wi : TI} {g : TG} {vs : List Nat} (xs : List α) (item : α → RP) (out : α → RP) (hi : DenI Z wi ρ (xs.map item))
    (hx : ∀ x ∈ xs, ∃ up, DenG vs g (item x) up ∧ Den Z te (up (wipeR ρ vs)) (out x)) (hz : xs.length ≤ sizeLine) : Den Z (tLc wi g tYes te vs) ρ (pLm out xs) := den_of_f (denf_map xs item out hi hx hz)
end
end Dn
set_option Elab.async false
set_option linter.all false
set_option maxRecDepth 100000
set_option maxHeartbeats 4000000
namespace Dn
open PySem L2

/-! ### statements -/
/-- a list of one's own that nobody else knows: it may be written -/
structure Mt where
  p : Addr
  rs : List RP
abbrev pRef (p : Addr) : RP := pV (.ref p)
def MutOk (F H : Hp) (m : Mt) : Prop := F m.p = none ∧ ∃ vs, H m.p = some (.lst vs) ∧ Vrs F vs m.rs
structure S8 (Z : Zx) (F H : Hp) (σ : L2.St) (ρ : Rho) (ms : List Mt) : Prop where
  env : EnvOk F σ ρ
  ok : Ok Z F H
  mu : ∀ m ∈ ms, MutOk F H m
  nz : ∀ m ∈ ms, ¬ Z.T m.p
  nd : (ms.map Mt.p).Nodup
def tch (Z : Zx) (ms : List Mt) : Addr → Prop := fun b => Z.T b ∨ b ∈ ms.map Mt.p
def Sub (H : Hp) (ms' ms : List Mt) : Prop := ∀ m ∈ ms', m.p ∈ ms.map Mt.p ∨ H m.p = none
theorem Sub.refl {H : Hp} {ms : List Mt} : Sub H ms ms := fun m h => .inl (List.mem_map_of_mem h)
theorem go_seq {Z : Zx} {ms ms1 : List Mt} {F H F1 H1 F2 H2 : Hp} (a : Go (tch Z ms) F H F1 H1) (s : Sub H ms1 ms) (b : Go (tch Z ms1) F1 H1 F2 H2) : Go (tch Z ms) F H F2 H2 := by
  have k : ∀ x, tch Z ms1 x → tch Z ms x ∨ H x = none := fun x t => by
    rcases t with t | t
    · exact .inl (.inl t)
    · obtain ⟨m, hm, rfl⟩ := List.mem_map.mp t
      rcases s m hm with q | q
      · exact .inl (.inr q)
      · exact .inr q
  refine ⟨a.ff.trans b.ff, fun x o t h => b.hh x o (fun t1 => ?_) (a.hh x o t h), fun x o h => ?_, fun x h => b.dm x (a.dm x h)⟩
  · rcases k x t1 with q | q
    · exact t q
    · rw [q] at h; cases h
  · rcases b.gr x o h with q | q | q
    · exact a.gr x o q
    · exact .inr (.inl (none_back (a.dm x) q))
    · rcases k x q with z | z
      · exact .inr (.inr z)
      · exact .inr (.inl z)
theorem sub_seq {Z : Zx} {ms ms1 ms2 : List Mt} {F H F1 H1 : Hp} (a : Go (tch Z ms) F H F1 H1) (s : Sub H ms1 ms) (t : Sub H1 ms2 ms1) : Sub H ms2 ms := fun m hm => by
  rcases t m hm with q | q
  · obtain ⟨m1, h1, e⟩ := List.mem_map.mp q
    rw [← e]
    exact s m1 h1
  · exact .inr (none_back (a.dm m.p) q)
theorem S8.step {Z : Zx} {F H F' H' : Hp} {σ : L2.St} {ρ : Rho} {ms : List Mt} (s : S8 Z F H σ ρ ms) (g : Go Z.T F H F' H') (k : Ok Z F' H') : S8 Z F' H' σ ρ ms := by
  refine ⟨s.env.mono g.ff, k, fun m hm => ?_, s.nz, s.nd⟩
  obtain ⟨h1, vs, h2, h3⟩ := s.mu m hm
  refine ⟨?_, vs, g.hh _ _ (s.nz m hm) h2, h3.mono g.ff⟩
  cases q : F' m.p with
  | none => rfl
  | some o =>
    rcases g.gr _ o q with z | z | z
    · rw [h1] at z; cases z
    · rw [h2] at z; cases z
    · exact absurd z (s.nz m hm)
theorem go_t {Z : Zx} {ms : List Mt} {F H F' H' : Hp} (g : Go Z.T F H F' H') : Go (tch Z ms) F H F' H' := g.weak fun _ t => .inl t
def Tr (Z : Zx) (ts : TS) (ρ : Rho) (ms : List Mt) (N : Rho → List Mt → Prop) (R : RP) : Prop :=
  ∀ F H σ, S8 Z F H σ ρ ms → ∀ D : Ends,
    (∀ F' H' σ' ρ' ms', N ρ' ms' → Go (tch Z ms) F H F' H' → S8 Z F' H' σ' ρ' ms' → Sub H ms' ms → D.nx σ' H') →
    (∀ v F' H', Go (tch Z ms) F H F' H' → Ok Z F' H' → R.R F' v → D.rt v H') → ts D σ H
/-- just these -/
def Is (ρ : Rho) (ms : List Mt) : Rho → List Mt → Prop := fun ρ' ms' => ρ' = ρ ∧ ms' = ms
def No : Rho → List Mt → Prop := fun _ _ => False
section
variable {Z : Zx} {ρ ρ1 : Rho} {ms ms1 : List Mt} {N N1 M : Rho → List Mt → Prop} {R r r1 r2 r3 : RP} {rs rs1 rs2 : List RP} {ts tu tb : TS} {te ta tc tl : TE} {tt : TT} {tas : TA} {P : Bool → Prop} {K : PySem.W.Frag}
theorem tr_seq (a : Tr Z ts ρ ms M R) (b : ∀ ρ' ms', M ρ' ms' → Tr Z tu ρ' ms' N R) : Tr Z (tSeq ts tu) ρ ms N R := fun F H σ s D q w =>
  a F H σ s { D with nx := tu D } (fun F1 H1 σ1 ρ1 ms1 m1 g1 s1 u1 => b ρ1 ms1 m1 F1 H1 σ1 s1 D
    (fun F2 H2 σ2 ρ2 ms2 m2 g2 s2 u2 => q F2 H2 σ2 ρ2 ms2 m2 (go_seq g1 u1 g2) s2 (sub_seq g1 u1 u2)) fun v F2 H2 g2 k2 r2 => w v F2 H2 (go_seq g1 u1 g2) k2 r2) w
theorem tr_seqI (a : Tr Z ts ρ ms (Is ρ1 ms1) R) (b : Tr Z tu ρ1 ms1 N R) : Tr Z (tSeq ts tu) ρ ms N R := tr_seq a fun ρ' ms' ⟨e1, e2⟩ => by rw [e1, e2]; exact b
theorem tr_imp (a : Tr Z ts ρ ms M R) (h : ∀ ρ' ms', M ρ' ms' → N ρ' ms') : Tr Z ts ρ ms N R := fun F H σ s D q w =>
  a F H σ s D (fun F1 H1 σ1 ρ1 ms1 m1 => q F1 H1 σ1 ρ1 ms1 (h _ _ m1)) w
theorem tr_next (h : N ρ ms) : Tr Z tNext ρ ms N R := fun F H σ s D q w => q F H σ ρ ms h (Go.refl F H) s Sub.refl
/-- a name's meaning said otherwise -/
theorem tr_re (h : ∀ F σ, EnvOk F σ ρ → EnvOk F σ ρ1) (a : Tr Z ts ρ1 ms N R) : Tr Z ts ρ ms N R := fun F H σ s D q w => a F H σ ⟨h F σ s.env, s.ok, s.mu, s.nz, s.nd⟩ D q w
/-- one of some, told -/
theorem tr_open {α : Type} {i : Nat} {Pa : α → Prop} {f : α → RP} (hi : ρ[i]? = some (some (pX Pa f))) (a : ∀ x, Pa x → Tr Z ts (ρ.set i (some (f x))) ms N R) : Tr Z ts ρ ms N R := fun F H σ s D q w => by
  obtain ⟨v, h1, x, h2, h3⟩ := s.env.at_ i _ hi
  have e := s.env.set i h3
  have e2 : σ.set i (some v) = σ := by
    obtain ⟨hl, e3⟩ := List.getElem?_eq_some_iff.mp h1
    rw [← e3]
    exact List.set_getElem_self ..
  rw [e2] at e
  exact a x h2 F H σ ⟨e, s.ok, s.mu, s.nz, s.nd⟩ D q w
theorem tr_asgG {g : TG} {vs : List Nat} {up : Rho → Rho} (h : Den Z te ρ r) (hg : DenG vs g r up) : Tr Z (tAsg te g) ρ ms (Is (up ρ) ms) R := fun F H σ s D q w =>
  h F H σ s.env s.ok _ fun v F1 H1 g1 k1 r1 => by
    have s1 := s.step g1 k1
    exact hg F1 H1 σ ρ v _ s1.env k1.fh r1 fun σ' e _ => q F1 H1 σ' (up ρ) ms ⟨rfl, rfl⟩ (go_t g1) ⟨e, s1.ok, s1.mu, s1.nz, s1.nd⟩ Sub.refl
theorem tr_asg {i : Nat} (h : Den Z te ρ r) : Tr Z (tAsg te (gName i)) ρ ms (Is (ρ.set i (some r)) ms) R := tr_asgG h (deng_name (vs := [i]) (by simp))
theorem tr_drop (h : Den Z te ρ r) : Tr Z (tDrop te) ρ ms (Is ρ ms) R := fun F H σ s D q w =>
  h F H σ s.env s.ok _ fun v F1 H1 g1 k1 _ => q F1 H1 σ ρ ms ⟨rfl, rfl⟩ (go_t g1) (s.step g1 k1) Sub.refl
theorem tr_ret (h : Den Z te ρ R) : Tr Z (tRet te) ρ ms N R := fun F H σ s D q w =>
  h F H σ s.env s.ok _ fun v F1 H1 g1 k1 r1 => w v F1 H1 (go_t g1) k1 r1
theorem tr_retN (h : ∀ F, R.R F .non) : Tr Z tRetN ρ ms N R := fun F H σ s D q w => w .non F H (Go.refl F H) s.ok (h F)
theorem tr_if (h : DenT Z tt ρ P) (a : P true → Tr Z ts ρ ms N R) (b : P false → Tr Z tu ρ ms N R) : Tr Z (tIfS tt ts tu) ρ ms N R := fun F H σ s D q w =>
  h F H σ s.env s.ok _ fun c F1 H1 g1 k1 p => by
    have s1 := s.step g1 k1
    have q1 : ∀ F' H' σ' ρ' ms', N ρ' ms' → Go (tch Z ms) F1 H1 F' H' → S8 Z F' H' σ' ρ' ms' → Sub H1 ms' ms → D.nx σ' H' := fun F' H' σ' ρ' ms' n g s u => q F' H' σ' ρ' ms' n ((go_t g1).trans g) s (sub_seq (go_t g1) Sub.refl u)
    have w1 : ∀ v F' H', Go (tch Z ms) F1 H1 F' H' → Ok Z F' H' → R.R F' v → D.rt v H' := fun v F' H' g => w v F' H' ((go_t g1).trans g)
    cases c with
    | true => rw [if_pos rfl]; exact a p F1 H1 σ s1 D q1 w1
    | false => rw [if_neg Bool.false_ne_true]; exact b p F1 H1 σ s1 D q1 w1
/-- a new list of one's own -/
theorem tr_asgF {i : Nat} (h : DenF Z te ρ rs) : Tr Z (tAsg te (gName i)) ρ ms (fun ρ' ms' => ∃ p, ρ' = ρ.set i (some (pRef p)) ∧ ms' = ⟨p, rs⟩ :: ms) R := fun F H σ s D q w =>
  h F H σ s.env s.ok _ fun p vs F1 H1 hp g1 k1 fp ho hv => by
    have s1 := s.step g1 k1
    refine q F1 H1 _ _ _ ⟨p, rfl, rfl⟩ (go_t g1) ⟨s1.env.set i rfl, k1, fun m hm => ?_, fun m hm => ?_, ?_⟩ fun m hm => ?_
    · rcases List.mem_cons.mp hm with e | e
      · rw [e]; exact ⟨fp, vs, ho, hv⟩
      · exact s1.mu m e
    · rcases List.mem_cons.mp hm with e | e
      · rw [e]; exact fun t => Z.has s.ok.j t hp
      · exact s1.nz m e
    · rw [List.map_cons, List.nodup_cons]
      refine ⟨fun z => ?_, s1.nd⟩
      obtain ⟨m, hm, e⟩ := List.mem_map.mp z
      obtain ⟨_, us, h2, _⟩ := s.mu m hm
      rw [e, hp] at h2
      cases h2
    · rcases List.mem_cons.mp hm with e | e
      · rw [e]; exact .inr hp
      · exact .inl (List.mem_map_of_mem e)
/-- a, b = x, y -/
theorem tr_par {i j : Nat} (h1 : Den Z ta ρ r1) (h2 : Den Z te ρ r2) : Tr Z (tPar i j (tCons ta (tCons te tNil))) ρ ms (Is ((ρ.set i (some r1)).set j (some r2)) ms) R := fun F H σ s D q w =>
  h1 F H σ s.env s.ok _ fun v F1 H1 g1 k1 x1 => h2 F1 H1 σ (s.env.mono g1.ff) k1 _ fun u F2 H2 g2 k2 x2 => ⟨v, u, rfl, by
    have s2 := s.step (g1.trans g2) k2
    exact q F2 H2 _ _ ms ⟨rfl, rfl⟩ (go_t (g1.trans g2)) ⟨(s2.env.set i (r1.mono g2.ff x1)).set j x2, k2, s2.mu, s2.nz, s2.nd⟩ Sub.refl⟩
/-- a, b = x, a new list -/
theorem tr_parF {i j : Nat} (h1 : Den Z ta ρ r1) (h2 : DenF Z te ρ rs) : Tr Z (tPar i j (tCons ta (tCons te tNil))) ρ ms (fun ρ' ms' => ∃ p, ρ' = (ρ.set i (some r1)).set j (some (pRef p)) ∧ ms' = ⟨p, rs⟩ :: ms) R := fun F H σ s D q w =>
  h1 F H σ s.env s.ok _ fun v F1 H1 g1 k1 x1 => h2 F1 H1 σ (s.env.mono g1.ff) k1 _ fun p vs F2 H2 hp g2 k2 fp ho hv => ⟨v, .ref p, rfl, by
    have s2 := s.step (g1.trans g2) k2
    have hp0 : H p = none := none_back (g1.dm p) hp
    refine q F2 H2 _ _ _ ⟨p, rfl, rfl⟩ (go_t (g1.trans g2)) ⟨(s2.env.set i (r1.mono g2.ff x1)).set j rfl, k2, fun m hm => ?_, fun m hm => ?_, ?_⟩ fun m hm => ?_
    · rcases List.mem_cons.mp hm with e | e
      · rw [e]; exact ⟨fp, vs, ho, hv⟩
      · exact s2.mu m e
    · rcases List.mem_cons.mp hm with e | e
      · rw [e]; exact fun t => Z.has s.ok.j t hp0
      · exact s2.nz m e
    · rw [List.map_cons, List.nodup_cons]
      refine ⟨fun z => ?_, s2.nd⟩
      obtain ⟨m, hm, e⟩ := List.mem_map.mp z
      obtain ⟨_, us, h2, _⟩ := s.mu m hm
      rw [e, hp0] at h2
      cases h2
    · rcases List.mem_cons.mp hm with e | e
      · rw [e]; exact .inr hp0
      · exact .inl (List.mem_map_of_mem e)⟩
/-- a, b, c = x, y, a new list -/
theorem tr_par3F {i j l : Nat} (h1 : Den Z ta ρ r1) (h2 : Den Z tc ρ r2) (h3 : DenF Z te ρ rs) :
    Tr Z (tPar3 i j l (tCons ta (tCons tc (tCons te tNil)))) ρ ms (fun ρ' ms' => ∃ p, ρ' = ((ρ.set i (some r1)).set j (some r2)).set l (some (pRef p)) ∧ ms' = ⟨p, rs⟩ :: ms) R := fun F H σ s D q w =>
  h1 F H σ s.env s.ok _ fun v F1 H1 g1 k1 x1 => h2 F1 H1 σ (s.env.mono g1.ff) k1 _ fun u F2 H2 g2 k2 x2 => h3 F2 H2 σ (s.env.mono (g1.trans g2).ff) k2 _ fun p vs F3 H3 hp g3 k3 fp ho hv => ⟨v, u, .ref p, rfl, by
    have g13 := (g1.trans g2).trans g3
    have s2 := s.step g13 k3
    have hp0 : H p = none := none_back ((g1.trans g2).dm p) hp
    refine q F3 H3 _ _ _ ⟨p, rfl, rfl⟩ (go_t g13) ⟨((s2.env.set i (r1.mono (g2.trans g3).ff x1)).set j (r2.mono g3.ff x2)).set l rfl, k3, fun m hm => ?_, fun m hm => ?_, ?_⟩ fun m hm => ?_
    · rcases List.mem_cons.mp hm with e | e
      · rw [e]; exact ⟨fp, vs, ho, hv⟩
      · exact s2.mu m e
    · rcases List.mem_cons.mp hm with e | e
      · rw [e]; exact fun t => Z.has s.ok.j t hp0
      · exact s2.nz m e
    · rw [List.map_cons, List.nodup_cons]
      refine ⟨fun z => ?_, s2.nd⟩
      obtain ⟨m, hm, e⟩ := List.mem_map.mp z
      obtain ⟨_, us, h2, _⟩ := s.mu m hm
      rw [e, hp0] at h2
      cases h2
    · rcases List.mem_cons.mp hm with e | e
      · rw [e]; exact .inr hp0
      · exact .inl (List.mem_map_of_mem e)⟩
theorem nodup_set {α : Type} {f : α → Addr} : ∀ {l : List α} {k : Nat} {x y : α}, l[k]? = some x → f y = f x → (l.set k y).map f = l.map f
  | [], k, x, y, h, _ => by simp at h
  | a :: l, 0, x, y, h, e => by
    obtain rfl := Option.some.inj h
    show f y :: l.map f = f a :: l.map f
    rw [e]
  | a :: l, k + 1, x, y, h, e => by
    show f a :: (l.set k y).map f = f a :: l.map f
    rw [nodup_set (l := l) (by simpa using h) e]
/-- a list of one's own is written: its new items vs stand in the known heap -/
theorem S8.wr {F H : Hp} {σ : L2.St} {k : Nat} {p : Addr} {vs : List V} (s : S8 Z F H σ ρ ms) (hk : ms[k]? = some ⟨p, rs⟩) (hv : Vrs F vs rs1) :
    Go (tch Z ms) F H F (upd H p (.lst vs)) ∧ S8 Z F (upd H p (.lst vs)) σ ρ (ms.set k ⟨p, rs1⟩) := by
  have hm : (⟨p, rs⟩ : Mt) ∈ ms := List.mem_of_getElem? hk
  obtain ⟨fp, us, hp, _⟩ := s.mu _ hm
  have fp : F p = none := fp
  have hp : H p = some (.lst us) := hp
  have nz : ¬ Z.T p := s.nz _ hm
  have em : (ms.set k ⟨p, rs1⟩).map Mt.p = ms.map Mt.p := nodup_set hk rfl
  have ne : ∀ m ∈ ms.set k ⟨p, rs1⟩, m.p = p → m = ⟨p, rs1⟩ := fun m hm' e => by
    obtain ⟨j, hj⟩ := List.mem_iff_getElem?.mp hm'
    by_cases hjk : k = j
    · subst hjk
      have hl : k < ms.length := (List.getElem?_eq_some_iff.mp hk).1
      rw [List.getElem?_set_self hl] at hj
      exact (Option.some.inj hj).symm
    · rw [List.getElem?_set_ne hjk] at hj
      have nd := s.nd
      have h1 : (ms.map Mt.p)[j]? = some p := by rw [List.getElem?_map, hj]; show some m.p = some p; rw [e]
      have h2 : (ms.map Mt.p)[k]? = some p := by rw [List.getElem?_map, hk]; rfl
      exact absurd (nd_ix nd h2 h1) hjk
  refine ⟨⟨fun _ _ e => e, fun b o t e => ?_, fun b o e => .inl e, fun b e => ?_⟩, ⟨s.env, ⟨fun b o e => ?_, s.ok.fr, Z.stay (fun b t => ?_) s.ok.j⟩, fun m hm' => ?_, fun m hm' => ?_, by rw [em]; exact s.nd⟩⟩
  · rw [upd_ne (fun z => t (.inr (by rw [z]; exact List.mem_map_of_mem hm)))]; exact e
  · by_cases hb : b = p
    · subst hb; rw [upd_same]; exact fun z => by cases z
    · rw [upd_ne hb]; exact e
  · rw [upd_ne (fun z => by rw [z, fp] at e; cases e)]; exact s.ok.fh b o e
  · rw [upd_ne (fun z => nz (by rw [← z]; exact t))]
  · by_cases hb : m.p = p
    · rw [ne m hm' hb]; exact ⟨fp, vs, upd_same, hv⟩
    · have hm2 : m ∈ ms := by
        obtain ⟨j, hj⟩ := List.mem_iff_getElem?.mp hm'
        by_cases hjk : k = j
        · subst hjk
          rw [List.getElem?_set_self (List.getElem?_eq_some_iff.mp hk).1] at hj
          obtain rfl := Option.some.inj hj
          exact absurd rfl hb
        · rw [List.getElem?_set_ne hjk] at hj
          exact List.mem_of_getElem? hj
      obtain ⟨h1, us', h2, h3⟩ := s.mu m hm2
      exact ⟨h1, us', by rw [upd_ne hb]; exact h2, h3⟩
  · have : m.p ∈ ms.map Mt.p := by rw [← em]; exact List.mem_map_of_mem hm'
    obtain ⟨m2, h2, e2⟩ := List.mem_map.mp this
    rw [← e2]; exact s.nz m2 h2
theorem sub_set {H : Hp} {k : Nat} {p : Addr} (hk : ms[k]? = some ⟨p, rs⟩) : Sub H (ms.set k ⟨p, rs1⟩) ms := fun m hm => by
  have em : (ms.set k ⟨p, rs1⟩).map Mt.p = ms.map Mt.p := nodup_set hk rfl
  exact .inl (by rw [← em]; exact List.mem_map_of_mem hm)
theorem tr_append {i k : Nat} {p : Addr} (hi : ρ[i]? = some (some (pRef p))) (hk : ms[k]? = some ⟨p, rs⟩) (h : Den Z te ρ r) (hz : rs.length < sizeLine) :
    Tr Z (tDrop (tBM K "list" rAppend (tVar i) (tCons te tNil))) ρ ms (Is ρ (ms.set k ⟨p, rs ++ [r]⟩)) R := fun F H σ s D q w => by
  obtain ⟨v, h1, h2⟩ := s.env.at_ i _ hi
  have e2 : v = .ref p := h2
  subst e2
  obtain ⟨fp, vs, hp, hv⟩ := s.mu _ (List.mem_of_getElem? hk)
  have hp : H p = some (.lst vs) := hp
  refine ⟨.ref p, h1, .inl ⟨rfl, vs, SqL.of hp⟩, ?_⟩
  refine h F H σ s.env s.ok _ fun y F1 H1 g1 k1 x1 => ?_
  have s1 := s.step g1 k1
  obtain ⟨_, vs1, hp1, hv1⟩ := s1.mu _ (List.mem_of_getElem? hk)
  have hp1 : H1 p = some (.lst vs1) := hp1
  obtain ⟨g2, s2⟩ := s1.wr (vs := vs1 ++ [y]) (rs1 := rs ++ [r]) hk (hv1.app ⟨x1, trivial⟩)
  exact ⟨p, vs1, y, rfl, rfl, hp1, by rw [hv1.len]; exact hz, q F1 _ σ ρ _ ⟨rfl, rfl⟩ ((go_t g1).trans g2) s2 (sub_set hk)⟩
theorem tr_extend {i k : Nat} {p : Addr} (hi : ρ[i]? = some (some (pRef p))) (hk : ms[k]? = some ⟨p, rs⟩) (h : Den Z te ρ (pL rs2)) (hz : rs.length + rs2.length ≤ sizeLine) :
    Tr Z (tDrop (tBM K "list" rExtend (tVar i) (tCons te tNil))) ρ ms (Is ρ (ms.set k ⟨p, rs ++ rs2⟩)) R := fun F H σ s D q w => by
  obtain ⟨v, h1, h2⟩ := s.env.at_ i _ hi
  have e2 : v = .ref p := h2
  subst e2
  obtain ⟨fp, vs, hp, hv⟩ := s.mu _ (List.mem_of_getElem? hk)
  have hp : H p = some (.lst vs) := hp
  refine ⟨.ref p, h1, .inl ⟨rfl, vs, SqL.of hp⟩, ?_⟩
  refine h F H σ s.env s.ok _ fun y F1 H1 g1 k1 ⟨b, ws, eb, hb, hw⟩ => ?_
  subst eb
  have s1 := s.step g1 k1
  obtain ⟨_, vs1, hp1, hv1⟩ := s1.mu _ (List.mem_of_getElem? hk)
  have hp1 : H1 p = some (.lst vs1) := hp1
  obtain ⟨g2, s2⟩ := s1.wr (vs := vs1 ++ ws) (rs1 := rs ++ rs2) hk (hv1.app hw)
  exact ⟨p, b, vs1, ws, rfl, rfl, hp1, k1.fh _ _ hb, by rw [hv1.len, hw.len]; exact hz, q F1 _ σ ρ _ ⟨rfl, rfl⟩ ((go_t g1).trans g2) s2 (sub_set hk)⟩
/-- xs[i] = e -/
theorem tr_setAt {i k : Nat} {p : Addr} {z : Int} {j : Nat} (hi : ρ[i]? = some (some (pRef p))) (hk : ms[k]? = some ⟨p, rs⟩) (h : Den Z te ρ r) (hx : Den Z tc ρ (pI z)) (hj : ixN rs.length z = some j) :
    Tr Z (tAsg te (gSub (tVar i) tc rSetL)) ρ ms (Is ρ (ms.set k ⟨p, rs.set j r⟩)) R := fun F H σ s D q w => by
  refine h F H σ s.env s.ok _ fun y F1 H1 g1 k1 x1 => ?_
  have s1 := s.step g1 k1
  obtain ⟨v, h1, h2⟩ := s1.env.at_ i _ hi
  have e2 : v = .ref p := h2
  subst e2
  refine ⟨.ref p, h1, ?_⟩
  refine hx F1 H1 σ s1.env k1 _ fun zi F2 H2 g2 k2 ez => ?_
  have s2 := s1.step g2 k2
  obtain ⟨_, vs1, hp1, hv1⟩ := s2.mu _ (List.mem_of_getElem? hk)
  have hp1 : H2 p = some (.lst vs1) := hp1
  obtain ⟨g3, s3⟩ := s2.wr (vs := vs1.set j y) (rs1 := rs.set j r) hk (Vrs.set (r.mono g2.ff x1) j hv1)
  exact ⟨p, vs1, z, j, rfl, ez, hp1, by rw [hv1.len]; exact hj, q F2 _ σ ρ _ ⟨rfl, rfl⟩ ((go_t (g1.trans g2)).trans g3) s3 (sub_set hk)⟩
/-- a list of one's own is known from now on -/
theorem tr_freeze {i k : Nat} {p : Addr} (hi : ρ[i]? = some (some (pRef p))) (hk : ms[k]? = some ⟨p, rs⟩) (h : Tr Z ts (ρ.set i (some (pL rs))) (ms.eraseIdx k) N R) : Tr Z ts ρ ms N R := fun F H σ s D q w => by
  obtain ⟨v, h1, h2⟩ := s.env.at_ i _ hi
  have e2 : v = .ref p := h2
  subst e2
  have hm : (⟨p, rs⟩ : Mt) ∈ ms := List.mem_of_getElem? hk
  obtain ⟨fp, vs, hp, hv⟩ := s.mu _ hm
  have fp : F p = none := fp
  have hp : H p = some (.lst vs) := hp
  have hv : Vrs F vs rs := hv
  have sm : Same F (upd F p (.lst vs)) := fun b o e => by rw [upd_ne (fun z => by rw [z, fp] at e; cases e)]; exact e
  have er : ∀ m ∈ ms.eraseIdx k, m ∈ ms := fun m h => List.mem_of_mem_eraseIdx h
  have np : ∀ m ∈ ms.eraseIdx k, m.p ≠ p := fun m h e => by
    obtain ⟨j, hj, e2⟩ := List.mem_eraseIdx_iff_getElem?.mp h
    have a1 : (ms.map Mt.p)[j]? = some p := by rw [List.getElem?_map, e2]; show some m.p = some p; rw [e]
    have a2 : (ms.map Mt.p)[k]? = some p := by rw [List.getElem?_map, hk]; rfl
    exact hj (nd_ix s.nd a1 a2)
  have s' : S8 Z (upd F p (.lst vs)) H σ (ρ.set i (some (pL rs))) (ms.eraseIdx k) := by
    refine ⟨?_, ⟨fun b o e => ?_, fun b t => ?_, s.ok.j⟩, fun m h => ?_, fun m h => s.nz m (er m h), ?_⟩
    · have e3 : σ.set i (some (.ref p)) = σ := by
        obtain ⟨hl, e3⟩ := List.getElem?_eq_some_iff.mp h1
        rw [← e3]
        exact List.set_getElem_self ..
      have e4 := (s.env.mono sm).set i (r := pL rs) (v := .ref p) ⟨p, vs, rfl, upd_same, hv.mono sm⟩
      rw [e3] at e4
      exact e4
    · by_cases hb : b = p
      · subst hb; rw [upd_same] at e; rw [hp]; exact e
      · rw [upd_ne hb] at e; exact s.ok.fh b o e
    · rw [upd_ne (fun z => s.nz _ hm (by show Z.T p; rw [← z]; exact t))]; exact s.ok.fr b t
    · obtain ⟨a1, us, a2, a3⟩ := s.mu m (er m h)
      exact ⟨by rw [upd_ne (np m h)]; exact a1, us, a2, a3.mono sm⟩
    · exact (s.nd).sublist ((List.eraseIdx_sublist ms k).map _)
  have g0 : Go (tch Z ms) F H (upd F p (.lst vs)) H := ⟨sm, fun _ _ _ e => e, fun b o e => by
    by_cases hb : b = p
    · exact .inr (.inr (.inr (by rw [hb]; exact List.mem_map_of_mem hm)))
    · rw [upd_ne hb] at e; exact .inl e, fun _ e => e⟩
  have wk : ∀ {F1 H1}, Go (tch Z (ms.eraseIdx k)) (upd F p (.lst vs)) H F1 H1 → Go (tch Z ms) F H F1 H1 := fun {F1 H1} g => g0.trans (g.weak fun b t => by
    rcases t with t | t
    · exact .inl t
    · obtain ⟨m, h, rfl⟩ := List.mem_map.mp t
      exact .inr (List.mem_map_of_mem (er m h)))
  refine h _ H σ s' D (fun F' H' σ' ρ' ms' n g s u => q F' H' σ' ρ' ms' n (wk g) s fun m hm' => ?_) fun v F' H' g k1 r1 => w v F' H' (wk g) k1 r1
  rcases u m hm' with z | z
  · obtain ⟨m2, h2, e⟩ := List.mem_map.mp z
    exact .inl (by rw [← e]; exact List.mem_map_of_mem (er m2 h2))
  · exact .inr z
/-! loops -/
theorem tr_for {wi : TI} {g : TG} {vs : List Nat} (hi : DenI Z wi ρ rs) (I : Nat → Rho → List Mt → Prop) (h0 : I 0 ρ ms)
    (hs : ∀ (i : Nat) r, rs[i]? = some r → ∃ up, DenG vs g r up ∧ ∀ ρ' ms', I i ρ' ms' → Tr Z tb (up ρ') ms' (I (i + 1)) R) : Tr Z (tFor wi g tb) ρ ms (I rs.length) R := fun F H σ s D q w =>
  hi F H σ s.env s.ok _ fun J F1 H1 g1 k1 it => by
    obtain ⟨G, Y, wk, hG, hY⟩ := it
    have s1 := s.step g1 k1
    refine for_it wk (fun i σi Hi => ∃ Fi ρi msi, I i ρi msi ∧ Go (tch Z ms) F1 H1 Fi Hi ∧ S8 Z Fi Hi σi ρi msi ∧ Sub H1 msi ms) ⟨F1, ρ, ms, h0, Go.refl _ _, s1, Sub.refl⟩ ?_ ?_ ?_
    · rintro i σi Hi _ ⟨Fi, ρi, msi, _, gi, si, _⟩
      exact hG Hi (gi.ff.trans si.ok.fh)
    · rintro i x σi Hi Hi' hlt ⟨Fi, ρi, msi, ii, gi, si, ui⟩ y
      have er : rs[i]? = some rs[i] := List.getElem?_eq_getElem hlt
      obtain ⟨F2, g2, sm2, rx⟩ := hY i Hi x Hi' rs[i] Fi y er gi.ff si.ok.fh
      obtain ⟨g2', k2⟩ := si.ok.step g2 sm2
      have s2 := si.step g2' k2
      obtain ⟨up, hg, ht⟩ := hs i rs[i] er
      refine hg F2 Hi' σi ρi x _ s2.env k2.fh rx fun σ' e' _ => ?_
      refine ht ρi msi ii F2 Hi' σ' ⟨e', s2.ok, s2.mu, s2.nz, s2.nd⟩ _ (fun F3 H3 σ3 ρ3 ms3 i3 g3 s3 u3 => ?_) fun v F3 H3 g3 k3 r3 => ?_
      · have gx : Go (tch Z ms) F1 H1 F2 Hi' := go_seq gi ui (go_t g2')
        refine ⟨F3, ρ3, ms3, i3, go_seq gx ui g3, s3, sub_seq gx ui u3⟩
      · have gx : Go (tch Z ms) F1 H1 F2 Hi' := go_seq gi ui (go_t g2')
        exact w v F3 H3 ((go_t g1).trans (go_seq gx ui g3)) k3 r3
    · rintro σn Hn ⟨Fn, ρn, msn, ii, gn, sn, un⟩
      exact q Fn Hn σn ρn msn ii ((go_t g1).trans gn) sn (sub_seq (go_t g1) Sub.refl un)
theorem tr_while (W : Nat → Rho → List Mt → Prop) (m0 : Nat) (h0 : W m0 ρ ms)
    (hs : ∀ m ρ' ms', W m ρ' ms' → ∃ P : Bool → Prop, DenT Z tt ρ' P ∧ (P true → Tr Z tb ρ' ms' (fun ρ2 ms2 => ∃ m', m' < m ∧ W m' ρ2 ms2) R) ∧ (P false → N ρ' ms')) : Tr Z (tWhile tt tb) ρ ms N R := fun F H σ s D q w => by
  refine ⟨fun m σi Hi => ∃ Fi ρi msi, W m ρi msi ∧ Go (tch Z ms) F H Fi Hi ∧ S8 Z Fi Hi σi ρi msi ∧ Sub H msi ms, ⟨m0, F, ρ, ms, h0, Go.refl _ _, s, Sub.refl⟩, ?_⟩
  rintro m σi Hi ⟨Fi, ρi, msi, wi, gi, si, ui⟩
  obtain ⟨P, ht, h1, h2⟩ := hs m ρi msi wi
  refine ht Fi Hi σi si.env si.ok _ fun b F1 H1 g1 k1 p => ?_
  have s1 := si.step g1 k1
  have gx : Go (tch Z ms) F H F1 H1 := go_seq gi ui (go_t g1)
  cases b with
  | true =>
    rw [if_pos rfl]
    refine ⟨fun σ2 H2 => ∃ m', m' < m ∧ ∃ F2 ρ2 ms2, W m' ρ2 ms2 ∧ Go (tch Z ms) F H F2 H2 ∧ S8 Z F2 H2 σ2 ρ2 ms2 ∧ Sub H ms2 ms, fun σ2 H2 ⟨m', hm, z⟩ => ⟨m', hm, z⟩, ?_⟩
    refine h1 p F1 H1 σi s1 _ (fun F2 H2 σ2 ρ2 ms2 ⟨m', hm, w2⟩ g2 s2 u2 => ⟨m', hm, F2, ρ2, ms2, w2, go_seq gx ui g2, s2, sub_seq gx ui u2⟩) fun v F2 H2 g2 k2 r2 => w v F2 H2 (go_seq gx ui g2) k2 r2
  | false =>
    rw [if_neg Bool.false_ne_true]
    exact q F1 H1 σi ρi msi (h2 p) gx s1 ui
end

/-! ### calls -/
/-- the promise of a def that leaves all as it is and gives what C says -/
def pureSp (C : List RP → RP → Prop) : Sp := fun vs H Q _ => ∃ F rs r, C rs r ∧ Same F H ∧ Vrs F vs rs ∧ ∀ v F' H', Go0 F H F' H' → Same F' H' → r.R F' v → Q v H'
def startR (N : List Str) (rs : List RP) : Rho := rs.map some ++ List.replicate (N.length - rs.length) none
theorem start_ok {F : Hp} {N : List Str} {vs : List V} {rs : List RP} (h : Vrs F vs rs) : EnvOk F (L2.start N vs) (startR N rs) := by
  have l := h.len
  refine ⟨by unfold L2.start startR; simp [l], fun i r e => ?_⟩
  unfold startR at e
  unfold L2.start
  by_cases hi : i < rs.length
  · rw [List.getElem?_append_left (by simpa using hi), List.getElem?_map] at e
    cases q : rs[i]? with
    | none => rw [q] at e; cases e
    | some r' =>
      rw [q] at e
      obtain rfl := Option.some.inj (Option.some.inj e)
      obtain ⟨v, h1, h2⟩ := h.get q
      exact ⟨v, by rw [List.getElem?_append_left (by simpa [l] using hi), List.getElem?_map, h1]; rfl, h2⟩
  · rw [List.getElem?_append_right (by simpa using hi)] at e
    rw [List.getElem?_replicate] at e
    split at e <;> cases e
theorem pure_of {N : List Str} {t : TS} {C : List RP → RP → Prop} {Nx : Rho → List Mt → Prop} {vs : List V} {H : Hp} {Q : VK} {E : XK} (h : pureSp C vs H Q E) (k : ∀ rs r, C rs r → Tr Z0 t (startR N rs) [] Nx r ∧ ∀ ρ' ms', Nx ρ' ms' → ∀ F, r.R F .non) :
    t { nx := fun _ H' => Q .non H', rt := Q } (L2.start N vs) H := by
  obtain ⟨F, rs, r, c, s, hv, q⟩ := h
  obtain ⟨a, b⟩ := k rs r c
  have go0 : ∀ {F' H' : Hp}, Go (tch Z0 []) F H F' H' → Go0 F H F' H' := fun g => g.weak fun b t => by
    rcases t with t | t
    · exact t
    · cases t
  exact a F H _ ⟨start_ok hv, Ok.z0 s, (fun _ h => nomatch h), (fun _ h => nomatch h), List.nodup_nil⟩ _ (fun F' H' σ' ρ' ms' n g s' _ => q _ F' H' (go0 g) s'.ok.fh (b _ _ n F')) fun v F' H' g k' rv => q v F' H' (go0 g) k'.fh rv
theorem pureSp_len {C : List RP → RP → Prop} {n : Nat} (h : ∀ rs r, C rs r → rs.length = n) : ∀ vs H Q E, pureSp C vs H Q E → vs.length = n := fun vs H Q E ⟨F, rs, r, c, s, hv, _⟩ => by rw [hv.len]; exact h rs r c
section
variable {Z : Zx} {ρ : Rho} {ta tb tc te : TE} {tas tks : TA} {r r1 r2 : RP} {rs ks drs : List RP} {K : PySem.W.Frag} {C : List RP → RP → Prop} {E : XK} {dvs : List V}
theorem pure_call {F H : Hp} {vs : List V} {Q : VK} (k : Ok Z F H) (hv : Vrs F vs rs) (hc : C rs r) (q : ∀ v F' H', Go Z.T F H F' H' → Ok Z F' H' → r.R F' v → Q v H') : pureSp C vs H Q E :=
  ⟨F, rs, r, hc, k.fh, hv, fun v F' H' g s rv => by
    obtain ⟨g', k'⟩ := k.step g s
    exact q v F' H' g' k' rv⟩
theorem den_call (ha : DenA Z tas ρ rs) (hc : C rs r) : Den Z (tCall (pureSp C) [] E tas) ρ r := fun F H σ env ok Q q =>
  ha F H σ env ok _ fun vs F1 H1 g1 k1 x1 => by
    rw [List.append_nil]
    exact pure_call k1 x1 hc fun v F' H' g k rv => q v F' H' (g1.trans g) k rv
/-- with defaults -/
theorem den_callD (ha : DenA Z tas ρ rs) (hd : ∀ F, Vrs F dvs drs) (hc : C (rs ++ drs) r) : Den Z (tCall (pureSp C) dvs E tas) ρ r := fun F H σ env ok Q q =>
  ha F H σ env ok _ fun vs F1 H1 g1 k1 x1 => pure_call k1 (x1.app (hd F1)) hc fun v F' H' g k rv => q v F' H' (g1.trans g) k rv
theorem den_callK {gV : List V → List V → List V} {gR : List RP} (ha : DenA Z tas ρ rs) (hk : DenA Z tks ρ ks) (hg : ∀ F vs zs, Vrs F vs rs → Vrs F zs ks → Vrs F (gV vs zs) gR) (hc : C gR r) : Den Z (tCallK (pureSp C) gV E tas tks) ρ r := fun F H σ env ok Q q =>
  ha F H σ env ok _ fun vs F1 H1 g1 k1 x1 => hk F1 H1 σ (env.mono g1.ff) k1 _ fun zs F2 H2 g2 k2 x2 => pure_call k2 (hg F2 vs zs (x1.mono g2.ff) x2) hc fun v F' H' g k rv => q v F' H' ((g1.trans g2).trans g) k rv
theorem look_zip {F : Hp} {f : Str} : ∀ {fs : List (Str × RP)} {vs : List V} {r : RP}, Vrs F vs (fs.map Prod.snd) → fs.lookup f = some r → ∃ v, ((fs.map Prod.fst).zip vs).lookup f = some v ∧ r.R F v
  | [], _, _, _, h => by cases h
  | (n, r0) :: fs, [], _, h, _ => h.elim
  | (n, r0) :: fs, v :: vs, r, h, e => by
    rw [List.lookup_cons] at e
    show ∃ w, ((n, v) :: ((fs.map Prod.fst).zip vs)).lookup f = some w ∧ r.R F w
    rw [List.lookup_cons]
    cases q : f == n with
    | true =>
      rw [q] at e
      obtain rfl := Option.some.inj e
      exact ⟨v, rfl, h.1⟩
    | false =>
      rw [q] at e
      exact look_zip h.2 e
theorem look_none {f : Str} : ∀ {fs : List (Str × RP)} {vs : List V}, (fs.map Prod.fst).contains f = false → ((fs.map Prod.fst).zip vs).lookup f = none
  | [], _, _ => rfl
  | (n, r0) :: fs, [], _ => rfl
  | (n, r0) :: fs, v :: vs, h => by
    rw [List.map_cons, List.contains_cons, Bool.or_eq_false_iff] at h
    show ((n, v) :: ((fs.map Prod.fst).zip vs)).lookup f = none
    rw [List.lookup_cons, h.1]
    exact look_none h.2
variable {Cl : Addr} {fs : List (Str × RP)} {f m : Str}
theorem den_fld (c : Cls K Cl) (n : NoAttr K Cl f) (ha : Den Z ta ρ (pO Cl fs)) (hf : fs.lookup f = some r) : Den Z (tFld K ta f) ρ r := fun F H σ env ok Q q =>
  ha F H σ env ok _ fun x F1 H1 g1 k1 ⟨a, dx, vs, e, h, hv⟩ => by
    obtain ⟨v, h1, h2⟩ := look_zip hv hf
    exact ⟨a, Cl, dx, _, v, e, k1.fh _ _ h, c, n, h1, q v F1 H1 g1 k1 h2⟩
theorem den_meth (ha : Den Z ta ρ (pO Cl fs)) (hn : (fs.map Prod.fst).contains m = false) (hs : DenA Z tas ρ rs) (hc : C (pO Cl fs :: rs) r) : Den Z (tMeth Cl m (pureSp C) [] E ta tas) ρ r := fun F H σ env ok Q q =>
  ha F H σ env ok _ fun x F1 H1 g1 k1 hx => by
    obtain ⟨a, dx, vs, e, h, hv⟩ := id hx
    refine ⟨a, dx, _, e, k1.fh _ _ h, look_none hn, ?_⟩
    refine hs F1 H1 σ (env.mono g1.ff) k1 _ fun us F2 H2 g2 k2 x2 => ?_
    rw [List.append_nil]
    exact pure_call (rs := pO Cl fs :: rs) k2 ⟨(pO Cl fs).mono g2.ff hx, x2⟩ hc fun v F' H' g k rv => q v F' H' ((g1.trans g2).trans g) k rv
theorem den_prop (ha : Den Z ta ρ (pO Cl fs)) (hc : C [pO Cl fs] r) : Den Z (tProp Cl (pureSp C) [] E ta) ρ r := fun F H σ env ok Q q =>
  ha F H σ env ok _ fun x F1 H1 g1 k1 hx => by
    obtain ⟨a, dx, vs, e, h, hv⟩ := id hx
    refine ⟨a, dx, _, e, k1.fh _ _ h, ?_⟩
    rw [← e]
    exact pure_call (rs := [pO Cl fs]) k1 ⟨hx, trivial⟩ hc fun v F' H' g k rv => q v F' H' (g1.trans g) k rv
theorem den_propG (ha : Den Z ta ρ (pO Cl fs)) (hf : fs.lookup f = some r) : Den Z (tProp Cl (getSp Cl f) [] E ta) ρ r := fun F H σ env ok Q q =>
  ha F H σ env ok _ fun x F1 H1 g1 k1 hx => by
    obtain ⟨a, dx, vs, e, h, hv⟩ := id hx
    obtain ⟨v, h1, h2⟩ := look_zip hv hf
    exact ⟨a, dx, _, e, k1.fh _ _ h, a, dx, _, v, rfl, k1.fh _ _ h, h1, q v F1 H1 g1 k1 h2⟩
/-- the promise of an __init__: from these arguments these attributes -/
def initSp (Cl : Addr) (C : List RP → List (Str × RP) → Prop) : Sp := fun vs H Q _ => ∃ x dx F rs fs ws, vs = .ref x :: ws ∧ H x = some (.ins Cl dx []) ∧ H dx = some (.own x) ∧ F x = none ∧ Same F H ∧ Vrs F ws rs ∧ C rs fs ∧
  ∀ F' H' us, Go (fun b => b = x) F H F' H' → Same F' H' → F' x = none → H' x = some (.ins Cl dx ((fs.map Prod.fst).zip us)) → Vrs F' us (fs.map Prod.snd) → Q .non H'
theorem den_make {Ci : List RP → List (Str × RP) → Prop} (ha : DenA Z tas ρ rs) (hd : ∀ F, Vrs F dvs drs) (hc : Ci (rs ++ drs) fs) : Den Z (tMake Cl (initSp Cl Ci) dvs E tas) ρ (pO Cl fs) := fun F H σ env ok Q q =>
  ha F H σ env ok _ fun vs F1 H1 g1 k1 x1 x dx hx hdx hne => by
    have hx' : (upd H1 dx (.own x)) x = none := by rw [upd_ne hne.symm]; exact hx
    have g2 : Go0 F1 H1 F1 (upd (upd H1 dx (.own x)) x (.ins Cl dx [])) := (Go.new' hdx).trans (Go.new' hx')
    have s2 : Same F1 (upd (upd H1 dx (.own x)) x (.ins Cl dx [])) := same_new' (same_new' k1.fh hdx) hx'
    refine ⟨x, dx, F1, rs ++ drs, fs, vs ++ dvs, rfl, upd_same, by rw [upd_ne hne]; exact upd_same, k1.fh.free hx, s2, x1.app (hd F1), hc, fun F' H' us g s fx hi hu => ⟨rfl, ?_⟩⟩
    have g3 : Go0 F1 H1 F' H' := by
      refine ⟨g.ff, fun b o _ e => g.hh b o (fun z => by rw [z, hx] at e; cases e) (g2.hh b o (fun z => z) e), fun b o e => ?_, fun b e => g.dm b (g2.dm b e)⟩
      rcases g.gr b o e with z | z | z
      · exact .inl z
      · exact .inr (.inl (none_back (g2.dm b) z))
      · exact .inr (.inl (by rw [z]; exact hx))
    have g4 : Go0 F1 H1 (upd F' x (.ins Cl dx ((fs.map Prod.fst).zip us))) H' ∧ Same (upd F' x (.ins Cl dx ((fs.map Prod.fst).zip us))) H' ∧ Same F' (upd F' x (.ins Cl dx ((fs.map Prod.fst).zip us))) := by
      obtain ⟨a, b, c⟩ := freeze (Z := Z0) (o := .ins Cl dx ((fs.map Prod.fst).zip us)) hx trivial g3 (Ok.z0 s) fx hi
      exact ⟨a, b.fh, c⟩
    obtain ⟨g5, k5⟩ := k1.step g4.1 g4.2.1
    exact q _ _ _ (g1.trans g5) k5 ⟨x, dx, us, rfl, upd_same, hu.mono g4.2.2⟩
end
end Dn
set_option Elab.async false
set_option linter.all false
set_option maxRecDepth 100000
set_option maxHeartbeats 4000000
/-! the head's facts: any test of the written part, and the defs -/
namespace DnH
open PySem L2
abbrev KB := PySem.W.Frag → Bool
def seen (fa : List KB) (fn : List He.DefD) (K : PySem.W.Frag) : He.AlD := ((fa.all fun f => f K) && fn.all fun d => d.ok K, fn.map fun d => He.fnW K d.at_)
def seenG (n : Nat) (fa : List KB) (fn : List He.DefD) (g : Addr → Option Obj) : He.AlD := seen fa fn (He.frG g (He.asD g n))
def Says (fa : List KB) (fn : List He.DefD) (K : PySem.W.Frag) : Prop := seen fa fn K = He.valD fn
def hook (n : Nat) (fa : List KB) (fn : List He.DefD) : PySem.W.Hook where
  α := He.AlD
  obs := fun s => seenG n fa fn s.heap.get?
  val := fun _ => He.valD fn
  says := fun _ h => ∃ K : PySem.W.Frag, K.In h ∧ Says fa fn K
  of := fun _ _ e => ⟨_, He.frG_in, e⟩
  keeps := fun _ _ _ ⟨K, hK, c⟩ k => ⟨K, PySem.W.Frag.In.keeps hK k, c⟩
theorem seenG_eq {n : Nat} {fa : List KB} {fn : List He.DefD} {g : Addr → Option Obj} {s : Shared} (h : ∀ a, g a = s.heap.get? a) : seenG n fa fn g = (hook n fa fn).obs s := by
  have e : g = s.heap.get? := funext h
  rw [e] <;> rfl
section
variable {fa : List KB} {fn : List He.DefD} {K : PySem.W.Frag}
theorem Says.fact (c : Says fa fn K) (i : Nat) {f : KB} (h : fa[i]? = some f := by rfl) : f K = true := by
  have c0 : ((fa.all fun f => f K) && fn.all fun d => d.ok K) = true := congrArg Prod.fst c
  exact List.all_eq_true.mp (He.ba c0).1 f (List.mem_of_getElem? h)
theorem Says.dfn (c : Says fa fn K) (i : Nat) {d : He.DefD} (h : fn[i]? = some d := by rfl) : ∃ fd, FunD K d.name d.qual d.params d.body d.scope (d.dvs K) (d.kws K) (He.fAd K d.at_) fd := by
  have c0 : ((fa.all fun f => f K) && fn.all fun d => d.ok K) = true := congrArg Prod.fst c
  have e : fn.map (fun d => He.fnW K d.at_) = fn.map He.DefD.val := congrArg Prod.snd c
  have e2 : (fn.map fun d => He.fnW K d.at_)[i]? = (fn.map He.DefD.val)[i]? := by rw [e]
  rw [List.getElem?_map, List.getElem?_map, h] at e2
  exact He.DefD.funD (Option.some.inj e2) (List.all_eq_true.mp (He.ba c0).2 d (List.mem_of_getElem? h))
end
end DnH
set_option Elab.async false
set_option linter.all false
set_option maxRecDepth 100000
set_option maxHeartbeats 4000000
/-! own operators; division of any size; calls by keywords alone; a def at any address -/
namespace Dn
open PySem L2
/-- x op y, x an instance of an own class that has the operator's method: y an int | y of the class too -/
def rOwnI (C : Addr) (sp : Sp) : R2 := fun x y H Q => ∃ a dx fs i, x = .ref a ∧ H a = some (.ins C dx fs) ∧ y = .int i ∧ sp [x, y] H Q E0
def rOwnO (C : Addr) (sp : Sp) : R2 := fun x y H Q => ∃ a dx fs b dy gs, x = .ref a ∧ H a = some (.ins C dx fs) ∧ y = .ref b ∧ H b = some (.ins C dy gs) ∧ sp [x, y] H Q E0
section
variable {X : Cx} {op : Operator} {C f : Addr} {fd : FuncData} {ps : List Str} {sp : Sp} {k : Nat} {fo ro rc : Option Value}
theorem back_of {pins : List (Addr × Obj)} {σ : L2.St} {Q : VK} {v : Value} {s : Shared} (h : EP X pins σ Q v s) : PySem.W.CmpBack (EP X pins σ Q) v s := by
  obtain ⟨x, H', I, r, q⟩ := id h
  cases x <;> (first | (obtain ⟨t, rfl⟩ := r; exact h) | (cases r; exact h))
theorem op_ownI (hc : PySem.W.selfFirst X.K C = true) (hs : PySem.W.findIn X.K (.ref C) (PySem.dunder op.info.2) = some (some (.ref f))) (hf : PySem.W.isFn X.K (.ref f) = true) (hr : PySem.W.findIn X.K (.ref C) (PySem.dunderR op.info.2) = some rc) (hp : rc = none ∨ ∃ g : Addr, rc = some (.ref g))
    (h1 : PySem.W.findIn X.K (.type "int") (PySem.dunder op.info.2) = some fo) (h2 : PySem.W.findIn X.K (.type "int") (PySem.dunderR op.info.2) = some ro) (hsub : PySem.W.subIn X.K (.type "int") (.ref C) = some false)
    (F : FnOk X.prog X.w X.K X.mg X.base CX0 k f fd ps sp) (hR : Room k X.A) (hb : Binds X.K fd ps []) : OpR X (binaryOp op) (rOwnI C sp) := by
  intro pins s σ H x y v u Q I rx ry h
  obtain ⟨a, dx, fs, i, rfl, ha, rfl, q⟩ := h
  cases rx
  obtain ⟨t, rfl⟩ := ry
  obtain ⟨mA, O, _⟩ := ins_get I.hok ha
  obtain ⟨od, J, _⟩ := O.look
  obtain ⟨m, Fm⟩ := I.fr
  exact PySem.W.ksp_binT Fm I.ok.mod.kin J rfl hc hs hf hr hp h1 h2 hsub (thn (run_fn F hR hb .nil pass0 I (.cons (show RelV (V.ref a) (Value.ref a) from rfl) (.cons (show RelV (V.int i) (Value.int i t) from ⟨t, rfl⟩) .nil)) q) fun v s' e => back_of e)
theorem op_ownO (hc : PySem.W.selfFirst X.K C = true) (hs : PySem.W.findIn X.K (.ref C) (PySem.dunder op.info.2) = some (some (.ref f))) (hf : PySem.W.isFn X.K (.ref f) = true)
    (F : FnOk X.prog X.w X.K X.mg X.base CX0 k f fd ps sp) (hR : Room k X.A) (hb : Binds X.K fd ps []) : OpR X (binaryOp op) (rOwnO C sp) := by
  intro pins s σ H x y v u Q I rx ry h
  obtain ⟨a, dx, fs, b, dy, gs, rfl, ha, rfl, hb', q⟩ := h
  cases rx
  cases ry
  obtain ⟨mA, O, _⟩ := ins_get I.hok ha
  obtain ⟨od, J, _⟩ := O.look
  obtain ⟨mB, O2, _⟩ := ins_get I.hok hb'
  obtain ⟨od2, J2, _⟩ := O2.look
  obtain ⟨m, Fm⟩ := I.fr
  exact PySem.W.binop_K Fm I.ok.mod.kin J J2.type hc hs hf (thn (run_fn F hR hb .nil pass0 I (.cons (show RelV (V.ref a) (Value.ref a) from rfl) (.cons (show RelV (V.ref b) (Value.ref b) from rfl) .nil)) q) fun v s' e => back_of e)
end
section
variable {C : Addr} {Cc : List RP → RP → Prop} {fs gs : List (Str × RP)} {r : RP} {i : Int}
theorem opd_ownI (h : Cc [pO C fs, pI i] r) : OpD (rOwnI C (pureSp Cc)) (pO C fs) (pI i) r := fun F H x y s hx hy Q q => by
  obtain ⟨a, dx, vs, e, ha, hv⟩ := id hx
  cases hy
  exact ⟨a, dx, _, i, e, s _ _ ha, rfl, F, _, _, h, s, ⟨hx, rfl, trivial⟩, q⟩
theorem opd_ownO (h : Cc [pO C fs, pO C gs] r) : OpD (rOwnO C (pureSp Cc)) (pO C fs) (pO C gs) r := fun F H x y s hx hy Q q => by
  obtain ⟨a, dx, vs, e, ha, hv⟩ := id hx
  obtain ⟨b, dy, ws, e', hb, hw⟩ := id hy
  exact ⟨a, dx, _, b, dy, _, e, s _ _ ha, e', s _ _ hb, F, _, _, h, s, ⟨hx, hy, trivial⟩, q⟩
end
/-- // by a divisor of less than 9000 bits -/
def CDivA (_ j : Int) : Prop := j ≠ 0 ∧ j.natAbs.log2 < 9000
theorem op_fdivA {X : Cx} : OpR X (binaryOp .FloorDiv) (rI CDivA fun i j => .int (i.fdiv j)) := opI fun i j _ _ _ _ _ hc q => PyProof.Rows.floordiv_int hc.1 q (.inl (PyProof.noPylong_of_log2 hc.2))

/-! f(k = v, ..): keywords alone -/
section
variable {X : Cx} {CX : CXT} {k : Nat} {f : Addr} {fd : FuncData} {ps ks : List Str} {sp : Sp} {E : XK} {x : Str} {p pos : Pos} {kws : List Keyword} {tk : TA} {g : List Value → List Value → List Value} {gV : List V → List V → List V}
theorem pe_callKW (F : FnOk X.prog X.w X.K X.mg X.base CX k f fd ps sp) (hr : Room k X.A) (hg : Gl X x) (hm : X.mg x = some (.ref f)) (hk : PySem.W.keepIn X.K (.ref f) = true) (hb : KBinds X.K fd ps ks g gV) (hx : Passes CX X E)
    (hkw : PK X kws tk) (hall : (backToKw pos (keywordEach kws X.env)).all (·.1.isSome) = true := by rfl) (hks : (backToKw pos (keywordEach kws X.env)).filterMap (·.1) = ks := by rfl)
    (hdb : (x == ("__debug__" : Str)) = false := by decide) (hpl : (backToKw pos (keywordEach kws X.env)).any (·.1.isNone) = false := by rfl) :
    PE X (.Call (.Name x p) [] kws pos) (tCallK sp gV E tNil tk) := by
  refine ⟨fun pins s σ H Q I h => ?_⟩
  refine wpAny_Call_Name_kw (ld_glob I hg hm ?_ hdb)
  refine PySem.W.callWith_KW0 (h₀ := X.base) I.ok.mod.kin hk hall (thn (hkw.run pos pins s σ H _ I h) fun ws s2 ⟨zs, H2, I2, rz, q2⟩ => ⟨I2.kIn, ?_⟩) hpl
  rw [hks]
  exact run_fnk F hr hb hx I2 .nil rz q2
end
end Dn
namespace DnH
open PySem L2
/-! ### a def at any address -/
structure DefX where
  adr : PySem.W.Frag → Addr
  name : Str
  qual : Str
  params : Arguments
  body : List Stmt
  scope : Scope
  dfl : List He.Dv := []
def DefX.val (d : DefX) : He.FnW := some (d.name, d.qual, d.params, .stmts d.body, d.scope, mainGlobals, [], builtinsNs)
def DefX.dvs (K : PySem.W.Frag) (d : DefX) : List V := d.dfl.map (He.Dv.v K)
def fnX (K : PySem.W.Frag) (a : Addr) : He.FnW := match K.lookup a with
  | some o => (match o.data with
    | .func fd => some (fd.name, fd.qualname, fd.params, fd.body, fd.scope, fd.globals, fd.closure, fd.builtins)
    | _ => none)
  | none => none
def DefX.ok (K : PySem.W.Frag) (d : DefX) : Bool := PySem.W.keepIn K (.ref (d.adr K)) && (match K.lookup (d.adr K) with
  | some o => (match o.data with
    | .func fd => PySem.W.codeIn K fd.code d.qual && He.dflB K fd.defaults (d.dvs K)
    | _ => false)
  | none => false)
theorem DefX.funD {K : PySem.W.Frag} {d : DefX} (e : fnX K (d.adr K) = d.val) (c : d.ok K = true) : ∃ fd, FunD K d.name d.qual d.params d.body d.scope (d.dvs K) [] (d.adr K) fd := by
  obtain ⟨kp, c2⟩ := He.ba c
  unfold fnX at e
  cases q : K.lookup (d.adr K) with
  | none => rw [q] at c2; cases c2
  | some o =>
    obtain ⟨oc, od, dt, osl⟩ := o
    rw [q] at c2 e
    cases dt with
    | func fd =>
      obtain ⟨a1, a2, a3, a4, a5, a6, a7, a8, a9, b1, b2, b3, b4, b5, b6⟩ := fd
      have e2 : (some (a1, a2, a3, a4, a5, a6, a7, b6) : He.FnW) = some (d.name, d.qual, d.params, .stmts d.body, d.scope, mainGlobals, [], builtinsNs) := e
      simp only [Option.some.injEq, Prod.mk.injEq] at e2
      obtain ⟨h1, h2, h3, h4, h5, h6, h7, h8⟩ := e2
      subst h1 h2 h3 h4 h5 h6 h7 h8
      have c3 : (PySem.W.codeIn K b4 d.qual && He.dflB K a8 (d.dvs K)) = true := c2
      obtain ⟨k1, k2⟩ := He.ba c3
      exact ⟨_, ⟨oc, od, a8, a9, b1, b2, b3, b4, b5, osl, rfl, q, k1, He.dflB_ok k2, .inl rfl⟩, kp⟩
    | _ => cases c2
def seenX (fa : List KB) (fn : List DefX) (K : PySem.W.Frag) : He.AlD := ((fa.all fun f => f K) && fn.all fun d => d.ok K, fn.map fun d => fnX K (d.adr K))
def valX (fn : List DefX) : He.AlD := (true, fn.map DefX.val)
def seenXG (n : Nat) (fa : List KB) (fn : List DefX) (g : Addr → Option Obj) : He.AlD := seenX fa fn (He.frG g (He.asD g n))
def SaysX (fa : List KB) (fn : List DefX) (K : PySem.W.Frag) : Prop := seenX fa fn K = valX fn
def hookX (n : Nat) (fa : List KB) (fn : List DefX) : PySem.W.Hook where
  α := He.AlD
  obs := fun s => seenXG n fa fn s.heap.get?
  val := fun _ => valX fn
  says := fun _ h => ∃ K : PySem.W.Frag, K.In h ∧ SaysX fa fn K
  of := fun _ _ e => ⟨_, He.frG_in, e⟩
  keeps := fun _ _ _ ⟨K, hK, c⟩ k => ⟨K, PySem.W.Frag.In.keeps hK k, c⟩
theorem seenXG_eq {n : Nat} {fa : List KB} {fn : List DefX} {g : Addr → Option Obj} {s : Shared} (h : ∀ a, g a = s.heap.get? a) : seenXG n fa fn g = (hookX n fa fn).obs s := by
  have e : g = s.heap.get? := funext h
  rw [e] <;> rfl
section
variable {fa : List KB} {fn : List DefX} {K : PySem.W.Frag}
theorem SaysX.fact (c : SaysX fa fn K) (i : Nat) {f : KB} (h : fa[i]? = some f := by rfl) : f K = true := by
  have c0 : ((fa.all fun f => f K) && fn.all fun d => d.ok K) = true := congrArg Prod.fst c
  exact List.all_eq_true.mp (He.ba c0).1 f (List.mem_of_getElem? h)
theorem SaysX.dfn (c : SaysX fa fn K) (i : Nat) {d : DefX} (h : fn[i]? = some d := by rfl) : ∃ fd, FunD K d.name d.qual d.params d.body d.scope (d.dvs K) [] (d.adr K) fd := by
  have c0 : ((fa.all fun f => f K) && fn.all fun d => d.ok K) = true := congrArg Prod.fst c
  have e : fn.map (fun d => fnX K (d.adr K)) = fn.map DefX.val := congrArg Prod.snd c
  have e2 : (fn.map fun d => fnX K (d.adr K))[i]? = (fn.map DefX.val)[i]? := by rw [e]
  rw [List.getElem?_map, List.getElem?_map, h] at e2
  exact DefX.funD (Option.some.inj e2) (List.all_eq_true.mp (He.ba c0).2 d (List.mem_of_getElem? h))
end
/-! ### more facts -/
/-- the property f of the class at C: its object, its getter -/
def getr (K : PySem.W.Frag) (C : Addr) (f : Str) : Addr := match PySem.W.recIn K (He.ma K C f) "property" with
  | some (.ref g :: _) => g
  | _ => 0
def propB (x f : Str) : KB := fun K => He.eqO (PySem.W.findIn K (.ref (He.ga K x)) f) (some (some (.ref (He.ma K (He.ga K x) f)))) && (He.eqO (PySem.W.specialIn K (.ref (He.ma K (He.ga K x) f)) "__get__") (some (some (.builtin "property.__get__"))) &&
  (decide (PySem.W.takesIn K (.ref (He.ma K (He.ga K x) f)) = some true) && (match PySem.W.recIn K (He.ma K (He.ga K x) f) "property" with
    | some (.ref _ :: _) => true
    | _ => false)))
theorem prop_ok {K : PySem.W.Frag} {x f : Str} (c : propB x f K = true) : PropOf K (He.ga K x) f (He.ma K (He.ga K x) f) (getr K (He.ga K x) f) := by
  obtain ⟨c1, c⟩ := He.ba c
  obtain ⟨c2, c⟩ := He.ba c
  obtain ⟨c3, c4⟩ := He.ba c
  refine ⟨He.eqO_ok c1, He.eqO_ok c2, of_decide_eq_true c3, ?_⟩
  unfold getr
  cases q : PySem.W.recIn K (He.ma K (He.ga K x) f) "property" with
  | none => rw [q] at c4; cases c4
  | some l =>
    rw [q] at c4
    match l, c4 with
    | .ref g :: rest, _ => exact ⟨rest, rfl⟩
/-- the own operator's method m (its reflection rm) of the class x -/
def operB (x m rm : Str) : KB := fun K => PySem.W.selfFirst K (He.ga K x) && (He.eqO (PySem.W.findIn K (.ref (He.ga K x)) m) (some (some (.ref (He.ma K (He.ga K x) m)))) && (PySem.W.isFn K (.ref (He.ma K (He.ga K x) m)) &&
  (He.eqO (PySem.W.findIn K (.ref (He.ga K x)) rm) (some (some (.ref (He.ma K (He.ga K x) rm)))) && ((PySem.W.findIn K (.type "int") m).isSome && ((PySem.W.findIn K (.type "int") rm).isSome && decide (PySem.W.subIn K (.type "int") (.ref (He.ga K x)) = some false))))))
theorem oper_ok {K : PySem.W.Frag} {x m rm : Str} (c : operB x m rm K = true) : PySem.W.selfFirst K (He.ga K x) = true ∧ PySem.W.findIn K (.ref (He.ga K x)) m = some (some (.ref (He.ma K (He.ga K x) m))) ∧ PySem.W.isFn K (.ref (He.ma K (He.ga K x) m)) = true ∧
    PySem.W.findIn K (.ref (He.ga K x)) rm = some (some (.ref (He.ma K (He.ga K x) rm))) ∧ (∃ fo, PySem.W.findIn K (.type "int") m = some fo) ∧ (∃ ro, PySem.W.findIn K (.type "int") rm = some ro) ∧ PySem.W.subIn K (.type "int") (.ref (He.ga K x)) = some false := by
  obtain ⟨c1, c⟩ := He.ba c
  obtain ⟨c2, c⟩ := He.ba c
  obtain ⟨c3, c⟩ := He.ba c
  obtain ⟨c4, c⟩ := He.ba c
  obtain ⟨c5, c⟩ := He.ba c
  obtain ⟨c6, c7⟩ := He.ba c
  exact ⟨c1, He.eqO_ok c2, c3, He.eqO_ok c4, Option.isSome_iff_exists.mp c5, Option.isSome_iff_exists.mp c6, of_decide_eq_true c7⟩
/-- the module's name x is the built-in function id -/
def bltB (x : Str) (id : String) : KB := fun K => He.eqO (PySem.W.nsIn K mainGlobals x) (some (some (.builtin id)))
theorem blt_ok {K : PySem.W.Frag} {h : Heap} {mg : Str → Option Value} (X : K.In h) (G : h.Ns mainGlobals mg) {x : Str} {id : String} (c : bltB x id K = true) : mg x = some (.builtin id) := PySem.W.mg_of X G (He.eqO_ok c)
end DnH
set_option Elab.async false
set_option linter.all false
set_option maxRecDepth 100000
set_option maxHeartbeats 4000000
/-! built-ins by what they denote -/
namespace Dn
open PySem L2
def uLen (K : PySem.W.Frag) : List V → Hp → VK → Prop := fun xs H Q => ∃ p ys, xs = [.ref p] ∧ (SqL K H p ys ∨ SqT K H p ys) ∧ Q (.int ys.length) H
def uList (K : PySem.W.Frag) : List V → Hp → VK → Prop := fun xs H Q => ∃ p ys, xs = [.ref p] ∧ (SqL K H p ys ∨ SqT K H p ys) ∧ ∀ l, H l = none → Q (.ref l) (upd H l (.lst ys))
def uAbs : List V → Hp → VK → Prop := fun xs H Q => ∃ i, xs = [.int i] ∧ Q (.int (if i < 0 then -i else i)) H
def uMax : List V → Hp → VK → Prop := fun xs H Q => ∃ i j, xs = [.int i, .int j] ∧ Q (.int (if j > i then j else i)) H
def uMin : List V → Hp → VK → Prop := fun xs H Q => ∃ i j, xs = [.int i, .int j] ∧ Q (.int (if j < i then j else i)) H
def uInt : List V → Hp → VK → Prop := fun xs H Q => (∃ i, xs = [.int i] ∧ Q (.int i) H) ∨ ∃ k, xs = [.bl k] ∧ Q (.int (if k then 1 else 0)) H
def uDivmod : List V → Hp → VK → Prop := fun xs H Q => ∃ i j, xs = [.int i, .int j] ∧ CDiv i j ∧ ∀ p, H p = none → Q (.ref p) (upd H p (.tup [.int (i / j), .int (i % j)]))
section
variable {X : Cx}
theorem cr_len : CallR X (.builtin "len") (uLen X.K) := call_len_seq
theorem cr_list : CallR X (.type "list") (uList X.K) := call_list_of
theorem cr_abs : CallR X (.builtin "abs") uAbs := call_abs
theorem cr_max2 (hc : X.calm = true) : CallR X (.builtin "max") uMax := call_max2 hc
theorem cr_min2 (hc : X.calm = true) : CallR X (.builtin "min") uMin := call_min2 hc
theorem cr_int : CallR X (.type "int") uInt := call_int1
theorem cr_divmod : CallR X (.builtin "divmod") uDivmod := call_divmod
end
theorem vrs_int {F : Hp} : ∀ {vs : List V} {ns : List Int}, Vrs F vs (ns.map pI) → vs = ns.map V.int
  | [], [], _ => rfl
  | v :: vs, n :: ns, h => by
    have e : v = V.int n := h.1
    rw [List.map_cons, ← e, ← vrs_int h.2]
  | [], _ :: _, h => h.elim
  | _ :: _, [], h => h.elim
theorem vrs_bl {F : Hp} : ∀ {vs : List V} {bs : List Bool}, Vrs F vs (bs.map pB) → vs = bs.map V.bl
  | [], [], _ => rfl
  | v :: vs, n :: ns, h => by
    have e : v = V.bl n := h.1
    rw [List.map_cons, ← e, ← vrs_bl h.2]
  | [], _ :: _, h => h.elim
  | _ :: _, [], h => h.elim
section
variable {K : PySem.W.Frag} {rs : List RP} {r r1 : RP} {Z : Zx} {ρ : Rho} {te : TE}
theorem cd_len : CD (uLen K) [pL rs] (pI (rs.length : Int)) := fun F H vs s hv Q q => by
  match vs, hv with
  | [v], ⟨⟨a, us, e, ha, hu⟩, _⟩ =>
    subst e
    exact ⟨a, us, rfl, .inl (SqL.of (s _ _ ha)), q _ F H (Go.refl F H) s (by rw [hu.len]; exact rfl)⟩
theorem cd_lenT : CD (uLen K) [pT rs] (pI (rs.length : Int)) := fun F H vs s hv Q q => by
  match vs, hv with
  | [v], ⟨⟨a, us, e, ha, hu⟩, _⟩ =>
    subst e
    exact ⟨a, us, rfl, .inr (SqT.of (s _ _ ha)), q _ F H (Go.refl F H) s (by rw [hu.len]; exact rfl)⟩
theorem cd_list : CD (uList K) [pL rs] (pL rs) := fun F H vs s hv Q q => by
  match vs, hv with
  | [v], ⟨⟨a, us, e, ha, hu⟩, _⟩ =>
    subst e
    refine ⟨a, us, rfl, .inl (SqL.of (s _ _ ha)), fun p hp => ?_⟩
    have g : Go0 F H (upd F p (.lst us)) (upd H p (.lst us)) := Go.new s hp
    exact q _ _ _ g (same_new s hp) ⟨p, us, rfl, upd_same, hu.mono g.ff⟩
theorem cd_listT : CD (uList K) [pT rs] (pL rs) := fun F H vs s hv Q q => by
  match vs, hv with
  | [v], ⟨⟨a, us, e, ha, hu⟩, _⟩ =>
    subst e
    refine ⟨a, us, rfl, .inr (SqT.of (s _ _ ha)), fun p hp => ?_⟩
    have g : Go0 F H (upd F p (.lst us)) (upd H p (.lst us)) := Go.new s hp
    exact q _ _ _ g (same_new s hp) ⟨p, us, rfl, upd_same, hu.mono g.ff⟩
theorem cd_abs {i : Int} : CD uAbs [pI i] (pI (i.natAbs : Int)) := fun F H vs s hv Q q => by
  match vs, hv with
  | [v], ⟨e, _⟩ =>
    have e : v = V.int i := e
    subst e
    refine ⟨i, rfl, q _ F H (Go.refl F H) s ?_⟩
    show V.int _ = V.int _
    congr 1
    split <;> omega
theorem cd_max {i j : Int} : CD uMax [pI i, pI j] (pI (max i j)) := fun F H vs s hv Q q => by
  match vs, hv with
  | [v, u], ⟨e, e2, _⟩ =>
    have e : v = V.int i := e
    have e2 : u = V.int j := e2
    subst e e2
    refine ⟨i, j, rfl, q _ F H (Go.refl F H) s ?_⟩
    show V.int _ = V.int _
    congr 1
    split <;> omega
theorem cd_min {i j : Int} : CD uMin [pI i, pI j] (pI (min i j)) := fun F H vs s hv Q q => by
  match vs, hv with
  | [v, u], ⟨e, e2, _⟩ =>
    have e : v = V.int i := e
    have e2 : u = V.int j := e2
    subst e e2
    refine ⟨i, j, rfl, q _ F H (Go.refl F H) s ?_⟩
    show V.int _ = V.int _
    congr 1
    split <;> omega
theorem cd_int {i : Int} : CD uInt [pI i] (pI i) := fun F H vs s hv Q q => by
  match vs, hv with
  | [v], ⟨e, _⟩ =>
    have e : v = V.int i := e
    subst e
    exact .inl ⟨i, rfl, q _ F H (Go.refl F H) s rfl⟩
theorem cd_intB {b : Bool} : CD uInt [pB b] (pI (if b then 1 else 0)) := fun F H vs s hv Q q => by
  match vs, hv with
  | [v], ⟨e, _⟩ =>
    have e : v = V.bl b := e
    subst e
    exact .inr ⟨b, rfl, q _ F H (Go.refl F H) s rfl⟩
theorem cd_divmod {i j : Int} (h : CDiv i j) : CD uDivmod [pI i, pI j] (pT [pI (i / j), pI (i % j)]) := fun F H vs s hv Q q => by
  match vs, hv with
  | [v, u], ⟨e, e2, _⟩ =>
    have e : v = V.int i := e
    have e2 : u = V.int j := e2
    subst e e2
    refine ⟨i, j, rfl, h, fun p hp => ?_⟩
    have g : Go0 F H (upd F p (.tup [.int (i / j), .int (i % j)])) (upd H p (.tup [.int (i / j), .int (i % j)])) := Go.new s hp
    exact q _ _ _ g (same_new s hp) ⟨p, _, rfl, upd_same, rfl, rfl, trivial⟩
theorem cd_sum {ns : List Int} : CD (rSum K) [pIs ns] (pI ns.sum) := fun F H vs s hv Q q => by
  match vs, hv with
  | [v], ⟨⟨a, us, e, ha, hu⟩, _⟩ =>
    subst e
    have e2 := vrs_int hu
    subst e2
    exact ⟨a, ns, rfl, SqL.of (s _ _ ha), q _ F H (Go.refl F H) s rfl⟩
theorem cd_all {bs : List Bool} : CD (rAll K) [pLm pB bs] (pB (bs.all id)) := fun F H vs s hv Q q => by
  match vs, hv with
  | [v], ⟨⟨a, us, e, ha, hu⟩, _⟩ =>
    subst e
    have e2 := vrs_bl hu
    subst e2
    exact ⟨a, bs, rfl, SqL.of (s _ _ ha), q _ F H (Go.refl F H) s rfl⟩
theorem cd_any {bs : List Bool} : CD (rAny K) [pLm pB bs] (pB (bs.any id)) := fun F H vs s hv Q q => by
  match vs, hv with
  | [v], ⟨⟨a, us, e, ha, hu⟩, _⟩ =>
    subst e
    have e2 := vrs_bl hu
    subst e2
    exact ⟨a, bs, rfl, SqL.of (s _ _ ha), q _ F H (Go.refl F H) s rfl⟩
/-- a list of the same meaning -/
theorem pLm_map {α β : Type} (f : β → RP) (g : α → β) (xs : List α) : pLm (fun x => f (g x)) xs = pLm f (xs.map g) := by
  show pL _ = pL _
  rw [List.map_map]
  all_goals rfl
theorem cd_gcd {a b : Int} : CD rGcd [pI a, pI b] (pI ((Nat.gcd a.natAbs b.natAbs : Nat) : Int)) := fun F H vs s hv Q q => by
  match vs, hv with
  | [v, u], ⟨e, e2, _⟩ =>
    have e : v = V.int a := e
    have e2 : u = V.int b := e2
    subst e e2
    exact ⟨a, b, rfl, q _ F H (Go.refl F H) s rfl⟩
/-! kinds of values, for isinstance -/
/-- a value's type, whatever the known heap -/
def Kd (K : PySem.W.Frag) (r : RP) (t : Value) : Prop := ∀ F H v, Same F H → r.R F v → TyX K H v t
theorem kd_int {i : Int} : Kd K (pI i) (.type "int") := fun F H v s h => by cases h; exact .base (.int i)
theorem kd_bl {b : Bool} : Kd K (pB b) (.type "bool") := fun F H v s h => by cases h; exact .base (.bl b)
theorem kd_non : Kd K pNon (.type "NoneType") := fun F H v s h => by cases h; exact .base .non
theorem kd_str {z : Str} : Kd K (pV (.str z)) (.type "str") := fun F H v s h => by cases h; exact .base (.str z)
theorem kd_lst : Kd K (pL rs) (.type "list") := fun F H v s ⟨a, us, e, ha, hu⟩ => by subst e; exact .base (.lst (s _ _ ha))
theorem kd_tup : Kd K (pT rs) (.type "tuple") := fun F H v s ⟨a, us, e, ha, hu⟩ => by subst e; exact .base (.tup (s _ _ ha))
/-- what isinstance asks of an own class -/
def insB (x : Str) : DnH.KB := fun K => He.eqO (PySem.W.findIn K (.ref (He.ga K x)) "__class__") (some (some (.builtin "object.__class__"))) && (He.eqO (PySem.W.specialIn K (.builtin "object.__class__") "__get__") (some (some (.builtin "getset_descriptor.__get__"))) &&
  (decide (PySem.W.takesIn K (.builtin "object.__class__") = some true) && decide (PySem.W.mroIn K (He.ga K x) (.type "object") = some true)))
theorem kd_own {x : Str} {fs : List (Str × RP)} (c : Cls K (He.ga K x)) (h : insB x K = true) : Kd K (pO (He.ga K x) fs) (.ref (He.ga K x)) := fun F H v s ⟨a, dx, us, e, ha, hu⟩ => by
  obtain ⟨c1, h⟩ := He.ba h
  obtain ⟨c2, h⟩ := He.ba h
  obtain ⟨c3, c4⟩ := He.ba h
  subst e
  exact .base (.ins (s _ _ ha) c (He.eqO_ok c1) (He.eqO_ok c2) (of_decide_eq_true c3) (of_decide_eq_true c4))
theorem cd_isi {c : V} {t u : Value} {b : Bool} (k : Kd K r t) (hc : ClsV c u) (e : PySem.W.kitOne K t u = some b) : CD (rIsi K) [r, pV c] (pB b) := fun F H vs s hv Q q => by
  match vs, hv with
  | [v, w], ⟨h1, h2, _⟩ =>
    have h2 : w = c := h2
    subst h2
    exact ⟨v, w, t, u, b, rfl, hc, k F H v s h1, e, q _ F H (Go.refl F H) s rfl⟩
theorem cd_isi2 {n m : String} {t : Value} {b : Bool} (k : Kd K r t) (e : PySem.W.kitAny K t [.type n, .type m] = some b) : CD (rIsiT K) [r, pT [pV (.ty n), pV (.ty m)]] (pB b) := fun F H vs s hv Q q => by
  match vs, hv with
  | [v, w], ⟨h1, ⟨a, us, ea, ha, hu⟩, _⟩ =>
    subst ea
    match us, hu with
    | [u1, u2], ⟨e1, e2, _⟩ =>
      have e1 : u1 = .ty n := e1
      have e2 : u2 = .ty m := e2
      subst e1 e2
      exact ⟨v, a, _, t, _, b, rfl, s _ _ ha, .cons (.ty n) (.cons (.ty m) .nil), k F H v s h1, e, q _ F H (Go.refl F H) s rfl⟩
/-! == and != of data -/
def IsD (K : PySem.W.Frag) (r : RP) (d : PyData) : Prop := ∀ F H v, Same F H → r.R F v → Dp K H v d
theorem isd_int {i : Int} : IsD K (pI i) (.int i) := fun F H v s h => by cases h; exact .int i
theorem isd_bl {b : Bool} : IsD K (pB b) (.bool b) := fun F H v s h => by cases h; exact .bl b
theorem isd_non : IsD K pNon .none := fun F H v s h => by cases h; exact .non
theorem isd_all {α : Type} {f : α → RP} {d : α → PyData} (h : ∀ x, IsD K (f x) (d x)) {F H : Hp} (s : Same F H) : ∀ {xs : List α} {vs : List V}, Vrs F vs (xs.map f) → DpAll K H vs (xs.map d)
  | [], [], _ => .nil
  | x :: xs, v :: vs, hv => .cons (h x F H v s hv.1) (isd_all h s hv.2)
  | [], _ :: _, hv => hv.elim
  | _ :: _, [], hv => hv.elim
theorem isd_list {α : Type} {f : α → RP} {d : α → PyData} (h : ∀ x, IsD K (f x) (d x)) {xs : List α} : IsD K (pLm f xs) (.list (xs.map d)) := fun F H v s ⟨a, us, e, ha, hu⟩ => by
  subst e
  exact .lst (SqL.of (s _ _ ha)) (isd_all h s hu)
theorem opd_eqD {r1 r2 : RP} {d e : PyData} {b : Bool} (h1 : IsD K r1 d) (h2 : IsD K r2 e) (s1 : SeqAt.shaped d = true) (s2 : SeqAt.shaped e = true) (hb : PyData.eqv d e = b) : OpD (rEqD K) r1 r2 (pB b) := fun F H x y s hx hy Q q =>
  ⟨d, e, h1 F H x s hx, h2 F H y s hy, s1, s2, q _ F H (Go.refl F H) s (by rw [hb]; exact rfl)⟩
theorem opd_neD {r1 r2 : RP} {d e : PyData} {b : Bool} (h1 : IsD K r1 d) (h2 : IsD K r2 e) (s1 : SeqAt.shaped d = true) (s2 : SeqAt.shaped e = true) (hb : PyData.eqv d e = b) : OpD (rNeD K) r1 r2 (pB (!b)) := fun F H x y s hx hy Q q =>
  ⟨d, e, h1 F H x s hx, h2 F H y s hy, s1, s2, q _ F H (Go.refl F H) s (by rw [hb]; exact rfl)⟩
/-! a list that is written afterwards -/
theorem denf_list {tas : TA} (ha : DenA Z tas ρ [pL rs]) : DenF Z (tCB (uList K) tas) ρ rs := fun F H σ env ok Q q =>
  ha F H σ env ok _ fun us F1 H1 g1 k1 hu => by
    match us, hu with
    | [u], ⟨⟨a, vs, e, h, hv⟩, _⟩ =>
      subst e
      refine ⟨a, vs, rfl, .inl (SqL.of (k1.fh _ _ h)), fun p hp => ?_⟩
      have nt : ¬ Z.T p := fun t => Z.has ok.j t (none_back (g1.dm p) hp)
      refine q p vs F1 _ (none_back (g1.dm p) hp) (g1.trans (Go.new' hp)) ⟨same_new' k1.fh hp, k1.fr, Z.stay (fun b t => ?_) k1.j⟩ (k1.fh.free hp) upd_same hv
      rw [upd_ne (fun e => nt (by rw [← e]; exact t))]
end
/-! ### a def of the module, called -/
def Cal (P : Program) (w : World) (K : PySem.W.Frag) (mg : Str → Option Value) (base : Heap) (x : Str) (k : Nat) (ps : List Str) (sp : Sp) : Prop :=
  ∃ f fd, FnOk P w K mg base CX0 k f fd ps sp ∧ mg x = some (.ref f) ∧ PySem.W.keepIn K (.ref f) = true ∧ Binds K fd ps []
section
variable {X : Cx} {x : Str} {k : Nat} {ps : List Str} {sp : Sp} {p pos : Pos} {e : Expr} {es : List Expr} {t : TA}
theorem pe_cal (c : Cal X.prog X.w X.K X.mg X.base x k ps sp) (hr : Room k X.A) (hg : Gl X x) (ha : PA X (e :: es) t) (hdb : (x == ("__debug__" : Str)) = false := by decide) (he : starEach (e :: es) X.env = (false, eval e X.env) :: starEach es X.env := by rfl)
    (hpl : (backTo pos (starEach es X.env)).any (·.1) = false := by rfl) : PE X (.Call (.Name x p) (e :: es) [] pos) (tCall sp [] E0 t) := by
  obtain ⟨f, fd, F, m, kp, b⟩ := c
  exact pe_call F hr hg m kp b .nil pass0 ha hdb he hpl
end
end Dn
set_option Elab.async false
set_option linter.all false
set_option maxRecDepth 100000
set_option maxHeartbeats 4000000
/-! bundles: what a caller has of a callee -/
namespace Dn
open PySem L2
abbrev oAdd : R2 := rI0 fun i j => .int (i + j)
abbrev oSub : R2 := rI0 fun i j => .int (i - j)
abbrev oMul : R2 := rI CMulW fun i j => .int (i * j)
abbrev oDiv : R2 := rI CDivA fun i j => .int (i.fdiv j)
abbrev oMod : R2 := rI (fun _ j => 0 < j) fun i j => .int (i % j)
abbrev oPow : R2 := rI CPow fun i j => .int (i ^ j.toNat)
abbrev oLt : R2 := rI0 fun i j => .bl (decide (i < j))
abbrev oLe : R2 := rI0 fun i j => .bl (decide (i ≤ j))
abbrev oGt : R2 := rI0 fun i j => .bl (decide (j < i))
abbrev oGe : R2 := rI0 fun i j => .bl (decide (j ≤ i))
abbrev uNeg : V → Hp → VK → Prop := rU fun i => .int (-i)
section
variable (P : Program) (w : World) (K : PySem.W.Frag) (mg : Str → Option Value) (base : Heap)
/-- f(e, ..) with the last defaults dvs -/
def CalD (x : Str) (k : Nat) (ps : List Str) (sp : Sp) (dvs : List V) : Prop :=
  ∃ f fd ds, FnOk P w K mg base CX0 k f fd ps sp ∧ mg x = some (.ref f) ∧ PySem.W.keepIn K (.ref f) = true ∧ Binds K fd ps ds ∧ Vals dvs ds
/-- f(k = v, ..), keywords alone -/
def CalN (x : Str) (k : Nat) (ps : List Str) (sp : Sp) (ks : List Str) (gV : List V → List V → List V) : Prop :=
  ∃ f fd g, FnOk P w K mg base CX0 k f fd ps sp ∧ mg x = some (.ref f) ∧ PySem.W.keepIn K (.ref f) = true ∧ KBn K fd ps 0 ks g gV
def MetC (C : Addr) (m : Str) (k : Nat) (ps : List Str) (sp : Sp) : Prop := ∃ f fd, Meth K C m f ∧ FnOk P w K mg base CX0 k f fd ps sp ∧ Binds K fd ps []
def MkC (x : Str) (C : Addr) (k : Nat) (ps : List Str) (sp : Sp) (dvs : List V) : Prop := ∃ f fd ds, Mk K C f ∧ FnOk P w K mg base CX0 k f fd ps sp ∧ Binds K fd ps ds ∧ Vals dvs ds ∧ mg x = some (.ref C)
def PrC (C : Addr) (x : Str) (k : Nat) (ps : List Str) (sp : Sp) : Prop := ∃ p g fd, PropOf K C x p g ∧ FnOk P w K mg base CX0 k g fd ps sp ∧ Binds K fd ps []
/-- an own operator; fm, rm: the names of its method and the reflected one -/
def OpC (C : Addr) (fm rm : Str) (k : Nat) (ps : List Str) (sp : Sp) : Prop := ∃ f fd fo ro rc, PySem.W.selfFirst K C = true ∧ PySem.W.findIn K (.ref C) fm = some (some (.ref f)) ∧ PySem.W.isFn K (.ref f) = true ∧ PySem.W.findIn K (.ref C) rm = some rc ∧
  (rc = none ∨ ∃ g : Addr, rc = some (.ref g)) ∧ PySem.W.findIn K (.type "int") fm = some fo ∧ PySem.W.findIn K (.type "int") rm = some ro ∧ PySem.W.subIn K (.type "int") (.ref C) = some false ∧ FnOk P w K mg base CX0 k f fd ps sp ∧ Binds K fd ps []
end
section
variable {X : Cx} {CX : CXT} {k : Nat} {f : Addr} {fd : FuncData} {ps ks : List Str} {sp : Sp} {E : XK} {x : Str} {p pos : Pos} {kws : List Keyword} {tk : TA} {g : List Value → List Value → List Value} {gV : List V → List V → List V}
theorem pe_callN0 (F : FnOk X.prog X.w X.K X.mg X.base CX k f fd ps sp) (hr : Room k X.A) (hg : Gl X x) (hm : X.mg x = some (.ref f)) (hk : PySem.W.keepIn X.K (.ref f) = true) (hb : KBn X.K fd ps 0 ks g gV) (hx : Passes CX X E)
    (hkw : PK X kws tk) (hall : (backToKw pos (keywordEach kws X.env)).all (·.1.isSome) = true := by rfl) (hks : (backToKw pos (keywordEach kws X.env)).filterMap (·.1) = ks := by rfl)
    (hdb : (x == ("__debug__" : Str)) = false := by decide) (hpl : (backToKw pos (keywordEach kws X.env)).any (·.1.isNone) = false := by rfl) :
    PE X (.Call (.Name x p) [] kws pos) (tCallN 0 ks.length sp gV E tNil tk) := by
  refine ⟨fun pins s σ H Q I h => ?_⟩
  refine wpAny_Call_Name_kw (ld_glob I hg hm ?_ hdb)
  refine PySem.W.callWith_KW0 (h₀ := X.base) I.ok.mod.kin hk hall (thn (hkw.run pos pins s σ H _ I h) fun ws s2 ⟨zs, H2, I2, rz, l1, l2, q2⟩ => ⟨I2.kIn, ?_⟩) hpl
  rw [hks]
  exact run_fnN F hr hb hx I2 .nil rz rfl l2 q2
end
section
variable {Z : Zx} {ρ : Rho} {tks : TA} {ks : List RP} {C : List RP → RP → Prop} {r : RP} {E : XK} {gV : List V → List V → List V} {gR : List RP} {n : Nat}
theorem den_callN0 (hk : DenA Z tks ρ ks) (hn : ks.length = n) (hg : ∀ F zs, Vrs F zs ks → Vrs F (gV [] zs) gR) (hc : C gR r) : Den Z (tCallN 0 n (pureSp C) gV E tNil tks) ρ r := fun F H σ env ok Q q =>
  hk F H σ env ok _ fun zs F2 H2 g2 k2 x2 => ⟨rfl, by rw [x2.len]; exact hn, pure_call k2 (hg F2 zs x2) hc fun v F' H' g k rv => q v F' H' (g2.trans g) k rv⟩
end
end Dn
set_option Elab.async false
set_option linter.all false
set_option maxRecDepth 100000
set_option maxHeartbeats 4000000
/-! more built-ins: lcm; each so many-th item -/
namespace Dn
open PySem PySem.Spec PyProof.Rows L2
def uLcm : List V → Hp → VK → Prop := fun vs H Q => ∃ a b : Int, vs = [.int a, .int b] ∧ a.natAbs < 2 ^ 64 ∧ b.natAbs < 2 ^ 64 ∧ Q (.int ((Nat.lcm a.natAbs b.natAbs : Nat) : Int)) H
theorem cr_lcm {X : Cx} : CallR X (.builtin "math.lcm") uLcm := by
  intro pins s σ H vs us Q I r h
  obtain ⟨a, b, rfl, ha, hb, q⟩ := h
  obtain ⟨t, u, rfl⟩ := Vals.int2 r
  exact PySem.W.mc_lcm ha hb fun _ => ⟨.int _, H, I.tok _, ⟨_, rfl⟩, q⟩
theorem cd_lcm {a b : Int} (ha : a.natAbs < 2 ^ 64) (hb : b.natAbs < 2 ^ 64) : CD uLcm [pI a, pI b] (pI ((Nat.lcm a.natAbs b.natAbs : Nat) : Int)) := fun F H vs s hv Q q => by
  match vs, hv with
  | [v, u], ⟨e, e2, _⟩ =>
    have e : v = V.int a := e
    have e2 : u = V.int b := e2
    subst e e2
    exact ⟨a, b, rfl, ha, hb, q _ F H (Go.refl F H) s rfl⟩
/-! e[lo::step] -/
def everyL {α : Type} (xs : List α) (a p m : Nat) : List α := (List.range m).filterMap fun j => xs[a + p * j]?
theorem step_bounds {a p m n : Nat} (hn : n = p * m) (hp : 0 < p) (ha : a < p) (hm : 0 < m) : sliceRange (PySem.sliceBounds (some (a : Int)) none (some (p : Int)) n).1 (PySem.sliceBounds (some (a : Int)) none (some (p : Int)) n).2.1 (PySem.sliceBounds (some (a : Int)) none (some (p : Int)) n).2.2 = (List.range m).map fun j => a + p * j := by
  have an : a ≤ n := by
    have : p * 1 ≤ p * m := Nat.mul_le_mul_left _ hm
    omega
  have e : PySem.sliceBounds (some (a : Int)) none (some (p : Int)) n = ((a : Int), (n : Int), (p : Int)) := by
    unfold PySem.sliceBounds
    simp only [Option.getD_some, show ((p : Int) > 0) = True from eq_true (by omega), if_true, show ((a : Int) < 0) = False from eq_false (by omega), if_false]
    congr 1
    omega
  rw [e]
  unfold sliceRange
  have hp' : ((p : Int) > 0) := by omega
  have hlt : (a : Int) < (n : Int) := by
    have : p * 1 ≤ p * m := Nat.mul_le_mul_left _ hm
    omega
  have ec : ((n : Int) - (a : Int) + (p : Int) - 1) / (p : Int) = (m : Int) := by
    have x : (n : Int) - (a : Int) + (p : Int) - 1 = ((p - 1 - a : Nat) : Int) + (p : Int) * (m : Int) := by
      rw [hn, Int.natCast_mul]
      omega
    rw [x, Int.add_mul_ediv_left _ _ (by omega), Int.ediv_eq_zero_of_lt (by omega) (by omega), Int.zero_add]
  simp only [if_pos hp', if_pos hlt, ec, Int.toNat_natCast]
  apply List.map_congr_left
  intro k _
  have : (a : Int) + (p : Int) * (k : Int) = ((a + p * k : Nat) : Int) := by rw [Int.natCast_add, Int.natCast_mul]
  rw [this, Int.toNat_natCast]
def tStepL (K : PySem.W.Frag) (te : TE) (tl ts : TO) : TE := fun σ H Q => te σ H fun x H1 => tl σ H1 fun l H2 => ts σ H2 fun st H3 => ∃ a xs k p m, x = .ref a ∧ l = some ((k : Nat) : Int) ∧ st = some ((p : Nat) : Int) ∧ SqL K H3 a xs ∧ xs.length = p * m ∧ 0 < p ∧ k < p ∧ 0 < m ∧
  ∀ q, H3 q = none → Q (.ref q) (upd H3 q (.lst (everyL xs k p m)))
theorem every_vals {xs : List V} {us : List Value} (h : Vals xs us) (a p m : Nat) : Vals (everyL xs a p m) (everyL us a p m) := by
  unfold everyL
  induction m with
  | zero => exact .nil
  | succ m ih =>
    rw [List.range_succ, List.filterMap_append, List.filterMap_append]
    refine ih.append ?_
    show Vals ([m].filterMap _) ([m].filterMap _)
    rw [List.filterMap_cons, List.filterMap_cons]
    cases q : xs[a + p * m]? with
    | none =>
      have : us[a + p * m]? = none := by
        rw [List.getElem?_eq_none_iff] at q ⊢
        rw [← h.length]; exact q
      rw [this]
      exact .nil
    | some v =>
      obtain ⟨u, e, r⟩ := h.get q
      rw [e]
      exact .cons r .nil
theorem every_le {α : Type} {xs : List α} {a p m : Nat} : (everyL xs a p m).length ≤ m := by
  unfold everyL
  exact Nat.le_trans (List.length_filterMap_le _ _) (by rw [List.length_range]; exact Nat.le_refl _)
theorem pe_stepL {X : Cx} {e lo st : Expr} {te : TE} {tl ts : TO} {p3 pos : Pos} (he : PE X e te) (hl : PO X (some lo) tl) (hst : PO X (some st) ts) (hrev : ∀ a b : Value, ∀ ob : Addr, True := by intro _ _ _; trivial) :
    PE X (.Subscript e (.Slice (some lo) none (some st) p3) pos) (tStepL X.K te tl ts) := by
  refine ⟨fun pins s σ H Q I h => ?_⟩
  refine Subscript_ (thn (he.run pins s σ H _ I h) fun v s1 ⟨x, H1, I1, r1, q1⟩ => ?_)
  refine wpAny_Slice (thn (hl.run pins s1 σ H1 _ I1 q1) fun vl s2 ⟨l, H2, I2, pl, q2⟩ => ?_)
  refine thn (po_none.run pins s2 σ H2 (fun o H3 => o = none ∧ H3 = H2) I2 ⟨rfl, rfl⟩) fun vu s3 ⟨u, H3, I3, pu, eu, e3⟩ => ?_
  subst eu e3
  refine thn (hst.run pins s3 σ H3 _ I3 q2) fun vs s4 ⟨o, H4, I4, ps, a, xs, k, p, m, ex, el, eo, hx, hlen, hp, hk, hm, q⟩ => ?_
  subst ex el eo
  cases r1
  have I5 : Inv X pins σ H4 { s4 with heap := s4.heap.push { cls := .type "slice", data := .fields #[vl, vu, vs] } } := I4.kept (t' := s4.toks) fun b ob q => Heap.get?_push_of_some _ q
  obtain ⟨its, r, ht, hz⟩ := I5.list hx
  have hlen' := r.length
  show wpAny (model X.prog X.w) X.A (subscriptTail e (.Slice (some lo) none (some st) p3) (.ref a) (.ref s4.heap.objs.size)) (EP X pins σ Q) X.xe { s4 with heap := s4.heap.push { cls := .type "slice", data := .fields #[vl, vu, vs] } }
  refine tail_any (ops := [.ref a, .ref s4.heap.objs.size]) ht.isList.typeIs (PySem.slot_list_getitem.lookup) ?_ (by with_unfolding_all rfl)
  refine wpAny_getItem_list_slice ht.isList (Heap.IsSliceOf.new _ vl vu vs) pl pu ps (by intro z; injection z with z; omega) ?_ (by rw [List.size_toArray]; omega)
  have ep : PySem.slicePick its.toArray (some ((k : Nat) : Int)) none (some ((p : Nat) : Int)) = (everyL its k p m).toArray := by
    unfold PySem.slicePick
    rw [step_bounds (n := its.toArray.size) (m := m) (by rw [List.size_toArray, ← hlen', hlen]) hp hk hm, List.filterMap_map]
    congr 1
    unfold everyL
    congr 1
    funext j
    simp
  rw [ep]
  refine ⟨.ref _, _, I5.laid (t' := s4.toks) (o := .lst (everyL xs k p m)) (fun b ob q => Heap.get?_push_of_some _ q) (Nat.le_refl _) ?_, rfl, q _ (I5.hok.fresh (Nat.le_refl _))⟩
  refine ⟨Nat.le_trans every_le (Nat.le_trans ?_ (show xs.length ≤ sizeLine from by omega)), _, 0, every_vals r k p m, Heap.get?_push_size _ rfl⟩
  rw [hlen]
  exact Nat.le_mul_of_pos_left m hp
section
variable {K : PySem.W.Frag} {Z : Zx} {ρ : Rho} {te : TE} {tl ts : TO}
theorem every_vrs {F : Hp} {vs : List V} {rs : List RP} (h : Vrs F vs rs) (a p : Nat) : ∀ m, Vrs F (everyL vs a p m) (everyL rs a p m)
  | 0 => trivial
  | m + 1 => by
    have ih := every_vrs h a p m
    unfold everyL at ih ⊢
    rw [List.range_succ, List.filterMap_append, List.filterMap_append]
    refine ih.app ?_
    show Vrs F ([m].filterMap _) ([m].filterMap _)
    rw [List.filterMap_cons, List.filterMap_cons]
    cases q : rs[a + p * m]? with
    | none =>
      have : vs[a + p * m]? = none := by
        rw [List.getElem?_eq_none_iff] at q ⊢
        rw [h.len]; exact q
      rw [this]
      exact trivial
    | some r =>
      obtain ⟨v, e, hr⟩ := h.get q
      rw [e]
      exact ⟨hr, trivial⟩
theorem den_stepL {rs : List RP} {k p m : Nat} (ha : Den Z te ρ (pL rs)) (hl : DenO Z tl ρ (some ((k : Nat) : Int))) (hs : DenO Z ts ρ (some ((p : Nat) : Int))) (hlen : rs.length = p * m) (hp : 0 < p) (hk : k < p) (hm : 0 < m) :
    Den Z (tStepL K te tl ts) ρ (pL (everyL rs k p m)) := fun F H σ env ok Q q =>
  ha F H σ env ok _ fun x F1 H1 g1 k1 hx => hl F1 H1 σ (env.mono g1.ff) k1 _ fun F2 H2 g2 k2 => hs F2 H2 σ (env.mono (g1.trans g2).ff) k2 _ fun F3 H3 g3 k3 => by
    obtain ⟨a, vs, e, ha', hv⟩ := (pL rs).mono (g2.trans g3).ff hx
    refine ⟨a, vs, k, p, m, e, rfl, rfl, SqL.of (k3.fh _ _ ha'), by rw [hv.len]; exact hlen, hp, hk, hm, fun l hlq => ?_⟩
    have g : Go0 F3 H3 (upd F3 l (.lst (everyL vs k p m))) (upd H3 l (.lst (everyL vs k p m))) := Go.new k3.fh hlq
    obtain ⟨g4, k4⟩ := k3.step g (same_new k3.fh hlq)
    exact q _ _ _ (((g1.trans g2).trans g3).trans g4) k4 ⟨l, _, rfl, upd_same, (every_vrs hv k p m).mono g.ff⟩
end
end Dn
set_option Elab.async false
set_option linter.all false
set_option maxRecDepth 100000
set_option maxHeartbeats 4000000
/-! two walks in one comprehension; a list taken apart -/
namespace Dn
open PySem L2
theorem wipe_idem (σ : L2.St) (vs : List Nat) : L2.wipe (L2.wipe σ vs) vs = L2.wipe σ vs := by
  have gen : ∀ us : List Nat, (∀ u ∈ us, u ∈ vs) → L2.wipe (L2.wipe σ vs) us = L2.wipe σ vs := by
    intro us
    induction us with
    | nil => intro _; rfl
    | cons u us ih =>
      intro hu
      show (L2.wipe (L2.wipe σ vs) us).set u none = L2.wipe σ vs
      rw [ih fun z hz => hu z (List.mem_cons_of_mem _ hz)]
      apply List.ext_getElem?
      intro m
      by_cases hm : u = m
      · subst hm
        have huv : u ∈ vs := hu u List.mem_cons_self
        by_cases hl : u < (L2.wipe σ vs).length
        · rw [List.getElem?_set_self hl]
          cases hq : (L2.wipe σ vs)[u]? with
          | none =>
            rw [List.getElem?_eq_none_iff] at hq
            omega
          | some o =>
            cases o with
            | none => rfl
            | some v => exact absurd huv (wipe_some hq).2
        · rw [List.getElem?_eq_none (by simpa using hl), List.getElem?_eq_none (by simpa using hl)]
      · rw [List.getElem?_set_ne hm]
  exact gen vs fun _ h => h
/-- the list at D on its way -/
structure LcI (Z : Zx) (F1 H1 : Hp) (D : Addr) (rs : List RP) (F H : Hp) (acc : List V) : Prop where
  go : Go Z.T F1 H1 F H
  ok : Ok Z F H
  fd : F D = none
  hd : H D = some (.lst acc)
  vr : Vrs F acc rs
section
variable {Z : Zx} {F1 H1 F H F' H' : Hp} {D : Addr} {rs : List RP} {acc : List V}
theorem LcI.step (i : LcI Z F1 H1 D rs F H acc) (nt : ¬ Z.T D) (g : Go Z.T F H F' H') (k : Ok Z F' H') : LcI Z F1 H1 D rs F' H' acc := by
  refine ⟨i.go.trans g, k, ?_, g.hh _ _ nt i.hd, i.vr.mono g.ff⟩
  cases e : F' D with
  | none => rfl
  | some o =>
    rcases g.gr D o e with z | z | z
    · rw [i.fd] at z; cases z
    · rw [i.hd] at z; cases z
    · exact absurd z nt
theorem LcI.put (i : LcI Z F1 H1 D rs F H acc) (nt : ¬ Z.T D) (hD : H1 D = none) {y : V} {r : RP} (hr : r.R F y) : LcI Z F1 H1 D (rs ++ [r]) F (upd H D (.lst (acc ++ [y]))) (acc ++ [y]) := by
  refine ⟨⟨i.go.ff, fun b o t e => ?_, i.go.gr, fun b e => ?_⟩, ⟨fun b o e => ?_, i.ok.fr, ?_⟩, i.fd, upd_same, i.vr.app ⟨hr, trivial⟩⟩
  · have : b ≠ D := fun q => by rw [q, hD] at e; cases e
    rw [upd_ne this]; exact i.go.hh b o t e
  · by_cases q : b = D
    · subst q; exact absurd hD e
    · rw [upd_ne q]; exact i.go.dm b e
  · have : b ≠ D := fun q => by rw [q, i.fd] at e; cases e
    rw [upd_ne this]; exact i.ok.fh b o e
  · exact Z.stay (fun b t => by
      have : b ≠ D := fun q => nt (by rw [← q]; exact t)
      rw [upd_ne this]) i.ok.j
end
theorem yes_intro {σ : L2.St} {H : Hp} {R : Bool → Hp → Prop} (h : R true H) : tYes σ H R := h
theorem den_lc2 {Z : Zx} {ρ : Rho} {α β : Type} {wi wi1 : TI} {g g1 : TG} {te : TE} {vs vs1 : List Nat} (xs : List α) (item : α → RP) (ys : α → List β) (item1 : α → β → RP) (out : α → β → RP) (hi : DenI Z wi ρ (xs.map item))
    (hx : ∀ x ∈ xs, ∃ up, DenG vs g (item x) up ∧ DenI Z wi1 (up (wipeR ρ vs)) ((ys x).map (item1 x)) ∧ ∀ y ∈ ys x, ∃ up1, DenG vs1 g1 (item1 x y) up1 ∧ Den Z te (up1 (wipeR (up (wipeR ρ vs)) vs1)) (out x y))
    (hz : ((xs.map fun x => (ys x).map (out x)).flatten).length ≤ sizeLine) : Den Z (tLc2 wi g tYes wi1 g1 tYes te vs vs1) ρ (pL ((xs.map fun x => (ys x).map (out x)).flatten)) := den_of_f fun F H σ env ok Q q =>
  hi F H σ env ok _ fun J F1 H1 gg k1 it D hD => by
    obtain ⟨G, Y, w, hG, hY⟩ := it
    rw [List.length_map] at w
    have nt : ¬ Z.T D := fun t => Z.has k1.j t hD
    have take1 : ∀ i, (hl : i < xs.length) → ((xs.take (i + 1)).map fun x => (ys x).map (out x)).flatten = ((xs.take i).map fun x => (ys x).map (out x)).flatten ++ (ys xs[i]).map (out xs[i]) := fun i hl => by
      rw [List.take_succ_eq_append_getElem hl, List.map_append, List.flatten_append]
      show _ ++ ((ys xs[i]).map (out xs[i]) ++ []) = _
      rw [List.append_nil]
    refine ⟨fun i m H => m = xs.length - i ∧ i ≤ xs.length ∧ ∃ Fi acc, LcI Z F1 H1 D (((xs.take i).map fun x => (ys x).map (out x)).flatten) Fi H acc, ⟨xs.length, by simp, Nat.zero_le _, F1, [], ⟨Go.new' hD, ⟨same_new' k1.fh hD, k1.fr, Z.mono (same_new' (fun _ _ e => e) hD) k1.j⟩, k1.fh.free hD, upd_same, trivial⟩⟩, ?_⟩
    rintro i m Hi ⟨rfl, hil, Fi, acc, li⟩
    have hGi := hG Hi (li.go.ff.trans li.ok.fh)
    by_cases hlt : i < xs.length
    · refine .inr ⟨w.goes i Hi hlt hGi, fun H' => i + 1 ≤ xs.length ∧ ∃ Fi acc, LcI Z F1 H1 D (((xs.take (i + 1)).map fun x => (ys x).map (out x)).flatten) Fi H' acc, fun H' ⟨p1, p2⟩ => ⟨xs.length - (i + 1), by omega, rfl, p1, p2⟩, fun x Hx hy => ?_⟩
      have y := w.yields i Hi x Hx hlt hGi hy
      have hxi : xs[i]? = some xs[i] := List.getElem?_eq_getElem hlt
      obtain ⟨F2, g2, s2, rx⟩ := hY i Hi x Hx (item xs[i]) Fi y (by rw [List.getElem?_map, hxi]; rfl) li.go.ff li.ok.fh
      obtain ⟨g2', k2⟩ := li.ok.step g2 s2
      have l2 := li.step nt g2' k2
      obtain ⟨up, hg, hi1, he⟩ := hx xs[i] (List.getElem_mem hlt)
      refine hg F2 Hx (L2.wipe σ vs) (wipeR ρ vs) x _ ((env.wipe vs).mono (gg.ff.trans l2.go.ff)) s2 rx fun σ' env' ew => ?_
      refine ⟨by rw [ew, wipe_idem], ?_⟩
      refine yes_intro ?_
      rw [if_pos rfl]
      refine hi1 F2 Hx σ' env' k2 _ fun J1 F3 H3 g3 k3 it1 => ?_
      obtain ⟨G1, Y1, w1, hG1, hY1⟩ := it1
      rw [List.length_map] at w1
      have l3 := l2.step nt g3 k3
      have tot : (((xs.take i).map fun x => (ys x).map (out x)).flatten).length + (ys xs[i]).length ≤ sizeLine := by
        have a := take1 i hlt
        have b : (((xs.take (i + 1)).map fun x => (ys x).map (out x)).flatten).length ≤ ((xs.map fun x => (ys x).map (out x)).flatten).length := by
          have e : xs = xs.take (i + 1) ++ xs.drop (i + 1) := (List.take_append_drop _ _).symm
          have e2 : ((xs.map fun x => (ys x).map (out x)).flatten) = ((xs.take (i + 1)).map fun x => (ys x).map (out x)).flatten ++ ((xs.drop (i + 1)).map fun x => (ys x).map (out x)).flatten := by
            rw [← List.flatten_append, ← List.map_append, List.take_append_drop]
          rw [e2, List.length_append]
          omega
        rw [a, List.length_append, List.length_map] at b
        omega
      refine ⟨fun j m H => m = (ys xs[i]).length - j ∧ j ≤ (ys xs[i]).length ∧ ∃ Fj acc, Same F3 Fj ∧ LcI Z F1 H1 D (((xs.take i).map fun x => (ys x).map (out x)).flatten ++ ((ys xs[i]).take j).map (out xs[i])) Fj H acc, ⟨(ys xs[i]).length, by simp, Nat.zero_le _, F3, acc, fun _ _ e => e, by
        rw [List.take_zero, List.map_nil, List.append_nil]
        exact l3⟩, ?_⟩
      rintro j m Hj ⟨rfl, hjl, Fj, accj, sj, lj⟩
      have hGj := hG1 Hj (sj.trans lj.ok.fh)
      by_cases hjt : j < (ys xs[i]).length
      · refine .inr ⟨w1.goes j Hj hjt hGj, fun H' => j + 1 ≤ (ys xs[i]).length ∧ ∃ Fj acc, Same F3 Fj ∧ LcI Z F1 H1 D (((xs.take i).map fun x => (ys x).map (out x)).flatten ++ ((ys xs[i]).take (j + 1)).map (out xs[i])) Fj H' acc, fun H' ⟨p1, p2⟩ => ⟨(ys xs[i]).length - (j + 1), by omega, rfl, p1, p2⟩, fun z Hz hyz => ?_⟩
        have yz := w1.yields j Hj z Hz hjt hGj hyz
        have hyj : (ys xs[i])[j]? = some (ys xs[i])[j] := List.getElem?_eq_getElem hjt
        obtain ⟨F4, g4, s4, rz⟩ := hY1 j Hj z Hz (item1 xs[i] (ys xs[i])[j]) Fj yz (by rw [List.getElem?_map, hyj]; rfl) sj lj.ok.fh
        obtain ⟨g4', k4⟩ := lj.ok.step g4 s4
        have l4 := lj.step nt g4' k4
        obtain ⟨up1, hg1, he1⟩ := he _ (List.getElem_mem hjt)
        refine hg1 F4 Hz (L2.wipe σ' vs1) (wipeR (up (wipeR ρ vs)) vs1) z _ ((env'.wipe vs1).mono (g3.ff.trans (sj.trans g4.ff))) s4 rz fun σ3 env3 ew3 => ?_
        refine ⟨by rw [ew3, wipe_idem], ?_⟩
        refine yes_intro ?_
        rw [if_pos rfl]
        refine he1 F4 Hz σ3 env3 k4 _ fun v F5 H5 g5 k5 rv => ?_
        have l5 := l4.step nt g5 k5
        have lv := l5.vr.len
        rw [List.length_append, List.length_map, List.length_take] at lv
        refine ⟨accj, l5.hd, by omega, hjt, F5, accj ++ [v], sj.trans (g4.ff.trans g5.ff), ?_⟩
        rw [List.take_succ_eq_append_getElem hjt, List.map_append, ← List.append_assoc]
        exact l5.put nt hD rv
      · have e : j = (ys xs[i]).length := by omega
        subst e
        refine .inl ⟨w1.stops Hj hGj, hlt, Fj, accj, ?_⟩
        rw [take1 i hlt]
        rw [List.take_length] at lj
        exact lj
    · have e : i = xs.length := by omega
      subst e
      refine .inl ⟨w.stops Hi hGi, ?_⟩
      rw [List.take_length] at li
      exact q D acc Fi Hi (none_back (gg.dm D) hD) (gg.trans li.go) li.ok li.fd li.hd li.vr
end Dn
set_option Elab.async false
set_option linter.all false
set_option maxRecDepth 100000
set_option maxHeartbeats 4000000
/-! defs that are only promised where no repr is under way; repr of data -/
namespace Dn
open PySem PySem.Spec PyProof.Rows L2
/-- the promise of a def where no repr is under way -/
structure FnG (P : Program) (w : World) (K : PySem.W.Frag) (mg : Str → Option Value) (base : Heap) (CX : CXT) (k : Nat) (f : Addr) (fd : FuncData) (ps : List Str) (sp : Sp) : Prop where
  len : ∀ vs H Q E, sp vs H Q E → vs.length = ps.length
  run : ∀ (A : Around) (outer : List Env) (s : Shared) (H : Hp) (args : Args) (us : List Value) (vs : List V) (Q : VK) (E : XK), A.guards = some [] → Room k A → Env0 P w K mg base A outer s H → BindsTo s fd args (ps.zip us) → Vals vs us → sp vs H Q E →
    codeAny (model P w) A (.call (.ref f) args) (CR CX outer P w H s Q E) s
section
variable {P : Program} {w : World} {K : PySem.W.Frag} {mg : Str → Option Value} {base : Heap} {x qual : Str} {params : Arguments} {body : List Stmt} {scope : Scope} {dvs : List V} {kws : List (Str × V)} {f : Addr} {fd : FuncData} {CX : CXT} {N ps : List Str} {k : Nat} {sp : Sp}
theorem FnG.of (F : FunD K x qual params body scope dvs kws f fd) (S : FnScope N ps scope) (len : ∀ vs H Q E, sp vs H Q E → vs.length = ps.length)
    (hbody : ∀ (cdv : Value) (A : Around) (outer : List Env) (s : Shared) (H : Hp) (vs : List V) (Q : VK) (E : XK), A.guards = some [] → Room k (A.deeper (envOfC qual scope s.heap.objs.size f cdv)) → sp vs H Q E →
      ∃ t, PSs (cxOf CX P w K mg base N qual scope f cdv A outer s H E) body t ∧ t { nx := fun _ H' => Q .non H', rt := Q } (L2.start N vs) H) : FnG P w K mg base CX (k + 1) f fd ps sp := by
  obtain ⟨oc, od, dV, kV, doc, pm, an, cdv, ct, osl, rfl, lk, hcd, _, _⟩ := F.ex
  refine ⟨len, fun A outer s H args us vs Q E gd hr e0 hb r hsp => ?_⟩
  have KX : K.In s.heap := e0.mod.kin.keeps fun b o e => (e0.bs b o e).1
  -- every place of the names
  have kinds : ∀ y ∈ ps.zip us, scope.names.lookup y.1 = some .local ∨ (scope.names.lookup y.1 = some .cell ∧ ((cellsFrom (s.heap.objs.size + 1) scope.names []).lookup y.1).isSome = true) := by
    rintro ⟨n, v⟩ hy
    exact (S.par n (List.of_mem_zip hy).1).imp id fun q => ⟨q, PySem.W.cellsFrom_some _ _ _ (.inl q)⟩
  refine codeAny_call_function hr.depth (KX _ _ lk) rfl S.co S.gen rfl (PySem.W.codeRec_of KX hcd) (hb _ _ _ _ (wpAny_newFunctionEnv_cells S.kind kinds fun env he s1 ic => ?_))
  subst he
  obtain ⟨t, ht, hq⟩ := hbody cdv A outer s H vs Q E gd (hr.deeper _) hsp
  have I := inv_start (CX := CX) (E := E) (cd := cdv) S hr.hd e0 (len _ _ _ _ hsp) r ic
  refine ⟨(e0.mod.nolimit.keeps fun b o e => (e0.bs b o e).1).keeps ic.toInCall.keep, codeAny_func (wpAny_mono (ht.run [] s1 _ H _ I hq) (fun fl s' hs => ?_) fun e s' hs => hs)⟩
  cases fl with
  | ret u =>
    obtain ⟨v, σ', H', J, rv, q⟩ := hs
    exact ⟨v, H', J.os, J.bare, J.base, J.hok, rv, q⟩
  | next =>
    obtain ⟨σ', H', J, q⟩ := hs
    exact ⟨V.non, H', J.os, J.bare, J.base, J.hok, rfl, q⟩
  | brk =>
    obtain ⟨_, _, _, q⟩ := hs
    exact q.elim
  | cont =>
    obtain ⟨_, _, _, q⟩ := hs
    exact q.elim
end
section
variable {X : Cx} {CX : CXT} {k : Nat} {f : Addr} {fd : FuncData} {ps : List Str} {sp : Sp} {E : XK} {x : Str} {e : Expr} {es : List Expr} {t : TA} {p pos : Pos} {ds : List Value} {dvs : List V}
theorem pe_callG (F : FnG X.prog X.w X.K X.mg X.base CX k f fd ps sp) (gd : X.A.guards = some []) (hr : Room k X.A) (hg : Gl X x) (hm : X.mg x = some (.ref f)) (hk : PySem.W.keepIn X.K (.ref f) = true) (hb : Binds X.K fd ps ds) (hd : Vals dvs ds) (hx : Passes CX X E)
    (ha : PA X (e :: es) t) (hdb : (x == ("__debug__" : Str)) = false := by decide) (he : starEach (e :: es) X.env = (false, eval e X.env) :: starEach es X.env := by rfl) (hpl : (backTo pos (starEach es X.env)).any (·.1) = false := by rfl) :
    PE X (.Call (.Name x p) (e :: es) [] pos) (tCall sp dvs E t) := by
  refine ⟨fun pins s σ H Q I h => ?_⟩
  refine wpAny_Call_Name_kw (ld_glob I hg hm ?_ hdb)
  refine PySem.W.callWith_K (h₀ := X.base) I.ok.mod.kin hk (thn (ha.run pos pins s σ H _ I h) fun us s1 ⟨vs, H1, I1, r, q⟩ => ⟨I1.kIn, ?_⟩) he hpl
  have r2 := r.append hd
  refine wpAny_call (codeAny_mono (F.run X.A X.stack s1 H1 ⟨us, []⟩ (us ++ ds) (vs ++ dvs) Q E gd hr I1.env0 (hb s1 us I1.kIn (by rw [← r2.length]; exact F.len _ _ _ _ q)) r2 q) fun rr s' hq => ?_)
  match rr, hq with
  | .error e, hq => exact hx pins σ H1 s1 e s' I1 hq
  | .ok (.ret u), hq => exact I1.after hq
  | .ok .next, hq => exact hq.elim
  | .ok .brk, hq => exact hq.elim
  | .ok .cont, hq => exact hq.elim
/-- repr(data) -/
def uRepr (K : PySem.W.Frag) : List V → Hp → VK → Prop := fun xs H Q => ∃ a d, xs = [.ref a] ∧ Dp K H (.ref a) d ∧ d.showable = true ∧ d.hasDict = false ∧ d.depth ≤ 64 ∧ d.shown.length ≤ sizeLine ∧ Q (.str d.shown) H
theorem cr_repr {X : Cx} (gd : X.A.guards = some []) (hu : X.A.units + 66 < cLine) : CallR X (.builtin "repr") (uRepr X.K) := by
  intro pins s σ H xs us Q I r h
  obtain ⟨a, d, rfl, hd, hs, hn, hdp, hz, q⟩ := h
  obtain ⟨u, rfl, ru⟩ := vals1 r
  obtain rfl : u = Value.ref a := ru
  obtain ⟨as, rd⟩ := Dp.reads I d (.ref a) (.ref a) hd rfl
  refine repr_of_reads' rd hs (fun z => by rw [hn] at z; cases z) gd (by omega) (fun b o e => e) (fun h' u tk hk => ?_) hz
  exact ⟨.str _, H, I.kept (t' := tk) hk, ⟨_, rfl⟩, q⟩
end
end Dn
set_option Elab.async false
set_option linter.all false
set_option maxRecDepth 100000
set_option maxHeartbeats 4000000
/-! a law whose def is promised where no repr is under way (at the caller none is) -/
namespace Dn
open PySem PySem.Spec PyProof.Rows L2
section
variable {P : Program} {w : World} {K : PySem.W.Frag} {mg mb : Str → Option Value} {CX : CXT} {k : Nat} {fa a : Addr} {fd : FuncData} {x : Str} {sp : Sp} {s₁ : Shared} {vs : List Value} {ns : List Int}
/-- from an abstract heap in which at most the script stands -/
theorem run_law {H : Hp} (KX : K.In s₁.heap) (hns : s₁.heap.Ns mainGlobals mg) (hb : s₁.heap.Ns builtinsNs mb) (hbb : ∀ x : Str, x ≠ "__name__" → mb x = bootBuiltins x) (hlim : s₁.heap.NoLimit) (hg : s₁.gens = #[])
    (ha : s₁.heap.get? a = some { cls := .type "list", data := .seq vs.toArray }) (hr : Room k callerA) (F : ∀ base : Heap, K.In base → base.Ns mainGlobals mg → FnG P w K mg base CX k fa fd [x] sp) (hbind : ∀ (s : Shared) (u : Value), BindsTo s fd ⟨[u], []⟩ [(x, u)])
    (hsp : sp [.ref a] H (fun v _ => v = .bl true) fun _ _ _ => False) (hCX : ∀ e s', CX [] H s₁ (fun _ _ _ => False) e s' → False)
    (hO : Only H) (hok : HOk P w H s₁.heap) (hA : ∀ b, H b ≠ none → b = a) (hK : H a ≠ none → K.lookup a = none) :
    codeAny (model P w) callerA (.call (.ref fa) ⟨[.ref a], []⟩) (fun r s' => r = .ok (.ret (.bool true)) ∧ OldK s₁.heap s'.heap ∧ s'.os = s₁.os ∧ AllBare s'.gens) s₁ := by
  have notA : ∀ {b : Addr} {o : Obj} {es : Array DictEntry} {ep : Nat}, s₁.heap.get? b = some o → o.data = .dict es ep → H b = none := by
    intro b o es ep e d
    refine Classical.byContradiction fun z => ?_
    have e' := hA b z
    subst e'
    rw [ha] at e
    cases e
    cases d
  have nsB : ∀ {b : Addr} {m : Str → Option Value}, s₁.heap.Ns b m → (hidT s₁.heap H).Ns b m := fun {b m} ⟨o, es, ep, e, d, r⟩ => ⟨o, es, ep, hidT_get e (notA e d), d, r⟩
  have inB : K.In (hidT s₁.heap H) := fun b o e => hidT_get (KX b o e) (Classical.byContradiction fun z => by
    have e' := hA b z
    subst e'
    rw [hK z] at e
    cases e)
  obtain ⟨mc, l1, l2⟩ := hlim
  have M : Mod K mg (hidT s₁.heap H) := ⟨inB, nsB hns, ⟨mb, nsB hb, hbb⟩, mc, nsB l1, l2⟩
  have e0 : Env0 P w K mg (hidT s₁.heap H) callerA [] s₁ H := ⟨rfl, M, fun b o e => of_hidT e, Nat.le_of_eq (hidT_size _ _), trivial, (fun b m => nomatch (show b ∈ ([] : List Addr) from m)), hok, .of_eq hg⟩
  refine codeAny_mono ((F _ inB (nsB hns)).run callerA [] s₁ H ⟨[.ref a], []⟩ [.ref a] [.ref a] _ _ rfl hr e0 (hbind s₁ (.ref a)) (.cons rfl .nil) hsp) fun r s' h => ?_
  match r, h with
  | .error e, h => exact (hCX e s' h).elim
  | .ok .next, h => exact h.elim
  | .ok .brk, h => exact h.elim
  | .ok .cont, h => exact h.elim
  | .ok (.ret u), ⟨v, H', os, bare, un, hok', r', q⟩ =>
    have q : v = .bl true := q
    subst q
    obtain rfl : u = Value.bool true := r'
    refine ⟨rfl, OldK.of_keep fun b o e => ?_, os, bare⟩
    cases z : H b with
    | none => exact un.keep b o e z (fun m => nomatch (show b ∈ ([] : List Addr) from m)) (by simp)
    | some hb =>
      rcases hO b with y | ⟨ob, xs, y⟩
      · rw [z] at y; cases y
      · obtain ⟨e1, _⟩ := hok b _ y
        obtain ⟨e2, _⟩ := hok' b _ (un.frzs b ob _ y)
        rw [e] at e1
        cases e1
        exact e2
end
/-- a law: F gives the written part, the function object, the promise over every base -/
theorem walk_ofG {l : PySem.W.OpenLaw} {n k : Nat} {q : Program} {loose : List Str} {XP : (Str → Option Value) → Heap → Prop} {YP : World → Heap → Prop} {d : DefRec} {CX : CXT} {x : Str}
    (hn : l.most = some n) (hn2 : n ≤ sizeLine) (hdf : d.params.defaults = []) (hr : Room k callerA)
    (F : ∀ (w : World) (mg : Str → Option Value) (fa : Addr) (h : Heap), YP w h → h.Ns mainGlobals mg → mg d.name = some (.ref fa) →
      ∃ (K : PySem.W.Frag) (fd : FuncData) (sp : Sp), K.In h ∧ (∀ (s : Shared) (u : Value), BindsTo s fd ⟨[u], []⟩ [(x, u)]) ∧
        (∀ (H : Hp) (a : Addr) (ns : List Int), ns.length ≤ n → Only H → SqL K H a (ns.map V.int) → sp [.ref a] H (fun v _ => v = .bl true) fun _ _ _ => False) ∧
        ∀ base : Heap, K.In base → base.Ns mainGlobals mg → FnG l.prog w K mg base CX k fa fd [x] sp)
    (hCX : ∀ (H : Hp) (s : Shared) (e : Value) (s' : Shared), CX [] H s (fun _ _ _ => False) e s' → False) :
    PySem.W.WalkO q loose XP YP l.row.toRowW d [] (fun f vs => PySem.call f vs) := by
  refine Att.attach_call hn hdf fun w s₀ s₁ mg mb fa o pm cd doc a vs ns G Y ho hd hcd hmg hobj hints hlen hg => ?_
  obtain ⟨K, fd, sp, KX, hb, hsp, hF⟩ := F w mg fa _ Y G.T.g hmg
  have rv := vals_ints hints
  have lv := hints.length
  have hl : ns.length ≤ sizeLine := Nat.le_trans hlen hn2
  cases hk : K.lookup a with
  | some ob =>
    have e := KX a ob hk
    rw [hobj] at e
    cases e
    have hO : Only (fun _ => none) := fun _ => .inl rfl
    exact run_law (H := fun _ => none) KX G.T.g G.T.b G.T.builtins G.T.nolimit hg hobj hr hF hb (hsp _ a ns hlen hO (.inr ⟨_, vs.toArray, _, hk, rfl, rfl, rfl, by rw [List.size_toArray, lv]; exact hl, by simpa using rv⟩)) (fun e s' => hCX _ s₁ e s') hO (fun b u z => nomatch (show (none : Option HO) = some u from z)) (fun b z => absurd rfl z) fun z => absurd rfl z
  | none =>
    have at_ : ∀ b, (if b = a then some (HO.frz { cls := .type "list", data := .seq vs.toArray } (.lst (ns.map V.int))) else none) ≠ none → b = a := fun b z => Classical.byContradiction fun y => z (if_neg y)
    have hO : Only (fun b => if b = a then some (HO.frz { cls := .type "list", data := .seq vs.toArray } (.lst (ns.map V.int))) else none) := fun b => by
      by_cases y : b = a
      · exact .inr ⟨_, _, if_pos y⟩
      · exact .inl (if_neg y)
    refine run_law KX G.T.g G.T.b G.T.builtins G.T.nolimit hg hobj hr hF hb (hsp _ a ns hlen hO (.inl (.inr ⟨{ cls := .type "list", data := .seq vs.toArray }, if_pos rfl⟩))) (fun e s' => hCX _ s₁ e s') hO (fun b u z => ?_) at_ fun _ => hk
    by_cases y : b = a
    · subst y
      have z' := (if_pos rfl).symm.trans z
      cases z'
      exact ⟨hobj, by rw [List.length_map]; exact hl, vs, _, rv, hobj⟩
    · have z' := (if_neg y).symm.trans z
      cases z'
end Dn
set_option Elab.async false
set_option linter.all false
set_option maxRecDepth 100000
set_option maxHeartbeats 4000000
/-! x != y by an own __eq__ alone -/
namespace Nq
open PySem PySem.Spec PyProof.Rows PySem.SeqAt
section
variable {prog : Program} {w : World} {A : Around} {E : Value → Shared → Prop} {s : Shared} {K : PySem.W.Frag} {x y C : Addr} {ox oy : Obj} {od od' : Option Obj}
theorem entry_ne {b : Value} {Q : Fin → Shared → Prop} (hu : A.units < cLine) (h : wpAny (model prog w) A (callSpecialIfBound? (.ref x) "__eq__" [b]) (fun r s' => ∃ t, r = some (.bool t) ∧ Q (.done (.ret (.bool (!t)))) s') E s) :
    wpAny (model prog w) A (Builtin.«object.__ne__» ⟨[.ref x, b], []⟩) Q E s := by
  unfold Builtin.«object.__ne__»
  repeat (first | with_reducible refine wpAny_cRoomFor hu ?_ | with_reducible refine wpAny_mono h (fun r s' hr => ?_) fun _ _ e => e | wp_step)
  obtain ⟨t, rfl, q⟩ := hr
  obtain ⟨hp, g, d, tk, os⟩ := s'
  wp_walk
  exact q
theorem call_ne {b : Value} {Q : Value → Shared → Prop} (X : K.In s.heap) (I : PySem.W.InstAt s.heap x ox C od) (hm : PySem.W.mroIn K C (.type "object") = some true) (hu : A.units + 1 < cLine)
    (h : wpAny (model prog w) A.in1 (callSpecialIfBound? (.ref x) "__eq__" [b]) (fun r s' => ∃ t, r = some (.bool t) ∧ Q (.bool (!t)) s') E s) : wpAny (model prog w) A (call (.builtin "object.__ne__") [.ref x, b]) Q E s :=
  wpAny_call (codeAny_call_builtin F.cmp_object.ne.plain F.cmpEntry_ne (PySem.W.check_slot F.cmpKind_ne F.cmpSplit_ne (I.type.andThen (PySem.W.looks_mroIn X hm)) (F.cmpArgs_ne _ _) (entry_ne (A := A.in1) hu h)))
theorem ifBound_ne {args : List Value} {Q : Option Value → Shared → Prop} (X : K.In s.heap) (I : PySem.W.InstAt s.heap x ox C od) (hs : PySem.W.findIn K (.ref C) "__ne__" = some (some (.builtin "object.__ne__")))
    (h : wpAny (model prog w) A (call (.builtin "object.__ne__") (.ref x :: args)) (fun v => Q (some v)) E s) : wpAny (model prog w) A (callSpecialIfBound? (.ref x) "__ne__" args) Q E s := by
  simp only [callSpecialIfBound?, bindSpecialIfBound?]
  refine wpAny_holding (wpAny_bind (wpAny_bind (wpAny_bind (I.type.here ((PySem.W.looks_findIn X hs).here ?_)))))
  refine wpAny_bind (wpAny_askSetting (wpAny_ite ?_))
  have last : wpAny (model prog w) A (call (.builtin "object.__ne__") ([.ref x] ++ args) >>= fun v => pure (some v)) Q E s := wpAny_bind (wpAny_mono h (fun v s' h' => wpAny_pure h') fun _ _ h' => h')
  split
  · exact wpAny_bind (wpAny_of_eq (F.cmp_object.ne.bind _) (wpAny_pure (by exact last)))
  · exact wpAny_tryCatch (wpAny_bind (wpAny_of_eq (F.cmp_object.ne.bind _) (wpAny_pure (by exact last))))
theorem rc_ne {f : Addr} {Q : Value → Shared → Prop} (hu : A.units + 1 < cLine) (X : K.In s.heap) (I : PySem.W.InstAt s.heap x ox C od) (J : PySem.W.InstAt s.heap y oy C od') (hm : PySem.W.mroIn K C (.type "object") = some true)
    (hn : PySem.W.findIn K (.ref C) "__ne__" = some (some (.builtin "object.__ne__"))) (he : PySem.W.findIn K (.ref C) "__eq__" = some (some (.ref f))) (hf : PySem.W.isFn K (.ref f) = true)
    (h : wpAny (model prog w) A.in1 (call (.ref f) [.ref x, .ref y]) (fun v s' => ∃ t, v = .bool t ∧ Q (.bool (!t)) s') E s) : wpAny (model prog w) A (richCompare .NotEq (.ref x) (.ref y)) Q E s := by
  have one : wpAny (model prog w) A (tryCompare (.ref x) "__ne__" (.ref y)) (fun r s' => ∃ v, r = some v ∧ Q v s') E s := by
    unfold tryCompare
    refine wpAny_bind (ifBound_ne X I hn (call_ne X I hm hu (PySem.W.ifBound_K X I he hf (wpAny_mono h (fun v s' hv => ?_) fun _ _ e => e))))
    obtain ⟨t, rfl, q⟩ := hv
    exact ⟨t, rfl, wpAny_pure ⟨_, rfl, q⟩⟩
  simp only [richCompare, cmpInfo_NotEq, oneThing_ref]
  refine wpAny_holding (wpAny_bind (wpAny_cRoomFor (by omega) ?_))
  refine wpAny_bind (I.type.here (wpAny_bind (J.type.here ?_)))
  split
  · rename_i q
    simp at q
  · refine wpAny_bind (wpAny_pure ?_)
    simp only [Bool.false_eq_true, if_false]
    refine wpAny_bind (wpAny_mono one (fun r s' z => ?_) fun _ _ e => e)
    obtain ⟨v, rfl, q⟩ := z
    exact wpAny_pure q
end
end Nq
namespace Dn
open PySem L2
/-- x != y of two instances of an own class that has __eq__ (its promise sp tells a truth) and no __ne__ -/
def rNeO (C : Addr) (sp : Sp) : R2 := fun x y H Q => ∃ a dx fs b dy gs, x = .ref a ∧ H a = some (.ins C dx fs) ∧ y = .ref b ∧ H b = some (.ins C dy gs) ∧ sp [x, y] H (fun v H' => ∃ t, v = .bl t ∧ Q (.bl (!t)) H') E0
theorem op_neO {X : Cx} {C f : Addr} {fd : FuncData} {ps : List Str} {sp : Sp} {k : Nat} (hm : PySem.W.mroIn X.K C (.type "object") = some true) (hn : PySem.W.findIn X.K (.ref C) "__ne__" = some (some (.builtin "object.__ne__"))) (he : PySem.W.findIn X.K (.ref C) "__eq__" = some (some (.ref f))) (hf : PySem.W.isFn X.K (.ref f) = true)
    (F0 : FnOk X.prog X.w X.K X.mg X.base CX0 k f fd ps sp) (hr : Room (k + 1) X.A) (hb : Binds X.K fd ps []) : OpR X (compareOp .NotEq) (rNeO C sp) := by
  intro pins s σ H x y v u Q I rx ry h
  obtain ⟨a, dx, fs, b, dy, gs, rfl, ha, rfl, hb', q⟩ := h
  cases rx
  cases ry
  obtain ⟨mA, J, _⟩ := ins_get I.hok ha
  obtain ⟨mB, J', _⟩ := ins_get I.hok hb'
  obtain ⟨od, J, _⟩ := J.look
  obtain ⟨od', J', _⟩ := J'.look
  have sb : L2.Sub X k X.A.in1 := ⟨hr.in1, rfl⟩
  have e0 : Env0 X.prog X.w X.K X.mg X.base X.A.in1 X.stack s H := by
    have e := I.env0
    exact ⟨by rw [sb.fr]; exact e.frames, e.mod, e.bs, e.bsz, e.funs, e.frf, e.hok, e.bare⟩
  have r2 : Vals [V.ref a, V.ref b] [Value.ref a, Value.ref b] := .cons rfl (.cons rfl .nil)
  have hl := F0.len _ _ _ _ q
  refine Nq.rc_ne (by have := hr.un; omega) I.kIn J J' hm hn he hf ?_
  refine wpAny_call (codeAny_mono (F0.run X.A.in1 X.stack s H ⟨[.ref a, .ref b], []⟩ [.ref a, .ref b] [.ref a, .ref b] _ E0 sb.room e0 (by
    have := hb s [.ref a, .ref b] I.kIn (by simpa using hl)
    simpa using this) r2 q) fun r s' hq => ?_)
  match r, hq with
  | .error e, hq => exact pass0 pins σ H s e s' I hq
  | .ok (.ret w), hq =>
    obtain ⟨z, H', I', rz, t, ez, q'⟩ := I.after hq
    subst ez
    cases rz
    exact ⟨t, rfl, .bl (!t), H', I', rfl, q'⟩
  | .ok .next, hq => exact hq.elim
  | .ok .brk, hq => exact hq.elim
  | .ok .cont, hq => exact hq.elim
theorem opd_neO {C : Addr} {Cc : List RP → RP → Prop} {fs gs : List (Str × RP)} {b : Bool} (h : Cc [pO C fs, pO C gs] (pB b)) : OpD (rNeO C (pureSp Cc)) (pO C fs) (pO C gs) (pB (!b)) := fun F H x y s hx hy Q q => by
  obtain ⟨a, dx, vs, e, ha, hv⟩ := id hx
  obtain ⟨b', dy, ws, e', hb, hw⟩ := id hy
  exact ⟨a, dx, _, b', dy, _, e, s _ _ ha, e', s _ _ hb, F, _, _, h, s, ⟨hx, hy, trivial⟩, fun v F' H' g s' rv => ⟨b, rv, q _ F' H' g s' rfl⟩⟩
end Dn
set_option Elab.async false
set_option linter.all false
set_option maxRecDepth 100000
set_option maxHeartbeats 4000000
/-! lists taken apart, the greatest of a list, pairs compared -/
namespace Dn
open PySem L2
section
variable {K : PySem.W.Frag} {r1 r2 : RP}
theorem deng_lst2 {vs : List Nat} {i j : Nat} (hi : i ∈ vs) (hj : j ∈ vs) : DenG vs (gLst K 2 (gCons (gName i) (gCons (gName j) gNil))) (pL [r1, r2]) fun ρ => (ρ.set i (some r1)).set j (some r2) := fun F H σ ρ v Q env s hr q => by
  obtain ⟨a, us, e, ha, hv⟩ := hr
  match us, hv with
  | [u, w], ⟨h1, h2, _⟩ => exact ⟨a, [u, w], e, SqL.of (s _ _ ha), rfl, u, [w], rfl, w, [], rfl, rfl, q _ ((env.set i h1).set j h2) (by rw [wipe_set hj, wipe_set hi])⟩
theorem cd_maxL {ns : List Int} {m : Int} (hm : m ∈ ns) (h : ∀ y ∈ ns, y ≤ m) : CD (rMax K) [pIs ns] (pI m) := fun F H vs s hv Q q => by
  match vs, hv with
  | [v], ⟨⟨a, us, e, ha, hu⟩, _⟩ =>
    subst e
    have e2 := vrs_int hu
    subst e2
    refine ⟨a, ns, rfl, SqL.of (s _ _ ha), List.length_pos_iff.mpr (List.ne_nil_of_mem hm), fun m' h1 h2 => ?_⟩
    have a1 := h m' h1
    have a2 := h2 m hm
    obtain rfl : m' = m := by omega
    exact q _ F H (Go.refl F H) s rfl
abbrev pPr (p : Int × Int) : RP := pT [pI p.1, pI p.2]
theorem isd_pr {p : Int × Int} : IsD K (pPr p) (.tuple [.int p.1, .int p.2]) := fun F H v s ⟨a, us, e, ha, hu⟩ => by
  subst e
  match us, hu with
  | [u1, u2], ⟨h1, h2, _⟩ =>
    have h1 : u1 = .int p.1 := h1
    have h2 : u2 = .int p.2 := h2
    subst h1 h2
    exact .tup (SqT.of (s _ _ ha)) (.cons (.int _) (.cons (.int _) .nil))
end
end Dn
set_option Elab.async false
set_option linter.all false
set_option maxRecDepth 100000
set_option maxHeartbeats 4000000
/-! an own operator's right side: an int or one of the class -/
namespace Dn
open PySem L2
def rOwnX (C : Addr) (sp : Sp) : R2 := fun x y H Q => rOwnI C sp x y H Q ∨ rOwnO C sp x y H Q
theorem op_or {X : Cx} {op : Value → Value → Sem Value} {r1 r2 : R2} (h1 : OpR X op r1) (h2 : OpR X op r2) : OpR X op (fun x y H Q => r1 x y H Q ∨ r2 x y H Q) :=
  fun pins s σ H x y v u Q I rx ry h => h.elim (h1 pins s σ H x y v u Q I rx ry) (h2 pins s σ H x y v u Q I rx ry)
theorem op_ownX {X : Cx} {op : Operator} {C f : Addr} {fd : FuncData} {ps : List Str} {sp : Sp} {k : Nat} {fo ro rc : Option Value} (hc : PySem.W.selfFirst X.K C = true) (hs : PySem.W.findIn X.K (.ref C) (PySem.dunder op.info.2) = some (some (.ref f))) (hf : PySem.W.isFn X.K (.ref f) = true) (hr : PySem.W.findIn X.K (.ref C) (PySem.dunderR op.info.2) = some rc) (hp : rc = none ∨ ∃ g : Addr, rc = some (.ref g))
    (h1 : PySem.W.findIn X.K (.type "int") (PySem.dunder op.info.2) = some fo) (h2 : PySem.W.findIn X.K (.type "int") (PySem.dunderR op.info.2) = some ro) (hsub : PySem.W.subIn X.K (.type "int") (.ref C) = some false)
    (F : FnOk X.prog X.w X.K X.mg X.base CX0 k f fd ps sp) (hR : Room k X.A) (hb : Binds X.K fd ps []) : OpR X (binaryOp op) (rOwnX C sp) :=
  op_or (op_ownI hc hs hf hr hp h1 h2 hsub F hR hb) (op_ownO hc hs hf F hR hb)
theorem opd_ownX {C : Addr} {Cc : List RP → RP → Prop} {fs : List (Str × RP)} {r0 r : RP} (h : Cc [pO C fs, r0] r) (hr : (∃ i, r0 = pI i) ∨ ∃ gs, r0 = pO C gs) : OpD (rOwnX C (pureSp Cc)) (pO C fs) r0 r := fun F H x y s hx hy Q q => by
  rcases hr with ⟨i, rfl⟩ | ⟨gs, rfl⟩
  · exact .inl (opd_ownI h F H x y s hx hy Q q)
  · exact .inr (opd_ownO h F H x y s hx hy Q q)
end Dn
set_option Elab.async false
set_option linter.all false
set_option maxRecDepth 100000
set_option maxHeartbeats 4000000
/-! the head's facts over the first n places of the heap (the growth by what is named, He.asD, is too costly for large tops) -/
namespace DnH
open PySem L2
def upto : Nat → List Addr → List Addr
  | 0, l => l
  | n + 1, l => upto n (n :: l)
def seenRG (n : Nat) (fa : List KB) (fn : List DefX) (g : Addr → Option Obj) : He.AlD := seenX fa fn (He.frG g (upto n []))
def hookR (n : Nat) (fa : List KB) (fn : List DefX) : PySem.W.Hook where
  α := He.AlD
  obs := fun s => seenRG n fa fn s.heap.get?
  val := fun _ => valX fn
  says := fun _ h => ∃ K : PySem.W.Frag, K.In h ∧ SaysX fa fn K
  of := fun _ _ e => ⟨_, He.frG_in, e⟩
  keeps := fun _ _ _ ⟨K, hK, c⟩ k => ⟨K, PySem.W.Frag.In.keeps hK k, c⟩
theorem seenRG_eq {n : Nat} {fa : List KB} {fn : List DefX} {g : Addr → Option Obj} {s : Shared} (h : ∀ a, g a = s.heap.get? a) : seenRG n fa fn g = (hookR n fa fn).obs s := by
  have e : g = s.heap.get? := funext h
  rw [e] <;> rfl
end DnH
set_option linter.all false
/-! whole numbers' rows: what is made of them, ladders, one ladder for what rows make -/
namespace HM

def cel (row : List Int) (i : Nat) : Int := row.getD i 0
def lessRow (row base : List Int) (m : Int) : List Int := (row.zip base).map fun p => p.1 - m * p.2
theorem lessRow_len {row base : List Int} {m : Int} (h : row.length = base.length) : (lessRow row base m).length = row.length := by
  unfold lessRow
  rw [List.length_map, List.length_zip, h, Nat.min_self]
theorem cel_out {row : List Int} {i : Nat} (h : row.length ≤ i) : cel row i = 0 := by
  unfold cel
  rw [List.getD_eq_getElem?_getD, List.getElem?_eq_none h]
  rfl
theorem cel_in {row : List Int} {i : Nat} (h : i < row.length) : row[i]? = some (cel row i) := by
  unfold cel
  rw [List.getD_eq_getElem?_getD, List.getElem?_eq_getElem h]
  rfl
theorem cel_lessRow {row base : List Int} {m : Int} (h : row.length = base.length) (i : Nat) : cel (lessRow row base m) i = cel row i - m * cel base i := by
  by_cases hi : i < row.length
  · have h2 : i < base.length := by omega
    have hz : (row.zip base)[i]? = some (cel row i, cel base i) := by
      rw [List.getElem?_zip_eq_some]
      exact ⟨cel_in hi, cel_in h2⟩
    have e : (lessRow row base m)[i]? = some (cel row i - m * cel base i) := by
      unfold lessRow
      rw [List.getElem?_map, hz]
      rfl
    have h3 : i < (lessRow row base m).length := by rw [lessRow_len h]; exact hi
    have e2 := cel_in h3
    rw [e] at e2
    exact (Option.some.inj e2).symm
  · rw [cel_out (by rw [lessRow_len h]; omega), cel_out (by omega), cel_out (by omega)]
    simp
theorem row_ext {a b : List Int} (h : a.length = b.length) (e : ∀ i, i < a.length → cel a i = cel b i) : a = b := by
  apply List.ext_getElem? 
  intro i
  by_cases hi : i < a.length
  · rw [cel_in hi, cel_in (by omega), e i hi]
  · rw [List.getElem?_eq_none (by omega), List.getElem?_eq_none (by omega)]

/-! ### what rows make -/
abbrev Vec := Nat → Int
inductive Sp (rows : List (List Int)) : Vec → Prop
  | zero : Sp rows fun _ => 0
  | step {r : List Int} {v : Vec} (c : Int) : r ∈ rows → Sp rows v → Sp rows fun i => v i + c * cel r i
theorem Sp.eq {rows : List (List Int)} {v u : Vec} (h : Sp rows v) (e : ∀ i, v i = u i) : Sp rows u := by
  have : v = u := funext e
  rw [← this]
  exact h
theorem Sp.add {rows : List (List Int)} {v u : Vec} (h : Sp rows v) (k : Sp rows u) : Sp rows fun i => v i + u i := by
  induction k with
  | zero => exact h.eq fun i => by simp
  | step c m _ ih => exact (Sp.step c m ih).eq fun i => by dsimp only; omega
theorem Sp.smul {rows : List (List Int)} {v : Vec} (d : Int) (h : Sp rows v) : Sp rows fun i => d * v i := by
  induction h with
  | zero => exact Sp.zero.eq fun i => by simp
  | step c m _ ih => exact (Sp.step (d * c) m ih).eq fun i => by rw [Int.mul_add, Int.mul_assoc]
theorem Sp.sub {rows : List (List Int)} {v u : Vec} (h : Sp rows v) (k : Sp rows u) : Sp rows fun i => v i - u i := (h.add (k.smul (-1))).eq fun i => by omega
theorem Sp.mem {rows : List (List Int)} {r : List Int} (h : r ∈ rows) : Sp rows (cel r) := (Sp.step 1 h Sp.zero).eq fun i => by simp
theorem Sp.mono {rows rows' : List (List Int)} {v : Vec} (h : ∀ r ∈ rows, Sp rows' (cel r)) (k : Sp rows v) : Sp rows' v := by
  induction k with
  | zero => exact .zero
  | step c m _ ih => exact ih.add ((h _ m).smul c)
theorem Sp.sub_list {rows rows' : List (List Int)} {v : Vec} (h : ∀ r ∈ rows, r ∈ rows') (k : Sp rows v) : Sp rows' v := k.mono fun r m => .mem (h r m)
/-- what all rows have, closed under sums, has all that they make -/
theorem Sp.all {rows : List (List Int)} {P : Vec → Prop} (z : P fun _ => 0) (s : ∀ v u c, P v → P u → P fun i => v i + c * u i) (h : ∀ r ∈ rows, P (cel r)) {v : Vec} (k : Sp rows v) : P v := by
  induction k with
  | zero => exact z
  | step c m _ ih => exact s _ _ c ih (h _ m)
theorem Sp.zeroAt {rows : List (List Int)} {p : Nat} (h : ∀ r ∈ rows, cel r p = 0) {v : Vec} (k : Sp rows v) : v p = 0 := by
  refine Sp.all (P := fun v => v p = 0) rfl (fun v u c a b => ?_) h k
  show v p + c * u p = 0
  rw [a, b]; simp
theorem Sp.cons {h : List Int} {t : List (List Int)} {v : Vec} (k : Sp (h :: t) v) : ∃ c, Sp t fun i => v i - c * cel h i := by
  induction k with
  | zero => exact ⟨0, Sp.zero.eq fun i => by simp⟩
  | @step r v c m _ ih =>
    obtain ⟨d, ih⟩ := ih
    rcases List.mem_cons.mp m with e | e
    · subst e
      refine ⟨d + c, ih.eq fun i => ?_⟩
      dsimp only
      rw [Int.add_mul]; omega
    · exact ⟨d, (Sp.step c e ih).eq fun i => by dsimp only; omega⟩
theorem Sp.cons' {h : List Int} {t : List (List Int)} {v : Vec} {c : Int} (k : Sp t fun i => v i - c * cel h i) : Sp (h :: t) v :=
  (Sp.step c List.mem_cons_self (k.sub_list fun r m => List.mem_cons_of_mem _ m)).eq fun i => by omega
/-- they make the same -/
def Same (a b : List (List Int)) : Prop := ∀ v, Sp a v ↔ Sp b v
theorem Same.of {a b : List (List Int)} (h : ∀ r ∈ a, Sp b (cel r)) (k : ∀ r ∈ b, Sp a (cel r)) : Same a b := fun _ => ⟨fun z => z.mono h, fun z => z.mono k⟩
theorem Same.refl (a : List (List Int)) : Same a a := fun _ => Iff.rfl
theorem Same.symm {a b : List (List Int)} (h : Same a b) : Same b a := fun v => (h v).symm
theorem Same.trans {a b c : List (List Int)} (h : Same a b) (k : Same b c) : Same a c := fun v => (h v).trans (k v)
theorem Same.perm {a b : List (List Int)} (h : ∀ r, r ∈ a ↔ r ∈ b) : Same a b := .of (fun r m => .mem ((h r).mp m)) fun r m => .mem ((h r).mpr m)
theorem Same.app {a b c d : List (List Int)} (h : Same a b) (k : Same c d) : Same (a ++ c) (b ++ d) := by
  refine .of (fun r m => ?_) fun r m => ?_
  · rcases List.mem_append.mp m with q | q
    · exact ((h _).mp (.mem q)).sub_list fun _ z => List.mem_append_left _ z
    · exact ((k _).mp (.mem q)).sub_list fun _ z => List.mem_append_right _ z
  · rcases List.mem_append.mp m with q | q
    · exact ((h _).mpr (.mem q)).sub_list fun _ z => List.mem_append_left _ z
    · exact ((k _).mpr (.mem q)).sub_list fun _ z => List.mem_append_right _ z

/-! ### ladders -/
/-- heads with their places: from l on, each with noughts ahead, above 0 at its place; the ones ahead reduced by it -/
def Ech : Nat → List (List Int × Nat) → Prop
  | _, [] => True
  | l, (h, p) :: t => l ≤ p ∧ (∀ i, i < p → cel h i = 0) ∧ 0 < cel h p ∧ (∀ q ∈ t, 0 ≤ cel h q.2 ∧ cel h q.2 < cel q.1 q.2) ∧ Ech (p + 1) t
abbrev rws (E : List (List Int × Nat)) : List (List Int) := E.map Prod.fst
theorem Ech.low : ∀ {E : List (List Int × Nat)} {l : Nat}, Ech l E → ∀ q ∈ E, l ≤ q.2 ∧ (∀ i, i < q.2 → cel q.1 i = 0) ∧ 0 < cel q.1 q.2
  | [], _, _, q, m => by cases m
  | (h, p) :: t, l, ⟨a, b, c, d, e⟩, q, m => by
    rcases List.mem_cons.mp m with z | z
    · subst z
      exact ⟨a, b, c⟩
    · obtain ⟨x, y⟩ := e.low q z
      exact ⟨by omega, y⟩
theorem Ech.zeroBelow {E : List (List Int × Nat)} {l : Nat} (h : Ech l E) {i : Nat} (hi : i < l) {v : Vec} (k : Sp (rws E) v) : v i = 0 :=
  k.zeroAt fun r m => by
    obtain ⟨q, hq, rfl⟩ := List.mem_map.mp m
    obtain ⟨a, b, _⟩ := h.low q hq
    exact b i (by omega)
/-- what noughts at all coordinates below n a ladder makes with rows of noughts there is made of these -/
theorem Ech.drop {n : Nat} {left : List (List Int)} (hl : ∀ r ∈ left, ∀ i, i < n → cel r i = 0) : ∀ {E : List (List Int × Nat)} {l : Nat}, Ech l E → (∀ q ∈ E, q.2 < n) → ∀ {v : Vec}, Sp (rws E ++ left) v → (∀ i, i < n → v i = 0) → Sp left v
  | [], _, _, _, v, k, _ => k
  | (h, p) :: t, l, e, hp, v, k, z => by
    obtain ⟨a, b, c, d, e'⟩ := e
    obtain ⟨c0, k2⟩ := Sp.cons (h := h) (t := rws t ++ left) k
    have hpn : p < n := hp (h, p) List.mem_cons_self
    have zp : (fun i => v i - c0 * cel h i) p = 0 := k2.zeroAt fun r m => by
      rcases List.mem_append.mp m with q | q
      · obtain ⟨x, hx, rfl⟩ := List.mem_map.mp q
        obtain ⟨y1, y2, _⟩ := e'.low x hx
        exact y2 p (by omega)
      · exact hl r q p hpn
    have zp : v p - c0 * cel h p = 0 := zp
    rw [z p hpn] at zp
    have c00 : c0 = 0 := by
      rcases Int.mul_eq_zero.mp (show c0 * cel h p = 0 by omega) with q | q
      · exact q
      · omega
    subst c00
    exact Ech.drop hl e' (fun q m => hp q (List.mem_cons_of_mem _ m)) (k2.eq (u := v) fun i => by simp) z
/-- small at all places and made of a ladder: noughts -/
theorem Ech.small {n : Nat} : ∀ {E : List (List Int × Nat)} {l : Nat}, Ech l E → ∀ {v : Vec}, Sp (rws E) v → (∀ q ∈ E, -(cel q.1 q.2) < v q.2 ∧ v q.2 < cel q.1 q.2) → ∀ i, v i = 0
  | [], _, _, v, k, _ => fun i => k.zeroAt (fun r m => by cases m)
  | (h, p) :: t, l, e, v, k, z => by
    obtain ⟨a, b, c, d, e'⟩ := e
    obtain ⟨c0, k2⟩ := Sp.cons (h := h) (t := rws t) k
    have zp : v p - c0 * cel h p = 0 := e'.zeroBelow (i := p) (by omega) k2
    obtain ⟨z1, z2⟩ := z (h, p) List.mem_cons_self
    have z1 : -(cel h p) < v p := z1
    have z2 : v p < cel h p := z2
    have e1 : v p = c0 * cel h p := by omega
    rw [e1] at z1 z2
    have c00 : c0 = 0 := by
      have l1 : -1 < c0 := by
        apply Int.lt_of_mul_lt_mul_right (a := cel h p) _ (by omega)
        omega
      have l2 : c0 < 1 := by
        apply Int.lt_of_mul_lt_mul_right (a := cel h p) _ (by omega)
        omega
      omega
    subst c00
    exact Ech.small (n := n) e' (k2.eq (u := v) fun i => by simp) fun q m => z q (List.mem_cons_of_mem _ m)
/-- one ladder for what rows make -/
theorem Ech.one {n : Nat} : ∀ {E G : List (List Int × Nat)} {l m : Nat}, Ech l E → Ech m G → (∀ q ∈ E, q.1.length = n) → (∀ q ∈ G, q.1.length = n) → Same (rws E) (rws G) → E = G
  | [], [], _, _, _, _, _, _, _ => rfl
  | [], (g, r) :: u, _, _, _, ⟨_, _, c, _, _⟩, _, _, s => by
    have h := ((s (cel g)).mpr (.mem (by simp))).zeroAt (p := r) (fun r m => by cases m)
    omega
  | (h, p) :: t, [], _, _, ⟨_, _, c, _, _⟩, _, _, _, s => by
    have h := ((s (cel h)).mp (.mem (by simp))).zeroAt (p := p) (fun r m => by cases m)
    omega
  | (h, p) :: t, (g, r) :: u, l, m, e1, e2, l1, l2, s => by
    obtain ⟨a1, b1, c1, d1, t1⟩ := id e1
    obtain ⟨a2, b2, c2, d2, t2⟩ := id e2
    -- the same place
    have hs : Sp (rws ((g, r) :: u)) (cel h) := (s _).mp (.mem (by simp))
    have gs : Sp (rws ((h, p) :: t)) (cel g) := (s _).mpr (.mem (by simp))
    have pr : p = r := by
      have x1 : ¬ p < r := fun q => by
        have : cel h p = 0 := hs.zeroAt fun y m => by
          obtain ⟨z, hz, rfl⟩ := List.mem_map.mp m
          rcases List.mem_cons.mp hz with w | w
          · subst w; exact b2 p q
          · obtain ⟨w1, w2, _⟩ := t2.low z w
            exact w2 p (by omega)
        omega
      have x2 : ¬ r < p := fun q => by
        have : cel g r = 0 := gs.zeroAt fun y m => by
          obtain ⟨z, hz, rfl⟩ := List.mem_map.mp m
          rcases List.mem_cons.mp hz with w | w
          · subst w; exact b1 r q
          · obtain ⟨w1, w2, _⟩ := t1.low z w
            exact w2 r (by omega)
        omega
      omega
    subst pr
    -- the same head
    obtain ⟨x, hx⟩ := Sp.cons hs
    obtain ⟨y, hy⟩ := Sp.cons gs
    have ex : cel h p - x * cel g p = 0 := t2.zeroBelow (i := p) (by omega) hx
    have ey : cel g p - y * cel h p = 0 := t1.zeroBelow (i := p) (by omega) hy
    have hp1 : 0 < x := by
      rcases Int.lt_or_le 0 x with q | q
      · exact q
      · have : x * cel g p ≤ 0 := Int.mul_nonpos_of_nonpos_of_nonneg q (by omega)
        omega
    have hp2 : 0 < y := by
      rcases Int.lt_or_le 0 y with q | q
      · exact q
      · have : y * cel h p ≤ 0 := Int.mul_nonpos_of_nonpos_of_nonneg q (by omega)
        omega
    have g1 : cel g p ≤ x * cel g p := by
      have := Int.mul_le_mul_of_nonneg_right (show (1 : Int) ≤ x by omega) (show 0 ≤ cel g p by omega)
      omega
    have g2 : cel h p ≤ y * cel h p := by
      have := Int.mul_le_mul_of_nonneg_right (show (1 : Int) ≤ y by omega) (show 0 ≤ cel h p by omega)
      omega
    have eh : cel h p = cel g p := by omega
    -- the rest makes the same
    have rest : Same (rws t) (rws u) := fun v => by
      constructor
      · intro k
        have v0 : v p = 0 := t1.zeroBelow (i := p) (by omega) k
        obtain ⟨d, hd⟩ := Sp.cons ((s v).mp (k.sub_list fun r m => List.mem_cons_of_mem _ m))
        have hd0 : v p - d * cel g p = 0 := t2.zeroBelow (i := p) (by omega) hd
        have d0 : d = 0 := by
          rcases Int.mul_eq_zero.mp (show d * cel g p = 0 by omega) with q | q
          · exact q
          · omega
        subst d0
        exact hd.eq fun i => by simp
      · intro k
        have v0 : v p = 0 := t2.zeroBelow (i := p) (by omega) k
        obtain ⟨d, hd⟩ := Sp.cons ((s v).mpr (k.sub_list fun r m => List.mem_cons_of_mem _ m))
        have hd0 : v p - d * cel h p = 0 := t1.zeroBelow (i := p) (by omega) hd
        have d0 : d = 0 := by
          rcases Int.mul_eq_zero.mp (show d * cel h p = 0 by omega) with q | q
          · exact q
          · omega
        subst d0
        exact hd.eq fun i => by simp
    have tu : t = u := Ech.one (n := n) t1 t2 (fun q m => l1 q (List.mem_cons_of_mem _ m)) (fun q m => l2 q (List.mem_cons_of_mem _ m)) rest
    subst tu
    -- h - g is made of the rest, and small
    have k : Sp (rws t) fun i => cel h i - cel g i := by
      have x1 : x = 1 := by
        have : x * cel g p = 1 * cel g p := by omega
        exact Int.eq_of_mul_eq_mul_right (by omega) this
      subst x1
      exact hx.eq fun i => by dsimp only; omega
    have z := Ech.small (n := n) t1 k fun q m => by
      obtain ⟨w1, w2⟩ := d1 q m
      obtain ⟨w3, w4⟩ := d2 q m
      show -(cel q.1 q.2) < cel h q.2 - cel g q.2 ∧ cel h q.2 - cel g q.2 < cel q.1 q.2
      exact ⟨by omega, by omega⟩
    have lh : h.length = n := l1 (h, p) List.mem_cons_self
    have lg : g.length = n := l2 (g, p) List.mem_cons_self
    have hg : h = g := row_ext (by rw [lh, lg]) fun i _ => by
      have z1 : cel h i - cel g i = 0 := z i
      omega
    rw [hg]
end HM
set_option linter.all false
set_option maxHeartbeats 1000000
/-! the program's own steps: least_at, alone_at, laddered as functions, and what holds of them -/
namespace HM

theorem cel_getD_mem {rows : List (List Int)} {i : Nat} (h : i < rows.length) : rows.getD i [] ∈ rows := by
  rw [List.getD_eq_getElem?_getD, List.getElem?_eq_getElem h]
  exact List.getElem_mem h
/-! ### least_at -/
def leastF (rows : List (List Int)) (p : Nat) (found : Nat) (x : List Int × Nat) : Nat := if (cel x.1 p).natAbs < (cel (rows.getD found []) p).natAbs then x.2 else found
def leastAt (rows : List (List Int)) (p : Nat) : Nat := rows.zipIdx.foldl (leastF rows p) 0
theorem least_fold {rows : List (List Int)} {p : Nat} : ∀ (l : List (List Int × Nat)) (a : Nat), a < rows.length → (∀ x ∈ l, rows[x.2]? = some x.1) →
    l.foldl (leastF rows p) a < rows.length ∧ (cel (rows.getD (l.foldl (leastF rows p) a) []) p).natAbs ≤ (cel (rows.getD a []) p).natAbs ∧ ∀ x ∈ l, (cel (rows.getD (l.foldl (leastF rows p) a) []) p).natAbs ≤ (cel x.1 p).natAbs
  | [], a, h, _ => ⟨h, Nat.le_refl _, fun _ m => by cases m⟩
  | x :: l, a, h, hx => by
    have hx0 := hx x List.mem_cons_self
    have ex : rows.getD x.2 [] = x.1 := by rw [List.getD_eq_getElem?_getD, hx0]; rfl
    have hl : x.2 < rows.length := (List.getElem?_eq_some_iff.mp hx0).1
    show (l.foldl (leastF rows p) (leastF rows p a x) < rows.length ∧ _)
    have hb : leastF rows p a x < rows.length := by
      unfold leastF
      split
      · exact hl
      · exact h
    obtain ⟨i1, i2, i3⟩ := least_fold l (leastF rows p a x) hb fun y m => hx y (List.mem_cons_of_mem _ m)
    have b1 : (cel (rows.getD (leastF rows p a x) []) p).natAbs ≤ (cel (rows.getD a []) p).natAbs ∧ (cel (rows.getD (leastF rows p a x) []) p).natAbs ≤ (cel x.1 p).natAbs := by
      unfold leastF
      split
      · rename_i q
        rw [ex]
        exact ⟨Nat.le_of_lt q, Nat.le_refl _⟩
      · rename_i q
        exact ⟨Nat.le_refl _, by omega⟩
    refine ⟨i1, Nat.le_trans i2 b1.1, fun y m => ?_⟩
    rcases List.mem_cons.mp m with e | e
    · subst e
      exact Nat.le_trans i2 b1.2
    · exact i3 y e
theorem zipIdx_get {rows : List (List Int)} {x : List Int × Nat} (h : x ∈ rows.zipIdx) : rows[x.2]? = some x.1 := List.mem_zipIdx_iff_getElem?.mp h
theorem least_ok {rows : List (List Int)} {p : Nat} (h : rows ≠ []) : leastAt rows p < rows.length ∧ ∀ r ∈ rows, (cel (rows.getD (leastAt rows p) []) p).natAbs ≤ (cel r p).natAbs := by
  have h0 : 0 < rows.length := List.length_pos_iff.mpr h
  obtain ⟨i1, _, i3⟩ := least_fold (p := p) rows.zipIdx 0 h0 fun x m => zipIdx_get m
  refine ⟨i1, fun r m => ?_⟩
  obtain ⟨j, hj⟩ := List.mem_iff_getElem?.mp m
  exact i3 (r, j) (List.mem_zipIdx_iff_getElem?.mpr hj)

/-! ### alone_at -/
def red (p : Nat) (base row : List Int) : List Int := lessRow row base ((cel row p).fdiv (cel base p))
def baseOf (p : Nat) (s : List (List Int)) : List Int := s.getD (leastAt s p) []
def restOf (p : Nat) (s : List (List Int)) : List (List Int) := s.take (leastAt s p) ++ s.drop (leastAt s p + 1)
def lateOf (p : Nat) (s : List (List Int)) : List (List Int) := (restOf p s).map (red p (baseOf p s))
def stepS (p : Nat) (s : List (List Int)) : List (List Int) := baseOf p s :: (lateOf p s).filter fun r => !decide (cel r p = 0)
def stepO (p : Nat) (s : List (List Int)) : List (List Int) := (lateOf p s).filter fun r => decide (cel r p = 0)
def mu (p : Nat) (s : List (List Int)) : Nat := (cel (baseOf p s) p).natAbs
def aloneGo (p : Nat) : Nat → List (List Int) → List (List Int) → List (List Int) × List (List Int)
  | 0, s, o => (s, o)
  | f + 1, s, o => if s.length ≤ 1 then (s, o) else aloneGo p f (stepS p s) (o ++ stepO p s)
def aloneAt (rows : List (List Int)) (p : Nat) : List Int × List (List Int) :=
  let r := aloneGo p (mu p rows) rows []
  (if 0 < cel (r.1.getD 0 []) p then r.1.getD 0 [] else (r.1.getD 0 []).map fun x => 0 - x, r.2)
theorem rest_mem {p : Nat} {s : List (List Int)} (h : s ≠ []) {r : List Int} : r ∈ s ↔ r = baseOf p s ∨ r ∈ restOf p s := by
  have hl := (least_ok (p := p) h).1
  have e : s = s.take (leastAt s p) ++ s.drop (leastAt s p) := (List.take_append_drop _ _).symm
  have e2 : s.drop (leastAt s p) = s[leastAt s p] :: s.drop (leastAt s p + 1) := List.drop_eq_getElem_cons hl
  have eb : baseOf p s = s[leastAt s p] := by
    unfold baseOf
    rw [List.getD_eq_getElem?_getD, List.getElem?_eq_getElem hl]
    rfl
  have e3 : s = s.take (leastAt s p) ++ baseOf p s :: s.drop (leastAt s p + 1) := by
    rw [eb, ← e2]
    exact e
  unfold restOf
  constructor
  · intro m
    rw [e3] at m
    rcases List.mem_append.mp m with q | q
    · exact .inr (List.mem_append_left _ q)
    · rcases List.mem_cons.mp q with z | z
      · exact .inl z
      · exact .inr (List.mem_append_right _ z)
  · intro m
    rw [e3]
    rcases m with q | q
    · rw [q]
      exact List.mem_append_right _ List.mem_cons_self
    · rcases List.mem_append.mp q with z | z
      · exact List.mem_append_left _ z
      · exact List.mem_append_right _ (List.mem_cons_of_mem _ z)
theorem rest_len {p : Nat} {s : List (List Int)} (h : s ≠ []) : (restOf p s).length + 1 = s.length := by
  have hl := (least_ok (p := p) h).1
  unfold restOf
  rw [List.length_append, List.length_take, List.length_drop]
  omega
theorem step_len {p : Nat} {s : List (List Int)} (h : s ≠ []) : (stepS p s).length + (stepO p s).length = s.length := by
  have l1 := rest_len (p := p) h
  unfold stepS stepO
  have l2 : ((lateOf p s).filter fun r => decide (cel r p = 0)).length + ((lateOf p s).filter fun r => !decide (cel r p = 0)).length = (lateOf p s).length := by
    generalize lateOf p s = l
    induction l with
    | nil => rfl
    | cons a l ih =>
      rw [List.filter_cons, List.filter_cons]
      cases decide (cel a p = 0) <;> simp <;> omega
  have l3 : (lateOf p s).length = (restOf p s).length := by unfold lateOf; rw [List.length_map]
  rw [List.length_cons]
  omega
/-- all are n long -/
def Len (n : Nat) (s : List (List Int)) : Prop := ∀ r ∈ s, r.length = n
theorem fmod_sub (x b : Int) : x - (x.fdiv b) * b = x.fmod b := by
  have := Int.mul_fdiv_add_fmod x b
  rw [Int.mul_comm] at this
  omega
theorem red_at {p n : Nat} {base row : List Int} (h1 : base.length = n) (h2 : row.length = n) : cel (red p base row) p = (cel row p).fmod (cel base p) := by
  unfold red
  rw [cel_lessRow (by omega), fmod_sub]
theorem red_len {p n : Nat} {base row : List Int} (h1 : base.length = n) (h2 : row.length = n) : (red p base row).length = n := by
  unfold red
  rw [lessRow_len (by omega), h2]
theorem fmod_np (x : Int) {b : Int} (h : b < 0) : x.fmod b ≤ 0 := by
  have e := Int.neg_fmod_neg x b
  have k := Int.fmod_nonneg_of_pos (-x) (show 0 < -b by omega)
  omega
theorem fmod_gt (x : Int) {b : Int} (h : b < 0) : b < x.fmod b := by
  have e := Int.neg_fmod_neg x b
  have k := Int.fmod_lt_of_pos (-x) (show 0 < -b by omega)
  omega
/-- |x fmod b| < |b| -/
theorem fmod_small {x b : Int} (hb : b ≠ 0) : (x.fmod b).natAbs < b.natAbs := by
  rcases Int.lt_or_gt_of_ne hb with q | q
  · have h1 := fmod_np x q
    have h2 := fmod_gt x q
    omega
  · have h1 := Int.fmod_nonneg_of_pos x q
    have h2 := Int.fmod_lt_of_pos x q
    omega
theorem step_same {p n : Nat} {s : List (List Int)} (h : s ≠ []) (hl : Len n s) : Same s (stepS p s ++ stepO p s) := by
  have hb : (baseOf p s).length = n := hl _ ((rest_mem h).mpr (.inl rfl))
  have late : ∀ r ∈ lateOf p s, r ∈ stepS p s ++ stepO p s := fun r m => by
    by_cases q : cel r p = 0
    · exact List.mem_append_right _ (List.mem_filter.mpr ⟨m, by simp [q]⟩)
    · exact List.mem_append_left _ (List.mem_cons_of_mem _ (List.mem_filter.mpr ⟨m, by simp [q]⟩))
  refine .of (fun r m => ?_) fun r m => ?_
  · rcases (rest_mem (p := p) h).mp m with q | q
    · rw [q]
      exact .mem (List.mem_append_left _ List.mem_cons_self)
    · have hr := hl r m
      have m2 : red p (baseOf p s) r ∈ stepS p s ++ stepO p s := late _ (List.mem_map_of_mem q)
      have mb : baseOf p s ∈ stepS p s ++ stepO p s := List.mem_append_left _ List.mem_cons_self
      refine ((Sp.mem m2).add ((Sp.mem mb).smul ((cel r p).fdiv (cel (baseOf p s) p)))).eq fun i => ?_
      unfold red
      rw [cel_lessRow (by omega)]
      omega
  · have key : r = baseOf p s ∨ r ∈ lateOf p s := by
      rcases List.mem_append.mp m with q | q
      · rcases List.mem_cons.mp q with z | z
        · exact .inl z
        · exact .inr (List.mem_filter.mp z).1
      · exact .inr (List.mem_filter.mp q).1
    rcases key with q | q
    · rw [q]
      exact .mem ((rest_mem h).mpr (.inl rfl))
    · obtain ⟨r0, m0, e⟩ := List.mem_map.mp q
      subst e
      have ms : r0 ∈ s := (rest_mem h).mpr (.inr m0)
      have hr := hl r0 ms
      have mb : baseOf p s ∈ s := (rest_mem h).mpr (.inl rfl)
      refine ((Sp.mem ms).sub ((Sp.mem mb).smul ((cel r0 p).fdiv (cel (baseOf p s) p)))).eq fun i => ?_
      unfold red
      rw [cel_lessRow (by omega)]
theorem step_Len {p n : Nat} {s : List (List Int)} (h : s ≠ []) (hl : Len n s) : Len n (stepS p s) ∧ Len n (stepO p s) := by
  have hb : (baseOf p s).length = n := hl _ ((rest_mem h).mpr (.inl rfl))
  have late : ∀ r ∈ lateOf p s, r.length = n := fun r m => by
    obtain ⟨r0, m0, e⟩ := List.mem_map.mp m
    subst e
    exact red_len hb (hl r0 ((rest_mem h).mpr (.inr m0)))
  refine ⟨fun r m => ?_, fun r m => late r (List.mem_filter.mp m).1⟩
  rcases List.mem_cons.mp m with q | q
  · rw [q]; exact hb
  · exact late r (List.mem_filter.mp q).1
def NZ (p : Nat) (s : List (List Int)) : Prop := ∀ r ∈ s, cel r p ≠ 0
theorem step_NZ {p : Nat} {s : List (List Int)} (h : s ≠ []) (hz : NZ p s) : NZ p (stepS p s) ∧ ∀ r ∈ stepO p s, cel r p = 0 := by
  refine ⟨fun r m => ?_, fun r m => by simpa using (List.mem_filter.mp m).2⟩
  rcases List.mem_cons.mp m with q | q
  · rw [q]; exact hz _ ((rest_mem h).mpr (.inl rfl))
  · simpa using (List.mem_filter.mp q).2
theorem step_ne {p : Nat} {s : List (List Int)} : stepS p s ≠ [] := by unfold stepS; exact List.cons_ne_nil _ _
theorem mu_pos {p : Nat} {s : List (List Int)} (h : s ≠ []) (hz : NZ p s) : 0 < mu p s := by
  have := hz _ ((rest_mem (p := p) h).mpr (.inl rfl))
  unfold mu
  omega
theorem step_mu {p n : Nat} {s : List (List Int)} (h : s ≠ []) (hl : Len n s) (hz : NZ p s) (h2 : 1 < (stepS p s).length) : mu p (stepS p s) < mu p s := by
  have hb : (baseOf p s).length = n := hl _ ((rest_mem h).mpr (.inl rfl))
  have nb : cel (baseOf p s) p ≠ 0 := hz _ ((rest_mem h).mpr (.inl rfl))
  unfold stepS at h2
  obtain ⟨r, m⟩ : ∃ r, r ∈ (lateOf p s).filter fun r => !decide (cel r p = 0) := by
    cases q : (lateOf p s).filter fun r => !decide (cel r p = 0) with
    | nil => rw [q] at h2; simp at h2
    | cons a l => exact ⟨a, List.mem_cons_self⟩
  have m1 := (List.mem_filter.mp m).1
  obtain ⟨r0, m0, e⟩ := List.mem_map.mp m1
  have ms : r ∈ stepS p s := List.mem_cons_of_mem _ m
  have l1 := (least_ok (p := p) (step_ne (s := s))).2 r ms
  have l2 : (cel r p).natAbs < (cel (baseOf p s) p).natAbs := by
    rw [← e, red_at hb (hl r0 ((rest_mem h).mpr (.inr m0)))]
    exact fmod_small nb
  unfold mu
  show (cel (baseOf p (stepS p s)) p).natAbs < _
  unfold baseOf at l1 ⊢
  unfold baseOf at l2
  omega

/-! sizes -/
def Bd (N : Nat) (s : List (List Int)) : Prop := ∀ r ∈ s, ∀ i, (cel r i).natAbs ≤ N
theorem Bd.mono {N N' : Nat} {s : List (List Int)} (h : Bd N s) (k : N ≤ N') : Bd N' s := fun r m i => Nat.le_trans (h r m i) k
/-- all of one sign at p -/
def Sg (p : Nat) (s : List (List Int)) : Prop := (∀ r ∈ s, 0 < cel r p) ∨ ∀ r ∈ s, cel r p < 0
/-- behind the first round -/
structure Lt (p M : Nat) (s o : List (List Int)) : Prop where
  ex : ∃ A B N : Nat, 0 < B ∧ B ≤ A ∧ N * A * B ≤ 6 * M ^ 3 ∧ Bd N (s ++ o) ∧ Sg p s ∧ (∃ f t, s = f :: t ∧ (cel f p).natAbs = B ∧ ∀ r ∈ t, (cel r p).natAbs < B ∧ (cel r p).natAbs + B ≤ A)
theorem red_bd {p n N Q : Nat} {base row : List Int} (h1 : base.length = n) (h2 : row.length = n) (hb : ∀ i, (cel base i).natAbs ≤ N) (hr : ∀ i, (cel row i).natAbs ≤ N) (hq : ((cel row p).fdiv (cel base p)).natAbs + 1 ≤ Q) (i : Nat) : (cel (red p base row) i).natAbs ≤ N * Q := by
  unfold red
  rw [cel_lessRow (by omega)]
  generalize (cel row p).fdiv (cel base p) = q at hq ⊢
  have a1 := hr i
  have a2 : (q * cel base i).natAbs ≤ q.natAbs * N := by
    rw [Int.natAbs_mul]
    exact Nat.mul_le_mul_left _ (hb i)
  have a3 : N * (q.natAbs + 1) ≤ N * Q := Nat.mul_le_mul_left _ hq
  have a4 : N * (q.natAbs + 1) = q.natAbs * N + N := by rw [Nat.mul_add, Nat.mul_comm, Nat.mul_one]
  omega
theorem div_up {a b Q : Nat} (hb : 0 < b) (h : a * b ≤ Q) : a ≤ Q / b := (Nat.le_div_iff_mul_le hb).mpr h
/-- x = q b + x', of one sign -/
theorem fdiv_sg {x b : Int} (h : (0 < x ∧ 0 < b) ∨ (x < 0 ∧ b < 0)) : (x.fdiv b).natAbs * b.natAbs + (x.fmod b).natAbs = x.natAbs ∧ (b.natAbs ≤ x.natAbs → 1 ≤ (x.fdiv b).natAbs) ∧ ((0 < b → 0 ≤ x.fmod b) ∧ (b < 0 → x.fmod b ≤ 0)) := by
  have e := Int.mul_fdiv_add_fmod x b
  rcases h with ⟨hx, hb⟩ | ⟨hx, hb⟩
  · have h1 := Int.fmod_nonneg_of_pos x hb
    have h2 := Int.fmod_lt_of_pos x hb
    have hq : 0 ≤ x.fdiv b := by rw [Int.fdiv_eq_ediv_of_nonneg _ (by omega)]; exact Int.ediv_nonneg (by omega) (by omega)
    have en : (b * x.fdiv b).natAbs = (x.fdiv b).natAbs * b.natAbs := by rw [Int.natAbs_mul, Nat.mul_comm]
    have nn : 0 ≤ b * x.fdiv b := Int.mul_nonneg (by omega) hq
    refine ⟨by omega, fun z => ?_, fun _ => h1, fun q => by omega⟩
    rcases Int.lt_or_le 0 (x.fdiv b) with q | q
    · omega
    · have : x.fdiv b = 0 := by omega
      rw [this] at e
      simp at e
      omega
  · have h1 := fmod_np x hb
    have h2 := fmod_gt x hb
    have hq : 0 ≤ x.fdiv b := by
      rcases Int.lt_or_le (x.fdiv b) 0 with q | q
      · have z : 0 < b * x.fdiv b := Int.mul_pos_of_neg_of_neg hb q
        have z2 : -b ≤ b * x.fdiv b := by
          have z3 : 0 ≤ b * (x.fdiv b + 1) := Int.mul_nonneg_of_nonpos_of_nonpos (by omega) (by omega)
          rw [Int.mul_add] at z3
          omega
        omega
      · exact q
    have en : (b * x.fdiv b).natAbs = (x.fdiv b).natAbs * b.natAbs := by rw [Int.natAbs_mul, Nat.mul_comm]
    have nn : b * x.fdiv b ≤ 0 := Int.mul_nonpos_of_nonpos_of_nonneg (by omega) hq
    refine ⟨by omega, fun z => ?_, fun q => by omega, fun _ => h1⟩
    rcases Int.lt_or_le 0 (x.fdiv b) with q | q
    · omega
    · have : x.fdiv b = 0 := by omega
      rw [this] at e
      simp at e
      omega
/-- of any signs -/
theorem fdiv_any {x b : Int} (hb : b ≠ 0) : (x.fdiv b).natAbs * b.natAbs ≤ x.natAbs + b.natAbs := by
  have e := Int.mul_fdiv_add_fmod x b
  have h := fmod_small (x := x) hb
  have en : (b * x.fdiv b).natAbs = (x.fdiv b).natAbs * b.natAbs := by rw [Int.natAbs_mul, Nat.mul_comm]
  omega
theorem mem_step {p : Nat} {s : List (List Int)} {r : List Int} (m : r ∈ stepS p s ++ stepO p s) : r = baseOf p s ∨ ∃ r0 ∈ restOf p s, r = red p (baseOf p s) r0 := by
  have key : r = baseOf p s ∨ r ∈ lateOf p s := by
    rcases List.mem_append.mp m with q | q
    · rcases List.mem_cons.mp q with z | z
      · exact .inl z
      · exact .inr (List.mem_filter.mp z).1
    · exact .inr (List.mem_filter.mp q).1
  rcases key with q | q
  · exact .inl q
  · obtain ⟨r0, m0, e⟩ := List.mem_map.mp q
    exact .inr ⟨r0, m0, e.symm⟩
theorem Lt.first {p n M : Nat} {s : List (List Int)} (h : s ≠ []) (hl : Len n s) (hz : NZ p s) (hb : Bd M s) : Lt p M (stepS p s) (stepO p s) := by
  have mb : baseOf p s ∈ s := (rest_mem h).mpr (.inl rfl)
  have lb := hl _ mb
  have nb := hz _ mb
  have least := (least_ok (p := p) h).2
  have bM := hb _ mb p
  generalize eb : (cel (baseOf p s) p).natAbs = b
  have b0 : 0 < b := by omega
  have hQ : ∀ r ∈ restOf p s, ((cel r p).fdiv (cel (baseOf p s) p)).natAbs + 1 ≤ 3 * M / b := fun r m => by
    have ms : r ∈ s := (rest_mem h).mpr (.inr m)
    have a1 := fdiv_any (x := cel r p) nb
    have a2 := hb r ms p
    rw [eb] at a1
    refine div_up b0 ?_
    rw [Nat.add_mul]
    have l1 : b ≤ (cel r p).natAbs := by
      have := least r ms
      show b ≤ _
      rw [← eb]
      exact this
    omega
  have hQ1 : 1 ≤ 3 * M / b := div_up b0 (by omega)
  refine ⟨2 * b, b, M * (3 * M / b), b0, by omega, ?_, fun r m i => ?_, ?_, baseOf p s, _, rfl, eb, fun r m => ?_⟩
  · have e1 : 3 * M / b * b ≤ 3 * M := Nat.div_mul_le_self _ _
    have e2 : M * (3 * M / b) * (2 * b) * b = M * (3 * M / b * b) * (2 * b) := by
      simp only [Nat.mul_assoc, Nat.mul_comm, Nat.mul_left_comm]
    rw [e2]
    have e3 : M * (3 * M / b * b) * (2 * b) ≤ M * (3 * M) * (2 * M) := Nat.mul_le_mul (Nat.mul_le_mul_left _ e1) (by omega)
    refine Nat.le_trans e3 (Nat.le_of_eq ?_)
    rw [Nat.pow_succ, Nat.pow_succ, Nat.pow_one]
    simp only [Nat.mul_assoc, Nat.mul_comm, Nat.mul_left_comm]
  · rcases mem_step m with q | ⟨r0, m0, q⟩
    · rw [q]
      exact Nat.le_trans (hb _ mb i) (Nat.le_mul_of_pos_right _ hQ1)
    · rw [q]
      have ms : r0 ∈ s := (rest_mem h).mpr (.inr m0)
      exact red_bd lb (hl r0 ms) (hb _ mb) (hb r0 ms) (hQ r0 m0) i
  · rcases Int.lt_or_gt_of_ne nb with q | q
    · refine .inr fun r m => ?_
      rcases List.mem_cons.mp m with z | z
      · rw [z]; exact q
      · obtain ⟨z1, z2⟩ := List.mem_filter.mp z
        obtain ⟨r0, m0, e⟩ := List.mem_map.mp z1
        have z2 : cel r p ≠ 0 := by simpa using z2
        have e2 : cel r p = (cel r0 p).fmod (cel (baseOf p s) p) := by rw [← e, red_at lb (hl r0 ((rest_mem h).mpr (.inr m0)))]
        have := fmod_np (cel r0 p) q
        omega
    · refine .inl fun r m => ?_
      rcases List.mem_cons.mp m with z | z
      · rw [z]; exact q
      · obtain ⟨z1, z2⟩ := List.mem_filter.mp z
        obtain ⟨r0, m0, e⟩ := List.mem_map.mp z1
        have z2 : cel r p ≠ 0 := by simpa using z2
        have e2 : cel r p = (cel r0 p).fmod (cel (baseOf p s) p) := by rw [← e, red_at lb (hl r0 ((rest_mem h).mpr (.inr m0)))]
        have := Int.fmod_nonneg_of_pos (cel r0 p) q
        omega
  · obtain ⟨z1, _⟩ := List.mem_filter.mp m
    obtain ⟨r0, m0, e⟩ := List.mem_map.mp z1
    have e2 : cel r p = (cel r0 p).fmod (cel (baseOf p s) p) := by rw [← e, red_at lb (hl r0 ((rest_mem h).mpr (.inr m0)))]
    have := fmod_small (x := cel r0 p) nb
    rw [e2]
    omega
theorem Lt.next {p n M : Nat} {s o : List (List Int)} (k : Lt p M s o) (hl : Len n s) (hz : NZ p s) (h2 : 1 < s.length) : Lt p M (stepS p s) (o ++ stepO p s) := by
  obtain ⟨A, B, N, B0, BA, hN, hb, hs, f, t, es, ef, ht⟩ := k
  have h : s ≠ [] := by rw [es]; exact List.cons_ne_nil _ _
  have mb : baseOf p s ∈ s := (rest_mem h).mpr (.inl rfl)
  have lb := hl _ mb
  have nb := hz _ mb
  have least := (least_ok (p := p) h).2
  have hbs : Bd N s := fun r m => hb r (List.mem_append_left _ m)
  generalize eb : (cel (baseOf p s) p).natAbs = b
  have b0 : 0 < b := by omega
  have least' : ∀ r ∈ s, b ≤ (cel r p).natAbs := fun r m => by rw [← eb]; exact least r m
  -- the base is not the first one
  obtain ⟨g, hg⟩ : ∃ g, g ∈ t := by
    cases q : t with
    | nil => rw [es, q] at h2; simp at h2
    | cons a l => exact ⟨a, List.mem_cons_self⟩
  have bB : b < B := Nat.lt_of_le_of_lt (least' g (by rw [es]; exact List.mem_cons_of_mem _ hg)) (ht g hg).1
  have hbt : b + B ≤ A := by
    have mb2 : baseOf p s ∈ f :: t := by rw [← es]; exact mb
    rcases List.mem_cons.mp mb2 with q | q
    · rw [q] at eb
      omega
    · have := (ht _ q).2
      rw [eb] at this
      exact this
  have hxB : ∀ r ∈ s, (cel r p).natAbs ≤ B := fun r m => by
    rw [es] at m
    rcases List.mem_cons.mp m with q | q
    · rw [q]; omega
    · exact Nat.le_of_lt (ht r q).1
  have hxA : ∀ r ∈ s, (cel r p).natAbs + b ≤ A := fun r m => by
    have := hxB r m
    omega
  have sg : ∀ r ∈ s, (0 < cel r p ∧ 0 < cel (baseOf p s) p) ∨ (cel r p < 0 ∧ cel (baseOf p s) p < 0) := fun r m => by
    rcases hs with q | q
    · exact .inl ⟨q r m, q _ mb⟩
    · exact .inr ⟨q r m, q _ mb⟩
  have hQ : ∀ r ∈ restOf p s, ((cel r p).fdiv (cel (baseOf p s) p)).natAbs + 1 ≤ A / b := fun r m => by
    have ms : r ∈ s := (rest_mem h).mpr (.inr m)
    obtain ⟨a1, _, _⟩ := fdiv_sg (sg r ms)
    rw [eb] at a1
    refine div_up b0 ?_
    rw [Nat.add_mul]
    have := hxA r ms
    omega
  have hQ1 : 1 ≤ A / b := div_up b0 (by omega)
  refine ⟨B, b, N * (A / b), b0, Nat.le_of_lt bB, ?_, fun r m i => ?_, ?_, baseOf p s, _, rfl, eb, fun r m => ?_⟩
  · have e1 : A / b * b ≤ A := Nat.div_mul_le_self _ _
    have e2 : N * (A / b) * B * b = N * (A / b * b) * B := by simp only [Nat.mul_assoc, Nat.mul_comm, Nat.mul_left_comm]
    rw [e2]
    exact Nat.le_trans (Nat.mul_le_mul_right _ (Nat.mul_le_mul_left _ e1)) hN
  · have key : r ∈ o ∨ r ∈ stepS p s ++ stepO p s := by
      rcases List.mem_append.mp m with q | q
      · exact .inr (List.mem_append_left _ q)
      · rcases List.mem_append.mp q with z | z
        · exact .inl z
        · exact .inr (List.mem_append_right _ z)
    rcases key with q | q
    · exact Nat.le_trans (hb r (List.mem_append_right _ q) i) (Nat.le_mul_of_pos_right _ hQ1)
    · rcases mem_step q with z | ⟨r0, m0, z⟩
      · rw [z]
        exact Nat.le_trans (hbs _ mb i) (Nat.le_mul_of_pos_right _ hQ1)
      · rw [z]
        have ms : r0 ∈ s := (rest_mem h).mpr (.inr m0)
        exact red_bd lb (hl r0 ms) (hbs _ mb) (hbs r0 ms) (hQ r0 m0) i
  · rcases hs with q | q
    · refine .inl fun r m => ?_
      rcases List.mem_cons.mp m with z | z
      · rw [z]; exact q _ mb
      · obtain ⟨z1, z2⟩ := List.mem_filter.mp z
        obtain ⟨r0, m0, e⟩ := List.mem_map.mp z1
        have z2 : cel r p ≠ 0 := by simpa using z2
        have e2 : cel r p = (cel r0 p).fmod (cel (baseOf p s) p) := by rw [← e, red_at lb (hl r0 ((rest_mem h).mpr (.inr m0)))]
        have := Int.fmod_nonneg_of_pos (cel r0 p) (q _ mb)
        omega
    · refine .inr fun r m => ?_
      rcases List.mem_cons.mp m with z | z
      · rw [z]; exact q _ mb
      · obtain ⟨z1, z2⟩ := List.mem_filter.mp z
        obtain ⟨r0, m0, e⟩ := List.mem_map.mp z1
        have z2 : cel r p ≠ 0 := by simpa using z2
        have e2 : cel r p = (cel r0 p).fmod (cel (baseOf p s) p) := by rw [← e, red_at lb (hl r0 ((rest_mem h).mpr (.inr m0)))]
        have := fmod_np (cel r0 p) (q _ mb)
        omega
  · obtain ⟨z1, _⟩ := List.mem_filter.mp m
    obtain ⟨r0, m0, e⟩ := List.mem_map.mp z1
    have ms : r0 ∈ s := (rest_mem h).mpr (.inr m0)
    have e2 : cel r p = (cel r0 p).fmod (cel (baseOf p s) p) := by rw [← e, red_at lb (hl r0 ms)]
    obtain ⟨a1, a2, _⟩ := fdiv_sg (sg r0 ms)
    rw [eb] at a1 a2
    have a3 := a2 (least' r0 ms)
    have a4 := fmod_small (x := cel r0 p) nb
    rw [eb] at a4
    have a5 := hxB r0 ms
    have a6 : 1 * b ≤ ((cel r0 p).fdiv (cel (baseOf p s) p)).natAbs * b := Nat.mul_le_mul_right _ a3
    rw [e2]
    omega
end HM
set_option linter.all false
set_option maxHeartbeats 1000000
namespace HM

/-! ### alone_at, whole -/
/-- what holds at each turn; rows0: what it began with -/
structure AI (p n M : Nat) (rows0 s o : List (List Int)) : Prop where
  ls : Len n s
  lo : Len n o
  nz : NZ p s
  zo : ∀ r ∈ o, cel r p = 0
  sm : Same rows0 (s ++ o)
  ne : s ≠ []
  ct : s.length + o.length = rows0.length
  bd : (s = rows0 ∧ o = [] ∧ Bd M s) ∨ Lt p M s o
theorem AI.start {p n M : Nat} {rows : List (List Int)} (h : rows ≠ []) (hl : Len n rows) (hz : NZ p rows) (hb : Bd M rows) : AI p n M rows rows [] :=
  ⟨hl, (fun _ m => nomatch m), hz, (fun _ m => nomatch m), by rw [List.append_nil]; exact .refl _, h, by simp, .inl ⟨rfl, rfl, hb⟩⟩
theorem AI.next {p n M : Nat} {rows0 s o : List (List Int)} (k : AI p n M rows0 s o) (h2 : 1 < s.length) : AI p n M rows0 (stepS p s) (o ++ stepO p s) := by
  obtain ⟨l1, l2⟩ := step_Len k.ne k.ls
  obtain ⟨z1, z2⟩ := step_NZ k.ne k.nz
  refine ⟨l1, fun r m => ?_, z1, fun r m => ?_, ?_, step_ne, ?_, .inr ?_⟩
  · rcases List.mem_append.mp m with q | q
    · exact k.lo r q
    · exact l2 r q
  · rcases List.mem_append.mp m with q | q
    · exact k.zo r q
    · exact z2 r q
  · refine k.sm.trans ?_
    have a := (step_same (p := p) k.ne k.ls).app (Same.refl o)
    refine a.trans (.perm fun r => ?_)
    simp only [List.mem_append]
    constructor
    · rintro ((q | q) | q)
      · exact .inl q
      · exact .inr (.inr q)
      · exact .inr (.inl q)
    · rintro (q | q | q)
      · exact .inl (.inl q)
      · exact .inr q
      · exact .inl (.inr q)
  · have a := step_len (p := p) k.ne
    have b := k.ct
    rw [List.length_append]
    omega
  · rcases k.bd with ⟨_, e2, e3⟩ | q
    · rw [e2]
      exact Lt.first k.ne k.ls k.nz e3
    · exact q.next k.ls k.nz h2
/-- all numbers are small all along -/
theorem AI.bound {p n M : Nat} {rows0 s o : List (List Int)} (hM : 0 < M) (k : AI p n M rows0 s o) : Bd (6 * M ^ 3) (s ++ o) := by
  rcases k.bd with ⟨e1, e2, e3⟩ | q
  · rw [e2, List.append_nil]
    refine e3.mono ?_
    have a : M ^ 1 ≤ M ^ 3 := Nat.pow_le_pow_right hM (by omega)
    rw [Nat.pow_one] at a
    omega
  · obtain ⟨A, B, N, B0, BA, hN, hb, _⟩ := q
    refine hb.mono ?_
    refine Nat.le_trans ?_ hN
    rw [Nat.mul_assoc]
    exact Nat.le_mul_of_pos_right _ (Nat.mul_pos (by omega) B0)
theorem go_end {p n M : Nat} {rows0 : List (List Int)} : ∀ (f : Nat) {s o : List (List Int)}, AI p n M rows0 s o → (1 < s.length → mu p s ≤ f) → ∃ h, (aloneGo p f s o).1 = [h] ∧ AI p n M rows0 [h] (aloneGo p f s o).2
  | 0, s, o, k, hf => by
    have l : ¬ 1 < s.length := fun q => by
      have a := hf q
      have b := mu_pos k.ne k.nz
      omega
    match s, k, l with
    | [], k, _ => exact absurd rfl k.ne
    | [h], k, _ => exact ⟨h, rfl, k⟩
    | _ :: _ :: _, _, l => simp at l
  | f + 1, s, o, k, hf => by
    unfold aloneGo
    by_cases l : s.length ≤ 1
    · rw [if_pos l]
      match s, k, l with
      | [], k, _ => exact absurd rfl k.ne
      | [h], k, _ => exact ⟨h, rfl, k⟩
      | _ :: _ :: _, _, l => simp at l
    · rw [if_neg l]
      refine go_end f (k.next (by omega)) fun q => ?_
      have a := hf (by omega)
      have b := step_mu k.ne k.ls k.nz q
      omega
/-- what alone_at tells -/
structure Alone (p n M : Nat) (rows : List (List Int)) (h : List Int) (o : List (List Int)) : Prop where
  lh : h.length = n
  lo : Len n o
  pos : 0 < cel h p
  zo : ∀ r ∈ o, cel r p = 0
  sm : Same rows (h :: o)
  ct : 1 + o.length = rows.length
  bh : ∀ i, (cel h i).natAbs ≤ 6 * M ^ 3
  bo : Bd (6 * M ^ 3) o
theorem cel_neg {h : List Int} (i : Nat) : cel (h.map fun x => 0 - x) i = 0 - cel h i := by
  unfold cel
  rw [List.getD_eq_getElem?_getD, List.getD_eq_getElem?_getD, List.getElem?_map]
  cases h[i]? with
  | none => rfl
  | some x => rfl
theorem alone_ok {p n M : Nat} {rows : List (List Int)} (hM : 0 < M) (h : rows ≠ []) (hl : Len n rows) (hz : NZ p rows) (hb : Bd M rows) : Alone p n M rows (aloneAt rows p).1 (aloneAt rows p).2 := by
  obtain ⟨g, eg, k⟩ := go_end (mu p rows) (AI.start h hl hz hb) fun _ => Nat.le_refl _
  have e1 : (aloneAt rows p).2 = (aloneGo p (mu p rows) rows []).2 := rfl
  have e2 : (aloneAt rows p).1 = if 0 < cel g p then g else g.map fun x => 0 - x := by
    show (if 0 < cel ((aloneGo p (mu p rows) rows []).1.getD 0 []) p then (aloneGo p (mu p rows) rows []).1.getD 0 [] else ((aloneGo p (mu p rows) rows []).1.getD 0 []).map fun x => 0 - x) = _
    rw [eg]
    rfl
  have lg : g.length = n := k.ls g List.mem_cons_self
  have ng : cel g p ≠ 0 := k.nz g List.mem_cons_self
  have bd := k.bound hM
  rw [e1, e2]
  have key : ∀ h, (h = g ∨ h = g.map fun x => 0 - x) → 0 < cel h p → Alone p n M rows h (aloneGo p (mu p rows) rows []).2 := by
    intro h hh hp
    refine ⟨?_, k.lo, hp, k.zo, ?_, ?_, fun i => ?_, fun r m => bd r (List.mem_append_right _ m)⟩
    · rcases hh with q | q
      · rw [q]; exact lg
      · rw [q, List.length_map]; exact lg
    · refine k.sm.trans ?_
      refine .of (fun r m => ?_) fun r m => ?_
      · rcases List.mem_append.mp m with q | q
        · have q : r = g := by simpa using q
          rcases hh with z | z
          · rw [q, z]; exact .mem List.mem_cons_self
          · refine ((Sp.mem (rows := h :: (aloneGo p (mu p rows) rows []).2) List.mem_cons_self).smul (-1)).eq fun i => ?_
            rw [z, cel_neg, q]; omega
        · exact .mem (List.mem_cons_of_mem _ q)
      · rcases List.mem_cons.mp m with q | q
        · rcases hh with z | z
          · rw [q, z]; exact .mem (List.mem_append_left _ List.mem_cons_self)
          · refine ((Sp.mem (rows := [g] ++ (aloneGo p (mu p rows) rows []).2) (r := g) (List.mem_append_left _ List.mem_cons_self)).smul (-1)).eq fun i => ?_
            rw [q, z, cel_neg]; omega
        · exact .mem (List.mem_append_right _ q)
    · have := k.ct
      simpa using this
    · have a := bd g (List.mem_append_left _ List.mem_cons_self) i
      rcases hh with q | q
      · rw [q]; exact a
      · rw [q, cel_neg]; omega
  by_cases q : 0 < cel g p
  · rw [if_pos q]
    exact key g (.inl rfl) q
  · rw [if_neg q]
    exact key _ (.inr rfl) (by rw [cel_neg]; omega)

/-! ### laddered -/
structure Lad where
  left : List (List Int)
  found : List (List Int)
  places : List Nat
def ladStep (s : Lad) (p : Nat) : Lad :=
  if s.left.filter (fun r => !decide (cel r p = 0)) = [] then s
  else
    let a := aloneAt (s.left.filter fun r => !decide (cel r p = 0)) p
    ⟨s.left.filter (fun r => decide (cel r p = 0)) ++ a.2, (s.found.map fun r => red p a.1 r) ++ [a.1], s.places ++ [p]⟩
def laddered (rows : List (List Int)) (wide : Nat) : Lad := (List.range wide).foldl ladStep ⟨rows, [], []⟩
def LB (M : Nat) : Nat → Nat
  | 0 => M
  | k + 1 => 6 * LB M k ^ 3
def FB (M : Nat) : Nat → Nat
  | 0 => 1
  | k + 1 => 13 * FB M k * LB M k ^ 3
theorem LB_pos {M : Nat} (h : 0 < M) : ∀ k, 0 < LB M k
  | 0 => h
  | k + 1 => Nat.mul_pos (by omega) (Nat.pow_pos (LB_pos h k))
theorem FB_pos {M : Nat} (h : 0 < M) : ∀ k, 0 < FB M k
  | 0 => Nat.one_pos
  | k + 1 => Nat.mul_pos (Nat.mul_pos (by omega) (FB_pos h k)) (Nat.pow_pos (LB_pos h k))
structure LI (n M : Nat) (rows : List (List Int)) (i : Nat) (s : Lad) : Prop where
  ll : Len n s.left
  lf : Len n s.found
  eq : s.found.length = s.places.length
  sm : Same rows (s.found ++ s.left)
  z : ∀ r ∈ s.left, ∀ j, j < i → cel r j = 0
  ech : Ech 0 (s.found.zip s.places)
  pl : ∀ p ∈ s.places, p < i
  ct : s.found.length + s.left.length = rows.length
  bl : Bd (LB M s.found.length) s.left
  bf : Bd (FB M s.found.length) s.found
theorem LI.start {n M : Nat} {rows : List (List Int)} (hl : Len n rows) (hb : Bd M rows) : LI n M rows 0 ⟨rows, [], []⟩ :=
  ⟨hl, (fun _ m => nomatch m), rfl, .refl _, fun _ _ j h => by omega, trivial, (fun _ m => nomatch m), by simp, hb, (fun _ m => nomatch m)⟩
theorem red_other {p n : Nat} {base row : List Int} (h1 : base.length = n) (h2 : row.length = n) {j : Nat} (h : cel base j = 0) : cel (red p base row) j = cel row j := by
  unfold red
  rw [cel_lessRow (by omega), h]
  simp
/-- a new head behind the others, which are reduced by it -/
theorem Ech.snoc {p n : Nat} {h : List Int} (hl : h.length = n) (hz : ∀ j, j < p → cel h j = 0) (hp : 0 < cel h p) : ∀ {E : List (List Int × Nat)} {l : Nat}, Ech l E → (∀ q ∈ E, q.2 < p ∧ q.1.length = n) → l ≤ p → Ech l ((E.map fun q => (red p h q.1, q.2)) ++ [(h, p)])
  | [], l, _, _, lp => ⟨lp, hz, hp, (fun _ m => nomatch m), trivial⟩
  | (g, q) :: t, l, ⟨a, b, c, d, e⟩, hx, lp => by
    obtain ⟨hq, hg⟩ := hx (g, q) List.mem_cons_self
    have hq : q < p := hq
    have hg : g.length = n := hg
    have sam : ∀ {r : List Int} {j : Nat}, r.length = n → j < p → cel (red p h r) j = cel r j := fun hr hj => red_other hl hr (hz _ hj)
    refine ⟨a, fun i hi => ?_, ?_, fun x m => ?_, ?_⟩
    · rw [sam hg (by omega)]; exact b i hi
    · rw [sam hg hq]; exact c
    · rcases List.mem_append.mp m with z | z
      · obtain ⟨y, hy, ey⟩ := List.mem_map.mp z
        obtain ⟨y1, y2⟩ := hx y (List.mem_cons_of_mem _ hy)
        subst ey
        show 0 ≤ cel (red p h g) y.2 ∧ cel (red p h g) y.2 < cel (red p h y.1) y.2
        rw [sam hg y1, sam y2 y1]
        exact d y hy
      · have z : x = (h, p) := by simpa using z
        subst z
        show 0 ≤ cel (red p h g) p ∧ cel (red p h g) p < cel h p
        rw [red_at hl hg]
        exact ⟨Int.fmod_nonneg_of_pos _ hp, Int.fmod_lt_of_pos _ hp⟩
    · exact Ech.snoc hl hz hp e (fun y m => hx y (List.mem_cons_of_mem _ m)) (by omega)
theorem LI.step {n M : Nat} {rows : List (List Int)} {i : Nat} {s : Lad} (hM : 0 < M) (k : LI n M rows i s) : LI n M rows (i + 1) (ladStep s i) := by
  unfold ladStep
  by_cases e : s.left.filter (fun r => !decide (cel r i = 0)) = []
  · rw [if_pos e]
    refine ⟨k.ll, k.lf, k.eq, k.sm, fun r m j hj => ?_, k.ech, fun p m => by have := k.pl p m; omega, k.ct, k.bl, k.bf⟩
    by_cases q : j = i
    · subst q
      have := List.filter_eq_nil_iff.mp e r m
      simpa using this
    · exact k.z r m j (by omega)
  · rw [if_neg e]
    have hl2 : Len n (s.left.filter fun r => !decide (cel r i = 0)) := fun r m => k.ll r (List.mem_filter.mp m).1
    have hz2 : NZ i (s.left.filter fun r => !decide (cel r i = 0)) := fun r m => by simpa using (List.mem_filter.mp m).2
    have hb2 : Bd (LB M s.found.length) (s.left.filter fun r => !decide (cel r i = 0)) := fun r m => k.bl r (List.mem_filter.mp m).1
    have A := alone_ok (LB_pos hM s.found.length) e hl2 hz2 hb2
    generalize aloneAt (s.left.filter fun r => !decide (cel r i = 0)) i = a at A
    obtain ⟨h, o⟩ := a
    -- all that is below i is noughts
    have zz : ∀ v, Sp (s.left.filter fun r => !decide (cel r i = 0)) v → ∀ j, j < i → v j = 0 := fun v kv j hj => kv.zeroAt fun r m => k.z r (List.mem_filter.mp m).1 j hj
    have hzh : ∀ j, j < i → cel h j = 0 := fun j hj => zz _ ((A.sm _).mpr (.mem List.mem_cons_self)) j hj
    have hzo : ∀ r ∈ o, ∀ j, j < i → cel r j = 0 := fun r m j hj => zz _ ((A.sm _).mpr (.mem (List.mem_cons_of_mem _ m))) j hj
    have lc : (s.left.filter fun r => decide (cel r i = 0)).length + (s.left.filter fun r => !decide (cel r i = 0)).length = s.left.length := by
      generalize s.left = l
      induction l with
      | nil => rfl
      | cons x l ih =>
        rw [List.filter_cons, List.filter_cons]
        cases decide (cel x i = 0) <;> simp <;> omega
    have act : 1 + o.length = (s.left.filter fun r => !decide (cel r i = 0)).length := A.ct
    have kct := k.ct
    show LI n M rows (i + 1) ⟨s.left.filter (fun r => decide (cel r i = 0)) ++ o, (s.found.map fun r => red i h r) ++ [h], s.places ++ [i]⟩
    have lfl : ((s.found.map fun r => red i h r) ++ [h]).length = s.found.length + 1 := by simp
    refine ⟨fun r m => ?_, fun r m => ?_, by simp [k.eq], ?_, fun r m j hj => ?_, ?_, fun p m => ?_, ?_, ?_, ?_⟩
    · rcases List.mem_append.mp m with q | q
      · exact k.ll r (List.mem_filter.mp q).1
      · exact A.lo r q
    · rcases List.mem_append.mp m with q | q
      · obtain ⟨r0, m0, e0⟩ := List.mem_map.mp q
        rw [← e0]
        exact red_len A.lh (k.lf r0 m0)
      · have q : r = h := by simpa using q
        rw [q]; exact A.lh
    · refine k.sm.trans ?_
      -- found, left against the reduced ones with the head, and the rest
      have s1 : Same (s.found ++ s.left) (s.found ++ (h :: ((s.left.filter fun r => decide (cel r i = 0)) ++ o))) := by
        refine (Same.refl s.found).app ?_
        have p1 : Same s.left ((s.left.filter fun r => decide (cel r i = 0)) ++ (s.left.filter fun r => !decide (cel r i = 0))) := .perm fun r => by
          simp only [List.mem_append, List.mem_filter]
          constructor
          · intro m
            by_cases q : cel r i = 0
            · exact .inl ⟨m, by simp [q]⟩
            · exact .inr ⟨m, by simp [q]⟩
          · rintro (q | q)
            · exact q.1
            · exact q.1
        refine p1.trans (((Same.refl _).app A.sm).trans (.perm fun r => ?_))
        simp only [List.mem_append, List.mem_cons]
        constructor
        · rintro (q | q | q)
          · exact .inr (.inl q)
          · exact .inl q
          · exact .inr (.inr q)
        · rintro (q | q | q)
          · exact .inr (.inl q)
          · exact .inl q
          · exact .inr (.inr q)
      refine s1.trans ?_
      have mh : h ∈ (((s.found.map fun r => red i h r) ++ [h]) ++ ((s.left.filter fun r => decide (cel r i = 0)) ++ o)) := List.mem_append_left _ (List.mem_append_right _ List.mem_cons_self)
      have mh' : h ∈ (s.found ++ (h :: ((s.left.filter fun r => decide (cel r i = 0)) ++ o))) := List.mem_append_right _ List.mem_cons_self
      refine .of (fun r m => ?_) fun r m => ?_
      · rcases List.mem_append.mp m with q | q
        · have m2 : red i h r ∈ (((s.found.map fun r => red i h r) ++ [h]) ++ ((s.left.filter fun r => decide (cel r i = 0)) ++ o)) := List.mem_append_left _ (List.mem_append_left _ (List.mem_map_of_mem q))
          refine ((Sp.mem m2).add ((Sp.mem mh).smul ((cel r i).fdiv (cel h i)))).eq fun j => ?_
          unfold red
          rw [cel_lessRow (by rw [k.lf r q, A.lh])]
          omega
        · rcases List.mem_cons.mp q with z | z
          · rw [z]; exact .mem mh
          · exact .mem (List.mem_append_right _ z)
      · rcases List.mem_append.mp m with q | q
        · rcases List.mem_append.mp q with z | z
          · obtain ⟨r0, m0, e0⟩ := List.mem_map.mp z
            have m1 : r0 ∈ (s.found ++ (h :: ((s.left.filter fun r => decide (cel r i = 0)) ++ o))) := List.mem_append_left _ m0
            rw [← e0]
            refine ((Sp.mem m1).sub ((Sp.mem mh').smul ((cel r0 i).fdiv (cel h i)))).eq fun j => ?_
            unfold red
            rw [cel_lessRow (by rw [k.lf r0 m0, A.lh])]
          · have z : r = h := by simpa using z
            rw [z]; exact .mem mh'
        · exact .mem (List.mem_append_right _ (List.mem_cons_of_mem _ q))
    · rcases List.mem_append.mp m with q | q
      · obtain ⟨q1, q2⟩ := List.mem_filter.mp q
        have q2 : cel r i = 0 := by simpa using q2
        by_cases z : j = i
        · rw [z]; exact q2
        · exact k.z r q1 j (by omega)
      · by_cases z : j = i
        · rw [z]; exact A.zo r q
        · exact hzo r q j (by omega)
    · have e3 : ((s.found.map fun r => red i h r) ++ [h]).zip (s.places ++ [i]) = ((s.found.zip s.places).map fun q => (red i h q.1, q.2)) ++ [(h, i)] := by
        rw [List.zip_append (by rw [List.length_map]; exact k.eq), List.zip_map_left]
        rfl
      show Ech 0 (((s.found.map fun r => red i h r) ++ [h]).zip (s.places ++ [i]))
      rw [e3]
      exact Ech.snoc A.lh hzh A.pos k.ech (fun q m => ⟨k.pl _ (List.of_mem_zip m).2, k.lf _ (List.of_mem_zip m).1⟩) (Nat.zero_le _)
    · rcases List.mem_append.mp m with q | q
      · have := k.pl p q
        omega
      · have q : p = i := by simpa using q
        omega
    · show ((s.found.map fun r => red i h r) ++ [h]).length + ((s.left.filter fun r => decide (cel r i = 0)) ++ o).length = rows.length
      rw [lfl, List.length_append]
      omega
    · show Bd (LB M ((s.found.map fun r => red i h r) ++ [h]).length) _
      rw [lfl]
      show Bd (6 * LB M s.found.length ^ 3) _
      intro r m j
      rcases List.mem_append.mp m with q | q
      · have a1 := k.bl r (List.mem_filter.mp q).1 j
        have a2 : LB M s.found.length ^ 1 ≤ LB M s.found.length ^ 3 := Nat.pow_le_pow_right (LB_pos hM _) (by omega)
        rw [Nat.pow_one] at a2
        omega
      · exact A.bo r q j
    · show Bd (FB M ((s.found.map fun r => red i h r) ++ [h]).length) _
      rw [lfl]
      show Bd (13 * FB M s.found.length * LB M s.found.length ^ 3) _
      have hbf : Bd (FB M s.found.length) s.found := k.bf
      have F0 := FB_pos hM s.found.length
      have C0 : 0 < LB M s.found.length ^ 3 := Nat.pow_pos (LB_pos hM _)
      have bh : ∀ i, (cel h i).natAbs ≤ 6 * LB M s.found.length ^ 3 := A.bh
      generalize FB M s.found.length = F at *
      generalize LB M s.found.length ^ 3 = C at *
      have FC : C ≤ F * C := Nat.le_mul_of_pos_left _ F0
      have FF : F ≤ F * C := Nat.le_mul_of_pos_right _ C0
      have e13 : 13 * F * C = 13 * (F * C) := Nat.mul_assoc _ _ _
      intro r m j
      rcases List.mem_append.mp m with q | q
      · obtain ⟨r0, m0, e0⟩ := List.mem_map.mp q
        rw [← e0]
        unfold red
        rw [cel_lessRow (by rw [k.lf r0 m0, A.lh])]
        have a1 := hbf r0 m0 j
        have a2 := hbf r0 m0 i
        have a3 := bh j
        have nb : cel h i ≠ 0 := by have : 0 < cel h i := A.pos; omega
        have a4 := fdiv_any (x := cel r0 i) nb
        have a5 : ((cel r0 i).fdiv (cel h i)).natAbs ≤ F + 1 := by
          have hb0 : 0 < (cel h i).natAbs := by omega
          have a2 : (cel r0 i).natAbs ≤ F := a2
          have : ((cel r0 i).fdiv (cel h i)).natAbs * (cel h i).natAbs ≤ (F + 1) * (cel h i).natAbs := by
            rw [Nat.add_mul, Nat.one_mul]
            have z : F ≤ F * (cel h i).natAbs := Nat.le_mul_of_pos_right _ hb0
            omega
          exact Nat.le_of_mul_le_mul_right this hb0
        have a6 : ((cel r0 i).fdiv (cel h i) * cel h j).natAbs ≤ (F + 1) * (6 * C) := by
          rw [Int.natAbs_mul]
          exact Nat.mul_le_mul a5 a3
        have a7 : (F + 1) * (6 * C) = 6 * (F * C) + 6 * C := by
          rw [Nat.add_mul, Nat.mul_left_comm]; omega
        omega
      · have q : r = h := by simpa using q
        rw [q]
        have := bh j
        omega
theorem lad_upto {n M : Nat} {rows : List (List Int)} (hM : 0 < M) (hl : Len n rows) (hb : Bd M rows) : ∀ i, LI n M rows i ((List.range i).foldl ladStep ⟨rows, [], []⟩)
  | 0 => LI.start hl hb
  | i + 1 => by
    rw [List.range_succ, List.foldl_append]
    exact (lad_upto hM hl hb i).step hM
theorem lad_ok {n M : Nat} {rows : List (List Int)} (hM : 0 < M) (hl : Len n rows) (hb : Bd M rows) (wide : Nat) : LI n M rows wide (laddered rows wide) := lad_upto hM hl hb wide
end HM
set_option linter.all false
set_option maxHeartbeats 1000000
/-! kernels, solutions, what is made -/
namespace HM

/-! ### sums -/
def sumF : Nat → (Nat → Int) → Int
  | 0, _ => 0
  | n + 1, g => g 0 + sumF n fun i => g (i + 1)
theorem sumF_congr : ∀ {n : Nat} {f g : Nat → Int}, (∀ i, i < n → f i = g i) → sumF n f = sumF n g
  | 0, _, _, _ => rfl
  | n + 1, f, g, h => by
    show f 0 + sumF n _ = g 0 + sumF n _
    rw [h 0 (by omega), sumF_congr fun i hi => h (i + 1) (by omega)]
theorem sumF_zero : ∀ {n : Nat} {f : Nat → Int}, (∀ i, i < n → f i = 0) → sumF n f = 0
  | 0, _, _ => rfl
  | n + 1, f, h => by
    show f 0 + sumF n _ = 0
    rw [h 0 (by omega), sumF_zero fun i hi => h (i + 1) (by omega)]
    rfl
theorem sumF_add : ∀ {n : Nat} {f g : Nat → Int}, sumF n (fun i => f i + g i) = sumF n f + sumF n g
  | 0, _, _ => rfl
  | n + 1, f, g => by
    show f 0 + g 0 + sumF n (fun i => f (i + 1) + g (i + 1)) = (f 0 + sumF n fun i => f (i + 1)) + (g 0 + sumF n fun i => g (i + 1))
    rw [sumF_add]; omega
theorem sumF_mul : ∀ {n : Nat} {c : Int} {f : Nat → Int}, sumF n (fun i => c * f i) = c * sumF n f
  | 0, c, _ => by show (0 : Int) = c * 0; simp
  | n + 1, c, f => by
    show c * f 0 + sumF n (fun i => c * f (i + 1)) = c * (f 0 + sumF n fun i => f (i + 1))
    rw [sumF_mul, Int.mul_add]
theorem sumF_delta : ∀ {n : Nat} {f : Nat → Int} {j : Nat}, j < n → sumF n (fun i => f i * (if i = j then 1 else 0)) = f j
  | 0, _, _, h => by omega
  | n + 1, f, 0, _ => by
    show f 0 * (if 0 = 0 then 1 else 0) + sumF n (fun i => f (i + 1) * (if i + 1 = 0 then 1 else 0)) = f 0
    rw [if_pos rfl, sumF_zero (fun i _ => by rw [if_neg (by omega)]; simp)]
    omega
  | n + 1, f, j + 1, h => by
    show f 0 * (if 0 = j + 1 then 1 else 0) + sumF n (fun i => f (i + 1) * (if i + 1 = j + 1 then 1 else 0)) = f (j + 1)
    rw [if_neg (by omega)]
    have e : sumF n (fun i => f (i + 1) * (if i + 1 = j + 1 then 1 else 0)) = sumF n (fun i => (fun k => f (k + 1)) i * (if i = j then 1 else 0)) := sumF_congr fun i _ => by
      by_cases q : i = j
      · rw [if_pos (by omega), if_pos q]
      · rw [if_neg (by omega), if_neg q]
    rw [e, sumF_delta (f := fun k => f (k + 1)) (show j < n by omega)]
    omega
/-- as the program reckons it -/
def dot (row v : List Int) : Int := ((row.zip v).map fun p => p.1 * p.2).sum
/-- by functions -/
def dv (w : Nat) (row v : Vec) : Int := sumF w fun i => row i * v i
theorem dot_eq : ∀ {row v : List Int} {w : Nat}, row.length ≤ w → dot row v = dv w (cel row) (cel v)
  | [], v, w, _ => by
    show (0 : Int) = sumF w _
    exact (sumF_zero fun i _ => by rw [cel_out (by simp)]; simp).symm
  | a :: r, [], w, _ => by
    show (0 : Int) = sumF w _
    exact (sumF_zero fun i _ => by rw [cel_out (row := []) (by simp)]; simp).symm
  | a :: r, b :: s, 0, h => by simp at h
  | a :: r, b :: s, w + 1, h => by
    show (List.map (fun p => p.1 * p.2) ((a, b) :: r.zip s)).sum = cel (a :: r) 0 * cel (b :: s) 0 + sumF w fun i => cel (a :: r) (i + 1) * cel (b :: s) (i + 1)
    rw [List.map_cons, List.sum_cons]
    have ih : dot r s = dv w (cel r) (cel s) := dot_eq (by simpa using h)
    exact congrArg (fun z => a * b + z) ih
theorem dv_lin {w : Nat} {row v u : Vec} {c : Int} : dv w row (fun i => v i + c * u i) = dv w row v + c * dv w row u := by
  unfold dv
  have e : sumF w (fun i => row i * (v i + c * u i)) = sumF w (fun i => row i * v i + c * (row i * u i)) := sumF_congr fun i _ => by
    rw [Int.mul_add, Int.mul_left_comm]
  rw [e, sumF_add, sumF_mul]
theorem dv_linL {w : Nat} {row r2 v : Vec} {c : Int} : dv w (fun i => row i + c * r2 i) v = dv w row v + c * dv w r2 v := by
  unfold dv
  have e : sumF w (fun i => (row i + c * r2 i) * v i) = sumF w (fun i => row i * v i + c * (r2 i * v i)) := sumF_congr fun i _ => by
    rw [Int.add_mul, Int.mul_assoc]
  rw [e, sumF_add, sumF_mul]
theorem dv_zero {w : Nat} {row : Vec} : dv w row (fun _ => 0) = 0 := sumF_zero fun i _ => by simp
theorem dv_congr {w : Nat} {row v u : Vec} (h : ∀ i, i < w → v i = u i) : dv w row v = dv w row u := sumF_congr fun i hi => by rw [h i hi]

/-! ### columns -/
def unitRows (w : Nat) : List (List Int) := (List.range w).map fun a => (List.range w).map fun p => if a = p then 1 else 0
def columns (rows units : List (List Int)) : List (List Int) := units.zipIdx.map fun p => (rows.map fun row => cel row p.2) ++ p.1
theorem unit_get {w j : Nat} (h : j < w) : (unitRows w)[j]? = some ((List.range w).map fun p => if j = p then 1 else 0) := by
  unfold unitRows
  rw [List.getElem?_map, List.getElem?_range h]
  rfl
theorem unit_len {w : Nat} : (unitRows w).length = w := by unfold unitRows; simp
/-- the column of a place -/
def colAt (rows : List (List Int)) (w j : Nat) : List Int := (rows.map fun row => cel row j) ++ (List.range w).map fun p => if j = p then 1 else 0
theorem col_mem {rows : List (List Int)} {w : Nat} {c : List Int} : c ∈ columns rows (unitRows w) ↔ ∃ j, j < w ∧ c = colAt rows w j := by
  unfold columns
  rw [List.mem_map]
  constructor
  · rintro ⟨x, hx, rfl⟩
    have h := List.mem_zipIdx_iff_getElem?.mp hx
    have hl : x.2 < w := by
      have := (List.getElem?_eq_some_iff.mp h).1
      rw [unit_len] at this
      exact this
    rw [unit_get hl] at h
    refine ⟨x.2, hl, ?_⟩
    unfold colAt
    rw [Option.some.inj h]
  · rintro ⟨j, hj, rfl⟩
    exact ⟨(_, j), List.mem_zipIdx_iff_getElem?.mpr (unit_get hj), rfl⟩
theorem col_count {rows : List (List Int)} {w : Nat} : (columns rows (unitRows w)).length = w := by
  unfold columns
  rw [List.length_map, List.length_zipIdx, unit_len]
theorem colAt_len {rows : List (List Int)} {w j : Nat} : (colAt rows w j).length = rows.length + w := by
  unfold colAt
  simp
theorem colAt_hi {rows : List (List Int)} {w j i : Nat} (h : i < rows.length) : cel (colAt rows w j) i = cel (rows.getD i []) j := by
  unfold colAt cel
  rw [List.getD_eq_getElem?_getD, List.getElem?_append_left (by simpa using h), List.getElem?_map, List.getD_eq_getElem?_getD (l := rows)]
  rw [List.getElem?_eq_getElem h]
  rfl
theorem colAt_lo {rows : List (List Int)} {w j i : Nat} (hj : j < w) : cel (colAt rows w j) (rows.length + i) = if i = j then 1 else 0 := by
  by_cases h : i < w
  · unfold colAt cel
    rw [List.getD_eq_getElem?_getD, List.getElem?_append_right (by simp)]
    rw [List.length_map, Nat.add_sub_cancel_left, List.getElem?_map, List.getElem?_range h]
    show (if j = i then (1 : Int) else 0) = _
    by_cases q : j = i
    · rw [if_pos q, if_pos q.symm]
    · rw [if_neg q, if_neg (fun z => q z.symm)]
  · rw [cel_out (by rw [colAt_len]; omega), if_neg (by omega)]
/-- the upper part is led to by the lower one -/
def LinP (rows : List (List Int)) (w : Nat) (u : Vec) : Prop := ∀ i, i < rows.length → u i = dv w (cel (rows.getD i [])) fun j => u (rows.length + j)
theorem LinP.cols {rows : List (List Int)} {w : Nat} {u : Vec} (k : Sp (columns rows (unitRows w)) u) : LinP rows w u := by
  refine Sp.all (P := LinP rows w) (fun i _ => ?_) (fun v u c a b i hi => ?_) (fun r m i hi => ?_) k
  · exact dv_zero.symm
  · show v i + c * u i = dv w _ fun j => v (rows.length + j) + c * u (rows.length + j)
    rw [dv_lin (v := fun j => v (rows.length + j)) (u := fun j => u (rows.length + j)), ← a i hi, ← b i hi]
  · obtain ⟨j, hj, rfl⟩ := col_mem.mp m
    rw [colAt_hi hi]
    unfold dv
    rw [sumF_congr (g := fun k => cel (rows.getD i []) k * (if k = j then 1 else 0)) fun k _ => by dsimp only; rw [colAt_lo hj], sumF_delta hj]
/-- a list with its sums ahead -/
def ext (rows : List (List Int)) (w : Nat) (x : Vec) : Vec := fun i => if i < rows.length then dv w (cel (rows.getD i [])) x else x (i - rows.length)
theorem ext_lin {rows : List (List Int)} {w : Nat} {x y : Vec} {c : Int} (i : Nat) : ext rows w (fun j => x j + c * y j) i = ext rows w x i + c * ext rows w y i := by
  unfold ext
  by_cases h : i < rows.length
  · rw [if_pos h, if_pos h, if_pos h, dv_lin]
  · rw [if_neg h, if_neg h, if_neg h]
theorem ext_unit {rows : List (List Int)} {w j : Nat} (hj : j < w) (i : Nat) : ext rows w (fun k => if k = j then 1 else 0) i = cel (colAt rows w j) i := by
  unfold ext
  by_cases h : i < rows.length
  · rw [if_pos h, colAt_hi h]
    unfold dv
    exact sumF_delta hj
  · rw [if_neg h]
    have e : i = rows.length + (i - rows.length) := by omega
    rw [show cel (colAt rows w j) i = cel (colAt rows w j) (rows.length + (i - rows.length)) by rw [← e], colAt_lo hj]
theorem ext_upto {rows : List (List Int)} {w : Nat} {x : Vec} : ∀ k, k ≤ w → Sp (columns rows (unitRows w)) (ext rows w fun j => if j < k then x j else 0)
  | 0, _ => by
    refine Sp.zero.eq fun i => ?_
    unfold ext
    by_cases h : i < rows.length
    · rw [if_pos h, dv_congr (u := fun _ => 0) (fun j _ => by rw [if_neg (by omega)]), dv_zero]
    · rw [if_neg h]
      show (0 : Int) = if i - rows.length < 0 then x (i - rows.length) else 0
      rw [if_neg (by omega)]
  | k + 1, h => by
    have ih := ext_upto (rows := rows) (w := w) (x := x) k (by omega)
    have m : colAt rows w k ∈ columns rows (unitRows w) := col_mem.mpr ⟨k, by omega, rfl⟩
    refine (Sp.step (x k) m ih).eq fun i => ?_
    rw [← ext_unit (by omega), ← ext_lin]
    unfold ext
    have e : ∀ j, ((if j < k then x j else 0) + x k * (if j = k then 1 else 0)) = if j < k + 1 then x j else 0 := fun j => by
      by_cases q : j < k
      · rw [if_pos q, if_neg (by omega), if_pos (by omega)]; simp
      · by_cases z : j = k
        · rw [if_neg q, if_pos z, if_pos (by omega), z]; simp
        · rw [if_neg q, if_neg z, if_neg (by omega)]; simp
    by_cases h : i < rows.length
    · rw [if_pos h, if_pos h]
      exact dv_congr fun j _ => e j
    · rw [if_neg h, if_neg h]
      exact e _
/-- noughts from w on -/
def Sup (w : Nat) (x : Vec) : Prop := ∀ j, w ≤ j → x j = 0
theorem ext_made {rows : List (List Int)} {w : Nat} {x : Vec} (h : Sup w x) : Sp (columns rows (unitRows w)) (ext rows w x) := by
  have e : (fun j => if j < w then x j else 0) = x := funext fun j => by
    by_cases q : j < w
    · rw [if_pos q]
    · rw [if_neg q, h j (by omega)]
  have k := ext_upto (rows := rows) (x := x) w (Nat.le_refl _)
  rw [e] at k
  exact k

/-! ### kernels -/
def Ker (rows : List (List Int)) (w : Nat) (x : Vec) : Prop := Sup w x ∧ ∀ r ∈ rows, dv w (cel r) x = 0
def kerOf (rows : List (List Int)) (w : Nat) : List (List Int) := (laddered ((laddered (columns rows (unitRows w)) rows.length).left.map fun r => r.drop rows.length) w).found
theorem cel_drop {r : List Int} {m j : Nat} : cel (r.drop m) j = cel r (m + j) := by
  unfold cel
  rw [List.getD_eq_getElem?_getD, List.getD_eq_getElem?_getD, List.getElem?_drop]
theorem Sp.drop {rows : List (List Int)} {m : Nat} {v : Vec} (k : Sp rows v) : Sp (rows.map fun r => r.drop m) fun j => v (m + j) := by
  induction k with
  | zero => exact .zero
  | @step r v c hm _ ih =>
    refine (Sp.step c (List.mem_map_of_mem (f := fun r : List Int => r.drop m) hm) ih).eq fun j => ?_
    rw [cel_drop]
theorem getD_mem {rows : List (List Int)} {r : List Int} (h : r ∈ rows) : ∃ i, i < rows.length ∧ rows.getD i [] = r := by
  obtain ⟨i, hi⟩ := List.mem_iff_getElem?.mp h
  exact ⟨i, (List.getElem?_eq_some_iff.mp hi).1, by rw [List.getD_eq_getElem?_getD, hi]; rfl⟩
theorem cols_Len {rows : List (List Int)} {w : Nat} : Len (rows.length + w) (columns rows (unitRows w)) := fun c m => by
  obtain ⟨j, _, rfl⟩ := col_mem.mp m
  exact colAt_len
theorem cols_Bd {rows : List (List Int)} {w M : Nat} (h : Bd M rows) (hM : 0 < M) : Bd M (columns rows (unitRows w)) := fun c m i => by
  obtain ⟨j, hj, rfl⟩ := col_mem.mp m
  by_cases q : i < rows.length
  · rw [colAt_hi q]
    exact h _ (cel_getD_mem q) j
  · have e : i = rows.length + (i - rows.length) := by omega
    rw [e, colAt_lo hj]
    split <;> simp <;> omega
/-- what the first ladder leaves makes the kernel -/
theorem ker_left {rows : List (List Int)} {w M : Nat} (hM : 0 < M) (hb : Bd M rows) (x : Vec) : Sp ((laddered (columns rows (unitRows w)) rows.length).left.map fun r => r.drop rows.length) x ↔ Ker rows w x := by
  have L := lad_ok hM (cols_Len (rows := rows) (w := w)) (cols_Bd hb hM) rows.length
  generalize laddered (columns rows (unitRows w)) rows.length = s at L
  have ez : rws (s.found.zip s.places) = s.found := by
    unfold rws
    rw [List.map_fst_zip (by rw [L.eq]; exact Nat.le_refl _)]
  constructor
  · intro k
    have P : ∀ r ∈ s.left.map fun r => r.drop rows.length, Ker rows w (cel r) := fun r m => by
      obtain ⟨r0, m0, rfl⟩ := List.mem_map.mp m
      have lp := LinP.cols ((L.sm _).mpr (.mem (List.mem_append_right _ m0)))
      refine ⟨fun j hj => cel_out (by rw [List.length_drop, L.ll r0 m0]; omega), fun q hq => ?_⟩
      obtain ⟨i, hi, rfl⟩ := getD_mem hq
      have e := lp i hi
      rw [L.z r0 m0 i hi] at e
      rw [e]
      exact dv_congr fun j _ => cel_drop
    refine Sp.all (P := Ker rows w) ⟨fun _ _ => rfl, fun _ _ => dv_zero⟩ (fun v u c a b => ⟨fun j hj => ?_, fun r m => ?_⟩) P k
    · show v j + c * u j = 0
      rw [a.1 j hj, b.1 j hj]; simp
    · rw [dv_lin, a.2 r m, b.2 r m]; simp
  · intro k
    have k1 := (L.sm _).mp (ext_made (rows := rows) k.1)
    have z : ∀ i, i < rows.length → ext rows w x i = 0 := fun i hi => by
      unfold ext
      rw [if_pos hi]
      exact k.2 _ (cel_getD_mem hi)
    rw [← ez] at k1
    have k2 := L.ech.drop L.z (fun q m => L.pl _ (List.of_mem_zip m).2) k1 z
    refine k2.drop.eq fun j => ?_
    unfold ext
    rw [if_neg (by omega), Nat.add_sub_cancel_left]
theorem LB_add {M : Nat} (a : Nat) : ∀ b, LB (LB M a) b = LB M (a + b)
  | 0 => rfl
  | b + 1 => by
    show 6 * LB (LB M a) b ^ 3 = 6 * LB M (a + b) ^ 3
    rw [LB_add a b]
theorem FB_add {M : Nat} (a : Nat) : ∀ b, FB M a * FB (LB M a) b = FB M (a + b)
  | 0 => Nat.mul_one _
  | b + 1 => by
    show FB M a * (13 * FB (LB M a) b * LB (LB M a) b ^ 3) = 13 * FB M (a + b) * LB M (a + b) ^ 3
    rw [← FB_add a b, LB_add]
    simp only [Nat.mul_assoc, Nat.mul_left_comm]
theorem LB_mono {M : Nat} (h : 0 < M) {a b : Nat} (k : a ≤ b) : LB M a ≤ LB M b := by
  induction b with
  | zero =>
    have : a = 0 := by omega
    rw [this]; exact Nat.le_refl _
  | succ b ih =>
    by_cases q : a = b + 1
    · rw [q]; exact Nat.le_refl _
    · refine Nat.le_trans (ih (by omega)) ?_
      show _ ≤ 6 * LB M b ^ 3
      have : LB M b ^ 1 ≤ LB M b ^ 3 := Nat.pow_le_pow_right (LB_pos h b) (by omega)
      rw [Nat.pow_one] at this
      omega
theorem FB_mono {M : Nat} (h : 0 < M) {a b : Nat} (k : a ≤ b) : FB M a ≤ FB M b := by
  induction b with
  | zero =>
    have : a = 0 := by omega
    rw [this]; exact Nat.le_refl _
  | succ b ih =>
    by_cases q : a = b + 1
    · rw [q]; exact Nat.le_refl _
    · refine Nat.le_trans (ih (by omega)) ?_
      show _ ≤ 13 * FB M b * LB M b ^ 3
      have : FB M b ≤ FB M b * (13 * LB M b ^ 3) := Nat.le_mul_of_pos_right _ (Nat.mul_pos (by omega) (Nat.pow_pos (LB_pos h b)))
      have e : FB M b * (13 * LB M b ^ 3) = 13 * FB M b * LB M b ^ 3 := by simp only [Nat.mul_assoc, Nat.mul_left_comm, Nat.mul_comm]
      omega
/-- greater beginnings, greater bounds -/
theorem LB_le {M N : Nat} (h : M ≤ N) : ∀ k, LB M k ≤ LB N k
  | 0 => h
  | k + 1 => Nat.mul_le_mul_left _ (Nat.pow_le_pow_left (LB_le h k) 3)
theorem FB_le {M N : Nat} (h : M ≤ N) : ∀ k, FB M k ≤ FB N k
  | 0 => Nat.le_refl _
  | k + 1 => Nat.mul_le_mul (Nat.mul_le_mul_left _ (FB_le h k)) (Nat.pow_le_pow_left (LB_le h k) 3)
/-- the second ladder, of what the first one left -/
theorem ker_lad {rows : List (List Int)} {w M : Nat} (hM : 0 < M) (hb : Bd M rows) : ∃ k, k ≤ w ∧ (laddered (columns rows (unitRows w)) rows.length).left.length + k = w ∧ Len w ((laddered (columns rows (unitRows w)) rows.length).left.map fun r => r.drop rows.length) ∧
    Bd (LB M k) ((laddered (columns rows (unitRows w)) rows.length).left.map fun r => r.drop rows.length) := by
  have L := lad_ok hM (cols_Len (rows := rows) (w := w)) (cols_Bd hb hM) rows.length
  have c := L.ct
  rw [col_count] at c
  refine ⟨(laddered (columns rows (unitRows w)) rows.length).found.length, by omega, by omega, fun r m => ?_, fun r m i => ?_⟩
  · obtain ⟨r0, m0, rfl⟩ := List.mem_map.mp m
    rw [List.length_drop, L.ll r0 m0]; omega
  · obtain ⟨r0, m0, rfl⟩ := List.mem_map.mp m
    rw [cel_drop]
    exact L.bl r0 m0 _
theorem ker_ok {rows : List (List Int)} {w M : Nat} (hM : 0 < M) (hb : Bd M rows) : Len w (kerOf rows w) ∧ (∃ places : List Nat, (kerOf rows w).length = places.length ∧ Ech 0 ((kerOf rows w).zip places) ∧ ∀ p ∈ places, p < w) ∧ ∀ x, Sp (kerOf rows w) x ↔ Ker rows w x := by
  obtain ⟨k, _, _, l, b⟩ := ker_lad (w := w) hM hb
  have L := lad_ok (LB_pos hM k) l b w
  refine ⟨L.lf, ⟨_, L.eq, L.ech, L.pl⟩, fun x => ?_⟩
  rw [← ker_left hM hb]
  unfold kerOf
  rw [L.sm x]
  -- what is left are noughts
  constructor
  · exact fun z => z.sub_list fun _ m => List.mem_append_left _ m
  · intro z
    refine z.mono fun r m => ?_
    rcases List.mem_append.mp m with q | q
    · exact .mem q
    · refine Sp.zero.eq fun i => ?_
      by_cases h : i < w
      · exact (L.z r q i h).symm
      · exact (cel_out (by rw [L.ll r q]; omega)).symm
theorem zip_fst {a : List (List Int)} {b : List Nat} (h : a.length = b.length) : rws (a.zip b) = a := by
  unfold rws
  exact List.map_fst_zip (by rw [h]; exact Nat.le_refl _)
/-- rows of one kernel tell the same lists -/
theorem ker_one {rows rows' : List (List Int)} {w M M' : Nat} (hM : 0 < M) (hM' : 0 < M') (hb : Bd M rows) (hb' : Bd M' rows') (h : ∀ x, Ker rows w x ↔ Ker rows' w x) : kerOf rows w = kerOf rows' w := by
  obtain ⟨l1, ⟨p1, e1, c1, _⟩, s1⟩ := ker_ok (w := w) hM hb
  obtain ⟨l2, ⟨p2, e2, c2, _⟩, s2⟩ := ker_ok (w := w) hM' hb'
  have z := Ech.one (n := w) c1 c2 (fun q m => l1 _ (List.of_mem_zip m).1) (fun q m => l2 _ (List.of_mem_zip m).1) (by
    rw [zip_fst e1, zip_fst e2]
    exact fun v => (s1 v).trans ((h v).trans (s2 v).symm))
  have := congrArg rws z
  rw [zip_fst e1, zip_fst e2] at this
  exact this
end HM
set_option linter.all false
set_option maxHeartbeats 1000000
/-! solutions; what is made, by taking heads off -/
namespace HM

/-! ### fractions -/
def SzQ (q : Rat) : Prop := q.num.natAbs < 2 ^ 4000 ∧ q.den < 2 ^ 4000
def updR (l : List Rat) (s : Rat) (h : List Int) : List Rat := l.zipIdx.map fun y => y.1 - s * ((cel h y.2 : Int) : Rat)
def shareOf (l : List Rat) (h : List Int) (p : Nat) : Rat := l.getD p 0 / ((cel h p : Int) : Rat)
def shStep (st : List Rat × List Rat) (x : List Int × Nat) : List Rat × List Rat := (updR st.1 (shareOf st.1 x.1 x.2) x.1, st.2 ++ [shareOf st.1 x.1 x.2])
/-- the numbers on the way are small enough -/
def ShSz : List (List Int × Nat) → List Rat → Prop
  | [], _ => True
  | (h, p) :: t, l => (p < l.length ∧ l.length ≤ h.length ∧ cel h p ≠ 0) ∧ (∀ x ∈ l, SzQ x) ∧ SzQ (shareOf l h p) ∧ (∀ i, (cel h i).natAbs < 2 ^ 4000) ∧ (∀ i, SzQ (shareOf l h p * ((cel h i : Int) : Rat))) ∧ ShSz t (updR l (shareOf l h p) h)
theorem ShSz.at_ : ∀ {E : List (List Int × Nat)} {l : List Rat} {acc : List Rat} (i : Nat), ShSz E l → ShSz (E.drop i) ((E.take i).foldl shStep (l, acc)).1
  | _, _, _, 0, h => h
  | [], _, _, _ + 1, h => trivial
  | (h, p) :: t, l, acc, i + 1, k => ShSz.at_ (acc := acc ++ [shareOf l h p]) i k.2.2.2.2.2

/-! ### whole ones -/
def updI (l : List Int) (c : Int) (h : List Int) : List Int := l.zipIdx.map fun y => y.1 - c * cel h y.2
def csOf : List (List Int × Nat) → List Int → List Int
  | [], _ => []
  | (h, p) :: t, l => (cel l p).fdiv (cel h p) :: csOf t (updI l ((cel l p).fdiv (cel h p)) h)
def endOf : List (List Int × Nat) → List Int → List Int
  | [], l => l
  | (h, p) :: t, l => endOf t (updI l ((cel l p).fdiv (cel h p)) h)
abbrev toQ (l : List Int) : List Rat := l.map fun z => ((z : Int) : Rat)
theorem updI_len {l h : List Int} {c : Int} : (updI l c h).length = l.length := by unfold updI; simp
theorem cel_updI {l h : List Int} {c : Int} {i : Nat} (hi : i < l.length) : cel (updI l c h) i = cel l i - c * cel h i := by
  have e : (updI l c h)[i]? = some (cel l i - c * cel h i) := by
    unfold updI
    rw [List.getElem?_map, List.getElem?_zipIdx, cel_in hi]
    simp
  have e2 := cel_in (row := updI l c h) (i := i) (by rw [updI_len]; exact hi)
  rw [e] at e2
  exact (Option.some.inj e2).symm
theorem cast_mul_div {c h : Int} (hh : h ≠ 0) : (((c * h : Int) : Int) : Rat) / ((h : Int) : Rat) = ((c : Int) : Rat) := by
  rw [Rat.intCast_mul]
  refine Rat.mul_div_cancel ?_
  intro e
  exact hh (by exact_mod_cast e)
theorem toQ_get {l : List Int} {i : Nat} (h : i < l.length) : (toQ l).getD i 0 = ((cel l i : Int) : Rat) := by
  rw [List.getD_eq_getElem?_getD, List.getElem?_map, cel_in h]
  rfl
theorem upd_toQ {l h : List Int} {c : Int} : updR (toQ l) ((c : Int) : Rat) h = toQ (updI l c h) := by
  unfold updR updI toQ
  rw [List.zipIdx_map, List.map_map, List.map_map]
  apply List.map_congr_left
  intro x _
  show ((x.1 : Int) : Rat) - ((c : Int) : Rat) * ((cel h x.2 : Int) : Rat) = ((x.1 - c * cel h x.2 : Int) : Rat)
  rw [Rat.intCast_sub, Rat.intCast_mul]
/-- each head goes off wholly -/
def Ex : List (List Int × Nat) → List Int → Prop
  | [], _ => True
  | (h, p) :: t, l => p < l.length ∧ cel h p ≠ 0 ∧ cel l p = (cel l p).fdiv (cel h p) * cel h p ∧ Ex t (updI l ((cel l p).fdiv (cel h p)) h)
theorem Ex.fold : ∀ {E : List (List Int × Nat)} {l : List Int} {acc : List Rat}, Ex E l → E.foldl shStep (toQ l, acc) = (toQ (endOf E l), acc ++ toQ (csOf E l))
  | [], l, acc, _ => by show (toQ l, acc) = (toQ l, acc ++ []); rw [List.append_nil]
  | (h, p) :: t, l, acc, ⟨a, b, c, d⟩ => by
    have e : shareOf (toQ l) h p = (((cel l p).fdiv (cel h p) : Int) : Rat) := by
      unfold shareOf
      rw [toQ_get a]
      have z := cast_mul_div (c := (cel l p).fdiv (cel h p)) b
      rw [← c] at z
      exact z
    show t.foldl shStep (updR (toQ l) (shareOf (toQ l) h p) h, acc ++ [shareOf (toQ l) h p]) = (toQ (endOf t _), acc ++ toQ (_ :: csOf t _))
    rw [e, upd_toQ, Ex.fold d]
    show (_, acc ++ [_] ++ toQ (csOf t _)) = (_, acc ++ (_ :: toQ (csOf t _)))
    rw [List.append_assoc]
    rfl
theorem szI {z : Int} (h : z.natAbs < 2 ^ 4000) : SzQ ((z : Int) : Rat) := by
  refine ⟨?_, ?_⟩
  · rw [Rat.num_intCast]; exact h
  · rw [Rat.den_intCast]; exact Nat.one_lt_two_pow (Nat.succ_ne_zero 3999)
/-- sizes of whole ones -/
theorem Ex.sz {F : Nat} : ∀ {E : List (List Int × Nat)} {l : List Int} {G : Nat}, Ex E l → (∀ q ∈ E, l.length ≤ q.1.length ∧ ∀ i, (cel q.1 i).natAbs ≤ F) → (∀ i, (cel l i).natAbs ≤ G) → (1 + F) ^ E.length * (1 + G) * (1 + F) ≤ 2 ^ 4000 → ShSz E (toQ l)
  | [], _, _, _, _, _, _ => trivial
  | (h, p) :: t, l, G, ⟨a, b, c, d⟩, hF, hG, hz => by
    obtain ⟨lh, hh⟩ := hF (h, p) List.mem_cons_self
    have lh : l.length ≤ h.length := lh
    have hh : ∀ i, (cel h i).natAbs ≤ F := hh
    have e : shareOf (toQ l) h p = (((cel l p).fdiv (cel h p) : Int) : Rat) := by
      unfold shareOf
      rw [toQ_get a]
      have z := cast_mul_div (c := (cel l p).fdiv (cel h p)) b
      rw [← c] at z
      exact z
    have cG : ((cel l p).fdiv (cel h p)).natAbs ≤ G := by
      have z1 : (cel l p).natAbs = ((cel l p).fdiv (cel h p)).natAbs * (cel h p).natAbs := by
        rw [← Int.natAbs_mul, ← c]
      have z2 := hG p
      have z3 : 0 < (cel h p).natAbs := by omega
      have z4 := Nat.le_mul_of_pos_right ((cel l p).fdiv (cel h p)).natAbs z3
      omega
    have prod : ∀ i, ((cel l p).fdiv (cel h p) * cel h i).natAbs ≤ G * F := fun i => by
      rw [Int.natAbs_mul]
      exact Nat.mul_le_mul cG (hh i)
    -- the bound
    have hz1 : (1 + F) ^ (t.length + 1) * (1 + G) * (1 + F) ≤ 2 ^ 4000 := hz
    have hp1 : 1 ≤ (1 + F) ^ t.length := Nat.pow_pos (by omega)
    have hz2 : (1 + F) * (1 + G) * (1 + F) ≤ 2 ^ 4000 := by
      refine Nat.le_trans ?_ hz1
      rw [Nat.pow_succ]
      refine Nat.mul_le_mul_right _ (Nat.mul_le_mul_right _ ?_)
      exact Nat.le_mul_of_pos_left _ hp1
    have hz3 : (1 + F) * (1 + G) ≤ 2 ^ 4000 := Nat.le_trans (Nat.le_mul_of_pos_right _ (by omega)) hz2
    have e1 : (1 + F) * (1 + G) = 1 + G + F + G * F := by rw [Nat.add_mul, Nat.one_mul, Nat.mul_add, Nat.mul_one, Nat.mul_comm F G]; omega
    refine ⟨⟨by rw [List.length_map]; exact a, by rw [List.length_map]; exact lh, b⟩, fun x m => ?_, ?_, fun i => ?_, fun i => ?_, ?_⟩
    · obtain ⟨z, hz', rfl⟩ := List.mem_map.mp m
      obtain ⟨i, hi⟩ := List.mem_iff_getElem?.mp hz'
      have hil := (List.getElem?_eq_some_iff.mp hi).1
      rw [cel_in hil] at hi
      have := Option.some.inj hi
      have g := hG i
      rw [this] at g
      exact szI (by omega)
    · rw [e]; exact szI (by omega)
    · have := hh i; omega
    · rw [e, ← Rat.intCast_mul]
      have := prod i
      exact szI (by omega)
    · rw [e, upd_toQ]
      refine Ex.sz (F := F) (G := G + G * F) d (fun q m => ?_) (fun i => ?_) ?_
      · rw [updI_len]
        exact hF q (List.mem_cons_of_mem _ m)
      · by_cases hi : i < l.length
        · rw [cel_updI hi]
          have g1 := hG i
          have g2 := prod i
          omega
        · rw [cel_out (by rw [updI_len]; omega)]
          simp
      · refine Nat.le_trans ?_ hz1
        refine Nat.mul_le_mul_right _ ?_
        rw [Nat.pow_succ, Nat.mul_assoc]
        refine Nat.mul_le_mul_left _ ?_
        rw [e1]; omega
/-- the numbers of a ladder's heads for what it makes -/
theorem ex_of {n : Nat} {left : List (List Int)} (hl : ∀ r ∈ left, ∀ i, i < n → cel r i = 0) : ∀ {E : List (List Int × Nat)} {l0 : Nat} {l : List Int} {u : Vec}, Ech l0 E → (∀ q ∈ E, q.2 < n) → l.length = n → (∀ i, i < n → cel l i = u i) → Sp (rws E ++ left) u →
    Ex E l ∧ ∀ i, i < n → cel (endOf E l) i = 0
  | [], _, l, u, _, _, _, e, k => ⟨trivial, fun i hi => by
      show cel l i = 0
      rw [e i hi]
      exact Sp.zeroAt (fun r m => hl r m i hi) k⟩
  | (h, p) :: t, l0, l, u, ⟨a, b, c, d, t'⟩, hp, ll, e, k => by
    have hpn : p < n := hp (h, p) List.mem_cons_self
    obtain ⟨c0, k2⟩ := Sp.cons (h := h) (t := rws t ++ left) k
    have zp : u p - c0 * cel h p = 0 := Sp.zeroAt (p := p) (fun r m => by
      rcases List.mem_append.mp m with q | q
      · obtain ⟨x, hx, rfl⟩ := List.mem_map.mp q
        obtain ⟨y1, y2, _⟩ := t'.low x hx
        exact y2 p (by omega)
      · exact hl r q p hpn) k2
    have e1 : cel l p = c0 * cel h p := by rw [e p hpn]; omega
    have e2 : (cel l p).fdiv (cel h p) = c0 := by
      rw [e1, Int.fdiv_eq_ediv_of_nonneg _ (by omega)]
      exact Int.mul_ediv_cancel _ (by omega)
    have ih := ex_of hl (l := updI l c0 h) (u := fun i => u i - c0 * cel h i) t' (fun q m => hp q (List.mem_cons_of_mem _ m)) (by rw [updI_len]; exact ll) (fun i hi => by rw [cel_updI (by omega), e i hi]) k2
    refine ⟨⟨by omega, by omega, by rw [e2]; exact e1, by rw [e2]; exact ih.1⟩, fun i hi => ?_⟩
    show cel (endOf t (updI l ((cel l p).fdiv (cel h p)) h)) i = 0
    rw [e2]
    exact ih.2 i hi
/-! ### made -/
def madeStep (m : Nat) (found : List Int) (x : Int × List Int) : List Int := (found.zip (x.2.drop m)).map fun p => p.1 + x.1 * p.2
theorem cel_made {m w : Nat} {found : List Int} {c : Int} {h : List Int} (h1 : found.length = w) (h2 : h.length = m + w) (j : Nat) : (madeStep m found (c, h)).length = w ∧ cel (madeStep m found (c, h)) j = cel found j + c * cel h (m + j) := by
  have l1 : (h.drop m).length = w := by rw [List.length_drop]; omega
  have l2 : (madeStep m found (c, h)).length = w := by
    unfold madeStep
    rw [List.length_map, List.length_zip, l1, h1, Nat.min_self]
  refine ⟨l2, ?_⟩
  by_cases hj : j < w
  · have e : (madeStep m found (c, h))[j]? = some (cel found j + c * cel (h.drop m) j) := by
      unfold madeStep
      rw [List.getElem?_map, show (found.zip (h.drop m))[j]? = some (cel found j, cel (h.drop m) j) by
        rw [List.getElem?_zip_eq_some]
        exact ⟨cel_in (by omega), cel_in (by omega)⟩]
      rfl
    have e2 := cel_in (row := madeStep m found (c, h)) (i := j) (by omega)
    rw [e] at e2
    rw [← Option.some.inj e2, cel_drop]
  · rw [cel_out (by omega), cel_out (by omega), cel_out (by omega)]
    simp
/-- what is made of the heads by their numbers is led to what was taken off -/
theorem made_ok {rows : List (List Int)} {w : Nat} : ∀ {E : List (List Int × Nat)} {l found : List Int} {u : Vec}, Ex E l → (∀ q ∈ E, q.1.length = rows.length + w ∧ Sp (columns rows (unitRows w)) (cel q.1)) → l.length = rows.length → found.length = w →
    Sp (columns rows (unitRows w)) u → (∀ j, u (rows.length + j) = cel found j) →
    (((csOf E l).zip (rws E)).foldl (madeStep rows.length) found).length = w ∧ ∀ i, i < rows.length → dv w (cel (rows.getD i [])) (cel (((csOf E l).zip (rws E)).foldl (madeStep rows.length) found)) = u i + (cel l i - cel (endOf E l) i)
  | [], l, found, u, _, _, _, hf, k, e => ⟨hf, fun i hi => by
      show dv w _ (cel found) = u i + (cel l i - cel l i)
      have := LinP.cols k i hi
      rw [this, Int.sub_self, Int.add_zero]
      exact dv_congr fun j _ => (e j).symm⟩
  | (h, p) :: t, l, found, u, ⟨a, b, c, d⟩, hE, ll, hf, k, e => by
    obtain ⟨lh, kh⟩ := hE (h, p) List.mem_cons_self
    have lh : h.length = rows.length + w := lh
    have kh : Sp (columns rows (unitRows w)) (cel h) := kh
    have ih := made_ok (rows := rows) (w := w) (E := t) (l := updI l ((cel l p).fdiv (cel h p)) h) (found := madeStep rows.length found ((cel l p).fdiv (cel h p), h)) (u := fun i => u i + (cel l p).fdiv (cel h p) * cel h i) d
      (fun q m => hE q (List.mem_cons_of_mem _ m)) (by rw [updI_len]; exact ll) (cel_made hf lh 0).1 (k.add (kh.smul _)) (fun j => by rw [(cel_made hf lh j).2, ← e j])
    refine ⟨ih.1, fun i hi => ?_⟩
    have z := ih.2 i hi
    show dv w _ (cel ((((csOf t (updI l ((cel l p).fdiv (cel h p)) h)).zip (rws t)).foldl (madeStep rows.length) (madeStep rows.length found ((cel l p).fdiv (cel h p), h))))) = u i + (cel l i - cel (endOf t (updI l ((cel l p).fdiv (cel h p)) h)) i)
    rw [z, cel_updI (by omega)]
    omega
/-! ### by taking heads off -/
def offOf (steps : List (List Int × Nat)) (v : List Int) : List Int := steps.foldl (fun l q => red q.2 q.1 l) v
theorem off_iff {w : Nat} : ∀ {E : List (List Int × Nat)} {l : Nat} {v : List Int}, Ech l E → (∀ q ∈ E, q.1.length = w) → v.length = w → ((∀ x ∈ offOf E v, x = 0) ↔ Sp (rws E) (cel v))
  | [], _, v, _, _, _ => by
    show (∀ x ∈ v, x = 0) ↔ _
    constructor
    · intro h
      refine Sp.zero.eq fun i => ?_
      by_cases hi : i < v.length
      · exact (h _ (List.mem_of_getElem? (cel_in hi))).symm
      · exact (cel_out (by omega)).symm
    · intro k x m
      obtain ⟨i, hi⟩ := List.mem_iff_getElem?.mp m
      have hl := (List.getElem?_eq_some_iff.mp hi).1
      rw [cel_in hl] at hi
      rw [← Option.some.inj hi]
      exact k.zeroAt (p := i) fun r m => by cases m
  | (h, p) :: t, l, v, ⟨a, b, c, d, e⟩, hE, lv => by
    have lh : h.length = w := hE (h, p) List.mem_cons_self
    have ih := off_iff (v := red p h v) e (fun q m => hE q (List.mem_cons_of_mem _ m)) (red_len lh lv)
    show (∀ x ∈ offOf t (red p h v), x = 0) ↔ _
    rw [ih]
    have er : ∀ i, cel (red p h v) i = cel v i - (cel v p).fdiv (cel h p) * cel h i := fun i => by
      unfold red
      rw [cel_lessRow (by omega)]
    constructor
    · intro k
      exact Sp.cons' (c := (cel v p).fdiv (cel h p)) (k.eq er)
    · intro k
      obtain ⟨c0, k2⟩ := Sp.cons (h := h) (t := rws t) k
      have zp : cel v p - c0 * cel h p = 0 := e.zeroBelow (i := p) (by omega) k2
      have e2 : (cel v p).fdiv (cel h p) = c0 := by
        rw [show cel v p = c0 * cel h p by omega, Int.fdiv_eq_ediv_of_nonneg _ (by omega)]
        exact Int.mul_ediv_cancel _ (by omega)
      refine k2.eq fun i => ?_
      rw [er, e2]
end HM
set_option Elab.async false
set_option linter.all false
set_option maxRecDepth 100000
set_option maxHeartbeats 4000000
/-! the promises of the program's defs -/
namespace Dn
open PySem L2
/-- o.f = value, as a target -/
def gFld (K : PySem.W.Frag) (to : TE) (f : Str) : TG := fun v σ H Q => to σ H fun x H2 => ∃ a C dx fs, x = .ref a ∧ H2 a = some (.ins C dx fs) ∧ Cls K C ∧ NoAttr K C f ∧ fs.length < 1000 ∧ Q σ (upd H2 a (.ins C dx (putF f v fs)))
theorem pg_fld {X : Cx} {o : Expr} {to : TE} {f : Str} {pos : Pos} (ho : PE X o to)
    (ha : ∀ v, assign (.Attribute o f pos) X.env v = (do
      let ov ← holding [v] (eval o X.env)
      standAt pos.atName
      holding [v, ov] (setAttr ov f v)
      release [v, ov] []) := by intro _; rfl) : PG X (.Attribute o f pos) (gFld X.K to f) := by
  refine ⟨fun pins s σ H v u Q I r h => ?_⟩
  rw [ha]
  refine wpAny_bind (wpAny_holding (thn (ho.run pins s σ H _ I h) fun ov s1 ⟨x, H1, I1, r1, a, C, dx, fs, ex, ea, c, n, l, q⟩ => ?_))
  subst ex
  obtain rfl : ov = Value.ref a := r1
  refine wpAny_bind (wpAny_standAt (wpAny_bind (wpAny_holding (setattr_ok I1 ea c n l r fun s3 I3 => ?_))))
  exact wpAny_release ⟨σ, _, I3, q⟩
end Dn
namespace W
open PySem L2 Dn HM
def spNever : Sp := fun _ _ _ _ => False
abbrev cR (K : PySem.W.Frag) : Addr := He.ga K "Ratio"
abbrev cL (K : PySem.W.Frag) : Addr := He.ga K "Ladder"
/-- a Ratio -/
def pQ (K : PySem.W.Frag) (q : Rat) : RP := pO (cR K) [("own_top", pI q.num), ("own_bottom", pI (q.den : Int))]
abbrev pQs (K : PySem.W.Frag) (l : List Rat) : RP := pLm (pQ K) l
abbrev pNs (l : List Nat) : RP := pLm (fun n : Nat => pI (n : Int)) l
def pLd (K : PySem.W.Frag) (m : Nat) (s : Lad) : RP := pO (cL K) [("own_many", pI (m : Int)), ("own_heads", pIss s.found), ("own_places", pNs s.places), ("own_left", pIss s.left)]
/-! basics -/
def C_is_integer (K : PySem.W.Frag) (rs : List RP) (res : RP) : Prop := ∃ r t b1 b2, rs = [r] ∧ Kd K r t ∧ PySem.W.kitOne K t (.type "int") = some b1 ∧ (b1 = true → PySem.W.kitOne K t (.type "bool") = some b2) ∧ res = pB (b1 && !b2)
def C_is_count (K : PySem.W.Frag) (rs : List RP) (res : RP) : Prop := ∃ i : Int, rs = [pI i] ∧ res = pB (decide (0 ≤ i))
def C_is_list (K : PySem.W.Frag) (rs : List RP) (res : RP) : Prop := ∃ r t b, rs = [r] ∧ Kd K r t ∧ PySem.W.kitAny K t [.type "list", .type "tuple"] = some b ∧ res = pB b
def C_want_many (K : PySem.W.Frag) (rs : List RP) (res : RP) : Prop := ∃ i m l : Int, rs = [pI i, pI m, pI l] ∧ 0 ≤ i ∧ l ≤ i ∧ i ≤ m ∧ res = pNon
/-! ratios -/
def C_divisor_of (K : PySem.W.Frag) (rs : List RP) (res : RP) : Prop := ∃ a b : Int, rs = [pI a, pI b] ∧ res = pI ((Nat.gcd a.natAbs b.natAbs : Nat) : Int)
def C_Ratio_init (K : PySem.W.Frag) (rs : List RP) (fs : List (Str × RP)) : Prop := ∃ t b : Int, rs = [pI t, pI b] ∧ b ≠ 0 ∧ b.natAbs < 2 ^ 8999 ∧ fs = ([("own_top", pI (Rat.divInt t b).num), ("own_bottom", pI ((Rat.divInt t b).den : Int))] : List (Str × RP))
def C_Ratio_top (K : PySem.W.Frag) (rs : List RP) (res : RP) : Prop := ∃ q : Rat, rs = [pQ K q] ∧ res = pI q.num
def C_Ratio_bottom (K : PySem.W.Frag) (rs : List RP) (res : RP) : Prop := ∃ q : Rat, rs = [pQ K q] ∧ res = pI (q.den : Int)
def C_Ratio_sign (K : PySem.W.Frag) (rs : List RP) (res : RP) : Prop := ∃ q : Rat, rs = [pQ K q] ∧ res = pI q.num.sign
def C_Ratio_is_whole (K : PySem.W.Frag) (rs : List RP) (res : RP) : Prop := ∃ q : Rat, rs = [pQ K q] ∧ res = pB (decide (q.den = 1))
def C_told_pair (K : PySem.W.Frag) (rs : List RP) (res : RP) : Prop := (∃ i : Int, rs = [pI i] ∧ res = pT [pI i, pI 1]) ∨ ∃ q : Rat, rs = [pQ K q] ∧ res = pT [pI q.num, pI (q.den : Int)]
/-- a NUMBER: what is told, its worth -/
def Num (K : PySem.W.Frag) (r : RP) (q : Rat) : Prop := (∃ i : Int, r = pI i ∧ q = (i : Rat)) ∨ r = pQ K q
def C_Ratio_mul (K : PySem.W.Frag) (rs : List RP) (res : RP) : Prop := ∃ (a b : Rat) (r : RP), rs = [pQ K a, r] ∧ Num K r b ∧ SzQ a ∧ SzQ b ∧ res = pQ K (a * b)
def C_Ratio_sub (K : PySem.W.Frag) (rs : List RP) (res : RP) : Prop := ∃ (a b : Rat) (r : RP), rs = [pQ K a, r] ∧ Num K r b ∧ SzQ a ∧ SzQ b ∧ res = pQ K (a - b)
def C_Ratio_add (K : PySem.W.Frag) (rs : List RP) (res : RP) : Prop := ∃ (a b : Rat) (r : RP), rs = [pQ K a, r] ∧ Num K r b ∧ SzQ a ∧ SzQ b ∧ res = pQ K (a + b)
def C_Ratio_over (K : PySem.W.Frag) (rs : List RP) (res : RP) : Prop := ∃ (a b : Rat) (r : RP), rs = [pQ K a, r] ∧ Num K r b ∧ b ≠ 0 ∧ SzQ a ∧ SzQ b ∧ res = pQ K (a / b)
def C_Ratio_eq (K : PySem.W.Frag) (rs : List RP) (res : RP) : Prop := ∃ a b : Rat, rs = [pQ K a, pQ K b] ∧ res = pB (decide (a = b))
def C_is_number (K : PySem.W.Frag) (rs : List RP) (res : RP) : Prop := ∃ (q : Rat) (r : RP), rs = [r] ∧ Num K r q ∧ res = pB true
def C_ratio_of (K : PySem.W.Frag) (rs : List RP) (res : RP) : Prop := ∃ (q : Rat) (r : RP), rs = [r] ∧ Num K r q ∧ res = pQ K q
/-! ladders -/
/-- numbers of less than so many bits -/
def Small (b : Nat) (ns : List Int) : Prop := ∀ n ∈ ns, n.natAbs < 2 ^ b
def C_less_row (K : PySem.W.Frag) (rs : List RP) (res : RP) : Prop := ∃ row base m, rs = [pIs row, pIs base, pI m] ∧ res = pIs (lessRow row base m) ∧ row.length ≤ 100000 ∧ Small 100000 base ∧ m.natAbs < 2 ^ 100000
def C_least_at (K : PySem.W.Frag) (rs : List RP) (res : RP) : Prop := ∃ (rows : List (List Int)) (p n : Nat), rs = [pIss rows, pI (p : Int)] ∧ rows ≠ [] ∧ Len n rows ∧ p < n ∧ res = pI (leastAt rows p : Int)
/-- rows that may be led to heads -/
structure Fit (n M : Nat) (rows : List (List Int)) : Prop where
  pos : 0 < M
  len : Len n rows
  bd : Bd M rows
  ct : rows.length ≤ 1000
  nl : n ≤ 1000
def C_alone_at (K : PySem.W.Frag) (rs : List RP) (res : RP) : Prop := ∃ (rows : List (List Int)) (p n M : Nat), rs = [pIss rows, pI (p : Int)] ∧ Fit n M rows ∧ rows ≠ [] ∧ p < n ∧ NZ p rows ∧ 6 * M ^ 3 < 2 ^ 9000 ∧ res = pT [pIs (aloneAt rows p).1, pIss (aloneAt rows p).2]
def C_laddered (K : PySem.W.Frag) (rs : List RP) (res : RP) : Prop := ∃ (rows : List (List Int)) (wide n M : Nat), rs = [pIss rows, pI (wide : Int)] ∧ Fit n M rows ∧ wide ≤ n ∧ LB M rows.length < 2 ^ 9000 ∧ FB M rows.length < 2 ^ 90000 ∧
  res = pT [pIss (laddered rows wide).found, pNs (laddered rows wide).places, pIss (laddered rows wide).left]
def C_unit_rows (K : PySem.W.Frag) (rs : List RP) (res : RP) : Prop := ∃ n : Nat, rs = [pI (n : Int)] ∧ n ≤ 1000 ∧ res = pIss (unitRows n)
/-- rows of a system: w wide -/
structure Sys (w M : Nat) (rows : List (List Int)) : Prop where
  pos : 0 < M
  len : Len w rows
  bd : Bd M rows
  ct : rows.length ≤ 60
  wl : 1 ≤ w ∧ w ≤ 60
  lb : LB M w < 2 ^ 9000
  fb : FB M w < 2 ^ 90000
abbrev ladOf (rows : List (List Int)) (w : Nat) : Lad := laddered (columns rows (unitRows w)) rows.length
def C_Ladder_init (K : PySem.W.Frag) (rs : List RP) (fs : List (Str × RP)) : Prop := ∃ (rows : List (List Int)) (w M : Nat), rs = [pIss rows] ∧ Sys w M rows ∧ rows ≠ [] ∧ 
  fs = ([("own_many", pI (rows.length : Int)), ("own_heads", pIss (ladOf rows w).found), ("own_places", pNs (ladOf rows w).places), ("own_left", pIss (ladOf rows w).left)] : List (Str × RP))
def C_Ladder_shares (K : PySem.W.Frag) (rs : List RP) (res : RP) : Prop := ∃ (m : Nat) (s : Lad) (goals : List Rat), rs = [pLd K m s, pQs K goals] ∧ ShSz (s.found.zip s.places) goals ∧ goals.length ≤ 1000 ∧ s.found.length ≤ 1000 ∧ s.found.length = s.places.length ∧
  res = pT [pQs K ((s.found.zip s.places).foldl shStep (goals, [])).2, pQs K ((s.found.zip s.places).foldl shStep (goals, [])).1]
def C_Ladder_made (K : PySem.W.Frag) (rs : List RP) (res : RP) : Prop := ∃ (m w : Nat) (s : Lad) (cs : List Int), rs = [pLd K m s, pQs K (toQ cs)] ∧ Len (m + w) s.found ∧ m ≤ 1000 ∧ w ≤ 1000 ∧ s.found.length ≤ 1000 ∧ cs.length = s.found.length ∧ Small 4000 cs ∧ (∀ h ∈ s.found, Small 90000 h) ∧
  res = pIs (if s.found = [] then [] else (cs.zip s.found).foldl (madeStep m) (List.replicate w 0))
/-- where all shares are whole and nothing is left -/
def C_Ladder_bar (K : PySem.W.Frag) (rs : List RP) (res : RP) : Prop := ∃ (m : Nat) (s : Lad) (goals : List Rat), rs = [pLd K m s, pQs K goals] ∧ ShSz (s.found.zip s.places) goals ∧ goals.length ≤ 1000 ∧ s.found.length ≤ 1000 ∧ s.found.length = s.places.length ∧
  (∀ x ∈ ((s.found.zip s.places).foldl shStep (goals, [])).2, x.den = 1) ∧ (∀ x ∈ ((s.found.zip s.places).foldl shStep (goals, [])).1, x = 0) ∧ res = pNon
/-- goals that a list of whole numbers has -/
structure Had (rows : List (List Int)) (w M : Nat) (goals : List Int) (x : List Int) : Prop where
  sys : Sys w M rows
  ne : rows ≠ []
  xl : x.length = w
  gl : goals.length = rows.length
  g : ∀ i, i < rows.length → cel goals i = dv w (cel (rows.getD i [])) (cel x)
  sz : ∃ G, (∀ i, (cel goals i).natAbs ≤ G) ∧ (1 + FB M w) ^ w * (1 + G) * (1 + FB M w) ≤ 2 ^ 4000
/-- the solution that is told -/
def solOf (rows : List (List Int)) (w : Nat) (goals : List Int) : List Int :=
  if (ladOf rows w).found = [] then List.replicate w 0 else ((csOf ((ladOf rows w).found.zip (ladOf rows w).places) goals).zip (ladOf rows w).found).foldl (madeStep rows.length) (List.replicate w 0)
def C_solution_for (K : PySem.W.Frag) (rs : List RP) (res : RP) : Prop := ∃ (rows : List (List Int)) (w M : Nat) (goals x : List Int), rs = [pIss rows, pQs K (toQ goals)] ∧ Had rows w M goals x ∧ res = pIs (solOf rows w goals)
def C_bar_for (K : PySem.W.Frag) (rs : List RP) (res : RP) : Prop := ∃ (rows : List (List Int)) (w M : Nat) (goals x : List Int), rs = [pIss rows, pQs K (toQ goals)] ∧ Had rows w M goals x ∧ res = pNon
def C_kernel_for (K : PySem.W.Frag) (rs : List RP) (res : RP) : Prop := ∃ (rows : List (List Int)) (w M : Nat), rs = [pIss rows, pI (w : Int)] ∧ Sys w M rows ∧ res = pIss (kerOf rows w)
/-- rows of a width -/
structure Rw (w : Nat) (rows : List (List Int)) : Prop where
  len : Len w rows
  ct : rows.length ≤ 60
  wl : 1 ≤ w ∧ w ≤ 60
def C_are_whole_rows (K : PySem.W.Frag) (rs : List RP) (res : RP) : Prop := ∃ (rows : List (List Int)) (w : Nat), rs = [pIss rows] ∧ Rw w rows ∧ res = pB true
def C_want_whole_rows (K : PySem.W.Frag) (rs : List RP) (res : RP) : Prop := ∃ (rows : List (List Int)) (w : Nat) (l : Int), rs = [pIss rows, pI l] ∧ Rw w rows ∧ l ≤ (rows.length : Int) ∧ res = pIss rows
def C_want_goals (K : PySem.W.Frag) (rs : List RP) (res : RP) : Prop := ∃ (rows : List (List Int)) (goals : List Int), rs = [pIss rows, pIs goals] ∧ goals.length = rows.length ∧ rows.length ≤ 60 ∧ res = pQs K (toQ goals)
def C_whole_kernel (K : PySem.W.Frag) (rs : List RP) (res : RP) : Prop := ∃ (rows : List (List Int)) (w M : Nat), rs = [pIss rows, pI (w : Int)] ∧ Sys w M rows ∧ res = pIss (kerOf rows w)
def C_whole_solution (K : PySem.W.Frag) (rs : List RP) (res : RP) : Prop := ∃ (rows : List (List Int)) (w M : Nat) (goals x : List Int), rs = [pIss rows, pIs goals] ∧ Had rows w M goals x ∧ res = pIs (solOf rows w goals)
def C_whole_bar (K : PySem.W.Frag) (rs : List RP) (res : RP) : Prop := ∃ (rows : List (List Int)) (w M : Nat) (goals x : List Int), rs = [pIss rows, pIs goals] ∧ Had rows w M goals x ∧ res = pNon
def C_is_whole_solution (K : PySem.W.Frag) (rs : List RP) (res : RP) : Prop := ∃ (rows : List (List Int)) (w : Nat) (goals x : List Int), rs = [pIss rows, pIs goals, pIs x] ∧ Rw w rows ∧ rows ≠ [] ∧ x.length = w ∧ goals.length = rows.length ∧ (∀ r ∈ rows, Small 4000 r) ∧ Small 90000 x ∧
  res = pB (decide (rows.map (fun r => dot r x) = goals))
end W
set_option Elab.async false
set_option linter.all false
set_option maxRecDepth 100000
set_option maxHeartbeats 4000000
/-! == of lists of an own class's instances by their own ==, whatever it answers -/
namespace Oq
open PySem PySem.SeqAt
open AutoSeq1 (wpAny_loadPart')
open MeetsSeq MeetsSeq2 MeetsSeq3 SeqRoads2
section
variable {prog : Program} {w : World} {A : Around} {R : Result → Shared → Prop}
def ListJ (prog : Program) (w : World) (A : Around) (E : Value → Shared → Prop) (l b : Addr) (N : Nat) (e : Nat → Bool) (I : Shared → Prop) : Prop :=
  ∀ s, I s → ∃ (items items2 : Array Value) (n n2 : Nat), s.heap.get? l = some { cls := .type "list", data := .seq items n } ∧ s.heap.get? b = some { cls := .type "list", data := .seq items2 n2 } ∧ items.size = N ∧ items2.size = N ∧
    ∀ i (h1 : i < items.size) (h2 : i < items2.size), wpAny (model prog w) A.in1 (eqBool items[i] items2[i]) (fun r s' => r = e i ∧ I s') E s
theorem eq_loopJ (l b : Addr) (N : Nat) (e : Nat → Bool) (I : Shared → Prop) (hl : ListJ prog w A (fun e s' => R (.error e) s') l b N e I)
    (fin : ∀ s, I s → R (.ok (.ret (.bool ((List.range N).all e)))) s) (k : Nat) :
    ∀ i : Nat, N - i = k → i ≤ N → (∀ j, j < i → e j = true) → ∀ s, I s →
      wpAny (model prog w) A.in1 (Builtin.«list.__eq__.loop» ⟨[.ref l, .ref b, rawInt i, rawInt 2], []⟩) (GQ.FinOf prog w A R) (fun e s' => R (.error e) s') s := by
  induction k with
  | zero =>
    intro i hk hi hj s h
    obtain ⟨items, items2, n, n2, hl1, hb1, hs1, hs2, _⟩ := hl _ h
    have hi' : i = N := by omega
    have hall : (List.range N).all e = true := List.all_eq_true.mpr fun j m => hj j (by rw [hi']; exact List.mem_range.mp m)
    have hR : R (.ok (.ret (.bool true))) s := by
      have := fin s h
      rw [hall] at this
      exact this
    obtain ⟨hp, g, d, tk, os⟩ := s
    wp_walk using wpAny_loadPart' hl1, wpAny_loadPart' hb1
    have hi1 : items[((i : Nat) : Int).toNat]? = none := by simp; omega
    have hi2 : items2[((i : Nat) : Int).toNat]? = none := by simp; omega
    rw [hi1, hi2]
    wp_walk using wpAny_loadPart' hl1, wpAny_loadPart' hb1
    show R (.ok (.ret (.bool (items.size == items2.size)))) _
    rw [hs1, hs2]
    simpa using hR
  | succ k ih =>
    intro i hk hi hj s h
    obtain ⟨items, items2, n, n2, hl1, hb1, hs1, hs2, turn⟩ := hl _ h
    have hlt : i < items.size := by omega
    have hlt2 : i < items2.size := by omega
    have ht := turn i hlt hlt2
    obtain ⟨hp, g, d, tk, os⟩ := s
    wp_walk using wpAny_loadPart' hl1, wpAny_loadPart' hb1
    have hi1 : items[((i : Nat) : Int).toNat]? = some items[i] := by simp [hlt]
    have hi2 : items2[((i : Nat) : Int).toNat]? = some items2[i] := by simp [hlt2]
    have hc : ((i : Int) + 1) = ((i + 1 : Nat) : Int) := by omega
    rw [hi1, hi2]
    refine wpAny_bind (wpAny_mono ht (fun r s2 h2 => ?_) fun _ _ x => x)
    obtain ⟨hr, h2⟩ := h2
    cases hb' : e i with
    | true =>
      rw [hb'] at hr
      subst hr
      have hrec := ih (i + 1) (by omega) (by omega) (fun j m => by
        by_cases q : j = i
        · rw [q]; exact hb'
        · exact hj j (by omega)) s2 h2
      obtain ⟨hp2, g2, d2, tk2, os2⟩ := s2
      wp_walk
      rw [hc]
      exact ⟨plainId_quiet plain_eq_loop _, codeAny_builtin entry_eq_loop (by
        rw [Around.under_plainId plain_eq_loop _]
        exact hrec)⟩
    | false =>
      rw [hb'] at hr
      subst hr
      have hall : (List.range N).all e = false := by
        cases q : (List.range N).all e with
        | false => rfl
        | true =>
          have := List.all_eq_true.mp q i (List.mem_range.mpr (by omega))
          rw [hb'] at this
          cases this
      have hR : R (.ok (.ret (.bool false))) s2 := by
        have := fin s2 h2
        rw [hall] at this
        exact this
      obtain ⟨jtems, jtems2, m, m2, hm1, hn1, ht1, ht2, _⟩ := hl _ h2
      obtain ⟨hp2, g2, d2, tk2, os2⟩ := s2
      wp_walk using wpAny_loadPart' hm1, wpAny_loadPart' hn1
      have hj1 : jtems[((i : Nat) : Int).toNat]? = some jtems[i] := by simp [show i < jtems.size by omega]
      have hj2 : jtems2[((i : Nat) : Int).toNat]? = some jtems2[i] := by simp [show i < jtems2.size by omega]
      rw [hj1, hj2]
      wp_walk
      simpa using hR
theorem list_eqJ (l b : Addr) (N : Nat) (e : Nat → Bool) (I : Shared → Prop) (hl : ListJ prog w A (fun e s' => R (.error e) s') l b N e I)
    (fin : ∀ s, I s → R (.ok (.ret (.bool ((List.range N).all e)))) s) {s : Shared} (h : I s) :
    wpAny (model prog w) A.in1 (Builtin.«list.__eq__» ⟨[.ref l, .ref b], []⟩) (GQ.FinOf prog w A R) (fun e s' => R (.error e) s') s := by
  obtain ⟨items, items2, n, n2, hl1, hb1, hs1, hs2, _⟩ := hl _ h
  have hrec := eq_loopJ (A := A) (R := R) l b N e I hl fin _ 0 rfl (Nat.zero_le _) (fun j m => by omega) s h
  obtain ⟨hp, g, d, tk, os⟩ := s
  have f3 := AutoSeq1.sub_list_list
  have hne : ¬ (items.size != items2.size) = true := by simp [hs1, hs2]
  wp_walk using wpAny_loadPart' hl1, wpAny_loadPart' hb1
  exact ⟨plainId_quiet plain_eq_loop _, codeAny_builtin entry_eq_loop (by
    rw [Around.under_plainId plain_eq_loop _]
    exact hrec)⟩
end
section
variable {prog : Program} {w : World} {A : Around} {E : Value → Shared → Prop} {s : Shared}
theorem rc_listJ {l b : Addr} {N : Nat} {e : Nat → Bool} {Q : Value → Shared → Prop} (hu : A.units < cLine) (I : Shared → Prop) (hl : ListJ prog w A E l b N e I)
    (fin : ∀ s, I s → Q (.bool ((List.range N).all e)) s) (h : I s) : wpAny (model prog w) A (richCompare .Eq (.ref l) (.ref b)) Q E s := by
  obtain ⟨items, items2, n, n2, hl1, hb1, _, _, _⟩ := hl _ h
  refine wpAny_richCompare_same_room (op := .Eq) ⟨_, hl1, rfl⟩ ⟨_, hb1, rfl⟩ F.slot_list_eq (GQ.call_here F.slot_list_eq ⟨_, hl1, rfl⟩ F.entry_list_eq (F.args_list_eq_2 _ _) ?_) hu
  exact list_eqJ (R := wants (fun v s' => v ≠ .notImplemented ∧ Q v s') E) l b N e I hl (fun s' q => ⟨(fun x => nomatch x), fin s' q⟩) h
end
end Oq
namespace Dn
open PySem L2
/-- an own == -/
def EqC (P : Program) (w : World) (K : PySem.W.Frag) (mg : Str → Option Value) (base : Heap) (C : Addr) (k : Nat) (ps : List Str) (sp : Sp) : Prop :=
  ∃ f fd, PySem.W.findIn K (.ref C) "__eq__" = some (some (.ref f)) ∧ PySem.W.isFn K (.ref f) = true ∧ FnOk P w K mg base CX0 k f fd ps sp ∧ Binds K fd ps []
end Dn
namespace W
open PySem L2 Dn HM
theorem pQ_inj {K : PySem.W.Frag} {F : Hp} {v : V} {a b : Rat} (h : (pQ K a).R F v) (k : (pQ K b).R F v) : a = b := by
  obtain ⟨x, dx, us, e1, h1, v1⟩ := h
  obtain ⟨y, dy, ws, e2, h2, v2⟩ := k
  have ex : x = y := by rw [e1] at e2; injection e2
  subst ex
  rw [h1] at h2
  match us, v1, ws, v2 with
  | [u1, u2], ⟨a1, a2, _⟩, [w1, w2], ⟨b1, b2, _⟩ =>
    have a1 : u1 = .int a.num := a1
    have a2 : u2 = .int (a.den : Int) := a2
    have b1 : w1 = .int b.num := b1
    have b2 : w2 = .int (b.den : Int) := b2
    subst a1 a2 b1 b2
    injection h2 with h2
    injection h2 with _ _ h3
    injection h3 with h4 h5
    injection h4 with _ h6
    injection h6 with h6
    injection h5 with h7 _
    injection h7 with _ h8
    injection h8 with h8
    exact Rat.ext h6 (by omega)
def rEqQ (K : PySem.W.Frag) : R2 := fun x y H Q => ∃ F as bs, Same F H ∧ (pQs K as).R F x ∧ (pQs K bs).R F y ∧ as.length = bs.length ∧ ∀ F' H', Go0 F H F' H' → Same F' H' → Q (.bl (decide (as = bs))) H'
theorem opd_eqQ {K : PySem.W.Frag} {as bs : List Rat} (h : as.length = bs.length) : OpD (rEqQ K) (pQs K as) (pQs K bs) (pB (decide (as = bs))) := fun F H x y s hx hy Q q => ⟨F, as, bs, s, hx, hy, h, fun F' H' g s' => q _ F' H' g s' rfl⟩
section
variable {X : Cx} {f : Addr} {fd : FuncData} {k : Nat}
theorem item_eq (F0 : FnOk X.prog X.w X.K X.mg X.base CX0 k f fd ["self", "other"] (pureSp (C_Ratio_eq X.K))) (hs : PySem.W.findIn X.K (.ref (cR X.K)) "__eq__" = some (some (.ref f))) (hf : PySem.W.isFn X.K (.ref f) = true) (hb : Binds X.K fd ["self", "other"] [])
    {A : Around} (sb : L2.Sub X k A) {pins : List (Addr × Obj)} {s : Shared} {σ : L2.St} {F H : Hp} {x y : V} {u v : Value} {q1 q2 : Rat} (I : Inv X pins σ H s) (rx : RelV x u) (ry : RelV y v) (sm : Same F H) (hx : (pQ X.K q1).R F x) (hy : (pQ X.K q2).R F y) :
    wpAny (model X.prog X.w) A (eqBool u v) (fun r s' => r = decide (q1 = q2) ∧ ∃ F' H', Inv X pins σ H' s' ∧ Go0 F H F' H' ∧ Same F' H') X.xe s := by
  obtain ⟨a, dx, us, e1, h1, v1⟩ := id hx
  obtain ⟨b, dy, ws, e2, h2, v2⟩ := id hy
  subst e1 e2
  cases rx
  cases ry
  by_cases hab : a = b
  · subst hab
    have e := pQ_inj hx hy
    refine SeqAt.EqAt.same (A := A) (s := s) (.ref a) X.prog X.w X.xe _ ⟨?_, F, H, I, Go.refl F H, sm⟩
    rw [decide_eq_true e]
  · refine GQ.eqBool_refG hab ?_
    obtain ⟨mA, J, _⟩ := ins_get I.hok (sm _ _ h1)
    obtain ⟨mB, J', _⟩ := ins_get I.hok (sm _ _ h2)
    obtain ⟨od, J, _⟩ := J.look
    obtain ⟨od', J', _⟩ := J'.look
    obtain ⟨m, hF⟩ := I.fr
    refine PySem.W.cmp_K (op := .Eq) (tb := .ref (cR X.K)) sb.room.units0 hF I.ok.mod.kin J J'.type (by simp [PySem.W.notFirst]) hs hf ?_
    have hsp : pureSp (C_Ratio_eq X.K) [.ref a, .ref b] H (fun v H' => v = .bl (decide (q1 = q2)) ∧ ∃ F', Go0 F H F' H' ∧ Same F' H') E0 := ⟨F, _, _, ⟨q1, q2, rfl, rfl⟩, sm, ⟨hx, hy, trivial⟩, fun v F' H' g s' r => ⟨r, F', g, s'⟩⟩
    have e0 : Env0 X.prog X.w X.K X.mg X.base A X.stack s H := by
      have e := I.env0
      exact ⟨by rw [sb.fr]; exact e.frames, e.mod, e.bs, e.bsz, e.funs, e.frf, e.hok, e.bare⟩
    have r2 : Vals [V.ref a, V.ref b] [Value.ref a, Value.ref b] := .cons rfl (.cons rfl .nil)
    refine wpAny_call (codeAny_mono (F0.run A X.stack s H ⟨[.ref a, .ref b], []⟩ [.ref a, .ref b] [.ref a, .ref b] _ E0 sb.room e0 (by
      have := hb s [.ref a, .ref b] I.kIn (by rfl)
      simpa using this) r2 hsp) fun r s' hq => ?_)
    cases r with
    | error e => exact pass0 pins σ H s e s' I hq
    | ok fl =>
      cases fl with
      | ret w =>
        obtain ⟨z, H', I', rz, ez, F', g, s''⟩ := I.after hq
        subst ez
        cases rz
        exact ⟨_, rfl, rfl, F', H', I', g, s''⟩
      | next => exact False.elim hq
      | brk => exact False.elim hq
      | cont => exact False.elim hq
theorem op_eqQ (hs : PySem.W.findIn X.K (.ref (cR X.K)) "__eq__" = some (some (.ref f))) (hf : PySem.W.isFn X.K (.ref f) = true) (F0 : FnOk X.prog X.w X.K X.mg X.base CX0 k f fd ["self", "other"] (pureSp (C_Ratio_eq X.K))) (hr : Room (k + 1) X.A) (hb : Binds X.K fd ["self", "other"] []) :
    OpR X (compareOp .Eq) (rEqQ X.K) := by
  intro pins s σ H x y v u Q I rx ry hq
  obtain ⟨F, as, bs, sm, hx, hy, hl, q⟩ := hq
  obtain ⟨a, xs, e1, h1, v1⟩ := hx
  obtain ⟨b, ys, e2, h2, v2⟩ := hy
  subst e1 e2
  cases rx
  cases ry
  have sb : L2.Sub X (k + 1) X.A := ⟨hr, rfl⟩
  have l1 := v1.len
  have l2 := v2.len
  rw [List.length_map] at l1 l2
  show wpAny (model X.prog X.w) X.A (richCompare .Eq (.ref a) (.ref b)) (EP X pins σ Q) X.xe s
  have eall : (List.range as.length).all (fun i => decide (as.getD i 0 = bs.getD i 0)) = decide (as = bs) := by
    refine Bool.eq_iff_iff.mpr ?_
    rw [List.all_eq_true, decide_eq_true_iff]
    constructor
    · intro z
      refine List.ext_getElem hl fun i h1 h2 => ?_
      have := of_decide_eq_true (z i (List.mem_range.mpr h1))
      rw [List.getD_eq_getElem?_getD, List.getD_eq_getElem?_getD, List.getElem?_eq_getElem h1, List.getElem?_eq_getElem h2] at this
      exact this
    · rintro rfl i _
      exact decide_eq_true rfl
  refine Oq.rc_listJ (N := as.length) (e := fun i => decide (as.getD i 0 = bs.getD i 0)) sb.room.units0 (fun s' => ∃ F' H', Inv X pins σ H' s' ∧ Go0 F H F' H' ∧ Same F' H') (fun s' q' => ?_) (fun s' ⟨F', H', I', g, s2⟩ => ?_) ⟨F, H, I, Go.refl F H, sm⟩
  · obtain ⟨F1, H1, I1, g1, s1⟩ := id q'
    obtain ⟨z, its, k1, r, e⟩ := I1.hok a _ (s1 _ _ (g1.ff _ _ h1))
    obtain ⟨z2, its2, k2, r2, e2⟩ := I1.hok b _ (s1 _ _ (g1.ff _ _ h2))
    refine ⟨its.toArray, its2.toArray, k1, k2, e, e2, by rw [List.size_toArray, ← r.length, l1], by rw [List.size_toArray, ← r2.length, l2, hl], fun i i1 i2 => ?_⟩
    have g1' : its[i]? = some its.toArray[i] := by
      have h1' : i < its.length := by simpa using i1
      rw [List.getElem?_eq_getElem h1'] <;> simp
    have g2' : its2[i]? = some its2.toArray[i] := by
      have h2' : i < its2.length := by simpa using i2
      rw [List.getElem?_eq_getElem h2'] <;> simp
    have k1' : i < xs.length := by rw [r.length]; simpa using i1
    have k2' : i < ys.length := by rw [r2.length]; simpa using i2
    obtain ⟨u, hu, ru⟩ := r.get (List.getElem?_eq_getElem k1')
    obtain ⟨v, hv, rv⟩ := r2.get (List.getElem?_eq_getElem k2')
    rw [g1'] at hu
    rw [g2'] at hv
    rw [Option.some.inj hu, Option.some.inj hv]
    have m1 : (pQ X.K (as.getD i 0)).R F1 xs[i] := by
      obtain ⟨r0, e0, m⟩ := (v1.mono g1.ff).back (List.getElem?_eq_getElem k1')
      rw [List.getElem?_map, List.getElem?_eq_getElem (by omega)] at e0
      rw [List.getD_eq_getElem?_getD, List.getElem?_eq_getElem (by omega)]
      rw [← Option.some.inj e0] at m
      exact m
    have m2 : (pQ X.K (bs.getD i 0)).R F1 ys[i] := by
      obtain ⟨r0, e0, m⟩ := (v2.mono g1.ff).back (List.getElem?_eq_getElem k2')
      rw [List.getElem?_map, List.getElem?_eq_getElem (by omega)] at e0
      rw [List.getD_eq_getElem?_getD, List.getElem?_eq_getElem (by omega)]
      rw [← Option.some.inj e0] at m
      exact m
    refine wpAny_mono (item_eq F0 hs hf hb sb.in1 I1 ru rv s1 m1 m2) (fun r s3 q3 => ?_) fun _ _ x => x
    obtain ⟨er, F2, H2, I2, g2, s2⟩ := q3
    exact ⟨er, F2, H2, I2, g1.trans g2, s2⟩
  · rw [eall]
    exact ⟨.bl _, H', I', rfl, q F' H' g s2⟩
end
end W
set_option Elab.async false
set_option linter.all false
set_option maxRecDepth 100000
set_option maxHeartbeats 4000000
/-! == of lists of things that are compared by own code, nested, whatever it answers -/
namespace Oq
open PySem PySem.SeqAt
open AutoSeq1 (wpAny_loadPart')
open MeetsSeq MeetsSeq2 MeetsSeq3 SeqRoads2
section
variable {prog : Program} {w : World} {A : Around} {R : Result → Shared → Prop}
/-- lists of different lengths -/
theorem list_neJ (l b : Addr) (items items2 : Array Value) (n n2 : Nat) (hsz : items.size ≠ items2.size) {s : Shared} (hl : s.heap.get? l = some { cls := .type "list", data := .seq items n }) (hb : s.heap.get? b = some { cls := .type "list", data := .seq items2 n2 })
    (fin : R (.ok (.ret (.bool false))) s) :
    wpAny (model prog w) A.in1 (Builtin.«list.__eq__» ⟨[.ref l, .ref b], []⟩) (GQ.FinOf prog w A R) (fun e s' => R (.error e) s') s := by
  obtain ⟨hp, g, d, tk, os⟩ := s
  have f3 := AutoSeq1.sub_list_list
  have hne : (items.size != items2.size) = true := by simp [hsz]
  wp_walk using wpAny_loadPart' hl, wpAny_loadPart' hb
  exact fin
end
section
variable {prog : Program} {w : World} {A : Around} {E : Value → Shared → Prop} {s : Shared}
theorem rc_listN {l b : Addr} {items items2 : Array Value} {n n2 : Nat} {Q : Value → Shared → Prop} (hu : A.units < cLine) (hsz : items.size ≠ items2.size) (hl : s.heap.get? l = some { cls := .type "list", data := .seq items n }) (hb : s.heap.get? b = some { cls := .type "list", data := .seq items2 n2 })
    (fin : Q (.bool false) s) : wpAny (model prog w) A (richCompare .Eq (.ref l) (.ref b)) Q E s := by
  refine wpAny_richCompare_same_room (op := .Eq) ⟨_, hl, rfl⟩ ⟨_, hb, rfl⟩ F.slot_list_eq (GQ.call_here F.slot_list_eq ⟨_, hl, rfl⟩ F.entry_list_eq (F.args_list_eq_2 _ _) ?_) hu
  exact list_neJ (R := wants (fun v s' => v ≠ .notImplemented ∧ Q v s') E) l b items items2 n n2 hsz hl hb ⟨(fun x => nomatch x), fin⟩
end
end Oq
namespace Dn
open PySem L2
/-- the things meant by f are told from one another by ==, inside a builtin -/
def EqI (X : Cx) (k : Nat) {α : Type} [DecidableEq α] (f : α → RP) : Prop :=
  ∀ (A : Around) (pins : List (Addr × Obj)) (s : Shared) (σ : L2.St) (F H : Hp) (x y : V) (u v : Value) (a b : α), L2.Sub X k A → Inv X pins σ H s → RelV x u → RelV y v → Same F H → (f a).R F x → (f b).R F y →
    wpAny (model X.prog X.w) A (eqBool u v) (fun r s' => r = decide (a = b) ∧ ∃ F' H', Inv X pins σ H' s' ∧ Go0 F H F' H' ∧ Same F' H') X.xe s
def Inj {α : Type} (f : α → RP) : Prop := ∀ F v a b, (f a).R F v → (f b).R F v → a = b
theorem vrs_inj {α : Type} {f : α → RP} (h : Inj f) {F : Hp} : ∀ {us : List V} {a b : List α}, Vrs F us (a.map f) → Vrs F us (b.map f) → a = b
  | [], [], [], _, _ => rfl
  | u :: us, p :: a, q :: b, v1, v2 => by rw [h F u p q v1.1 v2.1, vrs_inj h v1.2 v2.2]
  | [], _ :: _, _, v1, _ => v1.elim
  | [], [], _ :: _, _, v2 => v2.elim
  | _ :: _, [], _, v1, _ => v1.elim
  | _ :: _, _ :: _, [], _, v2 => v2.elim
theorem inj_list {α : Type} {f : α → RP} (h : Inj f) : Inj (pLm f) := fun F v a b ⟨x, us, e1, h1, v1⟩ ⟨y, ws, e2, h2, v2⟩ => by
  have ex : x = y := by rw [e1] at e2; injection e2
  subst ex
  rw [h1] at h2
  have e : us = ws := by injection h2 with h2; injection h2
  subst e
  exact vrs_inj h v1 v2
section
variable {X : Cx} {k : Nat} {α : Type} [DecidableEq α] {f : α → RP}
theorem rc_list (h : EqI X k f) {A : Around} (sb : L2.Sub X (k + 1) A) {pins : List (Addr × Obj)} {s : Shared} {σ : L2.St} {F H : Hp} {x y : V} {u v : Value} {as bs : List α} (I : Inv X pins σ H s) (rx : RelV x u) (ry : RelV y v) (sm : Same F H) (hx : (pLm f as).R F x) (hy : (pLm f bs).R F y) :
    wpAny (model X.prog X.w) A (richCompare .Eq u v) (fun r s' => r = .bool (decide (as = bs)) ∧ ∃ F' H', Inv X pins σ H' s' ∧ Go0 F H F' H' ∧ Same F' H') X.xe s := by
  obtain ⟨a, xs, e1, h1, v1⟩ := hx
  obtain ⟨b, ys, e2, h2, v2⟩ := hy
  subst e1 e2
  cases rx
  cases ry
  have l1 := v1.len
  have l2 := v2.len
  rw [List.length_map] at l1 l2
  by_cases hl : as.length = bs.length
  · have eall : (List.range as.length).all (fun i => decide (as[i]? = bs[i]?)) = decide (as = bs) := by
      refine Bool.eq_iff_iff.mpr ?_
      rw [List.all_eq_true, decide_eq_true_iff]
      constructor
      · intro z
        apply List.ext_getElem?
        intro i
        by_cases hi : i < as.length
        · exact of_decide_eq_true (z i (List.mem_range.mpr hi))
        · rw [List.getElem?_eq_none (by omega), List.getElem?_eq_none (by omega)]
      · rintro rfl i _
        exact decide_eq_true rfl
    refine Oq.rc_listJ (N := as.length) (e := fun i => decide (as[i]? = bs[i]?)) sb.room.units0 (fun s' => ∃ F' H', Inv X pins σ H' s' ∧ Go0 F H F' H' ∧ Same F' H') (fun s' q' => ?_) (fun s' q' => ⟨by rw [eall], q'⟩) ⟨F, H, I, Go.refl F H, sm⟩
    obtain ⟨F1, H1, I1, g1, s1⟩ := id q'
    obtain ⟨z, its, k1, r, e⟩ := I1.hok a _ (s1 _ _ (g1.ff _ _ h1))
    obtain ⟨z2, its2, k2, r2, e2⟩ := I1.hok b _ (s1 _ _ (g1.ff _ _ h2))
    refine ⟨its.toArray, its2.toArray, k1, k2, e, e2, by rw [List.size_toArray, ← r.length, l1], by rw [List.size_toArray, ← r2.length, l2, hl], fun i i1 i2 => ?_⟩
    have g1' : its[i]? = some its.toArray[i] := by
      have h1' : i < its.length := by simpa using i1
      rw [List.getElem?_eq_getElem h1'] <;> simp
    have g2' : its2[i]? = some its2.toArray[i] := by
      have h2' : i < its2.length := by simpa using i2
      rw [List.getElem?_eq_getElem h2'] <;> simp
    have k1' : i < xs.length := by rw [r.length]; simpa using i1
    have k2' : i < ys.length := by rw [r2.length]; simpa using i2
    obtain ⟨u, hu, ru⟩ := r.get (List.getElem?_eq_getElem k1')
    obtain ⟨v, hv, rv⟩ := r2.get (List.getElem?_eq_getElem k2')
    rw [g1'] at hu
    rw [g2'] at hv
    rw [Option.some.inj hu, Option.some.inj hv]
    have i1' : i < as.length := by omega
    have i2' : i < bs.length := by omega
    have m1 : (f as[i]).R F1 xs[i] := by
      obtain ⟨r0, e0, m⟩ := (v1.mono g1.ff).back (List.getElem?_eq_getElem k1')
      rw [List.getElem?_map, List.getElem?_eq_getElem i1'] at e0
      rw [← Option.some.inj e0] at m
      exact m
    have m2 : (f bs[i]).R F1 ys[i] := by
      obtain ⟨r0, e0, m⟩ := (v2.mono g1.ff).back (List.getElem?_eq_getElem k2')
      rw [List.getElem?_map, List.getElem?_eq_getElem i2'] at e0
      rw [← Option.some.inj e0] at m
      exact m
    refine wpAny_mono (h A.in1 pins s' σ F1 H1 _ _ u v as[i] bs[i] sb.in1 I1 ru rv s1 m1 m2) (fun r s3 q3 => ?_) fun _ _ x => x
    obtain ⟨er, F2, H2, I2, g2, s2⟩ := q3
    refine ⟨?_, F2, H2, I2, g1.trans g2, s2⟩
    rw [er]
    show decide (as[i] = bs[i]) = decide (as[i]? = bs[i]?)
    rw [List.getElem?_eq_getElem i1', List.getElem?_eq_getElem i2']
    exact decide_eq_decide.mpr ⟨fun z => by rw [z], fun z => Option.some.inj z⟩
  · obtain ⟨z, its, k1, r, e⟩ := I.hok a _ (sm _ _ h1)
    obtain ⟨z2, its2, k2, r2, e2⟩ := I.hok b _ (sm _ _ h2)
    refine Oq.rc_listN sb.room.units0 (by rw [List.size_toArray, List.size_toArray, ← r.length, ← r2.length, l1, l2]; exact hl) e e2 ⟨?_, F, H, I, Go.refl F H, sm⟩
    rw [decide_eq_false fun z => hl (by rw [z])]
theorem EqI.list (h : EqI X k f) (hi : Inj f) : EqI X (k + 1) (pLm f) := by
  intro A pins s σ F H x y u v as bs sb I rx ry sm hx hy
  obtain ⟨a, xs, e1, h1, v1⟩ := id hx
  obtain ⟨b, ys, e2, h2, v2⟩ := id hy
  subst e1 e2
  cases rx
  cases ry
  by_cases hab : a = b
  · subst hab
    have e := inj_list hi F _ _ _ hx hy
    refine SeqAt.EqAt.same (A := A) (s := s) (.ref a) X.prog X.w X.xe _ ⟨?_, F, H, I, Go.refl F H, sm⟩
    rw [decide_eq_true e]
  · refine GQ.eqBool_refG hab (wpAny_mono (rc_list h sb I (show RelV (V.ref a) (Value.ref a) from rfl) (show RelV (V.ref b) (Value.ref b) from rfl) sm hx hy) (fun r s' q => ?_) fun _ _ x => x)
    obtain ⟨er, q⟩ := q
    exact ⟨_, er, rfl, q⟩
/-- x == y of such lists, as an expression -/
def rEqF {α : Type} [DecidableEq α] (f : α → RP) : R2 := fun x y H Q => ∃ F as bs, Same F H ∧ (pLm f as).R F x ∧ (pLm f bs).R F y ∧ ∀ F' H', Go0 F H F' H' → Same F' H' → Q (.bl (decide (as = bs))) H'
theorem op_eqF (h : EqI X k f) (hr : Room (k + 1) X.A) : OpR X (compareOp .Eq) (rEqF f) := by
  intro pins s σ H x y v u Q I rx ry hq
  obtain ⟨F, as, bs, sm, hx, hy, q⟩ := hq
  show wpAny (model X.prog X.w) X.A (richCompare .Eq v u) (EP X pins σ Q) X.xe s
  refine wpAny_mono (rc_list h ⟨hr, rfl⟩ I rx ry sm hx hy) (fun r s' z => ?_) fun _ _ x => x
  obtain ⟨er, F', H', I', g, s2⟩ := z
  subst er
  exact ⟨.bl _, H', I', rfl, q F' H' g s2⟩
theorem opd_eqF {as bs : List α} : OpD (rEqF f) (pLm f as) (pLm f bs) (pB (decide (as = bs))) := fun F H x y s hx hy Q q => ⟨F, as, bs, s, hx, hy, fun F' H' g s' => q _ F' H' g s' rfl⟩
end
end Dn
namespace W
open PySem L2 Dn HM
theorem inj_Q {K : PySem.W.Frag} : Inj (pQ K) := fun F v a b h k => pQ_inj h k
theorem eqI_Q {X : Cx} {f : Addr} {fd : FuncData} {k : Nat} (hs : PySem.W.findIn X.K (.ref (cR X.K)) "__eq__" = some (some (.ref f))) (hf : PySem.W.isFn X.K (.ref f) = true) (F0 : FnOk X.prog X.w X.K X.mg X.base CX0 k f fd ["self", "other"] (pureSp (C_Ratio_eq X.K))) (hb : Binds X.K fd ["self", "other"] []) :
    EqI X k (pQ X.K) := fun A pins s σ F H x y u v a b sb I rx ry sm hx hy => item_eq F0 hs hf hb sb I rx ry sm hx hy
end W
set_option linter.all false
set_option maxHeartbeats 1000000
/-! functions of whole numbers that so many differences lead to nought; polynomials as lists -/
namespace PM
abbrev Fn := Int → Rat
def Dl (g : Fn) : Fn := fun k => g (k + 1) - g k
def Dg : Nat → Fn → Prop
  | 0, g => ∀ k, g k = 0
  | d + 1, g => Dg d (Dl g)
theorem Dg.congr : ∀ {d : Nat} {g h : Fn}, (∀ k, g k = h k) → Dg d g → Dg d h
  | 0, g, h, e, k => fun i => by rw [← e]; exact k i
  | d + 1, g, h, e, k => Dg.congr (d := d) (fun i => by show g (i + 1) - g i = h (i + 1) - h i; rw [e, e]) k
theorem Dg.add : ∀ {d : Nat} {g h : Fn}, Dg d g → Dg d h → Dg d fun k => g k + h k
  | 0, g, h, a, b => fun i => by show g i + h i = 0; rw [a i, b i]; grind
  | d + 1, g, h, a, b => by
    show Dg d (Dl fun k => g k + h k)
    refine Dg.congr (d := d) (fun i => ?_) (Dg.add (d := d) (g := Dl g) (h := Dl h) a b)
    show (g (i + 1) - g i) + (h (i + 1) - h i) = (g (i + 1) + h (i + 1)) - (g i + h i)
    grind
theorem Dg.smul (c : Rat) : ∀ {d : Nat} {g : Fn}, Dg d g → Dg d fun k => c * g k
  | 0, g, a => fun i => by show c * g i = 0; rw [a i]; grind
  | d + 1, g, a => by
    show Dg d (Dl fun k => c * g k)
    refine Dg.congr (d := d) (fun i => ?_) (Dg.smul c (d := d) (g := Dl g) a)
    show c * (g (i + 1) - g i) = c * g (i + 1) - c * g i
    grind
theorem Dg.shift : ∀ {d : Nat} {g : Fn}, Dg d g → Dg d fun k => g (k + 1)
  | 0, g, a => fun i => a (i + 1)
  | d + 1, g, a => Dg.shift (d := d) (g := Dl g) a
theorem Dg.up : ∀ {d : Nat} {g : Fn}, Dg d g → Dg (d + 1) g
  | 0, g, a => fun i => by show g (i + 1) - g i = 0; rw [a, a]; grind
  | d + 1, g, a => Dg.up (d := d) (g := Dl g) a
theorem Dg.le {d : Nat} {g : Fn} (h : Dg d g) : ∀ {e : Nat}, d ≤ e → Dg e g
  | 0, k => by obtain rfl : d = 0 := by omega
               exact h
  | e + 1, k => by
    by_cases q : d = e + 1
    · rw [← q]; exact h
    · exact Dg.up (Dg.le h (e := e) (by omega))
theorem castS (i : Int) : ((i + 1 : Int) : Rat) = (i : Rat) + 1 := by
  rw [Rat.intCast_add]; rfl
theorem Dg.mulk : ∀ {d : Nat} {g : Fn}, Dg d g → Dg (d + 1) fun k => (k : Rat) * g k
  | 0, g, a => fun i => by show ((i + 1 : Int) : Rat) * g (i + 1) - (i : Rat) * g i = 0; rw [a, a]; grind
  | d + 1, g, a => by
    show Dg (d + 1) (Dl fun k => (k : Rat) * g k)
    have h1 : Dg (d + 1) fun k => (k : Rat) * Dl g k := Dg.mulk (d := d) (g := Dl g) a
    have h2 : Dg (d + 1) fun k => g (k + 1) := Dg.shift (d := d + 1) (g := g) a
    refine (h1.add h2).congr fun i => ?_
    show (i : Rat) * (g (i + 1) - g i) + g (i + 1) = ((i + 1 : Int) : Rat) * g (i + 1) - (i : Rat) * g i
    rw [castS]
    grind
theorem Dg.const (c : Rat) : Dg 1 fun _ => c := fun i => by show c - c = 0; grind
/-! whole numbers -/
def IsZ (q : Rat) : Prop := ∃ z : Int, q = (z : Rat)
theorem IsZ.add {a b : Rat} : IsZ a → IsZ b → IsZ (a + b) := fun ⟨x, hx⟩ ⟨y, hy⟩ => ⟨x + y, by rw [hx, hy, Rat.intCast_add]⟩
theorem IsZ.sub {a b : Rat} : IsZ a → IsZ b → IsZ (a - b) := fun ⟨x, hx⟩ ⟨y, hy⟩ => ⟨x - y, by rw [hx, hy, Rat.intCast_sub]⟩
theorem IsZ.mul {a b : Rat} : IsZ a → IsZ b → IsZ (a * b) := fun ⟨x, hx⟩ ⟨y, hy⟩ => ⟨x * y, by rw [hx, hy, Rat.intCast_mul]⟩
theorem IsZ.int (z : Int) : IsZ (z : Rat) := ⟨z, rfl⟩
theorem IsZ.zero : IsZ 0 := ⟨0, rfl⟩
theorem IsZ.one : IsZ 1 := ⟨1, rfl⟩
theorem isZ_den {q : Rat} : IsZ q ↔ q.den = 1 := by
  constructor
  · rintro ⟨z, rfl⟩; rfl
  · intro h
    exact ⟨q.num, Rat.ext rfl h⟩
/-- from a start and whole steps all is whole -/
theorem walk_all {P : Rat → Prop} (pa : ∀ {a b}, P a → P b → P (a + b)) (ps : ∀ {a b}, P a → P b → P (a - b)) {g : Fn} (h0 : P (g 0)) (hd : ∀ k, P (Dl g k)) : ∀ k, P (g k) := by
  have up : ∀ n : Nat, P (g (n : Int)) := by
    intro n
    induction n with
    | zero => exact h0
    | succ n ih =>
      have e : g ((n + 1 : Nat) : Int) = g (n : Int) + Dl g (n : Int) := by
        show g (((n : Nat) : Int) + 1) = g n + (g (n + 1) - g n)
        grind
      rw [e]
      exact pa ih (hd _)
  have down : ∀ n : Nat, P (g (-(n : Int))) := by
    intro n
    induction n with
    | zero => exact h0
    | succ n ih =>
      have e : g (-((n + 1 : Nat) : Int)) = g (-(n : Int)) - Dl g (-((n + 1 : Nat) : Int)) := by
        have z : -((n + 1 : Nat) : Int) + 1 = -(n : Int) := by omega
        show g (-((n + 1 : Nat) : Int)) = g (-(n : Int)) - (g (-((n + 1 : Nat) : Int) + 1) - g (-((n + 1 : Nat) : Int)))
        rw [z]
        grind
      rw [e]
      exact ps ih (hd _)
  intro k
  by_cases h : 0 ≤ k
  · obtain ⟨n, rfl⟩ := Int.eq_ofNat_of_zero_le h
    exact up n
  · have : k = -((-k).toNat : Int) := by omega
    rw [this]
    exact down _
theorem Dg.all {P : Rat → Prop} (pa : ∀ {a b}, P a → P b → P (a + b)) (ps : ∀ {a b}, P a → P b → P (a - b)) (p0 : P 0) : ∀ {d : Nat} {g : Fn}, Dg d g → (∀ i : Nat, i < d → P (g (i : Int))) → ∀ k, P (g k)
  | 0, g, a, _ => fun k => by rw [a k]; exact p0
  | d + 1, g, a, h => walk_all pa ps (h 0 (by omega)) (Dg.all pa ps p0 (d := d) a fun i hi => ps (h (i + 1) (by omega)) (h i (by omega)))
theorem Dg.whole {d : Nat} {g : Fn} (a : Dg d g) (h : ∀ i : Nat, i < d → IsZ (g (i : Int))) : ∀ k, IsZ (g k) := Dg.all IsZ.add IsZ.sub IsZ.zero a h
theorem Dg.zero {d : Nat} {g : Fn} (a : Dg d g) (h : ∀ i : Nat, i < d → g (i : Int) = 0) : ∀ k, g k = 0 := Dg.all (P := (· = 0)) (fun h k => by rw [h, k]; grind) (fun h k => by rw [h, k]; grind) rfl a h
/-! binomials -/
def bn : Nat → Fn
  | 0, _ => 1
  | i + 1, k => bn i k * ((k : Rat) - (i : Rat)) / ((i : Rat) + 1)
theorem natS (i : Nat) : ((i + 1 : Nat) : Rat) = (i : Rat) + 1 := by
  exact Rat.natCast_add i 1
theorem nat1 (i : Nat) : (i : Rat) + 1 ≠ 0 := by
  rw [← natS]
  intro e
  have : ((i + 1 : Nat) : Rat) = ((0 : Nat) : Rat) := e
  have := Rat.natCast_inj.mp this
  omega
theorem bn_dl : ∀ i : Nat, ∀ k : Int, bn (i + 1) (k + 1) - bn (i + 1) k = bn i k
  | 0, k => by
    show (1 : Rat) * (((k + 1 : Int) : Rat) - ((0 : Nat) : Rat)) / (((0 : Nat) : Rat) + 1) - 1 * ((k : Rat) - ((0 : Nat) : Rat)) / (((0 : Nat) : Rat) + 1) = 1
    have z : ((0 : Nat) : Rat) = 0 := rfl
    rw [castS, z]
    grind
  | i + 1, k => by
    have ih := bn_dl i k
    have e1 : bn (i + 1) k = bn i k * ((k : Rat) - (i : Rat)) / ((i : Rat) + 1) := rfl
    have n1 := nat1 i
    have n2 := nat1 (i + 1)
    show bn (i + 1) (k + 1) * (((k + 1 : Int) : Rat) - ((i + 1 : Nat) : Rat)) / (((i + 1 : Nat) : Rat) + 1) - bn (i + 1) k * ((k : Rat) - ((i + 1 : Nat) : Rat)) / (((i + 1 : Nat) : Rat) + 1) = bn (i + 1) k
    rw [castS]
    rw [natS] at n2 ⊢
    have e2 : bn (i + 1) (k + 1) = bn i k + bn (i + 1) k := by grind
    rw [e2]
    generalize bn (i + 1) k = B at e1 ⊢
    generalize bn i k = b at e1 ⊢
    generalize (k : Rat) = x at e1 ⊢
    generalize (i : Rat) = y at e1 n1 n2 ⊢
    have e3 : b * (x - y) = B * (y + 1) := by grind
    have e4 : (b + B) * (x + 1 - (y + 1)) - B * (x - (y + 1)) = B * (y + 1 + 1) := by grind
    grind
theorem bn_zero : ∀ i : Nat, bn (i + 1) 0 = 0
  | 0 => by
    show (1 : Rat) * (((0 : Int) : Rat) - ((0 : Nat) : Rat)) / (((0 : Nat) : Rat) + 1) = 0
    have z : ((0 : Nat) : Rat) = 0 := rfl
    have z2 : ((0 : Int) : Rat) = 0 := rfl
    rw [z, z2]
    grind
  | i + 1 => by
    show bn (i + 1) 0 * _ / _ = 0
    rw [bn_zero i]
    grind
theorem bn_dg : ∀ i : Nat, Dg (i + 1) (bn i)
  | 0 => Dg.const 1
  | i + 1 => by
    show Dg (i + 1) (Dl (bn (i + 1)))
    exact Dg.congr (g := bn i) (fun k => (bn_dl i k).symm) (bn_dg i)
theorem bn_whole : ∀ i : Nat, ∀ k, IsZ (bn i k)
  | 0, k => IsZ.one
  | i + 1, k => walk_all IsZ.add IsZ.sub (by rw [bn_zero]; exact IsZ.zero) (fun k => by
      show IsZ (bn (i + 1) (k + 1) - bn (i + 1) k)
      rw [bn_dl]
      exact bn_whole i k) k
/-- nought below, one at its own place -/
theorem bn_low : ∀ (i j : Nat), j < i → bn i (j : Int) = 0
  | 0, j, h => by omega
  | i + 1, 0, h => bn_zero i
  | i + 1, j + 1, h => by
    have a := bn_dl i (j : Int)
    rw [bn_low (i + 1) j (by omega), bn_low i j (by omega)] at a
    have e : ((j + 1 : Nat) : Int) = (j : Int) + 1 := by omega
    rw [e]
    grind
theorem bn_own : ∀ i : Nat, bn i (i : Int) = 1
  | 0 => rfl
  | i + 1 => by
    have a := bn_dl i (i : Int)
    rw [bn_own i, bn_low (i + 1) i (by omega)] at a
    have e : ((i + 1 : Nat) : Int) = (i : Int) + 1 := by omega
    rw [e]
    grind
/-! Newton's sum -/
def Dn (g : Fn) : Nat → Fn
  | 0 => g
  | i + 1 => Dn (Dl g) i
def nw (g : Fn) : Nat → Fn
  | 0, _ => 0
  | m + 1, k => nw g m k + Dn g m 0 * bn m k
theorem nw_zero (g : Fn) : ∀ m : Nat, nw g (m + 1) 0 = g 0
  | 0 => by
    show 0 + g 0 * bn 0 0 = g 0
    show 0 + g 0 * 1 = g 0
    grind
  | m + 1 => by
    show nw g (m + 1) 0 + Dn g (m + 1) 0 * bn (m + 1) 0 = g 0
    rw [nw_zero g m, bn_zero]
    grind
theorem nw_dl (g : Fn) : ∀ (m : Nat) (k : Int), nw g (m + 1) (k + 1) - nw g (m + 1) k = nw (Dl g) m k
  | 0, k => by
    show (0 + g 0 * bn 0 (k + 1)) - (0 + g 0 * bn 0 k) = 0
    show (0 + g 0 * 1) - (0 + g 0 * 1) = 0
    grind
  | m + 1, k => by
    have a := nw_dl g m k
    have b := bn_dl m k
    show (nw g (m + 1) (k + 1) + Dn g (m + 1) 0 * bn (m + 1) (k + 1)) - (nw g (m + 1) k + Dn g (m + 1) 0 * bn (m + 1) k) = nw (Dl g) m k + Dn (Dl g) m 0 * bn m k
    have e : Dn g (m + 1) 0 = Dn (Dl g) m 0 := rfl
    rw [e]
    grind
theorem nw_at : ∀ (m : Nat) (g : Fn) (j : Nat), j < m → nw g m (j : Int) = g (j : Int)
  | 0, g, j, h => by omega
  | m + 1, g, 0, h => nw_zero g m
  | m + 1, g, j + 1, h => by
    have a := nw_dl g m (j : Int)
    rw [nw_at m (Dl g) j (by omega)] at a
    have b := nw_at (m + 1) g j (by omega)
    have e : ((j + 1 : Nat) : Int) = (j : Int) + 1 := by omega
    have c : Dl g (j : Int) = g ((j : Int) + 1) - g j := rfl
    rw [e]
    grind
/-! polynomials -/
def ev : List Rat → Rat → Rat
  | [], _ => 0
  | a :: l, x => a + x * ev l x
theorem ev_dg (r p : Rat) : ∀ l : List Rat, Dg l.length fun k => ev l (r + p * (k : Rat))
  | [] => fun _ => rfl
  | a :: l => by
    have ih := ev_dg r p l
    have c : Dg (l.length + 1) fun _ => a := (Dg.const a).le (by omega)
    refine ((c.add ((ih.smul r).up)).add (ih.mulk.smul p)).congr fun k => ?_
    show a + r * ev l (r + p * (k : Rat)) + p * ((k : Rat) * ev l (r + p * (k : Rat))) = a + (r + p * (k : Rat)) * ev l (r + p * (k : Rat))
    grind
end PM
set_option linter.all false
set_option maxHeartbeats 1000000
/-! courses: a polynomial for each remainder -/
namespace PM
/-! lists of numbers -/
theorem ev_zeros (x : Rat) : ∀ n : Nat, ev (List.replicate n 0) x = 0
  | 0 => rfl
  | n + 1 => by
    show 0 + x * ev (List.replicate n 0) x = 0
    rw [ev_zeros x n]
    grind
theorem ev_app0 (x : Rat) (n : Nat) : ∀ l : List Rat, ev (l ++ List.replicate n 0) x = ev l x
  | [] => ev_zeros x n
  | a :: l => by
    show a + x * ev (l ++ List.replicate n 0) x = a + x * ev l x
    rw [ev_app0 x n l]
theorem ev_zip (x : Rat) : ∀ a b : List Rat, a.length = b.length → ev ((a.zip b).map fun p => p.1 + p.2) x = ev a x + ev b x
  | [], [], _ => by show (0 : Rat) = 0 + 0; grind
  | p :: a, q :: b, h => by
    show (p + q) + x * ev ((a.zip b).map fun p => p.1 + p.2) x = (p + x * ev a x) + (q + x * ev b x)
    rw [ev_zip x a b (Nat.succ.inj h)]
    grind
  | [], _ :: _, h => nomatch h
  | _ :: _, [], h => nomatch h
def pad (l : List Rat) (n : Nat) : List Rat := l ++ List.replicate (n - l.length) 0
def psum (a b : List Rat) : List Rat := ((pad a (max a.length b.length)).zip (pad b (max a.length b.length))).map fun p => p.1 + p.2
theorem ev_psum (a b : List Rat) (x : Rat) : ev (psum a b) x = ev a x + ev b x := by
  unfold psum
  rw [ev_zip x _ _ (by unfold pad; rw [List.length_append, List.length_append, List.length_replicate, List.length_replicate]; omega)]
  unfold pad
  rw [ev_app0, ev_app0]
theorem psum_len (a b : List Rat) : (psum a b).length = max a.length b.length := by
  unfold psum pad
  rw [List.length_map, List.length_zip, List.length_append, List.length_append, List.length_replicate, List.length_replicate]
  omega
def pscale (l : List Rat) (c : Rat) : List Rat := l.map fun a => a * c
theorem ev_pscale (c x : Rat) : ∀ l : List Rat, ev (pscale l c) x = ev l x * c
  | [] => by show (0 : Rat) = 0 * c; grind
  | a :: l => by
    show a * c + x * ev (pscale l c) x = (a + x * ev l x) * c
    rw [ev_pscale c x l]
    grind
theorem pscale_len (l : List Rat) (c : Rat) : (pscale l c).length = l.length := List.length_map ..
def putStep (by_ sh : Rat) (found : List Rat) (number : Rat) : List Rat := psum (psum (0 :: pscale found by_) (pscale found sh)) [number]
def putP (l : List Rat) (by_ sh : Rat) : List Rat := l.reverse.foldl (putStep by_ sh) []
theorem putP_cons (a : Rat) (l : List Rat) (by_ sh : Rat) : putP (a :: l) by_ sh = putStep by_ sh (putP l by_ sh) a := by
  unfold putP
  rw [List.reverse_cons, List.foldl_append]
  rfl
theorem ev_put (by_ sh x : Rat) : ∀ l : List Rat, ev (putP l by_ sh) x = ev l (by_ * x + sh)
  | [] => rfl
  | a :: l => by
    have ih := ev_put by_ sh x l
    rw [putP_cons]
    unfold putStep
    rw [ev_psum, ev_psum, ev_pscale]
    show (0 + x * ev (pscale (putP l by_ sh) by_) x) + ev (putP l by_ sh) x * sh + (a + x * 0) = a + (by_ * x + sh) * ev l (by_ * x + sh)
    rw [ev_pscale, ih]
    grind
/-! without noughts at the end -/
def strN (l : List Rat) : Nat → Nat
  | 0 => 0
  | n + 1 => if l.getD n 0 = 0 then strN l n else n + 1
def strip (l : List Rat) : List Rat := l.take (strN l l.length)
theorem strN_le (l : List Rat) : ∀ n, strN l n ≤ n
  | 0 => Nat.le_refl _
  | n + 1 => by
    unfold strN
    split
    · have := strN_le l n; omega
    · exact Nat.le_refl _
theorem strN_zero (l : List Rat) : ∀ n i, strN l n ≤ i → i < n → l.getD i 0 = 0
  | 0, i, _, h => by omega
  | n + 1, i, h1, h2 => by
    unfold strN at h1
    split at h1
    · rename_i e
      by_cases q : i = n
      · rw [q]; exact e
      · exact strN_zero l n i h1 (by omega)
    · omega
theorem strN_last (l : List Rat) : ∀ n, 0 < strN l n → l.getD (strN l n - 1) 0 ≠ 0
  | 0, h => by
    have : strN l 0 = 0 := rfl
    omega
  | n + 1, h => by
    unfold strN at h ⊢
    split
    · rename_i e
      rw [if_pos e] at h
      exact strN_last l n h
    · rename_i e
      exact e
theorem strip_len (l : List Rat) : (strip l).length = strN l l.length := by
  unfold strip
  rw [List.length_take]
  have := strN_le l l.length
  omega
theorem strip_split (l : List Rat) : l = strip l ++ List.replicate (l.length - strN l l.length) 0 := by
  refine List.ext_getElem ?_ fun i h1 h2 => ?_
  · rw [List.length_append, strip_len, List.length_replicate]
    have := strN_le l l.length
    omega
  · by_cases q : i < strN l l.length
    · rw [List.getElem_append_left (by rw [strip_len]; exact q)]
      unfold strip
      rw [List.getElem_take]
    · rw [List.getElem_append_right (by rw [strip_len]; omega), List.getElem_replicate]
      have := strN_zero l l.length i (by omega) h1
      rw [List.getD_eq_getElem?_getD, List.getElem?_eq_getElem h1] at this
      exact this
theorem ev_strip (l : List Rat) (x : Rat) : ev (strip l) x = ev l x := by
  have h := strip_split l
  have e : ev l x = ev (strip l ++ List.replicate (l.length - strN l l.length) 0) x := by rw [← h]
  rw [e, ev_app0]
theorem strip_last (l : List Rat) (h : strip l ≠ []) : (strip l).getD ((strip l).length - 1) 0 ≠ 0 := by
  have hl : 0 < (strip l).length := List.length_pos_iff.mpr h
  rw [strip_len] at hl ⊢
  have a := strN_last l l.length hl
  unfold strip
  rw [List.getD_eq_getElem?_getD, List.getElem?_take, if_pos (by omega), ← List.getD_eq_getElem?_getD]
  exact a
/-- stripped: the last is not nought -/
def Sd (l : List Rat) : Prop := l ≠ [] → l.getD (l.length - 1) 0 ≠ 0
theorem strN_full (l : List Rat) (h : Sd l) : strN l l.length = l.length := by
  cases hl : l.length with
  | zero => rfl
  | succ n =>
    have : l ≠ [] := fun e => by rw [e] at hl; exact nomatch hl
    have a := h this
    rw [hl] at a
    unfold strN
    exact if_neg a
theorem strip_self (l : List Rat) (h : Sd l) : strip l = l := by
  unfold strip
  rw [strN_full l h, List.take_length]
theorem strip_sd (l : List Rat) : Sd (strip l) := strip_last l
/-! one polynomial is told by its worths -/
def quo (x0 : Rat) : List Rat → List Rat
  | [] => []
  | [_] => []
  | _ :: b :: l => ev (b :: l) x0 :: quo x0 (b :: l)
theorem ev_quo (x0 x : Rat) : ∀ l : List Rat, ev l x = (x - x0) * ev (quo x0 l) x + ev l x0
  | [] => by show (0 : Rat) = (x - x0) * 0 + 0; grind
  | [a] => by show a + x * 0 = (x - x0) * 0 + (a + x0 * 0); grind
  | a :: b :: l => by
    have ih := ev_quo x0 x (b :: l)
    show a + x * ev (b :: l) x = (x - x0) * (ev (b :: l) x0 + x * ev (quo x0 (b :: l)) x) + (a + x0 * ev (b :: l) x0)
    generalize ev (b :: l) x = E at ih ⊢
    generalize ev (b :: l) x0 = E0 at ih ⊢
    generalize ev (quo x0 (b :: l)) x = Q at ih ⊢
    grind
theorem quo_len (x0 : Rat) : ∀ l : List Rat, (quo x0 l).length = l.length - 1
  | [] => rfl
  | [_] => rfl
  | a :: b :: l => by
    show (quo x0 (b :: l)).length + 1 = l.length + 1
    rw [quo_len x0 (b :: l)]
    rfl
theorem ev_nought (l : List Rat) (x : Rat) (h : ∀ a ∈ l, a = 0) : ev l x = 0 := by
  induction l with
  | nil => rfl
  | cons a l ih =>
    show a + x * ev l x = 0
    rw [h a List.mem_cons_self, ih fun b m => h b (List.mem_cons_of_mem _ m)]
    grind
theorem quo_nought (x0 : Rat) : ∀ l : List Rat, ev l x0 = 0 → (∀ a ∈ quo x0 l, a = 0) → ∀ a ∈ l, a = 0
  | [], _, _ => fun a m => nomatch m
  | [a], h, _ => fun b m => by
    rw [List.mem_singleton.mp m]
    have h : a + x0 * 0 = 0 := h
    grind
  | a :: b :: l, h, k => by
    have e : ev (b :: l) x0 = 0 := k _ List.mem_cons_self
    have ih := quo_nought x0 (b :: l) e fun c m => k c (List.mem_cons_of_mem _ m)
    have h : a + x0 * ev (b :: l) x0 = 0 := h
    intro c m
    rcases List.mem_cons.mp m with q | q
    · rw [q]; rw [e] at h; grind
    · exact ih c q
theorem all_nought : ∀ (n : Nat) (l : List Rat) (f : Nat → Rat), (∀ i j, f i = f j → i = j) → l.length ≤ n → (∀ i, ev l (f i) = 0) → ∀ a ∈ l, a = 0
  | 0, [], _, _, _, _ => fun a m => nomatch m
  | 0, _ :: _, _, _, h, _ => by simp at h
  | n + 1, l, f, inj, hl, h => by
    refine quo_nought (f 0) l (h 0) (all_nought n _ (fun i => f (i + 1)) (fun i j e => by have := inj _ _ e; omega) (by rw [quo_len]; omega) fun i => ?_)
    have a := ev_quo (f 0) (f (i + 1)) l
    rw [h, h] at a
    have ne : f (i + 1) - f 0 ≠ 0 := fun e => by
      have : f (i + 1) = f 0 := by grind
      have := inj _ _ this
      omega
    grind
theorem pt_inj {r p : Rat} (hp : p ≠ 0) (i j : Nat) (e : r + p * ((i : Int) : Rat) = r + p * ((j : Int) : Rat)) : i = j := by
  have : ((i : Int) : Rat) = ((j : Int) : Rat) := by grind
  have := Rat.intCast_inj.mp this
  omega
theorem getD_all {l : List Rat} (h : ∀ a ∈ l, a = 0) (i : Nat) : l.getD i 0 = 0 := by
  rw [List.getD_eq_getElem?_getD]
  cases q : l[i]? with
  | none => rfl
  | some a => exact h a (List.mem_of_getElem? q)
theorem psum_getD (a b : List Rat) (i : Nat) : (psum a b).getD i 0 = a.getD i 0 + b.getD i 0 := by
  have pg : ∀ (l : List Rat) (n i : Nat), l.length ≤ n → i < n → (pad l n)[i]? = some (l.getD i 0) := fun l n i h1 h2 => by
    unfold pad
    by_cases q : i < l.length
    · rw [List.getElem?_append_left q, List.getD_eq_getElem?_getD, List.getElem?_eq_getElem q]; rfl
    · rw [List.getElem?_append_right (by omega), List.getElem?_replicate, if_pos (by omega), List.getD_eq_getElem?_getD, List.getElem?_eq_none (by omega)]; rfl
  by_cases hi : i < max a.length b.length
  · rw [List.getD_eq_getElem?_getD]
    unfold psum
    rw [List.getElem?_map, show ((pad a (max a.length b.length)).zip (pad b (max a.length b.length)))[i]? = some (a.getD i 0, b.getD i 0) by
      rw [List.getElem?_zip_eq_some]
      exact ⟨pg _ _ _ (by omega) hi, pg _ _ _ (by omega) hi⟩]
    rfl
  · rw [List.getD_eq_getElem?_getD, List.getElem?_eq_none (by rw [psum_len]; omega), List.getD_eq_getElem?_getD, List.getElem?_eq_none (by omega), List.getD_eq_getElem?_getD, List.getElem?_eq_none (by omega)]
    show (0 : Rat) = 0 + 0
    grind
/-- two stripped lists of the same worths -/
theorem one_poly {a b : List Rat} {r p : Rat} (hp : p ≠ 0) (ha : Sd a) (hb : Sd b) (h : ∀ k : Int, ev a (r + p * (k : Rat)) = ev b (r + p * (k : Rat))) : a = b := by
  have z : ∀ c ∈ psum a (pscale b (-1)), c = 0 := all_nought _ _ (fun i => r + p * ((i : Int) : Rat)) (fun i j e => pt_inj hp i j e) (Nat.le_refl _) fun i => by
    rw [ev_psum, ev_pscale, h]
    grind
  have g : ∀ i, a.getD i 0 = b.getD i 0 := fun i => by
    have e := psum_getD a (pscale b (-1)) i
    rw [getD_all z] at e
    have : (pscale b (-1)).getD i 0 = -(b.getD i 0) := by
      unfold pscale
      rw [List.getD_eq_getElem?_getD, List.getD_eq_getElem?_getD, List.getElem?_map]
      cases b[i]? with
      | none => show (0 : Rat) = -0; grind
      | some x => show x * (-1) = -x; grind
    rw [this] at e
    grind
  have lle : ∀ {a b : List Rat}, Sd a → (∀ i, a.getD i 0 = b.getD i 0) → a.length ≤ b.length := fun {a b} ha g => by
    refine Nat.le_of_not_lt fun q => ?_
    have hne : a ≠ [] := fun e => by rw [e] at q; exact absurd q (Nat.not_lt_zero _)
    refine ha hne ?_
    rw [g, List.getD_eq_getElem?_getD, List.getElem?_eq_none (by omega)]
    rfl
  have l1 := lle ha g
  have l2 := lle hb fun i => (g i).symm
  refine List.ext_getElem (by omega) fun i h1 h2 => ?_
  have e := g i
  rw [List.getD_eq_getElem?_getD, List.getD_eq_getElem?_getD, List.getElem?_eq_getElem h1, List.getElem?_eq_getElem h2] at e
  exact e
end PM
set_option linter.all false
set_option maxHeartbeats 1000000
/-! courses, trimmed; whole ones -/
namespace PM
def rep {α : Type} (xs : List α) (k : Nat) : List α := (List.replicate k xs).flatten
theorem rep_succ {α : Type} (xs : List α) (k : Nat) : rep xs (k + 1) = xs ++ rep xs k := by
  unfold rep
  rw [List.replicate_succ, List.flatten_cons]
theorem rep_len {α : Type} (xs : List α) : ∀ k, (rep xs k).length = xs.length * k
  | 0 => by show 0 = _; rw [Nat.mul_zero]
  | k + 1 => by rw [rep_succ, List.length_append, rep_len xs k, Nat.mul_succ, Nat.add_comm]
theorem rep_get {α : Type} (xs : List α) : ∀ (k i : Nat), i < xs.length * k → (rep xs k)[i]? = xs[i % xs.length]?
  | 0, i, h => by rw [Nat.mul_zero] at h; omega
  | k + 1, i, h => by
    rw [Nat.mul_succ] at h
    rw [rep_succ]
    by_cases q : i < xs.length
    · rw [List.getElem?_append_left q, Nat.mod_eq_of_lt q]
    · rw [List.getElem?_append_right (by omega), rep_get xs k (i - xs.length) (by omega), ← Nat.mod_eq_sub_mod (by omega)]
abbrev Parts := List (List Rat)
/-- so many parts, told again and again -/
def Per (f : Parts) (m : Nat) : Prop := f.length % m = 0 ∧ f = rep (f.take m) (f.length / m)
instance (f : Parts) (m : Nat) : Decidable (Per f m) := inferInstanceAs (Decidable (_ ∧ _))
def trimGo (f : Parts) : Nat → Nat → Parts
  | 0, _ => f
  | n + 1, m => if Per f m then f.take m else trimGo f n (m + 1)
def trimL (f : Parts) : Parts := trimGo f (f.length - 1) 1
def cv (f : Parts) (n : Int) : Rat := ev (f.getD (n % (f.length : Int)).toNat []) (n : Rat)
def NoPer (f : Parts) : Prop := ∀ m, 1 ≤ m → m < f.length → ¬ Per f m
theorem per_get {f : Parts} {m : Nat} (h : Per f m) (hm : 1 ≤ m) (hl : m ≤ f.length) (i : Nat) (hi : i < f.length) : f[i]? = (f.take m)[i % m]? := by
  obtain ⟨h1, h2⟩ := h
  have lt : (f.take m).length = m := by rw [List.length_take]; omega
  have e : m * (f.length / m) = f.length := by have := Nat.div_add_mod f.length m; omega
  have r := rep_get (f.take m) (f.length / m) i (by rw [lt, e]; exact hi)
  rw [← h2, lt] at r
  exact r
theorem per_of {f : Parts} {m : Nat} (hm : 1 ≤ m) (hl : m ≤ f.length) (h1 : f.length % m = 0) (h : ∀ i, i < f.length → f[i]? = (f.take m)[i % m]?) : Per f m := by
  refine ⟨h1, ?_⟩
  have lt : (f.take m).length = m := by rw [List.length_take]; omega
  have e : m * (f.length / m) = f.length := by have := Nat.div_add_mod f.length m; omega
  apply List.ext_getElem?
  intro i
  by_cases hi : i < f.length
  · rw [rep_get _ _ i (by rw [lt, e]; exact hi), lt]
    exact h i hi
  · rw [List.getElem?_eq_none (by omega), List.getElem?_eq_none (by rw [rep_len, lt, e]; omega)]
theorem per_cv {f : Parts} {m : Nat} (h : Per f m) (hm : 1 ≤ m) (hl : m ≤ f.length) (n : Int) : cv (f.take m) n = cv f n := by
  have lt : (f.take m).length = m := by rw [List.length_take]; omega
  have L0 : (0 : Int) < (f.length : Int) := by omega
  have a0 := Int.emod_nonneg n (show (f.length : Int) ≠ 0 by omega)
  have a1 := Int.emod_lt_of_pos n L0
  have g := per_get h hm hl (n % (f.length : Int)).toNat (by omega)
  have dv : (m : Int) ∣ (f.length : Int) := Int.ofNat_dvd.mpr (Nat.dvd_of_mod_eq_zero h.1)
  have e : (n % (f.length : Int)).toNat % m = (n % (m : Int)).toNat := by
    have z : n % (f.length : Int) % (m : Int) = n % (m : Int) := Int.emod_emod_of_dvd n dv
    obtain ⟨c, hc⟩ := Int.eq_ofNat_of_zero_le a0
    rw [← z, hc, Int.toNat_natCast]
    rfl
  unfold cv
  rw [lt, List.getD_eq_getElem?_getD, List.getD_eq_getElem?_getD, g, e]
theorem go_facts (f : Parts) : ∀ (n m : Nat), 1 ≤ m → m + n = f.length → (∀ j, 1 ≤ j → j < m → ¬ Per f j) → ∃ j, 1 ≤ j ∧ j ≤ f.length ∧ trimGo f n m = f.take j ∧ Per f j ∧ ∀ i, 1 ≤ i → i < j → ¬ Per f i
  | 0, m, h1, h2, h3 => by
    refine ⟨f.length, by omega, Nat.le_refl _, by rw [List.take_length]; rfl, per_of (by omega) (Nat.le_refl _) (Nat.mod_self _) fun i hi => by rw [List.take_length, Nat.mod_eq_of_lt hi], fun i hi1 hi2 => h3 i hi1 (by omega)⟩
  | n + 1, m, h1, h2, h3 => by
    unfold trimGo
    by_cases q : Per f m
    · rw [if_pos q]
      exact ⟨m, h1, by omega, rfl, q, h3⟩
    · rw [if_neg q]
      refine go_facts f n (m + 1) (by omega) (by omega) fun j hj1 hj2 => ?_
      by_cases z : j = m
      · rw [z]; exact q
      · exact h3 j hj1 (by omega)
theorem trim_facts {f : Parts} (h : f ≠ []) : ∃ j, 1 ≤ j ∧ j ≤ f.length ∧ trimL f = f.take j ∧ Per f j ∧ ∀ i, 1 ≤ i → i < j → ¬ Per f i := by
  have := List.length_pos_iff.mpr h
  exact go_facts f (f.length - 1) 1 (Nat.le_refl _) (by omega) fun j h1 h2 => by omega
theorem cv_trim {f : Parts} (h : f ≠ []) (n : Int) : cv (trimL f) n = cv f n := by
  obtain ⟨j, h1, h2, h3, h4, _⟩ := trim_facts h
  rw [h3]
  exact per_cv h4 h1 h2 n
theorem trim_ne {f : Parts} (h : f ≠ []) : trimL f ≠ [] := by
  obtain ⟨j, h1, h2, h3, h4, _⟩ := trim_facts h
  rw [h3]
  exact List.length_pos_iff.mp (by rw [List.length_take]; omega)
theorem trim_mem {f : Parts} {l : List Rat} (h : l ∈ trimL f) : l ∈ f := by
  by_cases q : f = []
  · subst q; exact h
  · obtain ⟨j, h1, h2, h3, h4, _⟩ := trim_facts q
    rw [h3] at h
    exact List.mem_of_mem_take h
theorem trim_noper {f : Parts} (h : f ≠ []) : NoPer (trimL f) := by
  obtain ⟨j, h1, h2, h3, h4, h5⟩ := trim_facts h
  rw [h3]
  have lt : (f.take j).length = j := by rw [List.length_take]; omega
  intro m m1 m2 hp
  rw [lt] at m2
  refine h5 m m1 m2 (per_of m1 (by omega) ?_ fun i hi => ?_)
  · have d1 : m ∣ j := by have := hp.1; rw [lt] at this; exact Nat.dvd_of_mod_eq_zero this
    exact Nat.mod_eq_zero_of_dvd (Nat.dvd_trans d1 (Nat.dvd_of_mod_eq_zero h4.1))
  · have d1 : m ∣ j := by have := hp.1; rw [lt] at this; exact Nat.dvd_of_mod_eq_zero this
    have a := per_get h4 h1 h2 i hi
    have b := per_get hp m1 (by omega) (i % j) (by rw [lt]; exact Nat.mod_lt _ (by omega))
    rw [a, b, List.take_take, Nat.min_eq_left (by omega), Nat.mod_mod_of_dvd _ d1]
theorem trim_self {f : Parts} (h : NoPer f) : trimL f = f := by
  by_cases q : f = []
  · subst q; rfl
  · obtain ⟨j, h1, h2, h3, h4, _⟩ := trim_facts q
    by_cases z : j = f.length
    · rw [h3, z, List.take_length]
    · exact absurd h4 (h j h1 (by omega))
/-! whole courses -/
def mx (f : Parts) : Nat := f.foldl (fun m l => max m l.length) 0
theorem mx_fold : ∀ (f : Parts) (a : Nat), a ≤ f.foldl (fun m l => max m l.length) a ∧ ∀ l ∈ f, l.length ≤ f.foldl (fun m l => max m l.length) a
  | [], a => ⟨Nat.le_refl _, fun l m => nomatch m⟩
  | x :: f, a => by
    obtain ⟨h1, h2⟩ := mx_fold f (max a x.length)
    refine ⟨Nat.le_trans (Nat.le_max_left _ _) h1, fun l m => ?_⟩
    rcases List.mem_cons.mp m with e | e
    · rw [e]; exact Nat.le_trans (Nat.le_max_right _ _) h1
    · exact h2 l e
theorem mx_le {f : Parts} {l : List Rat} (h : l ∈ f) : l.length ≤ mx f := (mx_fold f 0).2 l h
def isw (f : Parts) : Bool := (List.range (f.length * mx f)).all fun n => decide ((cv f (n : Int)).den = 1)
def Whole (g : Fn) : Prop := ∀ n, IsZ (g n)
/-- on a remainder it is one polynomial -/
theorem cv_on {f : Parts} {r : Nat} (hr : r < f.length) (k : Int) : cv f ((r : Int) + (f.length : Int) * k) = ev (f.getD r []) ((r : Rat) + (f.length : Rat) * (k : Rat)) := by
  unfold cv
  have e : ((r : Int) + (f.length : Int) * k) % (f.length : Int) = (r : Int) := by
    rw [Int.add_mul_emod_self_left]
    exact Int.emod_eq_of_lt (by omega) (by omega)
  rw [e, Int.toNat_natCast, Rat.intCast_add, Rat.intCast_mul]
  rfl
theorem getD_memP {f : Parts} {r : Nat} (hr : r < f.length) : f.getD r [] ∈ f := by
  rw [List.getD_eq_getElem?_getD, List.getElem?_eq_getElem hr]
  exact List.getElem_mem hr
theorem cv_dg {f : Parts} {r : Nat} (hr : r < f.length) : Dg (f.getD r []).length fun k => cv f ((r : Int) + (f.length : Int) * k) :=
  Dg.congr (fun k => (cv_on hr k).symm) (ev_dg (r : Rat) (f.length : Rat) (f.getD r []))
theorem isw_iff {f : Parts} (h : f ≠ []) : isw f = true ↔ Whole (cv f) := by
  have L0 := List.length_pos_iff.mpr h
  unfold isw
  rw [List.all_eq_true]
  constructor
  · intro z n
    have a0 := Int.emod_nonneg n (show (f.length : Int) ≠ 0 by omega)
    have a1 := Int.emod_lt_of_pos n (show (0 : Int) < (f.length : Int) by omega)
    obtain ⟨r, hr⟩ := Int.eq_ofNat_of_zero_le a0
    have hrl : r < f.length := by omega
    have en : n = (r : Int) + (f.length : Int) * (n / (f.length : Int)) := by
      have := Int.emod_add_mul_ediv n (f.length : Int)
      omega
    rw [en]
    refine (cv_dg hrl).whole (fun i hi => ?_) (n / (f.length : Int))
    have hi2 : i < mx f := Nat.lt_of_lt_of_le hi (mx_le (getD_memP hrl))
    have lt : r + f.length * i < f.length * mx f := by
      have : f.length * (i + 1) ≤ f.length * mx f := Nat.mul_le_mul_left _ hi2
      rw [Nat.mul_succ] at this
      omega
    have b := of_decide_eq_true (z (r + f.length * i) (List.mem_range.mpr lt))
    have e : ((r + f.length * i : Nat) : Int) = (r : Int) + (f.length : Int) * (i : Int) := by
      rw [Int.natCast_add, Int.natCast_mul]
    rw [e] at b
    exact isZ_den.mpr b
  · intro z n _
    exact decide_eq_true (isZ_den.mp (z _))
end PM
set_option linter.all false
set_option maxHeartbeats 1000000
/-! the law's own courses; courses grown from numbers -/
namespace PM
def raised (l : List Rat) (s b : Rat) : List Rat := pscale (psum (0 :: l) (pscale l (0 - s))) (1 / b)
theorem ev_raised (l : List Rat) (s b x : Rat) : ev (raised l s b) x = ev l x * (x - s) / b := by
  unfold raised
  rw [ev_pscale, ev_psum, ev_pscale]
  show (0 + x * ev l x + ev l x * (0 - s)) * (1 / b) = _
  generalize ev l x = E
  have e : 0 + x * E + E * (0 - s) = E * (x - s) := by grind
  rw [e, Rat.div_def, Rat.div_def, Rat.one_mul]
theorem raised_len (l : List Rat) (s b : Rat) : (raised l s b).length = l.length + 1 := by
  unfold raised
  rw [pscale_len, psum_len, pscale_len, List.length_cons]
  omega
def addTo (found : List Rat) (c : Rat) (o : List Rat) : List Rat := found.zipIdx.map fun y => y.1 + c * (if y.2 < o.length then o.getD y.2 0 else 0)
theorem addTo_len (found : List Rat) (c : Rat) (o : List Rat) : (addTo found c o).length = found.length := by unfold addTo; simp
theorem addTo_eq (found : List Rat) (c : Rat) (o : List Rat) (h : o.length ≤ found.length) : addTo found c o = psum found (pscale o c) := by
  apply List.ext_getElem?
  intro i
  by_cases h1 : i < found.length
  · have a := psum_getD found (pscale o c) i
    have h2 : i < (psum found (pscale o c)).length := by rw [psum_len, pscale_len]; omega
    rw [List.getD_eq_getElem?_getD, List.getElem?_eq_getElem h2] at a
    have a : (psum found (pscale o c))[i] = found.getD i 0 + (pscale o c).getD i 0 := a
    rw [List.getElem?_eq_getElem h2, a]
    have g : (pscale o c).getD i 0 = o.getD i 0 * c := by
      unfold pscale
      rw [List.getD_eq_getElem?_getD, List.getElem?_map, List.getD_eq_getElem?_getD]
      cases o[i]? with
      | none => show (0 : Rat) = 0 * c; grind
      | some x => rfl
    have e : (addTo found c o)[i]? = some (found.getD i 0 + c * (if i < o.length then o.getD i 0 else 0)) := by
      unfold addTo
      rw [List.getElem?_map, List.getElem?_zipIdx, List.getElem?_eq_getElem h1, List.getD_eq_getElem?_getD, List.getElem?_eq_getElem h1, Nat.zero_add]
      rfl
    rw [e, g]
    congr 1
    split
    · grind
    · rename_i q
      rw [List.getD_eq_getElem?_getD (l := o), List.getElem?_eq_none (by omega)]
      show found.getD i 0 + c * 0 = found.getD i 0 + 0 * c
      grind
  · rw [List.getElem?_eq_none (by rw [addTo_len]; omega), List.getElem?_eq_none (by rw [psum_len, pscale_len]; omega)]
def partStep (rest period : Rat) (st : List Rat × List Rat) (p : Rat × Nat) : List Rat × List Rat :=
  (addTo st.1 p.1 st.2, raised st.2 (rest + (p.2 : Rat) * period) (period * ((p.2 : Rat) + 1)))
def partOf (rest period : Rat) (numbers : List Rat) : List Rat := (numbers.zipIdx.foldl (partStep rest period) (List.replicate (numbers.length + 1) 0, [1])).1
def sumN (numbers : List Rat) (k : Int) : Nat → Rat
  | 0 => 0
  | i + 1 => sumN numbers k i + numbers.getD i 0 * bn i k
theorem foldTake {α β : Type} {f : β → α → β} {xs : List α} {i : Nat} {x : α} {b : β} (h : xs[i]? = some x) : (xs.take (i + 1)).foldl f b = f ((xs.take i).foldl f b) x := by
  obtain ⟨hi, e⟩ := List.getElem?_eq_some_iff.mp h
  rw [List.take_succ_eq_append_getElem hi, List.foldl_append, e]
  rfl
theorem part_upto {rest period : Rat} (hp : period ≠ 0) (numbers : List Rat) : ∀ i, i ≤ numbers.length → ∃ found one, (numbers.zipIdx.take i).foldl (partStep rest period) (List.replicate (numbers.length + 1) 0, [1]) = (found, one) ∧ found.length = numbers.length + 1 ∧ one.length = i + 1 ∧
    ∀ k : Int, ev one (rest + period * (k : Rat)) = bn i k ∧ ev found (rest + period * (k : Rat)) = sumN numbers k i
  | 0, _ => ⟨_, _, rfl, List.length_replicate .., rfl, fun k => ⟨by
      show 1 + _ * 0 = 1
      grind, ev_zeros _ _⟩⟩
  | i + 1, h => by
    obtain ⟨found, one, e, l1, l2, hk⟩ := part_upto hp numbers i (by omega)
    have hx : numbers.zipIdx[i]? = some (numbers.getD i 0, i) := by
      rw [List.getElem?_zipIdx, List.getElem?_eq_getElem (by omega), List.getD_eq_getElem?_getD, List.getElem?_eq_getElem (by omega), Nat.zero_add]
      rfl
    refine ⟨_, _, (by rw [foldTake hx, e]; rfl : _ = (addTo found (numbers.getD i 0) one, raised one (rest + (i : Rat) * period) (period * ((i : Rat) + 1)))), by rw [addTo_len]; exact l1, by rw [raised_len, l2], fun k => ⟨?_, ?_⟩⟩
    · rw [ev_raised, (hk k).1]
      have n1 := nat1 i
      have n2 : period * ((i : Rat) + 1) ≠ 0 := fun z => by
        rcases Rat.mul_eq_zero.mp z with q | q
        · exact hp q
        · exact n1 q
      show bn i k * (rest + period * (k : Rat) - (rest + (i : Rat) * period)) / (period * ((i : Rat) + 1)) = bn i k * ((k : Rat) - (i : Rat)) / ((i : Rat) + 1)
      generalize bn i k = B
      generalize (k : Rat) = x
      generalize (i : Rat) = y at n1 n2 ⊢
      have e : B * (rest + period * x - (rest + y * period)) = period * (B * (x - y)) := by grind
      rw [e]
      grind
    · rw [addTo_eq _ _ _ (by omega), ev_psum, ev_pscale, (hk k).1, (hk k).2]
      show _ = sumN numbers k i + numbers.getD i 0 * bn i k
      grind
theorem ev_part {rest period : Rat} (hp : period ≠ 0) (numbers : List Rat) (k : Int) : ev (partOf rest period numbers) (rest + period * (k : Rat)) = sumN numbers k numbers.length := by
  obtain ⟨found, one, e, _, _, hk⟩ := part_upto (rest := rest) hp numbers numbers.length (Nat.le_refl _)
  unfold partOf
  rw [show numbers.zipIdx = numbers.zipIdx.take numbers.length by rw [List.take_of_length_le (by simp)], e]
  exact (hk k).2
theorem sum_whole {numbers : List Rat} {c : Rat} (h : ∀ i, IsZ (c * numbers.getD i 0)) (k : Int) : ∀ i, IsZ (c * sumN numbers k i)
  | 0 => by show IsZ (c * 0); rw [Rat.mul_zero]; exact IsZ.zero
  | i + 1 => by
    have a := (sum_whole h k i).add ((h i).mul (bn_whole i k))
    have e : c * sumN numbers k (i + 1) = c * sumN numbers k i + c * numbers.getD i 0 * bn i k := by
      show c * (sumN numbers k i + numbers.getD i 0 * bn i k) = _
      grind
    rw [e]
    exact a
/-- one broken number shows at its own place -/
theorem sum_broken {numbers : List Rat} {s : Nat} (h : ∀ i, i ≠ s → IsZ (numbers.getD i 0)) (hs : ¬ IsZ (numbers.getD s 0)) : ∀ i, s < i → ¬ IsZ (sumN numbers (s : Int) i)
  | 0, h1 => by omega
  | i + 1, h1 => by
    have low : ∀ j, j ≤ s → IsZ (sumN numbers (s : Int) j) := fun j => by
      induction j with
      | zero => intro _; exact IsZ.zero
      | succ j ih =>
        intro hj
        exact (ih (by omega)).add ((h j (by omega)).mul (bn_whole j _))
    show ¬ IsZ (sumN numbers (s : Int) i + numbers.getD i 0 * bn i (s : Int))
    by_cases q : i = s
    · subst q
      rw [bn_own]
      intro z
      refine hs ?_
      have := z.sub (low i (Nat.le_refl _))
      have e : sumN numbers (i : Int) i + numbers.getD i 0 * 1 - sumN numbers (i : Int) i = numbers.getD i 0 := by grind
      rw [e] at this
      exact this
    · have ih := sum_broken h hs i (by omega)
      rw [bn_low i s (by omega)]
      have e : sumN numbers (s : Int) i + numbers.getD i 0 * 0 = sumN numbers (s : Int) i := by grind
      rw [e]
      exact ih
/-! grown -/
structure Th where
  found : List Rat
  base : List Rat
  left : List Rat
def thStep (st : Th) (step : Nat) : Th :=
  ⟨psum st.found (pscale st.base (st.left.getD 0 0)), pscale (psum (0 :: st.base) (pscale st.base (((-(step : Int) : Int)) : Rat))) (1 / ((step : Rat) + 1)), (st.left.zip (st.left.drop 1)).map fun p => p.2 - p.1⟩
def through (sub : List Rat) : List Rat := ((List.range sub.length).foldl thStep ⟨[], [1], sub⟩).found
def gOf (sub : List Rat) : Fn := fun k => sub.getD k.toNat 0
theorem Dn_succ : ∀ (s : Nat) (g : Fn) (k : Int), PM.Dn g (s + 1) k = PM.Dn g s (k + 1) - PM.Dn g s k
  | 0, g, k => rfl
  | s + 1, g, k => Dn_succ s (Dl g) k
theorem th_upto (sub : List Rat) : ∀ s, s ≤ sub.length → ∃ found base, (List.range s).foldl thStep ⟨[], [1], sub⟩ = ⟨found, base, (List.range (sub.length - s)).map fun j : Nat => PM.Dn (gOf sub) s (j : Int)⟩ ∧ ∀ k : Int, ev base (k : Rat) = bn s k ∧ ev found (k : Rat) = nw (gOf sub) s k
  | 0, _ => by
    refine ⟨[], [1], ?_, fun k => ⟨by show 1 + _ * 0 = 1; grind, rfl⟩⟩
    show (⟨[], [1], sub⟩ : Th) = _
    congr 1
    refine List.ext_getElem (by simp) fun i h1 h2 => ?_
    rw [List.getElem_map, List.getElem_range]
    show sub[i] = sub.getD ((i : Int)).toNat 0
    rw [Int.toNat_natCast, List.getD_eq_getElem?_getD, List.getElem?_eq_getElem h1]
    rfl
  | s + 1, h => by
    obtain ⟨found, base, e, hk⟩ := th_upto sub s (by omega)
    rw [List.range_succ, List.foldl_append, e]
    refine ⟨psum found (pscale base (PM.Dn (gOf sub) s 0)), pscale (psum (0 :: base) (pscale base (((-(s : Int) : Int)) : Rat))) (1 / ((s : Rat) + 1)), ?_, fun k => ⟨?_, ?_⟩⟩
    · have g0 : ((List.range (sub.length - s)).map fun j : Nat => PM.Dn (gOf sub) s (j : Int)).getD 0 0 = PM.Dn (gOf sub) s 0 := by
        rw [List.getD_eq_getElem?_getD, List.getElem?_map, List.getElem?_range (by omega)]
        rfl
      show (⟨psum found (pscale base (((List.range (sub.length - s)).map fun j : Nat => PM.Dn (gOf sub) s (j : Int)).getD 0 0)), _, _⟩ : Th) = _
      rw [g0]
      congr 1
      refine List.ext_getElem ?_ fun i h1 h2 => ?_
      · rw [List.length_map, List.length_zip, List.length_drop, List.length_map, List.length_range, List.length_map, List.length_range]
        omega
      · rw [List.length_map, List.length_range] at h2
        rw [List.getElem_map, List.getElem_map, List.getElem_range, List.getElem_zip, List.getElem_drop, List.getElem_map, List.getElem_map, List.getElem_range, List.getElem_range]
        rw [Dn_succ]
        show PM.Dn (gOf sub) s ((1 + i : Nat) : Int) - PM.Dn (gOf sub) s (i : Int) = _
        rw [show ((1 + i : Nat) : Int) = (i : Int) + 1 by omega]
    · rw [ev_pscale, ev_psum, ev_pscale]
      have n1 := nat1 s
      have c : (((-(s : Int) : Int)) : Rat) = -(s : Rat) := Rat.intCast_neg _
      show (0 + (k : Rat) * ev base (k : Rat) + ev base (k : Rat) * (((-(s : Int) : Int)) : Rat)) * (1 / ((s : Rat) + 1)) = bn s k * ((k : Rat) - (s : Rat)) / ((s : Rat) + 1)
      rw [(hk k).1, c]
      generalize bn s k = B
      generalize (k : Rat) = x
      generalize (s : Rat) = y at n1 ⊢
      grind
    · rw [ev_psum, ev_pscale, (hk k).1, (hk k).2]
      show _ = nw (gOf sub) s k + PM.Dn (gOf sub) s 0 * bn s k
      grind
theorem ev_through (sub : List Rat) (k : Int) : ev (through sub) (k : Rat) = nw (gOf sub) sub.length k := by
  obtain ⟨found, base, e, hk⟩ := th_upto sub sub.length (Nat.le_refl _)
  unfold through
  rw [e]
  exact (hk k).2
theorem nw_dg (g : Fn) : ∀ m, Dg m (nw g m)
  | 0 => fun _ => rfl
  | m + 1 => by
    have a : Dg (m + 1) (nw g m) := (nw_dg g m).up
    have b : Dg (m + 1) fun k => PM.Dn g m 0 * bn m k := (bn_dg m).smul _
    exact a.add b
/-- each so many-th number -/
def every (numbers : List Rat) (at_ p m : Nat) : List Rat := (List.range m).map fun j => numbers.getD (at_ + p * j) 0
def growParts (p m : Nat) (numbers : List Rat) : Parts := (List.range p).map fun a => putP (through (every numbers a p m)) (1 / (p : Rat)) ((((-(a : Int) : Int)) : Rat) / (p : Rat))
theorem grow_on {p m : Nat} (hp : 0 < p) (numbers : List Rat) {r : Nat} (hr : r < p) (k : Int) : cv (growParts p m numbers) ((r : Int) + (p : Int) * k) = nw (gOf (every numbers r p m)) m k := by
  have ll : (growParts p m numbers).length = p := by unfold growParts; simp
  have h := cv_on (f := growParts p m numbers) (r := r) (by rw [ll]; exact hr) k
  rw [ll] at h
  rw [h]
  have g : (growParts p m numbers).getD r [] = putP (through (every numbers r p m)) (1 / (p : Rat)) ((((-(r : Int) : Int)) : Rat) / (p : Rat)) := by
    unfold growParts
    rw [List.getD_eq_getElem?_getD, List.getElem?_map, List.getElem?_range hr]
    rfl
  rw [g, ev_put]
  have p0 : (p : Rat) ≠ 0 := fun e => by
    have : ((p : Nat) : Rat) = ((0 : Nat) : Rat) := e
    have := Rat.natCast_inj.mp this
    omega
  have c : (((-(r : Int) : Int)) : Rat) = -(r : Rat) := Rat.intCast_neg _
  have e : 1 / (p : Rat) * ((r : Rat) + (p : Rat) * (k : Rat)) + (((-(r : Int) : Int)) : Rat) / (p : Rat) = (k : Rat) := by
    rw [c]
    generalize (k : Rat) = x
    generalize (r : Rat) = y
    generalize (p : Rat) = z at p0 ⊢
    grind
  rw [e, ev_through]
  have le : (every numbers r p m).length = m := by unfold every; simp
  rw [le]
theorem grow_at {p m : Nat} (hp : 0 < p) (numbers : List Rat) {r j : Nat} (hr : r < p) (hj : j < m) : cv (growParts p m numbers) ((r + p * j : Nat) : Int) = numbers.getD (r + p * j) 0 := by
  have h := grow_on (m := m) hp numbers hr (j : Int)
  rw [nw_at m _ j hj] at h
  have e : ((r + p * j : Nat) : Int) = (r : Int) + (p : Int) * (j : Int) := by rw [Int.natCast_add, Int.natCast_mul]
  rw [e, h]
  unfold gOf every
  rw [Int.toNat_natCast, List.getD_eq_getElem?_getD, List.getElem?_map, List.getElem?_range hj]
  rfl
theorem cv_strip (f : Parts) (n : Int) : cv (f.map strip) n = cv f n := by
  unfold cv
  rw [List.length_map, List.getD_eq_getElem?_getD, List.getD_eq_getElem?_getD, List.getElem?_map]
  cases f[(n % (f.length : Int)).toNat]? with
  | none => rfl
  | some l => exact ev_strip l _
/-- the same course -/
theorem grow_same {f : Parts} {m : Nat} {numbers : List Rat} (h : f ≠ []) (hs : ∀ l ∈ f, Sd l) (hn : NoPer f) (hm : mx f ≤ m) (hv : ∀ n : Nat, n < f.length * m → numbers.getD n 0 = cv f (n : Int)) : trimL ((growParts f.length m numbers).map strip) = f := by
  have L0 := List.length_pos_iff.mpr h
  have e : (growParts f.length m numbers).map strip = f := by
    refine List.ext_getElem (by unfold growParts; simp) fun r h1 h2 => ?_
    have p0 : (f.length : Rat) ≠ 0 := fun e => by
      have : ((f.length : Nat) : Rat) = ((0 : Nat) : Rat) := e
      have := Rat.natCast_inj.mp this
      omega
    have gl : (growParts f.length m numbers).length = f.length := by unfold growParts; simp
    have rl : r < (growParts f.length m numbers).length := by rw [gl]; exact h2
    rw [List.getElem_map]
    refine one_poly (r := (r : Rat)) (p := (f.length : Rat)) p0 (strip_sd _) (hs _ (List.getElem_mem h2)) fun k => ?_
    rw [ev_strip]
    have a := cv_on (f := growParts f.length m numbers) rl k
    rw [gl] at a
    have b := cv_on (f := f) h2 k
    have ga : (growParts f.length m numbers).getD r [] = (growParts f.length m numbers)[r] := by rw [List.getD_eq_getElem?_getD, List.getElem?_eq_getElem rl]; rfl
    have gb : f.getD r [] = f[r] := by rw [List.getD_eq_getElem?_getD, List.getElem?_eq_getElem h2]; rfl
    rw [ga] at a
    rw [gb] at b
    rw [← a, ← b]
    -- both are led to nought by m differences
    have d1 : Dg m fun k => cv (growParts f.length m numbers) ((r : Int) + (f.length : Int) * k) := Dg.congr (fun k => (grow_on L0 numbers h2 k).symm) (nw_dg _ m)
    have d2 : Dg m fun k => (-1) * cv f ((r : Int) + (f.length : Int) * k) := ((cv_dg h2).le (Nat.le_trans (mx_le (getD_memP h2)) hm)).smul (-1)
    have z := (d1.add d2).zero fun i hi => by
      have lt : r + f.length * i < f.length * m := by
        have : f.length * (i + 1) ≤ f.length * m := Nat.mul_le_mul_left _ hi
        rw [Nat.mul_succ] at this
        omega
      have g := grow_at (m := m) L0 numbers h2 hi
      have ei : ((r + f.length * i : Nat) : Int) = (r : Int) + (f.length : Int) * (i : Int) := by rw [Int.natCast_add, Int.natCast_mul]
      rw [hv _ lt, ei] at g
      show cv (growParts f.length m numbers) ((r : Int) + (f.length : Int) * (i : Int)) + (-1) * cv f ((r : Int) + (f.length : Int) * (i : Int)) = 0
      rw [g]
      grind
    have := z k
    grind
  rw [e]
  exact trim_self hn
end PM
set_option Elab.async false
set_option linter.all false
set_option maxHeartbeats 4000000
/-! fractions over a bottom, with a bound above -/
namespace PM
open HM
theorem mul_den (q : Rat) : q * (q.den : Rat) = (q.num : Rat) := by
  have h := Rat.num_divInt_den q
  rw [Rat.divInt_eq_div] at h
  have h0 : (q.den : Rat) ≠ 0 := fun z => by
    have := Rat.natCast_inj.mp (z.trans (show (0 : Rat) = ((0 : Nat) : Rat) from rfl))
    exact q.den_nz this
  have h : (q.num : Rat) / (q.den : Rat) = q := h
  have e : (q.num : Rat) = (q.num : Rat) / (q.den : Rat) * (q.den : Rat) := by grind
  rw [h] at e
  exact e.symm
/-- q is z / D for a whole z of at most C -/
def Cd (D C : Nat) (q : Rat) : Prop := ∃ z : Int, q * (D : Rat) = (z : Rat) ∧ z.natAbs ≤ C
theorem Cd.zero {D C : Nat} : Cd D C 0 := ⟨0, by rw [Rat.zero_mul]; rfl, Nat.zero_le _⟩
theorem Cd.le {D C C' : Nat} {q : Rat} (h : Cd D C q) (hc : C ≤ C') : Cd D C' q := by
  obtain ⟨z, h1, h2⟩ := h
  exact ⟨z, h1, Nat.le_trans h2 hc⟩
theorem Cd.add {D C C' : Nat} {a b : Rat} (h : Cd D C a) (k : Cd D C' b) : Cd D (C + C') (a + b) := by
  obtain ⟨z, h1, h2⟩ := h
  obtain ⟨y, k1, k2⟩ := k
  refine ⟨z + y, by rw [Rat.intCast_add, ← h1, ← k1]; grind, ?_⟩
  omega
theorem Cd.neg {D C : Nat} {a : Rat} (h : Cd D C a) : Cd D C (-a) := by
  obtain ⟨z, h1, h2⟩ := h
  refine ⟨-z, by rw [Rat.intCast_neg, ← h1]; grind, ?_⟩
  omega
theorem Cd.sub {D C C' : Nat} {a b : Rat} (h : Cd D C a) (k : Cd D C' b) : Cd D (C + C') (a - b) := by
  rw [Rat.sub_eq_add_neg]
  exact h.add k.neg
theorem Cd.mul {D C D' C' : Nat} {a b : Rat} (h : Cd D C a) (k : Cd D' C' b) : Cd (D * D') (C * C') (a * b) := by
  obtain ⟨z, h1, h2⟩ := h
  obtain ⟨y, k1, k2⟩ := k
  refine ⟨z * y, by rw [Rat.intCast_mul, ← h1, ← k1, Rat.natCast_mul]; grind, ?_⟩
  rw [Int.natAbs_mul]
  exact Nat.mul_le_mul h2 k2
theorem Cd.int (z : Int) : Cd 1 z.natAbs (z : Rat) := ⟨z, by rw [show ((1 : Nat) : Rat) = 1 from rfl, Rat.mul_one], Nat.le_refl _⟩
theorem Cd.lift {D C : Nat} {a : Rat} (h : Cd D C a) (E : Nat) : Cd (D * E) (C * E) a := by
  obtain ⟨z, h1, h2⟩ := h
  refine ⟨z * (E : Int), ?_, ?_⟩
  · rw [Rat.intCast_mul, ← h1, Rat.natCast_mul]
    show a * ((D : Rat) * (E : Rat)) = a * (D : Rat) * (E : Rat)
    grind
  · rw [Int.natAbs_mul, Int.natAbs_natCast]
    exact Nat.mul_le_mul_right _ h2
/-- times a whole number -/
theorem Cd.muli {D C c : Nat} {a b : Rat} (h : Cd D C a) (k : Cd 1 c b) : Cd D (C * c) (a * b) := by
  have := h.mul k
  rw [Nat.mul_one] at this
  exact this
theorem Cd.to {D C D' C' : Nat} {a : Rat} (h : Cd D C a) {E : Nat} (e : D' = D * E) (c : C * E ≤ C') : Cd D' C' a := by
  rw [e]
  exact (h.lift E).le c
theorem Cd.den {D C : Nat} {q : Rat} (hD : 0 < D) (h : Cd D C q) : q.den ∣ D ∧ q.num.natAbs ≤ C := by
  obtain ⟨z, h1, h2⟩ := h
  have ex : q * (q.den : Rat) = (q.num : Rat) := mul_den q
  have e : ((q.num * (D : Int) : Int) : Rat) = ((z * (q.den : Int) : Int) : Rat) := by
    rw [Rat.intCast_mul, Rat.intCast_mul, ← h1, ← ex]
    show q * (q.den : Rat) * (D : Rat) = q * (D : Rat) * (q.den : Rat)
    grind
  have e := Rat.intCast_inj.mp e
  have cp : Nat.Coprime q.den q.num.natAbs := q.reduced.symm
  have d1 : q.den ∣ q.num.natAbs * D := ⟨z.natAbs, by
    have := congrArg Int.natAbs e
    rw [Int.natAbs_mul, Int.natAbs_mul, Int.natAbs_natCast, Int.natAbs_natCast] at this
    rw [this, Nat.mul_comm]⟩
  have d2 : q.den ∣ D := cp.dvd_of_dvd_mul_left d1
  refine ⟨d2, ?_⟩
  obtain ⟨c, hc⟩ := d2
  have e2 := congrArg Int.natAbs e
  rw [Int.natAbs_mul, Int.natAbs_mul, Int.natAbs_natCast, Int.natAbs_natCast, hc] at e2
  have c0 : 0 < c := Nat.pos_of_ne_zero fun z => by rw [z, Nat.mul_zero] at hc; omega
  have e3 : q.den * (q.num.natAbs * c) = q.den * z.natAbs := by rw [← Nat.mul_assoc, Nat.mul_comm q.den, Nat.mul_assoc, e2, Nat.mul_comm]
  have e4 := Nat.eq_of_mul_eq_mul_left q.den_pos e3
  have : q.num.natAbs ≤ q.num.natAbs * c := Nat.le_mul_of_pos_right _ c0
  omega
theorem Cd.sz {D C : Nat} {q : Rat} (h : Cd D C q) (hD : 0 < D) (h1 : D < 2 ^ 4000) (h2 : C < 2 ^ 4000) : SzQ q := by
  obtain ⟨d, n⟩ := h.den hD
  exact ⟨Nat.lt_of_le_of_lt n h2, Nat.lt_of_le_of_lt (Nat.le_of_dvd hD d) h1⟩
theorem Cd.one_over {p : Nat} (hp : 0 < p) : Cd p 1 (1 / (p : Rat)) := by
  refine ⟨1, ?_, Nat.le_refl _⟩
  have : (p : Rat) ≠ 0 := fun z => by
    have := Rat.natCast_inj.mp (z.trans (show (0 : Rat) = ((0 : Nat) : Rat) from rfl))
    omega
  show 1 / (p : Rat) * (p : Rat) = 1
  grind
/-- all of a list -/
abbrev Cs (D C : Nat) (l : List Rat) : Prop := ∀ x ∈ l, Cd D C x
theorem Cs.cons0 {D C : Nat} {l : List Rat} (h : Cs D C l) : Cs D C (0 :: l) := fun x m => by
  rcases List.mem_cons.mp m with e | e
  · rw [e]; exact Cd.zero
  · exact h x e
theorem Cs.psum {D C C' : Nat} {a b : List Rat} (ha : Cs D C a) (hb : Cs D C' b) : Cs D (C + C') (PM.psum a b) := fun x m => by
  obtain ⟨p, hp, rfl⟩ := List.mem_map.mp m
  obtain ⟨h1, h2⟩ := List.of_mem_zip hp
  have pd : ∀ {l : List Rat} {n c : Nat}, Cs D c l → ∀ y ∈ pad l n, Cd D c y := fun h y hy => by
    rcases List.mem_append.mp hy with z | z
    · exact h y z
    · rw [(List.mem_replicate.mp z).2]; exact Cd.zero
  exact (pd ha _ h1).add (pd hb _ h2)
theorem Cs.pscale {D C D' C' : Nat} {a : List Rat} {c : Rat} (ha : Cs D C a) (hc : Cd D' C' c) : Cs (D * D') (C * C') (PM.pscale a c) := fun x m => by
  obtain ⟨y, hy, rfl⟩ := List.mem_map.mp m
  exact (ha y hy).mul hc
theorem Cs.to {D C D' C' : Nat} {l : List Rat} (h : Cs D C l) {E : Nat} (e : D' = D * E) (c : C * E ≤ C') : Cs D' C' l := fun x m => (h x m).to e c
theorem Cs.le {D C C' : Nat} {l : List Rat} (h : Cs D C l) (c : C ≤ C') : Cs D C' l := fun x m => (h x m).le c
theorem Cs.strip {D C : Nat} {l : List Rat} (h : Cs D C l) : Cs D C (PM.strip l) := fun x m => h x (List.mem_of_mem_take m)
/-- all of all parts -/
abbrev Cp (D C : Nat) (f : Parts) : Prop := ∀ l ∈ f, Cs D C l
theorem Cp.trS {D C : Nat} {f : Parts} (h : Cp D C f) : Cp D C (trimL (f.map PM.strip)) := fun l m => by
  obtain ⟨k, hk, rfl⟩ := List.mem_map.mp (trim_mem m)
  exact Cs.strip (h k hk)
/-- a bottom for all drawn parts -/
abbrev D0 : Nat := 12 ^ 5 * 7200
abbrev C0 : Nat := 2 ^ 100
end PM
set_option Elab.async false
set_option linter.all false
set_option maxRecDepth 100000
set_option maxHeartbeats 4000000
/-! the promises of law k26 -/
namespace Dn
open PySem L2
/-- a list of numbers wherever it stands -/
def pSq (K : PySem.W.Frag) (ns : List Int) : RP := ⟨fun F v => ∃ a, v = .ref a ∧ SqL K F a (ns.map V.int), fun e ⟨a, h1, h2⟩ => ⟨a, h1, h2.ext e⟩⟩
theorem vrs_one {F : Hp} {vs : List V} {r : RP} (h : Vrs F vs [r]) : ∃ v, vs = [v] ∧ r.R F v := by
  cases vs with
  | nil => exact h.elim
  | cons v t =>
    cases t with
    | nil => exact ⟨v, rfl, h.1⟩
    | cons u t => exact h.2.elim
theorem cd_lenS {K : PySem.W.Frag} {ns : List Int} : CD (uLen K) [pSq K ns] (pI (ns.length : Int)) := by
  intro F H vs s hv Q q
  obtain ⟨v, e1, a, e2, h⟩ := vrs_one hv
  have el : V.int (((ns.map V.int).length : Nat) : Int) = V.int (ns.length : Int) := by rw [List.length_map]
  have q1 := q (V.int (((ns.map V.int).length : Nat) : Int)) F H (Go.refl F H) s el
  rw [e1, e2]
  exact ⟨a, ns.map V.int, rfl, .inl (h.ext s), q1⟩
theorem opd_ixS {K : PySem.W.Frag} {ns : List Int} {i x : Int} {j : Nat} (e : i = (j : Int)) (h : ns[j]? = some x) : OpD (rIxL K) (pSq K ns) (pI i) (pI x) := fun F H v y s ⟨a, e1, hh⟩ hy Q q =>
  ⟨a, ns.map V.int, i, .int x, e1, hy, hh.ext s, at_of e (by rw [List.getElem?_map, h]; rfl), q _ F H (Go.refl F H) s rfl⟩
/-- a guarded def of the module -/
def CalG (P : Program) (w : World) (K : PySem.W.Frag) (mg : Str → Option Value) (base : Heap) (x : Str) (k : Nat) (ps : List Str) (sp : Sp) : Prop :=
  ∃ f fd, FnG P w K mg base CX0 k f fd ps sp ∧ mg x = some (.ref f) ∧ PySem.W.keepIn K (.ref f) = true ∧ Binds K fd ps []
/-- the pot at p is drawn from: what is told then -/
def potSp (C : List RP → RP → Prop) : Sp := fun vs H Q _ => ∃ (F : Hp) (p : Addr) (a b : Int) (ws : List V) (rs : List RP) (r : RP), vs = .ref p :: ws ∧ Same F H ∧ F p = none ∧ H p = some (.lst [.int a, .int b]) ∧ 0 ≤ a ∧ 0 ≤ b ∧ b < 4294967296 ∧ Vrs F ws rs ∧ C rs r ∧
  ∀ (v : V) (F' H' : Hp) (a' b' : Int), Go (fun c => c = p) F H F' H' → Same F' H' → F' p = none → H' p = some (.lst [.int a', .int b']) → 0 ≤ a' → 0 ≤ b' → b' < 4294967296 → r.R F' v → Q v H'
end Dn
namespace W
open PySem L2 Dn HM
def spPot (K : PySem.W.Frag) : Sp := fun vs H Q _ => ∃ (F : Hp) (script : List Int) (k : Nat), Same F H ∧ Vrs F vs [pSq K script, pI (k : Int)] ∧ k ≤ 2 ∧
  ∀ (p : Addr) (F' H' : Hp) (a b : Int), H p = none → Go0 F H F' H' → Same F' H' → F' p = none → H' p = some (.lst [.int a, .int b]) → 0 ≤ a → 0 ≤ b → b < 4294967296 → Q (.ref p) H'
def spDraw : Sp := fun vs H Q _ => ∃ (p : Addr) (a b many : Int), vs = [.ref p, .int many] ∧ H p = some (.lst [.int a, .int b]) ∧ 0 ≤ a ∧ 0 ≤ b ∧ b < 4294967296 ∧ 1 ≤ many ∧ many ≤ 1000 ∧
  ∀ (a' b' r : Int) (H' : Hp), 0 ≤ a' → 0 ≤ b' → b' < 4294967296 → 0 ≤ r → r < many → (∀ c o, c ≠ p → H c = some o → H' c = some o) → (∀ c, H c ≠ none → H' c ≠ none) → H' p = some (.lst [.int a', .int b']) → Q (.int r) H'
def spRight : Sp := fun vs H Q _ => ∃ (F : Hp) (p : Addr) (a b : Int), vs = [.ref p] ∧ Same F H ∧ F p = none ∧ H p = some (.lst [.int a, .int b]) ∧ 0 ≤ a ∧ 0 ≤ b ∧ b < 4294967296 ∧
  ∀ F' H', Go (fun c => c = p) F H F' H' → Same F' H' → F' p = none → Q (.bl true) H'
def spLaw (K : PySem.W.Frag) : Sp := fun vs H Q _ => ∃ (a : Addr) (ns : List Int), vs = [.ref a] ∧ ns.length ≤ 63 ∧ SqL K H a (ns.map V.int) ∧ ∀ H', Q (.bl true) H'
theorem unit_of {k : Nat} {A : Around} (hr : Room k A) : A.units + 66 < cLine := by have := hr.un; omega
abbrev cC (K : PySem.W.Frag) : Addr := He.ga K "Course"
abbrev pPs (K : PySem.W.Frag) (f : PM.Parts) : RP := pLm (pQs K) f
/-- a course of these parts -/
def pC (K : PySem.W.Frag) (f : PM.Parts) : RP := pO (cC K) [("own_parts", pPs K f)]
abbrev Sz (l : List Rat) : Prop := ∀ x ∈ l, SzQ x
abbrev SzP (f : PM.Parts) : Prop := ∀ l ∈ f, Sz l
/-- parts that a course may have -/
structure Pt (f : PM.Parts) : Prop where
  ne : f ≠ []
  ct : f.length ≤ 60
  ln : ∀ l ∈ f, l.length ≤ 8
  sd : ∀ l ∈ f, PM.Sd l
  np : PM.NoPer f
  sz : SzP f
def C_want_at_most (K : PySem.W.Frag) (rs : List RP) (res : RP) : Prop := ∃ (z : Str) (l n : Int), rs = [pV (.str z), pI l, pI n] ∧ n ≤ l ∧ res = pNon
def C_want_number (K : PySem.W.Frag) (rs : List RP) (res : RP) : Prop := ∃ (q : Rat) (r : RP), rs = [r] ∧ Num K r q ∧ res = pQ K q
/-- a bottom for all, and their tops -/
def bot (l : List Rat) : Nat := l.foldl (fun b x => Nat.lcm b x.den) 1
def C_wholes (K : PySem.W.Frag) (rs : List RP) (res : RP) : Prop := ∃ l : List Rat, rs = [pQs K l] ∧ l.length ≤ 8 ∧ (∀ i, bot (l.take i) < 2 ^ 60) ∧ (∀ x ∈ l, x.num.natAbs < 2 ^ 4000) ∧ res = pT [pI (bot l : Int), pIs (l.map fun x => x.num * ((bot l : Int) / (x.den : Int)))]
def C_stripped (K : PySem.W.Frag) (rs : List RP) (res : RP) : Prop := ∃ l : List Rat, rs = [pQs K l] ∧ l.length ≤ 100 ∧ res = pQs K (PM.strip l)
def C_trimmed (K : PySem.W.Frag) (rs : List RP) (res : RP) : Prop := ∃ f : PM.Parts, rs = [pPs K f] ∧ f.length ≤ 60 ∧ f ≠ [] ∧ (∀ l ∈ f, l.length ≤ 100) ∧ res = pPs K (PM.trimL (f.map PM.strip))
def C_part_sum (K : PySem.W.Frag) (rs : List RP) (res : RP) : Prop := ∃ a b : List Rat, rs = [pQs K a, pQs K b] ∧ a.length ≤ 100 ∧ b.length ≤ 100 ∧ Sz a ∧ Sz b ∧ res = pQs K (PM.psum a b)
def C_part_times (K : PySem.W.Frag) (rs : List RP) (res : RP) : Prop := ∃ (l : List Rat) (c : Rat) (r : RP), rs = [pQs K l, r] ∧ Num K r c ∧ l.length ≤ 100 ∧ Sz l ∧ SzQ c ∧ res = pQs K (PM.pscale l c)
/-- the numbers on the way of putP -/
def PutOk (b s : Rat) : List Rat → Prop
  | [] => True
  | a :: l => PutOk b s l ∧ Sz (PM.putP l b s) ∧ Sz (0 :: PM.pscale (PM.putP l b s) b) ∧ Sz (PM.pscale (PM.putP l b s) s) ∧ Sz (PM.psum (0 :: PM.pscale (PM.putP l b s) b) (PM.pscale (PM.putP l b s) s)) ∧ SzQ a
def C_put_part (K : PySem.W.Frag) (rs : List RP) (res : RP) : Prop := ∃ (l : List Rat) (b s : Rat) (rb rs' : RP), rs = [pQs K l, rb, rs'] ∧ Num K rb b ∧ Num K rs' s ∧ l.length ≤ 20 ∧ SzQ b ∧ SzQ s ∧ PutOk b s l ∧ res = pQs K (PM.putP l b s)
def C_worth_of (K : PySem.W.Frag) (rs : List RP) (res : RP) : Prop := ∃ (l : List Rat) (n : Int), rs = [pQs K l, pI n] ∧ l.length ≤ 8 ∧ (∀ i, bot (l.take i) < 2 ^ 60) ∧ (∀ x ∈ l, x.num.natAbs < 2 ^ 4000) ∧ n.natAbs < 2 ^ 1000 ∧ res = pQ K (PM.ev l (n : Rat))
def C_are_parts (K : PySem.W.Frag) (rs : List RP) (res : RP) : Prop := ∃ f : PM.Parts, rs = [pPs K f] ∧ 1 ≤ f.length ∧ f.length ≤ 60 ∧ (∀ l ∈ f, l.length ≤ 8) ∧ res = pB true
def C_Course_init (K : PySem.W.Frag) (rs : List RP) (fs : List (Str × RP)) : Prop := ∃ f : PM.Parts, rs = [pPs K f] ∧ 1 ≤ f.length ∧ f.length ≤ 60 ∧ (∀ l ∈ f, l.length ≤ 8) ∧ fs = ([("own_parts", pPs K (PM.trimL (f.map PM.strip)))] : List (Str × RP))
def C_Course_period (K : PySem.W.Frag) (rs : List RP) (res : RP) : Prop := ∃ f : PM.Parts, rs = [pC K f] ∧ res = pI (f.length : Int)
def C_Course_degree (K : PySem.W.Frag) (rs : List RP) (res : RP) : Prop := ∃ f : PM.Parts, rs = [pC K f] ∧ f ≠ [] ∧ f.length ≤ 60 ∧ res = pI ((PM.mx f : Int) - 1)
/-- worths of it may be reckoned -/
def AtOk (f : PM.Parts) : Prop := ∀ l ∈ f, l.length ≤ 8 ∧ (∀ i, bot (l.take i) < 2 ^ 60) ∧ (∀ x ∈ l, x.num.natAbs < 2 ^ 4000)
def C_Course_at (K : PySem.W.Frag) (rs : List RP) (res : RP) : Prop := ∃ (f : PM.Parts) (n : Int), rs = [pC K f, pI n] ∧ f ≠ [] ∧ f.length ≤ 60 ∧ AtOk f ∧ n.natAbs < 2 ^ 1000 ∧ res = pQ K (PM.cv f n)
def C_Course_eq (K : PySem.W.Frag) (rs : List RP) (res : RP) : Prop := ∃ f g : PM.Parts, rs = [pC K f, pC K g] ∧ res = pB (decide (f = g))
def C_want_course (K : PySem.W.Frag) (rs : List RP) (res : RP) : Prop := ∃ f : PM.Parts, rs = [pC K f] ∧ res = pC K f
def C_want_whole (K : PySem.W.Frag) (rs : List RP) (res : RP) : Prop := ∃ n : Int, rs = [pI n] ∧ res = pI n
def C_course_of (K : PySem.W.Frag) (rs : List RP) (res : RP) : Prop := ∃ f : PM.Parts, rs = [pPs K f] ∧ f ≠ [] ∧ f.length ≤ 60 ∧ (∀ l ∈ f, l.length ≤ 100) ∧ res = pC K (PM.trimL (f.map PM.strip))
def spCourseOf (K : PySem.W.Frag) : Sp := pureSp (C_course_of K)
def sumP (f g : PM.Parts) : PM.Parts := (List.range (Nat.lcm f.length g.length)).map fun a => PM.psum (f.getD (a % f.length) []) (g.getD (a % g.length) [])
def ledP (f : PM.Parts) (b s : Int) : PM.Parts := (List.range f.length).map fun a : Nat => PM.putP (f.getD ((b * (a : Int) + s) % (f.length : Int)).toNat []) (b : Rat) (s : Rat)
def C_sum_of (K : PySem.W.Frag) (rs : List RP) (res : RP) : Prop := ∃ f g : PM.Parts, rs = [pC K f, pC K g] ∧ Pt f ∧ Pt g ∧ Nat.lcm f.length g.length ≤ 60 ∧ res = pC K (PM.trimL ((sumP f g).map PM.strip))
def C_led_by (K : PySem.W.Frag) (rs : List RP) (res : RP) : Prop := ∃ (f : PM.Parts) (b s : Int), rs = [pC K f, pI b, pI s] ∧ Pt f ∧ b.natAbs < 1000 ∧ s.natAbs < 1000 ∧ (∀ l ∈ f, PutOk (b : Rat) (s : Rat) l) ∧ res = pC K (PM.trimL ((ledP f b s).map PM.strip))
/-- the numbers on the way of through -/
def ThOk (l : List Rat) : Prop := ∀ s, s < l.length → let st := (List.range s).foldl PM.thStep ⟨[], [1], l⟩
  Sz st.found ∧ Sz st.base ∧ Sz st.left ∧ Sz (PM.pscale st.base (st.left.getD 0 0)) ∧ Sz (PM.pscale st.base (((-(s : Int) : Int)) : Rat)) ∧ Sz (PM.psum (0 :: st.base) (PM.pscale st.base (((-(s : Int) : Int)) : Rat)))
def C_part_through (K : PySem.W.Frag) (rs : List RP) (res : RP) : Prop := ∃ l : List Rat, rs = [pQs K l] ∧ l.length ≤ 20 ∧ ThOk l ∧ res = pQs K (PM.through l)
structure GrOk (p m : Nat) (numbers : List Rat) : Prop where
  p1 : 1 ≤ p
  p12 : p ≤ 12
  m1 : 1 ≤ m
  m5 : m ≤ 5
  ln : numbers.length = p * m
  th : ∀ a, a < p → ThOk (PM.every numbers a p m)
  pt : ∀ a, a < p → PutOk (1 / (p : Rat)) ((((-(a : Int) : Int)) : Rat) / (p : Rat)) (PM.through (PM.every numbers a p m))
abbrev grP (p m : Nat) (numbers : List Rat) : PM.Parts := PM.trimL ((PM.growParts p m numbers).map PM.strip)
def C_grown_of (K : PySem.W.Frag) (rs : List RP) (res : RP) : Prop := ∃ (p m : Nat) (numbers : List Rat), rs = [pI (p : Int), pQs K numbers] ∧ GrOk p m numbers ∧ res = pC K (grP p m numbers)
def C_grown (K : PySem.W.Frag) (rs : List RP) (res : RP) : Prop := ∃ (p m : Nat) (numbers : List Rat), rs = [pI (p : Int), pQs K numbers] ∧ GrOk p m numbers ∧ res = pC K (grP p m numbers)
def C_are_grown (K : PySem.W.Frag) (rs : List RP) (res : RP) : Prop := ∃ (p m : Nat) (numbers : List Rat), rs = [pI (p : Int), pQs K numbers] ∧ 1 ≤ p ∧ m ≤ 5 ∧ numbers.length = p * m ∧ p ≤ 12 ∧ res = pB true
def C_plus (K : PySem.W.Frag) (rs : List RP) (res : RP) : Prop := ∃ f g : PM.Parts, rs = [pC K f, pC K g] ∧ Pt f ∧ Pt g ∧ Nat.lcm f.length g.length ≤ 60 ∧ res = pC K (PM.trimL ((sumP f g).map PM.strip))
def C_times (K : PySem.W.Frag) (rs : List RP) (res : RP) : Prop := ∃ (f : PM.Parts) (c : Rat) (r : RP), rs = [pC K f, r] ∧ Num K r c ∧ Pt f ∧ SzQ c ∧ res = pC K (PM.trimL ((f.map fun l => PM.pscale l c).map PM.strip))
def C_led (K : PySem.W.Frag) (rs : List RP) (res : RP) : Prop := ∃ (f : PM.Parts) (b s : Int), rs = [pC K f, pI b, pI s] ∧ Pt f ∧ b.natAbs < 1000 ∧ s.natAbs < 1000 ∧ (∀ l ∈ f, PutOk (b : Rat) (s : Rat) l) ∧ res = pC K (PM.trimL ((ledP f b s).map PM.strip))
abbrev trS (f : PM.Parts) : PM.Parts := PM.trimL (f.map PM.strip)
def C_difference (K : PySem.W.Frag) (rs : List RP) (res : RP) : Prop := ∃ (f : PM.Parts) (s : Int), rs = [pC K f, pI s] ∧ Pt f ∧ s.natAbs < 1000 ∧ (∀ l ∈ f, PutOk ((1 : Int) : Rat) (s : Rat) l) ∧ Pt (trS (ledP f 1 s)) ∧ Pt (trS (f.map fun l => PM.pscale l (-1))) ∧
  Nat.lcm (trS (ledP f 1 s)).length (trS (f.map fun l => PM.pscale l (-1))).length ≤ 60 ∧ res = pC K (trS (sumP (trS (ledP f 1 s)) (trS (f.map fun l => PM.pscale l (-1)))))
def C_is_whole_of (K : PySem.W.Frag) (rs : List RP) (res : RP) : Prop := ∃ f : PM.Parts, rs = [pC K f] ∧ f ≠ [] ∧ f.length ≤ 60 ∧ AtOk f ∧ res = pB (PM.isw f)
def C_is_whole_course (K : PySem.W.Frag) (rs : List RP) (res : RP) : Prop := ∃ f : PM.Parts, rs = [pC K f] ∧ f ≠ [] ∧ f.length ≤ 60 ∧ AtOk f ∧ res = pB (PM.isw f)
/-! the law's own -/
/-- a fraction as the law tells it -/
abbrev pF (q : Rat) : RP := pT [pI q.num, pI (q.den : Int)]
abbrev pFs (l : List Rat) : RP := pLm pF l
def C_law_made (K : PySem.W.Frag) (rs : List RP) (res : RP) : Prop := ∃ a b : Int, rs = [pI a, pI b] ∧ b ≠ 0 ∧ b.natAbs < 2 ^ 8999 ∧ res = pF (Rat.divInt a b)
def C_law_plus (K : PySem.W.Frag) (rs : List RP) (res : RP) : Prop := ∃ a b : Rat, rs = [pF a, pF b] ∧ SzQ a ∧ SzQ b ∧ res = pF (a + b)
def C_law_times (K : PySem.W.Frag) (rs : List RP) (res : RP) : Prop := ∃ (z n y m : Int), rs = [pT [pI z, pI n], pT [pI y, pI m]] ∧ n ≠ 0 ∧ m ≠ 0 ∧ z.natAbs < 2 ^ 4000 ∧ n.natAbs < 2 ^ 4000 ∧ y.natAbs < 2 ^ 4000 ∧ m.natAbs < 2 ^ 4000 ∧ res = pF (Rat.divInt z n * Rat.divInt y m)
def C_law_ratio (K : PySem.W.Frag) (rs : List RP) (res : RP) : Prop := ∃ q : Rat, rs = [pF q] ∧ SzQ q ∧ res = pQ K q
def C_law_raised (K : PySem.W.Frag) (rs : List RP) (res : RP) : Prop := ∃ (l : List Rat) (s b : Int), rs = [pFs l, pI s, pI b] ∧ l.length ≤ 20 ∧ 0 < b ∧ b < 2 ^ 1000 ∧ s.natAbs < 2 ^ 1000 ∧ Sz l ∧ Sz (PM.pscale l (0 - (s : Rat))) ∧ Sz (PM.psum (0 :: l) (PM.pscale l (0 - (s : Rat)))) ∧ res = pFs (PM.raised l (s : Rat) (b : Rat))
/-- the numbers on the way of partOf -/
def PaOk (rest period : Int) (numbers : List Rat) : Prop := ∀ i, i < numbers.length → let st := (numbers.zipIdx.take i).foldl (PM.partStep (rest : Rat) (period : Rat)) (List.replicate (numbers.length + 1) 0, [1])
  Sz st.1 ∧ Sz st.2 ∧ (∀ x ∈ st.2, SzQ (numbers.getD i 0 * x)) ∧ SzQ (numbers.getD i 0) ∧ Sz (PM.pscale st.2 (0 - ((rest + (i : Int) * period : Int) : Rat))) ∧ Sz (PM.psum (0 :: st.2) (PM.pscale st.2 (0 - ((rest + (i : Int) * period : Int) : Rat))))
def C_law_part (K : PySem.W.Frag) (rs : List RP) (res : RP) : Prop := ∃ (rest period : Int) (numbers : List Rat), rs = [pI rest, pI period, pFs numbers] ∧ 1 ≤ period ∧ period ≤ 4 ∧ 0 ≤ rest ∧ rest < 4 ∧ numbers.length ≤ 5 ∧ PaOk rest period numbers ∧ res = pFs (PM.partOf (rest : Rat) (period : Rat) numbers)
/-- one of some, by a draw -/
def C_law_pick (rs : List RP) (r : RP) : Prop := ∃ (α : Type) (xs : List α) (f : α → RP), rs = [pLm f xs] ∧ xs ≠ [] ∧ xs.length ≤ 1000 ∧ r = pX (fun x => x ∈ xs) f
def spPick (_ : PySem.W.Frag) : Sp := potSp C_law_pick
/-- what is asked of a drawn course: whole, or broken in one number -/
def Drawn (br : Bool) (f : PM.Parts) : Prop := Pt f ∧ f.length ≤ 4 ∧ (∀ l ∈ f, l.length ≤ 6) ∧ PM.Cp PM.D0 PM.C0 f ∧ (br = false → PM.Whole (PM.cv f)) ∧ (br = true → ¬ PM.Whole (PM.cv f) ∧ PM.Whole fun n => 60 * PM.cv f n)
def C_law_some (K : PySem.W.Frag) (rs : List RP) (r : RP) : Prop := ∃ br : Bool, rs = [pB br] ∧ r = pX (Drawn br) (pC K)
def spSome (K : PySem.W.Frag) : Sp := potSp (C_law_some K)
abbrev spRight26 (_ : PySem.W.Frag) : Sp := spRight
end W
set_option Elab.async false
set_option linter.all false
set_option maxRecDepth 100000
set_option maxHeartbeats 4000000
namespace W
open PySem L2 Dn
def top (i : Nat) : Stmt := PySem.Challenge.pw_wholefillrows_k26_whole_courses_reckoned.main.body.getD i (.Pass ⟨0, 0, 0, 0⟩)
structure Txt (K : PySem.W.Frag) (mg : Str → Option Value) : Prop where
  b_gcd : mg "gcd" = some (.builtin "math.gcd")
  b_lcm : mg "lcm" = some (.builtin "math.lcm")
  f_abs : mg "abs" = none
  f_all : mg "all" = none
  f_bool : mg "bool" = none
  f_divmod : mg "divmod" = none
  f_enumerate : mg "enumerate" = none
  f_int : mg "int" = none
  f_isinstance : mg "isinstance" = none
  f_len : mg "len" = none
  f_list : mg "list" = none
  f_max : mg "max" = none
  f_min : mg "min" = none
  f_range : mg "range" = none
  f_repr : mg "repr" = none
  f_tuple : mg "tuple" = none
  f_zip : mg "zip" = none
  g_Course : mg "Course" = some (.ref (He.ga K "Course"))
  g_Ratio : mg "Ratio" = some (.ref (He.ga K "Ratio"))
  i_MOST_GROWN : ∃ t, mg "MOST_GROWN" = some (.int 12 t)
  i_MOST_PART : ∃ t, mg "MOST_PART" = some (.int 8 t)
  i_MOST_PERIOD : ∃ t, mg "MOST_PERIOD" = some (.int 60 t)
  i_MOST_SHARE : ∃ t, mg "MOST_SHARE" = some (.int 5 t)
  c_Ratio : Cls K (He.ga K "Ratio")
  c_Course : Cls K (He.ga K "Course")
  m_Course : PySem.W.mroIn K (He.ga K "Course") (.type "object") = some true
  ne_Course : PySem.W.findIn K (.ref (He.ga K "Course")) "__ne__" = some (some (.builtin "object.__ne__"))
  n_own_top : NoAttr K (He.ga K "Ratio") "own_top"
  n_own_bottom : NoAttr K (He.ga K "Ratio") "own_bottom"
  n_own_parts : NoAttr K (He.ga K "Course") "own_parts"

abbrev s_is_integer : Stmt := top 13
theorem sc_is_integer : FnScope ["value"] ["value"] (defScope s_is_integer) := ⟨rfl, rfl, rfl, by decide +kernel, rfl, by decide +kernel, by decide +kernel⟩
def t_is_integer (K : PySem.W.Frag) : TS :=
    (tRet (tAndV (tCB (rIsi K) (tCons (tVar 0) (tCons (tC (.ty "int")) tNil))) (tNotV (tCB (rIsi K) (tCons (tVar 0) (tCons (tC (.ty "bool")) tNil))))))
theorem body_is_integer {P : Program} {w : World} {K : PySem.W.Frag} {mg : Str → Option Value} {base : Heap} (T : Txt K mg) 
    {f : Addr} {cdv : Value} {A : Around} {outer : List Env} {s : Shared} {H : Hp} {E : XK} (hr : Room 0 (A.deeper (PyProof.Rows.envOfC "is_integer" (defScope s_is_integer) s.heap.objs.size f cdv))) :
    PSs (cxOf CX0 P w K mg base ["value"] "is_integer" (defScope s_is_integer) f cdv A outer s H E) (defBody s_is_integer) (t_is_integer K) := by
  exact PSs.nox (pss_one (ps_ret (pe_and (pe_callB call_isi (by rfl) T.f_isinstance (by decide +kernel) (pa_cons (pv 0) (pa_cons (pe_bltn (v := .ty "int") (by rfl) T.f_int (by decide +kernel) rfl) pa_nil))) (pe_one (pe_not (pe_callB call_isi (by rfl) T.f_isinstance (by decide +kernel) (pa_cons (pv 0) (pa_cons (pe_bltn (v := .ty "bool") (by rfl) T.f_bool (by decide +kernel) rfl) pa_nil))))))))
abbrev s_is_list : Stmt := top 14
theorem sc_is_list : FnScope ["value"] ["value"] (defScope s_is_list) := ⟨rfl, rfl, rfl, by decide +kernel, rfl, by decide +kernel, by decide +kernel⟩
def t_is_list (K : PySem.W.Frag) : TS :=
    (tRet (tCB (rIsiT K) (tCons (tVar 0) (tCons (tTup (tCons (tC (.ty "list")) (tCons (tC (.ty "tuple")) tNil))) tNil))))
theorem body_is_list {P : Program} {w : World} {K : PySem.W.Frag} {mg : Str → Option Value} {base : Heap} (T : Txt K mg) 
    {f : Addr} {cdv : Value} {A : Around} {outer : List Env} {s : Shared} {H : Hp} {E : XK} (hr : Room 0 (A.deeper (PyProof.Rows.envOfC "is_list" (defScope s_is_list) s.heap.objs.size f cdv))) :
    PSs (cxOf CX0 P w K mg base ["value"] "is_list" (defScope s_is_list) f cdv A outer s H E) (defBody s_is_list) (t_is_list K) := by
  exact PSs.nox (pss_one (ps_ret (pe_callB call_isiT (by rfl) T.f_isinstance (by decide +kernel) (pa_cons (pv 0) (pa_cons (pe_tup (pa_cons (pe_bltn (v := .ty "list") (by rfl) T.f_list (by decide +kernel) rfl) (pa_cons (pe_bltn (v := .ty "tuple") (by rfl) T.f_tuple (by decide +kernel) rfl) pa_nil))) pa_nil)))))
abbrev s_want_at_most : Stmt := top 15
theorem sc_want_at_most : FnScope ["what", "limit", "number"] ["what", "limit", "number"] (defScope s_want_at_most) := ⟨rfl, rfl, rfl, by decide +kernel, rfl, by decide +kernel, by decide +kernel⟩
def t_want_at_most (K : PySem.W.Frag) : TS :=
    (tIfS (tTest (tOp oGt (tVar 2) (tVar 1))) tNever tNext)
theorem body_want_at_most {P : Program} {w : World} {K : PySem.W.Frag} {mg : Str → Option Value} {base : Heap} (T : Txt K mg) 
    {f : Addr} {cdv : Value} {A : Around} {outer : List Env} {s : Shared} {H : Hp} {E : XK} (hr : Room 0 (A.deeper (PyProof.Rows.envOfC "want_at_most" (defScope s_want_at_most) s.heap.objs.size f cdv))) :
    PSs (cxOf CX0 P w K mg base ["what", "limit", "number"] "want_at_most" (defScope s_want_at_most) f cdv A outer s H E) (defBody s_want_at_most) (t_want_at_most K) := by
  exact PSs.nox (pss_one (ps_if (pt_cmpR op_gt (pv 2) (pv 1) (nomark _)) (pss_one ps_never) pss_nil))
abbrev s_divisor_of : Stmt := top 19
theorem sc_divisor_of : FnScope ["one", "other"] ["one", "other"] (defScope s_divisor_of) := ⟨rfl, rfl, rfl, by decide +kernel, rfl, by decide +kernel, by decide +kernel⟩
def t_divisor_of (K : PySem.W.Frag) : TS :=
    (tRet (tCB rGcd (tCons (tVar 0) (tCons (tVar 1) tNil))))
theorem body_divisor_of {P : Program} {w : World} {K : PySem.W.Frag} {mg : Str → Option Value} {base : Heap} (T : Txt K mg) 
    {f : Addr} {cdv : Value} {A : Around} {outer : List Env} {s : Shared} {H : Hp} {E : XK} (hr : Room 0 (A.deeper (PyProof.Rows.envOfC "divisor_of" (defScope s_divisor_of) s.heap.objs.size f cdv))) :
    PSs (cxOf CX0 P w K mg base ["one", "other"] "divisor_of" (defScope s_divisor_of) f cdv A outer s H E) (defBody s_divisor_of) (t_divisor_of K) := by
  exact PSs.nox (pss_one (ps_ret (pe_callBfun cr_gcd (by rfl) T.b_gcd (pa_cons (pv 0) (pa_cons (pv 1) pa_nil)))))
abbrev s_Ratio_init : Stmt := inClass (top 20) 0
theorem sc_Ratio_init : FnScope ["self", "top", "bottom", "common"] ["self", "top", "bottom"] (defScope s_Ratio_init) := ⟨rfl, rfl, rfl, by decide +kernel, rfl, by decide +kernel, by decide +kernel⟩
def t_Ratio_init (K : PySem.W.Frag) : TS :=
    (tSeq (tIfS (tNot (tB (tCall (pureSp (C_is_integer K)) [] E0 (tCons (tVar 1) tNil)))) tNever tNext)
    (tSeq (tIfS (tOr (tNot (tB (tCall (pureSp (C_is_integer K)) [] E0 (tCons (tVar 2) tNil)))) (tTest (tOp rEq (tVar 2) (tC (.int 0))))) tNever tNext)
    (tSeq (tAsg (tCall (pureSp (C_divisor_of K)) [] E0 (tCons (tVar 1) (tCons (tVar 2) tNil))) (gName 3))
    (tSeq (tIfS (tTest (tOp oLt (tVar 2) (tC (.int 0)))) (tAsg (tOp oSub (tC (.int 0)) (tVar 3)) (gName 3)) tNext)
    (tSeq (sFld K (tVar 0) (tOp oDiv (tVar 1) (tVar 3)) "own_top")
    (sFld K (tVar 0) (tOp oDiv (tVar 2) (tVar 3)) "own_bottom"))))))
theorem body_Ratio_init {P : Program} {w : World} {K : PySem.W.Frag} {mg : Str → Option Value} {base : Heap} (T : Txt K mg) (c0 : Cal P w K mg base "is_integer" 1 ["value"] (pureSp (C_is_integer K))) (c1 : Cal P w K mg base "divisor_of" 1 ["one", "other"] (pureSp (C_divisor_of K)))
    {f : Addr} {cdv : Value} {A : Around} {outer : List Env} {s : Shared} {H : Hp} {E : XK} (hr : Room 1 (A.deeper (PyProof.Rows.envOfC "Ratio.__init__" (defScope s_Ratio_init) s.heap.objs.size f cdv))) :
    PSs (cxOf CX0 P w K mg base ["self", "top", "bottom", "common"] "Ratio.__init__" (defScope s_Ratio_init) f cdv A outer s H E) (defBody s_Ratio_init) (t_Ratio_init K) := by
  obtain ⟨_, _, h0_G, h0_m, h0_k, h0_b⟩ := c0
  obtain ⟨_, _, h1_G, h1_m, h1_k, h1_b⟩ := c1
  exact PSs.nox (pss_cons (ps_if (pt_not (pt_val (pe_call h0_G hr rfl h0_m h0_k h0_b .nil pass0 (pa_cons (pv 1) pa_nil)))) (pss_one ps_never) pss_nil)
    (pss_cons (ps_if (PW.pt (pw_or (pt_not (pt_val (pe_call h0_G hr rfl h0_m h0_k h0_b .nil pass0 (pa_cons (pv 2) pa_nil)))) (pw_or1 (pt_cmpR op_eq (pv 2) pe_int (nomark _))))) (pss_one ps_never) pss_nil)
    (pss_cons (ps_set (i := 3) sc_Ratio_init.nd rfl (Or.inl rfl) (pe_call h1_G hr rfl h1_m h1_k h1_b .nil pass0 (pa_cons (pv 1) (pa_cons (pv 2) pa_nil))))
    (pss_cons (ps_if (pt_cmpR op_lt (pv 2) pe_int (nomark _)) (pss_one (ps_set (i := 3) sc_Ratio_init.nd rfl (Or.inl rfl) (pe_op op_sub pe_int (pv 3)))) pss_nil)
    (pss_cons (ps_fld (pv 0) (pe_op op_fdivA (pv 1) (pv 3)) rfl)
    (pss_one (ps_fld (pv 0) (pe_op op_fdivA (pv 2) (pv 3)) rfl)))))))
abbrev s_Ratio_sign : Stmt := inClass (top 20) 3
theorem sc_Ratio_sign : FnScope ["self"] ["self"] (defScope s_Ratio_sign) := ⟨rfl, rfl, rfl, by decide +kernel, rfl, by decide +kernel, by decide +kernel⟩
def t_Ratio_sign (K : PySem.W.Frag) : TS :=
    (tRet (tOp oSub (tCB uInt (tCons (tOp oGt (tFld K (tVar 0) "own_top") (tC (.int 0))) tNil)) (tCB uInt (tCons (tOp oLt (tFld K (tVar 0) "own_top") (tC (.int 0))) tNil))))
theorem body_Ratio_sign {P : Program} {w : World} {K : PySem.W.Frag} {mg : Str → Option Value} {base : Heap} (T : Txt K mg) 
    {f : Addr} {cdv : Value} {A : Around} {outer : List Env} {s : Shared} {H : Hp} {E : XK} (hr : Room 0 (A.deeper (PyProof.Rows.envOfC "Ratio.sign" (defScope s_Ratio_sign) s.heap.objs.size f cdv))) :
    PSs (cxOf CX0 P w K mg base ["self"] "Ratio.sign" (defScope s_Ratio_sign) f cdv A outer s H E) (defBody s_Ratio_sign) (t_Ratio_sign K) := by
  exact PSs.nox (pss_one (ps_ret (pe_op op_sub (pe_callTy cr_int (by rfl) T.f_int (by decide +kernel) (pa_cons (pe_cmpR op_gt (pe_fld (pv 0) rfl) pe_int (nomark _)) pa_nil)) (pe_callTy cr_int (by rfl) T.f_int (by decide +kernel) (pa_cons (pe_cmpR op_lt (pe_fld (pv 0) rfl) pe_int (nomark _)) pa_nil)))))
abbrev s_Ratio_is_whole : Stmt := inClass (top 20) 4
theorem sc_Ratio_is_whole : FnScope ["self"] ["self"] (defScope s_Ratio_is_whole) := ⟨rfl, rfl, rfl, by decide +kernel, rfl, by decide +kernel, by decide +kernel⟩
def t_Ratio_is_whole (K : PySem.W.Frag) : TS :=
    (tRet (tOp rEq (tFld K (tVar 0) "own_bottom") (tC (.int 1))))
theorem body_Ratio_is_whole {P : Program} {w : World} {K : PySem.W.Frag} {mg : Str → Option Value} {base : Heap} (T : Txt K mg) 
    {f : Addr} {cdv : Value} {A : Around} {outer : List Env} {s : Shared} {H : Hp} {E : XK} (hr : Room 0 (A.deeper (PyProof.Rows.envOfC "Ratio.is_whole" (defScope s_Ratio_is_whole) s.heap.objs.size f cdv))) :
    PSs (cxOf CX0 P w K mg base ["self"] "Ratio.is_whole" (defScope s_Ratio_is_whole) f cdv A outer s H E) (defBody s_Ratio_is_whole) (t_Ratio_is_whole K) := by
  exact PSs.nox (pss_one (ps_ret (pe_cmpR op_eq (pe_fld (pv 0) rfl) pe_int (nomark _))))
abbrev s_told_pair : Stmt := top 21
theorem sc_told_pair : FnScope ["value"] ["value"] (defScope s_told_pair) := ⟨rfl, rfl, rfl, by decide +kernel, rfl, by decide +kernel, by decide +kernel⟩
def t_told_pair (K : PySem.W.Frag) : TS :=
    (tSeq (tIfS (tB (tCB (rIsi K) (tCons (tVar 0) (tCons (tC (.ref (He.ga K "Ratio"))) tNil)))) (tRet (tTup (tCons (tFld K (tVar 0) "own_top") (tCons (tFld K (tVar 0) "own_bottom") tNil)))) tNext)
    (tSeq (tIfS (tNot (tB (tCall (pureSp (C_is_integer K)) [] E0 (tCons (tVar 0) tNil)))) tNever tNext)
    (tRet (tTup (tCons (tVar 0) (tCons (tC (.int 1)) tNil))))))
theorem body_told_pair {P : Program} {w : World} {K : PySem.W.Frag} {mg : Str → Option Value} {base : Heap} (T : Txt K mg) (c0 : Cal P w K mg base "is_integer" 1 ["value"] (pureSp (C_is_integer K)))
    {f : Addr} {cdv : Value} {A : Around} {outer : List Env} {s : Shared} {H : Hp} {E : XK} (hr : Room 1 (A.deeper (PyProof.Rows.envOfC "told_pair" (defScope s_told_pair) s.heap.objs.size f cdv))) :
    PSs (cxOf CX0 P w K mg base ["value"] "told_pair" (defScope s_told_pair) f cdv A outer s H E) (defBody s_told_pair) (t_told_pair K) := by
  obtain ⟨_, _, h0_G, h0_m, h0_k, h0_b⟩ := c0
  exact PSs.nox (pss_cons (ps_if (pt_val (pe_callB call_isi (by rfl) T.f_isinstance (by decide +kernel) (pa_cons (pv 0) (pa_cons (pe_glob (v := .ref (He.ga K "Ratio")) rfl T.g_Ratio rfl) pa_nil)))) (pss_one (ps_ret (pe_tup (pa_cons (pe_fld (pv 0) rfl) (pa_cons (pe_fld (pv 0) rfl) pa_nil))))) pss_nil)
    (pss_cons (ps_if (pt_not (pt_val (pe_call h0_G hr rfl h0_m h0_k h0_b .nil pass0 (pa_cons (pv 0) pa_nil)))) (pss_one ps_never) pss_nil)
    (pss_one (ps_ret (pe_tup (pa_cons (pv 0) (pa_cons pe_int pa_nil)))))))
abbrev s_Ratio_add : Stmt := inClass (top 20) 6
theorem sc_Ratio_add : FnScope ["self", "other", "top", "bottom"] ["self", "other"] (defScope s_Ratio_add) := ⟨rfl, rfl, rfl, by decide +kernel, rfl, by decide +kernel, by decide +kernel⟩
def t_Ratio_add (K : PySem.W.Frag) : TS :=
    (tSeq (tAsg (tCall (pureSp (C_told_pair K)) [] E0 (tCons (tVar 1) tNil)) (gTup K 2 (gCons (gName 2) (gCons (gName 3) gNil))))
    (tRet (tMake (He.ga K "Ratio") (initSp (He.ga K "Ratio") (C_Ratio_init K)) [] E0 (tCons (tOp oAdd (tOp oMul (tFld K (tVar 0) "own_top") (tVar 3)) (tOp oMul (tVar 2) (tFld K (tVar 0) "own_bottom"))) (tCons (tOp oMul (tFld K (tVar 0) "own_bottom") (tVar 3)) tNil)))))
theorem body_Ratio_add {P : Program} {w : World} {K : PySem.W.Frag} {mg : Str → Option Value} {base : Heap} (T : Txt K mg) (c0 : Cal P w K mg base "told_pair" 2 ["value"] (pureSp (C_told_pair K))) (c1 : MkC P w K mg base "Ratio" (He.ga K "Ratio") 2 ["self", "top", "bottom"] (initSp (He.ga K "Ratio") (C_Ratio_init K)) [])
    {f : Addr} {cdv : Value} {A : Around} {outer : List Env} {s : Shared} {H : Hp} {E : XK} (hr : Room 3 (A.deeper (PyProof.Rows.envOfC "Ratio.__add__" (defScope s_Ratio_add) s.heap.objs.size f cdv))) :
    PSs (cxOf CX0 P w K mg base ["self", "other", "top", "bottom"] "Ratio.__add__" (defScope s_Ratio_add) f cdv A outer s H E) (defBody s_Ratio_add) (t_Ratio_add K) := by
  obtain ⟨_, _, h0_G, h0_m, h0_k, h0_b⟩ := c0
  obtain ⟨_, _, _, h1_M, h1_G, h1_b, h1_v, h1_m⟩ := c1
  exact PSs.nox (pss_cons (ps_asg (pe_call h0_G (hr.mono (by decide)) rfl h0_m h0_k h0_b .nil pass0 (pa_cons (pv 1) pa_nil)) (pg_tup rfl (pgs_cons (pg_name (i := 2) sc_Ratio_add.nd rfl (Or.inl rfl) (hf := .inl rfl)) (pgs_cons (pg_name (i := 3) sc_Ratio_add.nd rfl (Or.inl rfl) (hf := .inl rfl)) pgs_nil))))
    (pss_one (ps_ret (pe_make h1_M h1_G hr rfl h1_m h1_b h1_v pass0 (pa_cons (pe_op op_add (pe_op op_mulW (pe_fld (pv 0) rfl) (pv 3)) (pe_op op_mulW (pv 2) (pe_fld (pv 0) rfl))) (pa_cons (pe_op op_mulW (pe_fld (pv 0) rfl) (pv 3)) pa_nil))))))
abbrev s_Ratio_mul : Stmt := inClass (top 20) 10
theorem sc_Ratio_mul : FnScope ["self", "other", "top", "bottom"] ["self", "other"] (defScope s_Ratio_mul) := ⟨rfl, rfl, rfl, by decide +kernel, rfl, by decide +kernel, by decide +kernel⟩
def t_Ratio_mul (K : PySem.W.Frag) : TS :=
    (tSeq (tAsg (tCall (pureSp (C_told_pair K)) [] E0 (tCons (tVar 1) tNil)) (gTup K 2 (gCons (gName 2) (gCons (gName 3) gNil))))
    (tRet (tMake (He.ga K "Ratio") (initSp (He.ga K "Ratio") (C_Ratio_init K)) [] E0 (tCons (tOp oMul (tFld K (tVar 0) "own_top") (tVar 2)) (tCons (tOp oMul (tFld K (tVar 0) "own_bottom") (tVar 3)) tNil)))))
theorem body_Ratio_mul {P : Program} {w : World} {K : PySem.W.Frag} {mg : Str → Option Value} {base : Heap} (T : Txt K mg) (c0 : Cal P w K mg base "told_pair" 2 ["value"] (pureSp (C_told_pair K))) (c1 : MkC P w K mg base "Ratio" (He.ga K "Ratio") 2 ["self", "top", "bottom"] (initSp (He.ga K "Ratio") (C_Ratio_init K)) [])
    {f : Addr} {cdv : Value} {A : Around} {outer : List Env} {s : Shared} {H : Hp} {E : XK} (hr : Room 3 (A.deeper (PyProof.Rows.envOfC "Ratio.__mul__" (defScope s_Ratio_mul) s.heap.objs.size f cdv))) :
    PSs (cxOf CX0 P w K mg base ["self", "other", "top", "bottom"] "Ratio.__mul__" (defScope s_Ratio_mul) f cdv A outer s H E) (defBody s_Ratio_mul) (t_Ratio_mul K) := by
  obtain ⟨_, _, h0_G, h0_m, h0_k, h0_b⟩ := c0
  obtain ⟨_, _, _, h1_M, h1_G, h1_b, h1_v, h1_m⟩ := c1
  exact PSs.nox (pss_cons (ps_asg (pe_call h0_G (hr.mono (by decide)) rfl h0_m h0_k h0_b .nil pass0 (pa_cons (pv 1) pa_nil)) (pg_tup rfl (pgs_cons (pg_name (i := 2) sc_Ratio_mul.nd rfl (Or.inl rfl) (hf := .inl rfl)) (pgs_cons (pg_name (i := 3) sc_Ratio_mul.nd rfl (Or.inl rfl) (hf := .inl rfl)) pgs_nil))))
    (pss_one (ps_ret (pe_make h1_M h1_G hr rfl h1_m h1_b h1_v pass0 (pa_cons (pe_op op_mulW (pe_fld (pv 0) rfl) (pv 2)) (pa_cons (pe_op op_mulW (pe_fld (pv 0) rfl) (pv 3)) pa_nil))))))
abbrev s_Ratio_sub : Stmt := inClass (top 20) 8
theorem sc_Ratio_sub : FnScope ["self", "other", "top", "bottom"] ["self", "other"] (defScope s_Ratio_sub) := ⟨rfl, rfl, rfl, by decide +kernel, rfl, by decide +kernel, by decide +kernel⟩
def t_Ratio_sub (K : PySem.W.Frag) : TS :=
    (tSeq (tAsg (tCall (pureSp (C_told_pair K)) [] E0 (tCons (tVar 1) tNil)) (gTup K 2 (gCons (gName 2) (gCons (gName 3) gNil))))
    (tRet (tMake (He.ga K "Ratio") (initSp (He.ga K "Ratio") (C_Ratio_init K)) [] E0 (tCons (tOp oSub (tOp oMul (tFld K (tVar 0) "own_top") (tVar 3)) (tOp oMul (tVar 2) (tFld K (tVar 0) "own_bottom"))) (tCons (tOp oMul (tFld K (tVar 0) "own_bottom") (tVar 3)) tNil)))))
theorem body_Ratio_sub {P : Program} {w : World} {K : PySem.W.Frag} {mg : Str → Option Value} {base : Heap} (T : Txt K mg) (c0 : Cal P w K mg base "told_pair" 2 ["value"] (pureSp (C_told_pair K))) (c1 : MkC P w K mg base "Ratio" (He.ga K "Ratio") 2 ["self", "top", "bottom"] (initSp (He.ga K "Ratio") (C_Ratio_init K)) [])
    {f : Addr} {cdv : Value} {A : Around} {outer : List Env} {s : Shared} {H : Hp} {E : XK} (hr : Room 3 (A.deeper (PyProof.Rows.envOfC "Ratio.__sub__" (defScope s_Ratio_sub) s.heap.objs.size f cdv))) :
    PSs (cxOf CX0 P w K mg base ["self", "other", "top", "bottom"] "Ratio.__sub__" (defScope s_Ratio_sub) f cdv A outer s H E) (defBody s_Ratio_sub) (t_Ratio_sub K) := by
  obtain ⟨_, _, h0_G, h0_m, h0_k, h0_b⟩ := c0
  obtain ⟨_, _, _, h1_M, h1_G, h1_b, h1_v, h1_m⟩ := c1
  exact PSs.nox (pss_cons (ps_asg (pe_call h0_G (hr.mono (by decide)) rfl h0_m h0_k h0_b .nil pass0 (pa_cons (pv 1) pa_nil)) (pg_tup rfl (pgs_cons (pg_name (i := 2) sc_Ratio_sub.nd rfl (Or.inl rfl) (hf := .inl rfl)) (pgs_cons (pg_name (i := 3) sc_Ratio_sub.nd rfl (Or.inl rfl) (hf := .inl rfl)) pgs_nil))))
    (pss_one (ps_ret (pe_make h1_M h1_G hr rfl h1_m h1_b h1_v pass0 (pa_cons (pe_op op_sub (pe_op op_mulW (pe_fld (pv 0) rfl) (pv 3)) (pe_op op_mulW (pv 2) (pe_fld (pv 0) rfl))) (pa_cons (pe_op op_mulW (pe_fld (pv 0) rfl) (pv 3)) pa_nil))))))
abbrev s_Ratio_eq : Stmt := inClass (top 20) 17
theorem sc_Ratio_eq : FnScope ["self", "other"] ["self", "other"] (defScope s_Ratio_eq) := ⟨rfl, rfl, rfl, by decide +kernel, rfl, by decide +kernel, by decide +kernel⟩
def t_Ratio_eq (K : PySem.W.Frag) : TS :=
    (tSeq (tIfS (tNot (tB (tCB (rIsi K) (tCons (tVar 1) (tCons (tC (.ref (He.ga K "Ratio"))) tNil))))) (tRet (tC (.bl false))) tNext)
    (tRet (tAndV (tOp rEq (tFld K (tVar 0) "own_top") (tFld K (tVar 1) "own_top")) (tOp rEq (tFld K (tVar 0) "own_bottom") (tFld K (tVar 1) "own_bottom")))))
theorem body_Ratio_eq {P : Program} {w : World} {K : PySem.W.Frag} {mg : Str → Option Value} {base : Heap} (T : Txt K mg) 
    {f : Addr} {cdv : Value} {A : Around} {outer : List Env} {s : Shared} {H : Hp} {E : XK} (hr : Room 0 (A.deeper (PyProof.Rows.envOfC "Ratio.__eq__" (defScope s_Ratio_eq) s.heap.objs.size f cdv))) :
    PSs (cxOf CX0 P w K mg base ["self", "other"] "Ratio.__eq__" (defScope s_Ratio_eq) f cdv A outer s H E) (defBody s_Ratio_eq) (t_Ratio_eq K) := by
  exact PSs.nox (pss_cons (ps_if (pt_not (pt_val (pe_callB call_isi (by rfl) T.f_isinstance (by decide +kernel) (pa_cons (pv 1) (pa_cons (pe_glob (v := .ref (He.ga K "Ratio")) rfl T.g_Ratio rfl) pa_nil))))) (pss_one (ps_ret pe_bl)) pss_nil)
    (pss_one (ps_ret (pe_and (pe_cmpR op_eq (pe_fld (pv 0) rfl) (pe_fld (pv 1) rfl) (nomark _)) (pe_one (pe_cmpR op_eq (pe_fld (pv 0) rfl) (pe_fld (pv 1) rfl) (nomark _)))))))
abbrev s_is_number : Stmt := top 22
theorem sc_is_number : FnScope ["value"] ["value"] (defScope s_is_number) := ⟨rfl, rfl, rfl, by decide +kernel, rfl, by decide +kernel, by decide +kernel⟩
def t_is_number (K : PySem.W.Frag) : TS :=
    (tRet (tOrV (tCall (pureSp (C_is_integer K)) [] E0 (tCons (tVar 0) tNil)) (tCB (rIsi K) (tCons (tVar 0) (tCons (tC (.ref (He.ga K "Ratio"))) tNil)))))
theorem body_is_number {P : Program} {w : World} {K : PySem.W.Frag} {mg : Str → Option Value} {base : Heap} (T : Txt K mg) (c0 : Cal P w K mg base "is_integer" 1 ["value"] (pureSp (C_is_integer K)))
    {f : Addr} {cdv : Value} {A : Around} {outer : List Env} {s : Shared} {H : Hp} {E : XK} (hr : Room 1 (A.deeper (PyProof.Rows.envOfC "is_number" (defScope s_is_number) s.heap.objs.size f cdv))) :
    PSs (cxOf CX0 P w K mg base ["value"] "is_number" (defScope s_is_number) f cdv A outer s H E) (defBody s_is_number) (t_is_number K) := by
  obtain ⟨_, _, h0_G, h0_m, h0_k, h0_b⟩ := c0
  exact PSs.nox (pss_one (ps_ret (pe_or (pe_call h0_G hr rfl h0_m h0_k h0_b .nil pass0 (pa_cons (pv 0) pa_nil)) (pe_one (pe_callB call_isi (by rfl) T.f_isinstance (by decide +kernel) (pa_cons (pv 0) (pa_cons (pe_glob (v := .ref (He.ga K "Ratio")) rfl T.g_Ratio rfl) pa_nil)))))))
abbrev s_ratio_of : Stmt := top 23
theorem sc_ratio_of : FnScope ["number"] ["number"] (defScope s_ratio_of) := ⟨rfl, rfl, rfl, by decide +kernel, rfl, by decide +kernel, by decide +kernel⟩
def t_ratio_of (K : PySem.W.Frag) : TS :=
    (tRet (tIf (tB (tCB (rIsi K) (tCons (tVar 0) (tCons (tC (.ref (He.ga K "Ratio"))) tNil)))) (tVar 0) (tMake (He.ga K "Ratio") (initSp (He.ga K "Ratio") (C_Ratio_init K)) [.int 1] E0 (tCons (tVar 0) tNil))))
theorem body_ratio_of {P : Program} {w : World} {K : PySem.W.Frag} {mg : Str → Option Value} {base : Heap} (T : Txt K mg) (c0 : MkC P w K mg base "Ratio" (He.ga K "Ratio") 2 ["self", "top", "bottom"] (initSp (He.ga K "Ratio") (C_Ratio_init K)) [.int 1])
    {f : Addr} {cdv : Value} {A : Around} {outer : List Env} {s : Shared} {H : Hp} {E : XK} (hr : Room 3 (A.deeper (PyProof.Rows.envOfC "ratio_of" (defScope s_ratio_of) s.heap.objs.size f cdv))) :
    PSs (cxOf CX0 P w K mg base ["number"] "ratio_of" (defScope s_ratio_of) f cdv A outer s H E) (defBody s_ratio_of) (t_ratio_of K) := by
  obtain ⟨_, _, _, h0_M, h0_G, h0_b, h0_v, h0_m⟩ := c0
  exact PSs.nox (pss_one (ps_ret (pe_ifExp (pt_val (pe_callB call_isi (by rfl) T.f_isinstance (by decide +kernel) (pa_cons (pv 0) (pa_cons (pe_glob (v := .ref (He.ga K "Ratio")) rfl T.g_Ratio rfl) pa_nil)))) (pv 0) (pe_make h0_M h0_G hr rfl h0_m h0_b h0_v pass0 (pa_cons (pv 0) pa_nil)))))
abbrev s_want_number : Stmt := top 24
theorem sc_want_number : FnScope ["value"] ["value"] (defScope s_want_number) := ⟨rfl, rfl, rfl, by decide +kernel, rfl, by decide +kernel, by decide +kernel⟩
def t_want_number (K : PySem.W.Frag) : TS :=
    (tSeq (tIfS (tNot (tB (tCall (pureSp (C_is_number K)) [] E0 (tCons (tVar 0) tNil)))) tNever tNext)
    (tRet (tCall (pureSp (C_ratio_of K)) [] E0 (tCons (tVar 0) tNil))))
theorem body_want_number {P : Program} {w : World} {K : PySem.W.Frag} {mg : Str → Option Value} {base : Heap} (T : Txt K mg) (c0 : Cal P w K mg base "is_number" 2 ["value"] (pureSp (C_is_number K))) (c1 : Cal P w K mg base "ratio_of" 4 ["number"] (pureSp (C_ratio_of K)))
    {f : Addr} {cdv : Value} {A : Around} {outer : List Env} {s : Shared} {H : Hp} {E : XK} (hr : Room 4 (A.deeper (PyProof.Rows.envOfC "want_number" (defScope s_want_number) s.heap.objs.size f cdv))) :
    PSs (cxOf CX0 P w K mg base ["value"] "want_number" (defScope s_want_number) f cdv A outer s H E) (defBody s_want_number) (t_want_number K) := by
  obtain ⟨_, _, h0_G, h0_m, h0_k, h0_b⟩ := c0
  obtain ⟨_, _, h1_G, h1_m, h1_k, h1_b⟩ := c1
  exact PSs.nox (pss_cons (ps_if (pt_not (pt_val (pe_call h0_G (hr.mono (by decide)) rfl h0_m h0_k h0_b .nil pass0 (pa_cons (pv 0) pa_nil)))) (pss_one ps_never) pss_nil)
    (pss_one (ps_ret (pe_call h1_G hr rfl h1_m h1_k h1_b .nil pass0 (pa_cons (pv 0) pa_nil)))))
abbrev s_wholes : Stmt := top 25
theorem sc_wholes : FnScope ["ratios", "bottom", "ratio"] ["ratios"] (defScope s_wholes) := ⟨rfl, rfl, rfl, by decide +kernel, rfl, by decide +kernel, by decide +kernel⟩
def t_wholes (K : PySem.W.Frag) : TS :=
    (tSeq (tAsg (tC (.int 1)) (gName 1))
    (tSeq (tFor (iList K (tVar 0)) (gName 2) (tAsg (tCB uLcm (tCons (tVar 1) (tCons (tFld K (tVar 2) "own_bottom") tNil))) (gName 1)))
    (tRet (tTup (tCons (tVar 1) (tCons (tLc (iList K (tVar 0)) (gName 2) tYes (tOp oMul (tFld K (tVar 2) "own_top") (tOp oDiv (tVar 1) (tFld K (tVar 2) "own_bottom"))) [2]) tNil))))))
theorem body_wholes {P : Program} {w : World} {K : PySem.W.Frag} {mg : Str → Option Value} {base : Heap} (T : Txt K mg) 
    {f : Addr} {cdv : Value} {A : Around} {outer : List Env} {s : Shared} {H : Hp} {E : XK} (hr : Room 0 (A.deeper (PyProof.Rows.envOfC "wholes" (defScope s_wholes) s.heap.objs.size f cdv))) :
    PSs (cxOf CX0 P w K mg base ["ratios", "bottom", "ratio"] "wholes" (defScope s_wholes) f cdv A outer s H E) (defBody s_wholes) (t_wholes K) := by
  exact PSs.nox (pss_cons (ps_set (i := 1) sc_wholes.nd rfl (Or.inr rfl) pe_int)
    (pss_cons (ps_for PassesOwn.never rfl (pi_list (pv 0)) (pg_name (i := 2) sc_wholes.nd rfl (Or.inl rfl) (hf := .inl rfl)) (pss_one (ps_set (i := 1) sc_wholes.nd rfl (Or.inr rfl) (pe_callBfun cr_lcm (by rfl) T.b_lcm (pa_cons (pv 1) (pa_cons (pe_fld (pv 2) rfl) pa_nil))))))
    (pss_one (ps_ret (pe_tup (pa_cons (pv 1) (pa_cons (pe_lc (own := [("ratio", 2)]) (g := (gName 2)) (tt := tYes) (te := (tOp oMul (tFld K (tVar 2) "own_top") (tOp oDiv (tVar 1) (tFld K (tVar 2) "own_bottom")))) rfl sc_wholes.nd (pi_list (pv 0)) (blkOk_by (N := ["ratios", "bottom", "ratio"]) (sc := defScope s_wholes) (by decide +kernel)) (fun _ _ _ _ _ => (pg_name (i := 2) sc_wholes.nd rfl (Or.inl rfl) (hf := Or.inr rfl))) (fun _ _ _ _ _ => pts_nil) (fun _ _ _ _ _ => (pe_op op_mulW (pe_fld (pv 2) rfl) (pe_op op_fdivA (pv 1) (pe_fld (pv 2) rfl))))) pa_nil)))))))
abbrev s_stripped : Stmt := top 31
theorem sc_stripped : FnScope ["part", "many"] ["part"] (defScope s_stripped) := ⟨rfl, rfl, rfl, by decide +kernel, rfl, by decide +kernel, by decide +kernel⟩
def t_stripped (K : PySem.W.Frag) : TS :=
    (tSeq (tAsg (tCB (uLen K) (tCons (tVar 0) tNil)) (gName 1))
    (tSeq (tWhile (tAnd (tTest (tOp oGt (tVar 1) (tC (.int 0)))) (tTest (tOp rEq (tProp (He.ga K "Ratio") (pureSp (C_Ratio_sign K)) [] E0 (tOp (rIxL K) (tVar 0) (tOp oSub (tVar 1) (tC (.int 1))))) (tC (.int 0))))) (tAsg (tOp oSub (tVar 1) (tC (.int 1))) (gName 1)))
    (tRet (tSl (rSlL K) (tVar 0) tNoPart (tPart (tVar 1))))))
theorem body_stripped {P : Program} {w : World} {K : PySem.W.Frag} {mg : Str → Option Value} {base : Heap} (T : Txt K mg) (c0 : PrC P w K mg base (He.ga K "Ratio") "sign" 1 ["self"] (pureSp (C_Ratio_sign K)))
    {f : Addr} {cdv : Value} {A : Around} {outer : List Env} {s : Shared} {H : Hp} {E : XK} (hr : Room 2 (A.deeper (PyProof.Rows.envOfC "stripped" (defScope s_stripped) s.heap.objs.size f cdv))) :
    PSs (cxOf CX0 P w K mg base ["part", "many"] "stripped" (defScope s_stripped) f cdv A outer s H E) (defBody s_stripped) (t_stripped K) := by
  obtain ⟨_, _, _, h0_p, h0_G, h0_b⟩ := c0
  exact PSs.nox (pss_cons (ps_set (i := 1) sc_stripped.nd rfl (Or.inl rfl) (pe_callB cr_len (by rfl) T.f_len PySem.boot_len (pa_cons (pv 0) pa_nil)))
    (pss_cons (ps_while PassesOwn.never (PW.pt (pw_and (pt_cmpR op_gt (pv 1) pe_int (nomark _)) (pw_and1 (pt_cmpR op_eq (pe_prop (pe_ix ix_list (pv 0) (pe_op op_sub (pv 1) pe_int) (fun _ _ => rfl)) T.c_Ratio h0_p h0_G hr h0_b .nil pass0 rfl) pe_int (nomark _))))) (pss_one (ps_set (i := 1) sc_stripped.nd rfl (Or.inl rfl) (pe_op op_sub (pv 1) pe_int))))
    (pss_one (ps_ret (pe_slice sl_list (pv 0) po_none (po_some (pv 1)))))))
abbrev s_trimmed : Stmt := top 32
theorem sc_trimmed : FnScope ["parts", "found", "many", "part"] ["parts"] (defScope s_trimmed) := ⟨rfl, rfl, rfl, by decide +kernel, rfl, by decide +kernel, by decide +kernel⟩
def t_trimmed (K : PySem.W.Frag) : TS :=
    (tSeq (tAsg (tLc (iList K (tVar 0)) (gName 3) tYes (tCall (pureSp (C_stripped K)) [] E0 (tCons (tVar 3) tNil)) [3]) (gName 1))
    (tSeq (tFor (iRng2 (tCons (tC (.int 1)) (tCons (tCB (uLen K) (tCons (tVar 1) tNil)) tNil))) (gName 2) (tIfS (tAnd (tTest (tOp rEq (tOp oMod (tCB (uLen K) (tCons (tVar 1) tNil)) (tVar 2)) (tC (.int 0)))) (tTest (tOp (rEqF (pLm (pQ K))) (tVar 1) (tOp rRep (tSl (rSlL K) (tVar 1) tNoPart (tPart (tVar 2))) (tOp oDiv (tCB (uLen K) (tCons (tVar 1) tNil)) (tVar 2)))))) (tRet (tSl (rSlL K) (tVar 1) tNoPart (tPart (tVar 2)))) tNext))
    (tRet (tVar 1))))
theorem body_trimmed {P : Program} {w : World} {K : PySem.W.Frag} {mg : Str → Option Value} {base : Heap} (T : Txt K mg) (c0 : Cal P w K mg base "stripped" 3 ["part"] (pureSp (C_stripped K))) (c1 : EqC P w K mg base (He.ga K "Ratio") 1 ["self", "other"] (pureSp (C_Ratio_eq K)))
    {f : Addr} {cdv : Value} {A : Around} {outer : List Env} {s : Shared} {H : Hp} {E : XK} (hr : Room 3 (A.deeper (PyProof.Rows.envOfC "trimmed" (defScope s_trimmed) s.heap.objs.size f cdv))) :
    PSs (cxOf CX0 P w K mg base ["parts", "found", "many", "part"] "trimmed" (defScope s_trimmed) f cdv A outer s H E) (defBody s_trimmed) (t_trimmed K) := by
  obtain ⟨_, _, h0_G, h0_m, h0_k, h0_b⟩ := c0
  obtain ⟨_, _, h1_1, h1_2, h1_G, h1_b⟩ := c1
  exact PSs.nox (pss_cons (ps_setLc (i := 1) (own := [("part", 3)]) (g := (gName 3)) (tt := tYes) (te := (tCall (pureSp (C_stripped K)) [] E0 (tCons (tVar 3) tNil))) rfl sc_trimmed.nd rfl rfl (sw_true rfl rfl rfl (by decide +kernel)) (pi_list (pv 0)) (blkOk_by (N := ["parts", "found", "many", "part"]) (sc := defScope s_trimmed) (by decide +kernel)) (fun _ _ _ _ _ => (pg_name (i := 3) sc_trimmed.nd rfl (Or.inl rfl) (hf := Or.inr rfl))) (fun _ _ _ _ _ => pts_nil) (fun _ _ _ _ _ => (pe_call h0_G hr rfl h0_m h0_k h0_b .nil pass0 (pa_cons (pv 3) pa_nil))))
    (pss_cons (ps_for PassesOwn.never rfl (pi_range2 (by rfl) T.f_range (pa_cons pe_int (pa_cons (pe_callB cr_len (by rfl) T.f_len PySem.boot_len (pa_cons (pv 1) pa_nil)) pa_nil))) (pg_name (i := 2) sc_trimmed.nd rfl (Or.inl rfl) (hf := .inl rfl)) (pss_one (ps_if (PW.pt (pw_and (pt_cmpR op_eq (pe_op op_mod (pe_callB cr_len (by rfl) T.f_len PySem.boot_len (pa_cons (pv 1) pa_nil)) (pv 2)) pe_int (nomark _)) (pw_and1 (pt_cmpR (op_eqF (EqI.list (eqI_Q h1_1 h1_2 h1_G h1_b) inj_Q) (hr.mono (by decide))) (pv 1) (pe_op op_rep (pe_slice sl_list (pv 1) po_none (po_some (pv 2))) (pe_op op_fdivA (pe_callB cr_len (by rfl) T.f_len PySem.boot_len (pa_cons (pv 1) pa_nil)) (pv 2))) (nomark _))))) (pss_one (ps_ret (pe_slice sl_list (pv 1) po_none (po_some (pv 2))))) pss_nil)))
    (pss_one (ps_ret (pv 1)))))
abbrev s_part_sum : Stmt := top 33
theorem sc_part_sum : FnScope ["one", "other", "size", "near", "far", "part", "here", "there"] ["one", "other"] (defScope s_part_sum) := ⟨rfl, rfl, rfl, by decide +kernel, rfl, by decide +kernel, by decide +kernel⟩
def t_part_sum (K : PySem.W.Frag) : TS :=
    (tSeq (tAsg (tCB uMax (tCons (tCB (uLen K) (tCons (tVar 0) tNil)) (tCons (tCB (uLen K) (tCons (tVar 1) tNil)) tNil))) (gName 2))
    (tSeq (tAsg (tLc (iTup K (tTup (tCons (tVar 0) (tCons (tVar 1) tNil)))) (gName 5) tYes (tOp rCat (tVar 5) (tOp rRep (tLst (tCons (tMake (He.ga K "Ratio") (initSp (He.ga K "Ratio") (C_Ratio_init K)) [.int 1] E0 (tCons (tC (.int 0)) tNil)) tNil)) (tOp oSub (tVar 2) (tCB (uLen K) (tCons (tVar 5) tNil))))) [5]) (gLst K 2 (gCons (gName 3) (gCons (gName 4) gNil))))
    (tRet (tLc (iZip K (tCons (tVar 3) (tCons (tVar 4) tNil))) (gTup K 2 (gCons (gName 6) (gCons (gName 7) gNil))) tYes (tOp (rOwnO (He.ga K "Ratio") (pureSp (C_Ratio_add K))) (tVar 6) (tVar 7)) [6, 7]))))
theorem body_part_sum {P : Program} {w : World} {K : PySem.W.Frag} {mg : Str → Option Value} {base : Heap} (T : Txt K mg) (c0 : MkC P w K mg base "Ratio" (He.ga K "Ratio") 2 ["self", "top", "bottom"] (initSp (He.ga K "Ratio") (C_Ratio_init K)) [.int 1]) (c1 : OpC P w K mg base (He.ga K "Ratio") "__add__" "__radd__" 4 ["self", "other"] (pureSp (C_Ratio_add K)))
    {f : Addr} {cdv : Value} {A : Around} {outer : List Env} {s : Shared} {H : Hp} {E : XK} (hr : Room 4 (A.deeper (PyProof.Rows.envOfC "part_sum" (defScope s_part_sum) s.heap.objs.size f cdv))) :
    PSs (cxOf CX0 P w K mg base ["one", "other", "size", "near", "far", "part", "here", "there"] "part_sum" (defScope s_part_sum) f cdv A outer s H E) (defBody s_part_sum) (t_part_sum K) := by
  obtain ⟨_, _, _, h0_M, h0_G, h0_b, h0_v, h0_m⟩ := c0
  obtain ⟨_, _, _, _, _, h1_1, h1_2, h1_3, h1_4, h1_5, h1_6, h1_7, h1_8, h1_G, h1_b⟩ := c1
  exact PSs.nox (pss_cons (ps_set (i := 2) sc_part_sum.nd rfl (Or.inr rfl) (pe_callB (cr_max2 rfl) (by rfl) T.f_max (by decide +kernel) (pa_cons (pe_callB cr_len (by rfl) T.f_len PySem.boot_len (pa_cons (pv 0) pa_nil)) (pa_cons (pe_callB cr_len (by rfl) T.f_len PySem.boot_len (pa_cons (pv 1) pa_nil)) pa_nil))))
    (pss_cons (ps_asg (pe_lc (own := [("part", 5)]) (g := (gName 5)) (tt := tYes) (te := (tOp rCat (tVar 5) (tOp rRep (tLst (tCons (tMake (He.ga K "Ratio") (initSp (He.ga K "Ratio") (C_Ratio_init K)) [.int 1] E0 (tCons (tC (.int 0)) tNil)) tNil)) (tOp oSub (tVar 2) (tCB (uLen K) (tCons (tVar 5) tNil)))))) rfl sc_part_sum.nd (pi_tup (pe_tup (pa_cons (pv 0) (pa_cons (pv 1) pa_nil)))) (blkOk_by (N := ["one", "other", "size", "near", "far", "part", "here", "there"]) (sc := defScope s_part_sum) (by decide +kernel)) (fun _ _ _ _ _ => (pg_name (i := 5) sc_part_sum.nd rfl (Or.inl rfl) (hf := Or.inr rfl))) (fun _ _ _ _ _ => pts_nil) (fun _ _ _ _ _ => (pe_op op_cat (pv 5) (pe_op op_rep (pe_lst (pa_cons (pe_make h0_M h0_G (hr.mono (by decide)) rfl h0_m h0_b h0_v pass0 (pa_cons pe_int pa_nil)) pa_nil)) (pe_op op_sub (pv 2) (pe_callB cr_len (by rfl) T.f_len PySem.boot_len (pa_cons (pv 5) pa_nil))))))) (pg_lst rfl (pgs_cons (pg_name (i := 3) sc_part_sum.nd rfl (Or.inl rfl) (hf := .inl rfl)) (pgs_cons (pg_name (i := 4) sc_part_sum.nd rfl (Or.inl rfl) (hf := .inl rfl)) pgs_nil))))
    (pss_one (ps_ret (pe_lc (own := [("here", 6), ("there", 7)]) (g := (gTup K 2 (gCons (gName 6) (gCons (gName 7) gNil)))) (tt := tYes) (te := (tOp (rOwnO (He.ga K "Ratio") (pureSp (C_Ratio_add K))) (tVar 6) (tVar 7))) rfl sc_part_sum.nd (pi_zip (by rfl) T.f_zip (pa_cons (pv 3) (pa_cons (pv 4) pa_nil))) (blkOk_by (N := ["one", "other", "size", "near", "far", "part", "here", "there"]) (sc := defScope s_part_sum) (by decide +kernel)) (fun _ _ _ _ _ => (pg_tup rfl (pgs_cons (pg_name (i := 6) sc_part_sum.nd rfl (Or.inl rfl) (hf := Or.inr rfl)) (pgs_cons (pg_name (i := 7) sc_part_sum.nd rfl (Or.inl rfl) (hf := Or.inr rfl)) pgs_nil)))) (fun _ _ _ _ _ => pts_nil) (fun _ _ _ _ _ => (pe_op (op_ownO h1_1 h1_2 h1_3 h1_G hr h1_b) (pv 6) (pv 7))))))))
abbrev s_part_times : Stmt := top 34
theorem sc_part_times : FnScope ["part", "number", "here"] ["part", "number"] (defScope s_part_times) := ⟨rfl, rfl, rfl, by decide +kernel, rfl, by decide +kernel, by decide +kernel⟩
def t_part_times (K : PySem.W.Frag) : TS :=
    (tRet (tLc (iList K (tVar 0)) (gName 2) tYes (tOp (rOwnX (He.ga K "Ratio") (pureSp (C_Ratio_mul K))) (tVar 2) (tVar 1)) [2]))
theorem body_part_times {P : Program} {w : World} {K : PySem.W.Frag} {mg : Str → Option Value} {base : Heap} (T : Txt K mg) (c0 : OpC P w K mg base (He.ga K "Ratio") "__mul__" "__rmul__" 4 ["self", "other"] (pureSp (C_Ratio_mul K)))
    {f : Addr} {cdv : Value} {A : Around} {outer : List Env} {s : Shared} {H : Hp} {E : XK} (hr : Room 4 (A.deeper (PyProof.Rows.envOfC "part_times" (defScope s_part_times) s.heap.objs.size f cdv))) :
    PSs (cxOf CX0 P w K mg base ["part", "number", "here"] "part_times" (defScope s_part_times) f cdv A outer s H E) (defBody s_part_times) (t_part_times K) := by
  obtain ⟨_, _, _, _, _, h0_1, h0_2, h0_3, h0_4, h0_5, h0_6, h0_7, h0_8, h0_G, h0_b⟩ := c0
  exact PSs.nox (pss_one (ps_ret (pe_lc (own := [("here", 2)]) (g := (gName 2)) (tt := tYes) (te := (tOp (rOwnX (He.ga K "Ratio") (pureSp (C_Ratio_mul K))) (tVar 2) (tVar 1))) rfl sc_part_times.nd (pi_list (pv 0)) (blkOk_by (N := ["part", "number", "here"]) (sc := defScope s_part_times) (by decide +kernel)) (fun _ _ _ _ _ => (pg_name (i := 2) sc_part_times.nd rfl (Or.inl rfl) (hf := Or.inr rfl))) (fun _ _ _ _ _ => pts_nil) (fun _ _ _ _ _ => (pe_op (op_ownX h0_1 h0_2 h0_3 h0_4 h0_5 h0_6 h0_7 h0_8 h0_G hr h0_b) (pv 2) (pv 1))))))
abbrev s_put_part : Stmt := top 35
theorem sc_put_part : FnScope ["part", "by", "shift", "found", "number"] ["part", "by", "shift"] (defScope s_put_part) := ⟨rfl, rfl, rfl, by decide +kernel, rfl, by decide +kernel, by decide +kernel⟩
def t_put_part (K : PySem.W.Frag) : TS :=
    (tSeq (tAsg (tLst tNil) (gName 3))
    (tSeq (tFor (iList K (tRevL K (tVar 0))) (gName 4) (tAsg (tCall (pureSp (C_part_sum K)) [] E0 (tCons (tCall (pureSp (C_part_sum K)) [] E0 (tCons (tOp rCat (tLst (tCons (tMake (He.ga K "Ratio") (initSp (He.ga K "Ratio") (C_Ratio_init K)) [.int 1] E0 (tCons (tC (.int 0)) tNil)) tNil)) (tCall (pureSp (C_part_times K)) [] E0 (tCons (tVar 3) (tCons (tVar 1) tNil)))) (tCons (tCall (pureSp (C_part_times K)) [] E0 (tCons (tVar 3) (tCons (tVar 2) tNil))) tNil))) (tCons (tLst (tCons (tVar 4) tNil)) tNil))) (gName 3)))
    (tRet (tVar 3))))
theorem body_put_part {P : Program} {w : World} {K : PySem.W.Frag} {mg : Str → Option Value} {base : Heap} (T : Txt K mg) (c0 : Cal P w K mg base "part_times" 5 ["part", "number"] (pureSp (C_part_times K))) (c1 : MkC P w K mg base "Ratio" (He.ga K "Ratio") 2 ["self", "top", "bottom"] (initSp (He.ga K "Ratio") (C_Ratio_init K)) [.int 1]) (c2 : Cal P w K mg base "part_sum" 5 ["one", "other"] (pureSp (C_part_sum K)))
    {f : Addr} {cdv : Value} {A : Around} {outer : List Env} {s : Shared} {H : Hp} {E : XK} (hr : Room 5 (A.deeper (PyProof.Rows.envOfC "put_part" (defScope s_put_part) s.heap.objs.size f cdv))) :
    PSs (cxOf CX0 P w K mg base ["part", "by", "shift", "found", "number"] "put_part" (defScope s_put_part) f cdv A outer s H E) (defBody s_put_part) (t_put_part K) := by
  obtain ⟨_, _, h0_G, h0_m, h0_k, h0_b⟩ := c0
  obtain ⟨_, _, _, h1_M, h1_G, h1_b, h1_v, h1_m⟩ := c1
  obtain ⟨_, _, h2_G, h2_m, h2_k, h2_b⟩ := c2
  exact PSs.nox (pss_cons (ps_set (i := 3) sc_put_part.nd rfl (Or.inl rfl) (pe_lst pa_nil))
    (pss_cons (ps_for PassesOwn.never rfl (pi_list (pe_revL (pv 0))) (pg_name (i := 4) sc_put_part.nd rfl (Or.inl rfl) (hf := .inl rfl)) (pss_one (ps_set (i := 3) sc_put_part.nd rfl (Or.inl rfl) (pe_call h2_G hr rfl h2_m h2_k h2_b .nil pass0 (pa_cons (pe_call h2_G hr rfl h2_m h2_k h2_b .nil pass0 (pa_cons (pe_op op_cat (pe_lst (pa_cons (pe_make h1_M h1_G (hr.mono (by decide)) rfl h1_m h1_b h1_v pass0 (pa_cons pe_int pa_nil)) pa_nil)) (pe_call h0_G hr rfl h0_m h0_k h0_b .nil pass0 (pa_cons (pv 3) (pa_cons (pv 1) pa_nil)))) (pa_cons (pe_call h0_G hr rfl h0_m h0_k h0_b .nil pass0 (pa_cons (pv 3) (pa_cons (pv 2) pa_nil))) pa_nil))) (pa_cons (pe_lst (pa_cons (pv 4) pa_nil)) pa_nil))))))
    (pss_one (ps_ret (pv 3)))))
abbrev s_worth_of : Stmt := top 36
theorem sc_worth_of : FnScope ["part", "whole", "bottom", "tops", "found", "top"] ["part", "whole"] (defScope s_worth_of) := ⟨rfl, rfl, rfl, by decide +kernel, rfl, by decide +kernel, by decide +kernel⟩
def t_worth_of (K : PySem.W.Frag) : TS :=
    (tSeq (tAsg (tCall (pureSp (C_wholes K)) [] E0 (tCons (tVar 0) tNil)) (gTup K 2 (gCons (gName 2) (gCons (gName 3) gNil))))
    (tSeq (tAsg (tC (.int 0)) (gName 4))
    (tSeq (tFor (iList K (tRevL K (tVar 3))) (gName 5) (tAsg (tOp oAdd (tOp oMul (tVar 4) (tVar 1)) (tVar 5)) (gName 4)))
    (tRet (tMake (He.ga K "Ratio") (initSp (He.ga K "Ratio") (C_Ratio_init K)) [] E0 (tCons (tVar 4) (tCons (tVar 2) tNil)))))))
theorem body_worth_of {P : Program} {w : World} {K : PySem.W.Frag} {mg : Str → Option Value} {base : Heap} (T : Txt K mg) (c0 : Cal P w K mg base "wholes" 1 ["ratios"] (pureSp (C_wholes K))) (c1 : MkC P w K mg base "Ratio" (He.ga K "Ratio") 2 ["self", "top", "bottom"] (initSp (He.ga K "Ratio") (C_Ratio_init K)) [])
    {f : Addr} {cdv : Value} {A : Around} {outer : List Env} {s : Shared} {H : Hp} {E : XK} (hr : Room 3 (A.deeper (PyProof.Rows.envOfC "worth_of" (defScope s_worth_of) s.heap.objs.size f cdv))) :
    PSs (cxOf CX0 P w K mg base ["part", "whole", "bottom", "tops", "found", "top"] "worth_of" (defScope s_worth_of) f cdv A outer s H E) (defBody s_worth_of) (t_worth_of K) := by
  obtain ⟨_, _, h0_G, h0_m, h0_k, h0_b⟩ := c0
  obtain ⟨_, _, _, h1_M, h1_G, h1_b, h1_v, h1_m⟩ := c1
  exact PSs.nox (pss_cons (ps_asg (pe_call h0_G (hr.mono (by decide)) rfl h0_m h0_k h0_b .nil pass0 (pa_cons (pv 0) pa_nil)) (pg_tup rfl (pgs_cons (pg_name (i := 2) sc_worth_of.nd rfl (Or.inl rfl) (hf := .inl rfl)) (pgs_cons (pg_name (i := 3) sc_worth_of.nd rfl (Or.inl rfl) (hf := .inl rfl)) pgs_nil))))
    (pss_cons (ps_set (i := 4) sc_worth_of.nd rfl (Or.inl rfl) pe_int)
    (pss_cons (ps_for PassesOwn.never rfl (pi_list (pe_revL (pv 3))) (pg_name (i := 5) sc_worth_of.nd rfl (Or.inl rfl) (hf := .inl rfl)) (pss_one (ps_set (i := 4) sc_worth_of.nd rfl (Or.inl rfl) (pe_op op_add (pe_op op_mulW (pv 4) (pv 1)) (pv 5)))))
    (pss_one (ps_ret (pe_make h1_M h1_G hr rfl h1_m h1_b h1_v pass0 (pa_cons (pv 4) (pa_cons (pv 2) pa_nil))))))))
abbrev s_are_parts : Stmt := top 37
theorem sc_are_parts : FnScope ["value", "part", "number"] ["value"] (defScope s_are_parts) := ⟨rfl, rfl, rfl, by decide +kernel, rfl, by decide +kernel, by decide +kernel⟩
def t_are_parts (K : PySem.W.Frag) : TS :=
    (tSeq (tIfS (tOr (tNot (tB (tCall (pureSp (C_is_list K)) [] E0 (tCons (tVar 0) tNil)))) (tNot (tTest (tChain oLe oLe (tC (.int 1)) (tCB (uLen K) (tCons (tVar 0) tNil)) (tC (.int 60)))))) (tRet (tC (.bl false))) tNext)
    (tSeq (tIfS (tNot (tB (tCB (rAll K) (tCons (tLc (iList K (tVar 0)) (gName 1) tYes (tAndV (tCall (pureSp (C_is_list K)) [] E0 (tCons (tVar 1) tNil)) (tOp oLe (tCB (uLen K) (tCons (tVar 1) tNil)) (tC (.int 8)))) [1]) tNil)))) (tRet (tC (.bl false))) tNext)
    (tRet (tCB (rAll K) (tCons (tLc2 (iList K (tVar 0)) (gName 1) tYes (iList K (tVar 1)) (gName 2) tYes (tCall (pureSp (C_is_number K)) [] E0 (tCons (tVar 2) tNil)) [1, 2] [2]) tNil)))))
theorem body_are_parts {P : Program} {w : World} {K : PySem.W.Frag} {mg : Str → Option Value} {base : Heap} (T : Txt K mg) (c0 : Cal P w K mg base "is_list" 1 ["value"] (pureSp (C_is_list K))) (c1 : Cal P w K mg base "is_number" 2 ["value"] (pureSp (C_is_number K)))
    {f : Addr} {cdv : Value} {A : Around} {outer : List Env} {s : Shared} {H : Hp} {E : XK} (hr : Room 2 (A.deeper (PyProof.Rows.envOfC "are_parts" (defScope s_are_parts) s.heap.objs.size f cdv))) :
    PSs (cxOf CX0 P w K mg base ["value", "part", "number"] "are_parts" (defScope s_are_parts) f cdv A outer s H E) (defBody s_are_parts) (t_are_parts K) := by
  obtain ⟨_, _, h0_G, h0_m, h0_k, h0_b⟩ := c0
  obtain ⟨_, _, h1_G, h1_m, h1_k, h1_b⟩ := c1
  exact PSs.nox (pss_cons (ps_if (PW.pt (pw_or (pt_not (pt_val (pe_call h0_G (hr.mono (by decide)) rfl h0_m h0_k h0_b .nil pass0 (pa_cons (pv 0) pa_nil)))) (pw_or1 (pt_not (pt_chain op_le op_le pe_int (pe_callB cr_len (by rfl) T.f_len PySem.boot_len (pa_cons (pv 0) pa_nil)) (pe_glob rfl T.i_MOST_PERIOD.choose_spec ⟨_, rfl⟩)))))) (pss_one (ps_ret pe_bl)) pss_nil)
    (pss_cons (ps_if (pt_not (pt_val (pe_callB (cr_all rfl) (by rfl) T.f_all (by decide +kernel) (pa_cons (pe_lc (own := [("part", 1)]) (g := (gName 1)) (tt := tYes) (te := (tAndV (tCall (pureSp (C_is_list K)) [] E0 (tCons (tVar 1) tNil)) (tOp oLe (tCB (uLen K) (tCons (tVar 1) tNil)) (tC (.int 8))))) rfl sc_are_parts.nd (pi_list (pv 0)) (blkOk_by (N := ["value", "part", "number"]) (sc := defScope s_are_parts) (by decide +kernel)) (fun _ _ _ _ _ => (pg_name (i := 1) sc_are_parts.nd rfl (Or.inl rfl) (hf := Or.inr rfl))) (fun _ _ _ _ _ => pts_nil) (fun _ _ _ _ _ => (pe_and (pe_call h0_G (hr.mono (by decide)) rfl h0_m h0_k h0_b .nil pass0 (pa_cons (pv 1) pa_nil)) (pe_one (pe_cmpR op_le (pe_callB cr_len (by rfl) T.f_len PySem.boot_len (pa_cons (pv 1) pa_nil)) (pe_glob rfl T.i_MOST_PART.choose_spec ⟨_, rfl⟩) (nomark _)))))) pa_nil)))) (pss_one (ps_ret pe_bl)) pss_nil)
    (pss_one (ps_ret (pe_callB (cr_all rfl) (by rfl) T.f_all (by decide +kernel) (pa_cons (pe_lc2 (own := [("part", 1), ("number", 2)]) (vs1 := [2]) (g := (gName 1)) (g1 := (gName 2)) (tt := tYes) (tt1 := tYes) (te := (tCall (pureSp (C_is_number K)) [] E0 (tCons (tVar 2) tNil))) rfl sc_are_parts.nd (pi_list (pv 0)) (blkOk_by (N := ["value", "part", "number"]) (sc := defScope s_are_parts) (by decide +kernel)) (by decide) (fun _ _ _ _ _ => (pg_name (i := 1) sc_are_parts.nd rfl (Or.inl rfl) (hf := Or.inr rfl))) (fun _ _ _ _ _ => pts_nil) (fun _ _ _ _ _ => (pi_list (pv 1))) (fun _ _ _ _ _ => (pg_name (i := 2) sc_are_parts.nd rfl (Or.inl rfl) (hf := Or.inr rfl))) (fun _ _ _ _ _ => pts_nil) (fun _ _ _ _ _ => (pe_call h1_G hr rfl h1_m h1_k h1_b .nil pass0 (pa_cons (pv 2) pa_nil)))) pa_nil))))))
abbrev s_Course_init : Stmt := inClass (top 38) 0
theorem sc_Course_init : FnScope ["self", "parts", "part", "number"] ["self", "parts"] (defScope s_Course_init) := ⟨rfl, rfl, rfl, by decide +kernel, rfl, by decide +kernel, by decide +kernel⟩
def t_Course_init (K : PySem.W.Frag) : TS :=
    (tSeq (tIfS (tNot (tB (tCall (pureSp (C_are_parts K)) [] E0 (tCons (tVar 1) tNil)))) tNever tNext)
    (sFld K (tVar 0) (tCall (pureSp (C_trimmed K)) [] E0 (tCons (tLc (iList K (tVar 1)) (gName 2) tYes (tLc (iList K (tVar 2)) (gName 3) tYes (tCall (pureSp (C_ratio_of K)) [] E0 (tCons (tVar 3) tNil)) [3]) [2]) tNil)) "own_parts"))
theorem body_Course_init {P : Program} {w : World} {K : PySem.W.Frag} {mg : Str → Option Value} {base : Heap} (T : Txt K mg) (c0 : Cal P w K mg base "are_parts" 3 ["value"] (pureSp (C_are_parts K))) (c1 : Cal P w K mg base "ratio_of" 4 ["number"] (pureSp (C_ratio_of K))) (c2 : Cal P w K mg base "trimmed" 4 ["parts"] (pureSp (C_trimmed K)))
    {f : Addr} {cdv : Value} {A : Around} {outer : List Env} {s : Shared} {H : Hp} {E : XK} (hr : Room 4 (A.deeper (PyProof.Rows.envOfC "Course.__init__" (defScope s_Course_init) s.heap.objs.size f cdv))) :
    PSs (cxOf CX0 P w K mg base ["self", "parts", "part", "number"] "Course.__init__" (defScope s_Course_init) f cdv A outer s H E) (defBody s_Course_init) (t_Course_init K) := by
  obtain ⟨_, _, h0_G, h0_m, h0_k, h0_b⟩ := c0
  obtain ⟨_, _, h1_G, h1_m, h1_k, h1_b⟩ := c1
  obtain ⟨_, _, h2_G, h2_m, h2_k, h2_b⟩ := c2
  exact PSs.nox (pss_cons (ps_if (pt_not (pt_val (pe_call h0_G (hr.mono (by decide)) rfl h0_m h0_k h0_b .nil pass0 (pa_cons (pv 1) pa_nil)))) (pss_one ps_never) pss_nil)
    (pss_one (ps_fld (pv 0) (pe_call h2_G hr rfl h2_m h2_k h2_b .nil pass0 (pa_cons (pe_lc (own := [("part", 2)]) (g := (gName 2)) (tt := tYes) (te := (tLc (iList K (tVar 2)) (gName 3) tYes (tCall (pureSp (C_ratio_of K)) [] E0 (tCons (tVar 3) tNil)) [3])) rfl sc_Course_init.nd (pi_list (pv 1)) (blkOk_by (N := ["self", "parts", "part", "number"]) (sc := defScope s_Course_init) (by decide +kernel)) (fun _ _ _ _ _ => (pg_name (i := 2) sc_Course_init.nd rfl (Or.inl rfl) (hf := Or.inr rfl))) (fun _ _ _ _ _ => pts_nil) (fun _ _ _ _ _ => (pe_lc (own := [("number", 3)]) (g := (gName 3)) (tt := tYes) (te := (tCall (pureSp (C_ratio_of K)) [] E0 (tCons (tVar 3) tNil))) rfl sc_Course_init.nd (pi_list (pv 2)) (blkOk_by (N := ["self", "parts", "part", "number"]) (by show blkC _ (relS _ (defScope s_Course_init)) _ _ = true; decide +kernel)) (fun _ _ _ _ _ => (pg_name (i := 3) sc_Course_init.nd rfl (Or.inl rfl) (hf := Or.inr rfl))) (fun _ _ _ _ _ => pts_nil) (fun _ _ _ _ _ => (pe_call h1_G hr rfl h1_m h1_k h1_b .nil pass0 (pa_cons (pv 3) pa_nil)))))) pa_nil)) rfl)))
abbrev s_Course_period : Stmt := inClass (top 38) 1
theorem sc_Course_period : FnScope ["self"] ["self"] (defScope s_Course_period) := ⟨rfl, rfl, rfl, by decide +kernel, rfl, by decide +kernel, by decide +kernel⟩
def t_Course_period (K : PySem.W.Frag) : TS :=
    (tRet (tCB (uLen K) (tCons (tFld K (tVar 0) "own_parts") tNil)))
theorem body_Course_period {P : Program} {w : World} {K : PySem.W.Frag} {mg : Str → Option Value} {base : Heap} (T : Txt K mg) 
    {f : Addr} {cdv : Value} {A : Around} {outer : List Env} {s : Shared} {H : Hp} {E : XK} (hr : Room 0 (A.deeper (PyProof.Rows.envOfC "Course.period" (defScope s_Course_period) s.heap.objs.size f cdv))) :
    PSs (cxOf CX0 P w K mg base ["self"] "Course.period" (defScope s_Course_period) f cdv A outer s H E) (defBody s_Course_period) (t_Course_period K) := by
  exact PSs.nox (pss_one (ps_ret (pe_callB cr_len (by rfl) T.f_len PySem.boot_len (pa_cons (pe_fld (pv 0) rfl) pa_nil))))
abbrev s_Course_degree : Stmt := inClass (top 38) 2
theorem sc_Course_degree : FnScope ["self", "part"] ["self"] (defScope s_Course_degree) := ⟨rfl, rfl, rfl, by decide +kernel, rfl, by decide +kernel, by decide +kernel⟩
def t_Course_degree (K : PySem.W.Frag) : TS :=
    (tRet (tOp oSub (tCB (rMax K) (tCons (tLc (iList K (tFld K (tVar 0) "own_parts")) (gName 1) tYes (tCB (uLen K) (tCons (tVar 1) tNil)) [1]) tNil)) (tC (.int 1))))
theorem body_Course_degree {P : Program} {w : World} {K : PySem.W.Frag} {mg : Str → Option Value} {base : Heap} (T : Txt K mg) 
    {f : Addr} {cdv : Value} {A : Around} {outer : List Env} {s : Shared} {H : Hp} {E : XK} (hr : Room 0 (A.deeper (PyProof.Rows.envOfC "Course.degree" (defScope s_Course_degree) s.heap.objs.size f cdv))) :
    PSs (cxOf CX0 P w K mg base ["self", "part"] "Course.degree" (defScope s_Course_degree) f cdv A outer s H E) (defBody s_Course_degree) (t_Course_degree K) := by
  exact PSs.nox (pss_one (ps_ret (pe_op op_sub (pe_callB (cr_max rfl) (by rfl) T.f_max (by decide +kernel) (pa_cons (pe_lc (own := [("part", 1)]) (g := (gName 1)) (tt := tYes) (te := (tCB (uLen K) (tCons (tVar 1) tNil))) rfl sc_Course_degree.nd (pi_list (pe_fld (pv 0) rfl)) (blkOk_by (N := ["self", "part"]) (sc := defScope s_Course_degree) (by decide +kernel)) (fun _ _ _ _ _ => (pg_name (i := 1) sc_Course_degree.nd rfl (Or.inl rfl) (hf := Or.inr rfl))) (fun _ _ _ _ _ => pts_nil) (fun _ _ _ _ _ => (pe_callB cr_len (by rfl) T.f_len PySem.boot_len (pa_cons (pv 1) pa_nil)))) pa_nil)) pe_int)))
abbrev s_Course_at : Stmt := inClass (top 38) 4
theorem sc_Course_at : FnScope ["self", "whole"] ["self", "whole"] (defScope s_Course_at) := ⟨rfl, rfl, rfl, by decide +kernel, rfl, by decide +kernel, by decide +kernel⟩
def t_Course_at (K : PySem.W.Frag) : TS :=
    (tSeq (tIfS (tNot (tB (tCall (pureSp (C_is_integer K)) [] E0 (tCons (tVar 1) tNil)))) tNever tNext)
    (tRet (tCall (pureSp (C_worth_of K)) [] E0 (tCons (tOp (rIxL K) (tFld K (tVar 0) "own_parts") (tOp oMod (tVar 1) (tCB (uLen K) (tCons (tFld K (tVar 0) "own_parts") tNil)))) (tCons (tVar 1) tNil)))))
theorem body_Course_at {P : Program} {w : World} {K : PySem.W.Frag} {mg : Str → Option Value} {base : Heap} (T : Txt K mg) (c0 : Cal P w K mg base "is_integer" 1 ["value"] (pureSp (C_is_integer K))) (c1 : Cal P w K mg base "worth_of" 4 ["part", "whole"] (pureSp (C_worth_of K)))
    {f : Addr} {cdv : Value} {A : Around} {outer : List Env} {s : Shared} {H : Hp} {E : XK} (hr : Room 4 (A.deeper (PyProof.Rows.envOfC "Course.at" (defScope s_Course_at) s.heap.objs.size f cdv))) :
    PSs (cxOf CX0 P w K mg base ["self", "whole"] "Course.at" (defScope s_Course_at) f cdv A outer s H E) (defBody s_Course_at) (t_Course_at K) := by
  obtain ⟨_, _, h0_G, h0_m, h0_k, h0_b⟩ := c0
  obtain ⟨_, _, h1_G, h1_m, h1_k, h1_b⟩ := c1
  exact PSs.nox (pss_cons (ps_if (pt_not (pt_val (pe_call h0_G (hr.mono (by decide)) rfl h0_m h0_k h0_b .nil pass0 (pa_cons (pv 1) pa_nil)))) (pss_one ps_never) pss_nil)
    (pss_one (ps_ret (pe_call h1_G hr rfl h1_m h1_k h1_b .nil pass0 (pa_cons (pe_ix ix_list (pe_fld (pv 0) rfl) (pe_op op_mod (pv 1) (pe_callB cr_len (by rfl) T.f_len PySem.boot_len (pa_cons (pe_fld (pv 0) rfl) pa_nil))) (fun _ _ => rfl)) (pa_cons (pv 1) pa_nil))))))
abbrev s_Course_eq : Stmt := inClass (top 38) 5
theorem sc_Course_eq : FnScope ["self", "other"] ["self", "other"] (defScope s_Course_eq) := ⟨rfl, rfl, rfl, by decide +kernel, rfl, by decide +kernel, by decide +kernel⟩
def t_Course_eq (K : PySem.W.Frag) : TS :=
    (tSeq (tIfS (tNot (tB (tCB (rIsi K) (tCons (tVar 1) (tCons (tC (.ref (He.ga K "Course"))) tNil))))) (tRet (tC (.bl false))) tNext)
    (tRet (tOp (rEqF (pLm (pQ K))) (tFld K (tVar 0) "own_parts") (tFld K (tVar 1) "own_parts"))))
theorem body_Course_eq {P : Program} {w : World} {K : PySem.W.Frag} {mg : Str → Option Value} {base : Heap} (T : Txt K mg) (c0 : EqC P w K mg base (He.ga K "Ratio") 1 ["self", "other"] (pureSp (C_Ratio_eq K)))
    {f : Addr} {cdv : Value} {A : Around} {outer : List Env} {s : Shared} {H : Hp} {E : XK} (hr : Room 3 (A.deeper (PyProof.Rows.envOfC "Course.__eq__" (defScope s_Course_eq) s.heap.objs.size f cdv))) :
    PSs (cxOf CX0 P w K mg base ["self", "other"] "Course.__eq__" (defScope s_Course_eq) f cdv A outer s H E) (defBody s_Course_eq) (t_Course_eq K) := by
  obtain ⟨_, _, h0_1, h0_2, h0_G, h0_b⟩ := c0
  exact PSs.nox (pss_cons (ps_if (pt_not (pt_val (pe_callB call_isi (by rfl) T.f_isinstance (by decide +kernel) (pa_cons (pv 1) (pa_cons (pe_glob (v := .ref (He.ga K "Course")) rfl T.g_Course rfl) pa_nil))))) (pss_one (ps_ret pe_bl)) pss_nil)
    (pss_one (ps_ret (pe_cmpR (op_eqF (EqI.list (eqI_Q h0_1 h0_2 h0_G h0_b) inj_Q) (hr.mono (by decide))) (pe_fld (pv 0) rfl) (pe_fld (pv 1) rfl) (nomark _)))))
abbrev s_want_course : Stmt := top 39
theorem sc_want_course : FnScope ["value"] ["value"] (defScope s_want_course) := ⟨rfl, rfl, rfl, by decide +kernel, rfl, by decide +kernel, by decide +kernel⟩
def t_want_course (K : PySem.W.Frag) : TS :=
    (tSeq (tIfS (tNot (tB (tCB (rIsi K) (tCons (tVar 0) (tCons (tC (.ref (He.ga K "Course"))) tNil))))) tNever tNext)
    (tRet (tVar 0)))
theorem body_want_course {P : Program} {w : World} {K : PySem.W.Frag} {mg : Str → Option Value} {base : Heap} (T : Txt K mg) 
    {f : Addr} {cdv : Value} {A : Around} {outer : List Env} {s : Shared} {H : Hp} {E : XK} (hr : Room 0 (A.deeper (PyProof.Rows.envOfC "want_course" (defScope s_want_course) s.heap.objs.size f cdv))) :
    PSs (cxOf CX0 P w K mg base ["value"] "want_course" (defScope s_want_course) f cdv A outer s H E) (defBody s_want_course) (t_want_course K) := by
  exact PSs.nox (pss_cons (ps_if (pt_not (pt_val (pe_callB call_isi (by rfl) T.f_isinstance (by decide +kernel) (pa_cons (pv 0) (pa_cons (pe_glob (v := .ref (He.ga K "Course")) rfl T.g_Course rfl) pa_nil))))) (pss_one ps_never) pss_nil)
    (pss_one (ps_ret (pv 0))))
abbrev s_want_whole : Stmt := top 40
theorem sc_want_whole : FnScope ["value"] ["value"] (defScope s_want_whole) := ⟨rfl, rfl, rfl, by decide +kernel, rfl, by decide +kernel, by decide +kernel⟩
def t_want_whole (K : PySem.W.Frag) : TS :=
    (tSeq (tIfS (tNot (tB (tCall (pureSp (C_is_integer K)) [] E0 (tCons (tVar 0) tNil)))) tNever tNext)
    (tRet (tVar 0)))
theorem body_want_whole {P : Program} {w : World} {K : PySem.W.Frag} {mg : Str → Option Value} {base : Heap} (T : Txt K mg) (c0 : Cal P w K mg base "is_integer" 1 ["value"] (pureSp (C_is_integer K)))
    {f : Addr} {cdv : Value} {A : Around} {outer : List Env} {s : Shared} {H : Hp} {E : XK} (hr : Room 1 (A.deeper (PyProof.Rows.envOfC "want_whole" (defScope s_want_whole) s.heap.objs.size f cdv))) :
    PSs (cxOf CX0 P w K mg base ["value"] "want_whole" (defScope s_want_whole) f cdv A outer s H E) (defBody s_want_whole) (t_want_whole K) := by
  obtain ⟨_, _, h0_G, h0_m, h0_k, h0_b⟩ := c0
  exact PSs.nox (pss_cons (ps_if (pt_not (pt_val (pe_call h0_G hr rfl h0_m h0_k h0_b .nil pass0 (pa_cons (pv 0) pa_nil)))) (pss_one ps_never) pss_nil)
    (pss_one (ps_ret (pv 0))))
abbrev s_course_of : Stmt := top 41
theorem sc_course_of : FnScope ["parts", "found"] ["parts"] (defScope s_course_of) := ⟨rfl, rfl, rfl, by decide +kernel, rfl, by decide +kernel, by decide +kernel⟩
def t_course_of (K : PySem.W.Frag) : TS :=
    (tSeq (tAsg (tMake (He.ga K "Course") (initSp (He.ga K "Course") (C_Course_init K)) [] E0 (tCons (tLst (tCons (tLst tNil) tNil)) tNil)) (gName 1))
    (tSeq (sFld K (tVar 1) (tCall (pureSp (C_trimmed K)) [] E0 (tCons (tVar 0) tNil)) "own_parts")
    (tRet (tVar 1))))
theorem body_course_of {P : Program} {w : World} {K : PySem.W.Frag} {mg : Str → Option Value} {base : Heap} (T : Txt K mg) (c0 : MkC P w K mg base "Course" (He.ga K "Course") 5 ["self", "parts"] (initSp (He.ga K "Course") (C_Course_init K)) []) (c1 : Cal P w K mg base "trimmed" 4 ["parts"] (pureSp (C_trimmed K)))
    {f : Addr} {cdv : Value} {A : Around} {outer : List Env} {s : Shared} {H : Hp} {E : XK} (hr : Room 6 (A.deeper (PyProof.Rows.envOfC "course_of" (defScope s_course_of) s.heap.objs.size f cdv))) :
    PSs (cxOf CX0 P w K mg base ["parts", "found"] "course_of" (defScope s_course_of) f cdv A outer s H E) (defBody s_course_of) (t_course_of K) := by
  obtain ⟨_, _, _, h0_M, h0_G, h0_b, h0_v, h0_m⟩ := c0
  obtain ⟨_, _, h1_G, h1_m, h1_k, h1_b⟩ := c1
  exact PSs.nox (pss_cons (ps_set (i := 1) sc_course_of.nd rfl (Or.inl rfl) (pe_make h0_M h0_G hr rfl h0_m h0_b h0_v pass0 (pa_cons (pe_lst (pa_cons (pe_lst pa_nil) pa_nil)) pa_nil)))
    (pss_cons (ps_fld (pv 1) (pe_call h1_G (hr.mono (by decide)) rfl h1_m h1_k h1_b .nil pass0 (pa_cons (pv 0) pa_nil)) rfl)
    (pss_one (ps_ret (pv 1)))))
abbrev s_sum_of : Stmt := top 42
theorem sc_sum_of : FnScope ["one", "other", "period", "near", "far", "at"] ["one", "other"] (defScope s_sum_of) := ⟨rfl, rfl, rfl, by decide +kernel, rfl, by decide +kernel, by decide +kernel⟩
def t_sum_of (K : PySem.W.Frag) : TS :=
    (tSeq (tAsg (tTup (tCons (tCB uLcm (tCons (tProp (He.ga K "Course") (pureSp (C_Course_period K)) [] E0 (tVar 0)) (tCons (tProp (He.ga K "Course") (pureSp (C_Course_period K)) [] E0 (tVar 1)) tNil))) (tCons (tFld K (tVar 0) "own_parts") (tCons (tFld K (tVar 1) "own_parts") tNil)))) (gTup K 3 (gCons (gName 2) (gCons (gName 3) (gCons (gName 4) gNil)))))
    (tRet (tCall (spCourseOf K) [] E0 (tCons (tLc (iRng1 (tCons (tVar 2) tNil)) (gName 5) tYes (tCall (pureSp (C_part_sum K)) [] E0 (tCons (tOp (rIxL K) (tVar 3) (tOp oMod (tVar 5) (tCB (uLen K) (tCons (tVar 3) tNil)))) (tCons (tOp (rIxL K) (tVar 4) (tOp oMod (tVar 5) (tCB (uLen K) (tCons (tVar 4) tNil)))) tNil))) [5]) tNil))))
theorem body_sum_of {P : Program} {w : World} {K : PySem.W.Frag} {mg : Str → Option Value} {base : Heap} (T : Txt K mg) (c0 : PrC P w K mg base (He.ga K "Course") "period" 1 ["self"] (pureSp (C_Course_period K))) (c1 : Cal P w K mg base "part_sum" 5 ["one", "other"] (pureSp (C_part_sum K))) (c2 : Cal P w K mg base "course_of" 7 ["parts"] (spCourseOf K))
    {f : Addr} {cdv : Value} {A : Around} {outer : List Env} {s : Shared} {H : Hp} {E : XK} (hr : Room 7 (A.deeper (PyProof.Rows.envOfC "sum_of" (defScope s_sum_of) s.heap.objs.size f cdv))) :
    PSs (cxOf CX0 P w K mg base ["one", "other", "period", "near", "far", "at"] "sum_of" (defScope s_sum_of) f cdv A outer s H E) (defBody s_sum_of) (t_sum_of K) := by
  obtain ⟨_, _, _, h0_p, h0_G, h0_b⟩ := c0
  obtain ⟨_, _, h1_G, h1_m, h1_k, h1_b⟩ := c1
  obtain ⟨_, _, h2_G, h2_m, h2_k, h2_b⟩ := c2
  exact PSs.nox (pss_cons (ps_asg (pe_tup (pa_cons (pe_callBfun cr_lcm (by rfl) T.b_lcm (pa_cons (pe_prop (pv 0) T.c_Course h0_p h0_G (hr.mono (by decide)) h0_b .nil pass0 rfl) (pa_cons (pe_prop (pv 1) T.c_Course h0_p h0_G (hr.mono (by decide)) h0_b .nil pass0 rfl) pa_nil))) (pa_cons (pe_fld (pv 0) rfl) (pa_cons (pe_fld (pv 1) rfl) pa_nil)))) (pg_tup rfl (pgs_cons (pg_name (i := 2) sc_sum_of.nd rfl (Or.inl rfl) (hf := .inl rfl)) (pgs_cons (pg_name (i := 3) sc_sum_of.nd rfl (Or.inr rfl) (hf := .inl rfl)) (pgs_cons (pg_name (i := 4) sc_sum_of.nd rfl (Or.inr rfl) (hf := .inl rfl)) pgs_nil)))))
    (pss_one (ps_ret (pe_call h2_G hr rfl h2_m h2_k h2_b .nil pass0 (pa_cons (pe_lc (own := [("at", 5)]) (g := (gName 5)) (tt := tYes) (te := (tCall (pureSp (C_part_sum K)) [] E0 (tCons (tOp (rIxL K) (tVar 3) (tOp oMod (tVar 5) (tCB (uLen K) (tCons (tVar 3) tNil)))) (tCons (tOp (rIxL K) (tVar 4) (tOp oMod (tVar 5) (tCB (uLen K) (tCons (tVar 4) tNil)))) tNil)))) rfl sc_sum_of.nd (pi_range1 (by rfl) T.f_range (pa_cons (pv 2) pa_nil)) (blkOk_by (N := ["one", "other", "period", "near", "far", "at"]) (sc := defScope s_sum_of) (by decide +kernel)) (fun _ _ _ _ _ => (pg_name (i := 5) sc_sum_of.nd rfl (Or.inl rfl) (hf := Or.inr rfl))) (fun _ _ _ _ _ => pts_nil) (fun _ _ _ _ _ => (pe_call h1_G (hr.mono (by decide)) rfl h1_m h1_k h1_b .nil pass0 (pa_cons (pe_ix ix_list (pv 3) (pe_op op_mod (pv 5) (pe_callB cr_len (by rfl) T.f_len PySem.boot_len (pa_cons (pv 3) pa_nil))) (fun _ _ => rfl)) (pa_cons (pe_ix ix_list (pv 4) (pe_op op_mod (pv 5) (pe_callB cr_len (by rfl) T.f_len PySem.boot_len (pa_cons (pv 4) pa_nil))) (fun _ _ => rfl)) pa_nil))))) pa_nil)))))
abbrev s_led_by : Stmt := top 43
theorem sc_led_by : FnScope ["course", "by", "shift", "parts", "period", "at"] ["course", "by", "shift"] (defScope s_led_by) := ⟨rfl, rfl, rfl, by decide +kernel, rfl, by decide +kernel, by decide +kernel⟩
def t_led_by (K : PySem.W.Frag) : TS :=
    (tSeq (tAsg (tFld K (tVar 0) "own_parts") (gName 3))
    (tSeq (tAsg (tCB (uLen K) (tCons (tVar 3) tNil)) (gName 4))
    (tRet (tCall (spCourseOf K) [] E0 (tCons (tLc (iRng1 (tCons (tVar 4) tNil)) (gName 5) tYes (tCall (pureSp (C_put_part K)) [] E0 (tCons (tOp (rIxL K) (tVar 3) (tOp oMod (tOp oAdd (tOp oMul (tVar 1) (tVar 5)) (tVar 2)) (tVar 4))) (tCons (tVar 1) (tCons (tVar 2) tNil)))) [5]) tNil)))))
theorem body_led_by {P : Program} {w : World} {K : PySem.W.Frag} {mg : Str → Option Value} {base : Heap} (T : Txt K mg) (c0 : Cal P w K mg base "put_part" 6 ["part", "by", "shift"] (pureSp (C_put_part K))) (c1 : Cal P w K mg base "course_of" 7 ["parts"] (spCourseOf K))
    {f : Addr} {cdv : Value} {A : Around} {outer : List Env} {s : Shared} {H : Hp} {E : XK} (hr : Room 7 (A.deeper (PyProof.Rows.envOfC "led_by" (defScope s_led_by) s.heap.objs.size f cdv))) :
    PSs (cxOf CX0 P w K mg base ["course", "by", "shift", "parts", "period", "at"] "led_by" (defScope s_led_by) f cdv A outer s H E) (defBody s_led_by) (t_led_by K) := by
  obtain ⟨_, _, h0_G, h0_m, h0_k, h0_b⟩ := c0
  obtain ⟨_, _, h1_G, h1_m, h1_k, h1_b⟩ := c1
  exact PSs.nox (pss_cons (ps_set (i := 3) sc_led_by.nd rfl (Or.inr rfl) (pe_fld (pv 0) rfl))
    (pss_cons (ps_set (i := 4) sc_led_by.nd rfl (Or.inr rfl) (pe_callB cr_len (by rfl) T.f_len PySem.boot_len (pa_cons (pv 3) pa_nil)))
    (pss_one (ps_ret (pe_call h1_G hr rfl h1_m h1_k h1_b .nil pass0 (pa_cons (pe_lc (own := [("at", 5)]) (g := (gName 5)) (tt := tYes) (te := (tCall (pureSp (C_put_part K)) [] E0 (tCons (tOp (rIxL K) (tVar 3) (tOp oMod (tOp oAdd (tOp oMul (tVar 1) (tVar 5)) (tVar 2)) (tVar 4))) (tCons (tVar 1) (tCons (tVar 2) tNil))))) rfl sc_led_by.nd (pi_range1 (by rfl) T.f_range (pa_cons (pv 4) pa_nil)) (blkOk_by (N := ["course", "by", "shift", "parts", "period", "at"]) (sc := defScope s_led_by) (by decide +kernel)) (fun _ _ _ _ _ => (pg_name (i := 5) sc_led_by.nd rfl (Or.inl rfl) (hf := Or.inr rfl))) (fun _ _ _ _ _ => pts_nil) (fun _ _ _ _ _ => (pe_call h0_G (hr.mono (by decide)) rfl h0_m h0_k h0_b .nil pass0 (pa_cons (pe_ix ix_list (pv 3) (pe_op op_mod (pe_op op_add (pe_op op_mulW (pv 1) (pv 5)) (pv 2)) (pv 4)) (fun _ _ => rfl)) (pa_cons (pv 1) (pa_cons (pv 2) pa_nil)))))) pa_nil))))))
abbrev s_part_through : Stmt := top 44
theorem sc_part_through : FnScope ["numbers", "found", "base", "left", "step", "near", "far"] ["numbers"] (defScope s_part_through) := ⟨rfl, rfl, rfl, by decide +kernel, rfl, by decide +kernel, by decide +kernel⟩
def t_part_through (K : PySem.W.Frag) : TS :=
    (tSeq (tPar3 1 2 3 (tCons (tLst tNil) (tCons (tLst (tCons (tMake (He.ga K "Ratio") (initSp (He.ga K "Ratio") (C_Ratio_init K)) [.int 1] E0 (tCons (tC (.int 1)) tNil)) tNil)) (tCons (tVar 0) tNil))))
    (tSeq (tFor (iRng1 (tCons (tCB (uLen K) (tCons (tVar 0) tNil)) tNil)) (gName 4) (tSeq (tAsg (tCall (pureSp (C_part_sum K)) [] E0 (tCons (tVar 1) (tCons (tCall (pureSp (C_part_times K)) [] E0 (tCons (tVar 2) (tCons (tOp (rIxL K) (tVar 3) (tC (.int 0))) tNil))) tNil))) (gName 1))
    (tSeq (tAsg (tCall (pureSp (C_part_times K)) [] E0 (tCons (tCall (pureSp (C_part_sum K)) [] E0 (tCons (tOp rCat (tLst (tCons (tMake (He.ga K "Ratio") (initSp (He.ga K "Ratio") (C_Ratio_init K)) [.int 1] E0 (tCons (tC (.int 0)) tNil)) tNil)) (tVar 2)) (tCons (tCall (pureSp (C_part_times K)) [] E0 (tCons (tVar 2) (tCons (tUn uNeg (tVar 4)) tNil))) tNil))) (tCons (tMake (He.ga K "Ratio") (initSp (He.ga K "Ratio") (C_Ratio_init K)) [] E0 (tCons (tC (.int 1)) (tCons (tOp oAdd (tVar 4) (tC (.int 1))) tNil))) tNil))) (gName 2))
    (tAsg (tLc (iZip K (tCons (tVar 3) (tCons (tSl (rSlL K) (tVar 3) (tPart (tC (.int 1))) tNoPart) tNil))) (gTup K 2 (gCons (gName 5) (gCons (gName 6) gNil))) tYes (tOp (rOwnO (He.ga K "Ratio") (pureSp (C_Ratio_sub K))) (tVar 6) (tVar 5)) [5, 6]) (gName 3)))))
    (tRet (tVar 1))))
theorem body_part_through {P : Program} {w : World} {K : PySem.W.Frag} {mg : Str → Option Value} {base : Heap} (T : Txt K mg) (c0 : MkC P w K mg base "Ratio" (He.ga K "Ratio") 2 ["self", "top", "bottom"] (initSp (He.ga K "Ratio") (C_Ratio_init K)) [.int 1]) (c1 : Cal P w K mg base "part_times" 5 ["part", "number"] (pureSp (C_part_times K))) (c2 : Cal P w K mg base "part_sum" 5 ["one", "other"] (pureSp (C_part_sum K))) (c3 : MkC P w K mg base "Ratio" (He.ga K "Ratio") 2 ["self", "top", "bottom"] (initSp (He.ga K "Ratio") (C_Ratio_init K)) []) (c4 : OpC P w K mg base (He.ga K "Ratio") "__sub__" "__rsub__" 4 ["self", "other"] (pureSp (C_Ratio_sub K)))
    {f : Addr} {cdv : Value} {A : Around} {outer : List Env} {s : Shared} {H : Hp} {E : XK} (hr : Room 5 (A.deeper (PyProof.Rows.envOfC "part_through" (defScope s_part_through) s.heap.objs.size f cdv))) :
    PSs (cxOf CX0 P w K mg base ["numbers", "found", "base", "left", "step", "near", "far"] "part_through" (defScope s_part_through) f cdv A outer s H E) (defBody s_part_through) (t_part_through K) := by
  obtain ⟨_, _, _, h0_M, h0_G, h0_b, h0_v, h0_m⟩ := c0
  obtain ⟨_, _, h1_G, h1_m, h1_k, h1_b⟩ := c1
  obtain ⟨_, _, h2_G, h2_m, h2_k, h2_b⟩ := c2
  obtain ⟨_, _, _, h3_M, h3_G, h3_b, h3_v, h3_m⟩ := c3
  obtain ⟨_, _, _, _, _, h4_1, h4_2, h4_3, h4_4, h4_5, h4_6, h4_7, h4_8, h4_G, h4_b⟩ := c4
  exact PSs.nox (pss_cons (ps_par3 (i := 1) (j := 2) (l := 3) rfl sc_part_through.nd rfl rfl rfl (by decide) (by decide) (by decide) rfl rfl rfl (pa_cons (pe_lst pa_nil) (pa_cons (pe_lst (pa_cons (pe_make h0_M h0_G (hr.mono (by decide)) rfl h0_m h0_b h0_v pass0 (pa_cons pe_int pa_nil)) pa_nil)) (pa_cons (pv 0) pa_nil))) (by rfl))
    (pss_cons (ps_for PassesOwn.never rfl (pi_range1 (by rfl) T.f_range (pa_cons (pe_callB cr_len (by rfl) T.f_len PySem.boot_len (pa_cons (pv 0) pa_nil)) pa_nil)) (pg_name (i := 4) sc_part_through.nd rfl (Or.inl rfl) (hf := .inl rfl)) (pss_cons (ps_set (i := 1) sc_part_through.nd rfl (Or.inl rfl) (pe_call h2_G hr rfl h2_m h2_k h2_b .nil pass0 (pa_cons (pv 1) (pa_cons (pe_call h1_G hr rfl h1_m h1_k h1_b .nil pass0 (pa_cons (pv 2) (pa_cons (pe_ix ix_list (pv 3) pe_int (fun _ _ => rfl)) pa_nil))) pa_nil))))
    (pss_cons (ps_set (i := 2) sc_part_through.nd rfl (Or.inl rfl) (pe_call h1_G hr rfl h1_m h1_k h1_b .nil pass0 (pa_cons (pe_call h2_G hr rfl h2_m h2_k h2_b .nil pass0 (pa_cons (pe_op op_cat (pe_lst (pa_cons (pe_make h0_M h0_G (hr.mono (by decide)) rfl h0_m h0_b h0_v pass0 (pa_cons pe_int pa_nil)) pa_nil)) (pv 2)) (pa_cons (pe_call h1_G hr rfl h1_m h1_k h1_b .nil pass0 (pa_cons (pv 2) (pa_cons (pe_un un_neg (pv 4)) pa_nil))) pa_nil))) (pa_cons (pe_make h3_M h3_G (hr.mono (by decide)) rfl h3_m h3_b h3_v pass0 (pa_cons pe_int (pa_cons (pe_op op_add (pv 4) pe_int) pa_nil))) pa_nil))))
    (pss_one (ps_setLc (i := 3) (own := [("near", 5), ("far", 6)]) (g := (gTup K 2 (gCons (gName 5) (gCons (gName 6) gNil)))) (tt := tYes) (te := (tOp (rOwnO (He.ga K "Ratio") (pureSp (C_Ratio_sub K))) (tVar 6) (tVar 5))) rfl sc_part_through.nd rfl rfl (sw_true rfl rfl rfl (by decide +kernel)) (pi_zip (by rfl) T.f_zip (pa_cons (pv 3) (pa_cons (pe_slice sl_list (pv 3) (po_some pe_int) po_none) pa_nil))) (blkOk_by (N := ["numbers", "found", "base", "left", "step", "near", "far"]) (sc := defScope s_part_through) (by decide +kernel)) (fun _ _ _ _ _ => (pg_tup rfl (pgs_cons (pg_name (i := 5) sc_part_through.nd rfl (Or.inl rfl) (hf := Or.inr rfl)) (pgs_cons (pg_name (i := 6) sc_part_through.nd rfl (Or.inl rfl) (hf := Or.inr rfl)) pgs_nil)))) (fun _ _ _ _ _ => pts_nil) (fun _ _ _ _ _ => (pe_op (op_ownO h4_1 h4_2 h4_3 h4_G (hr.mono (by decide)) h4_b) (pv 6) (pv 5))))))))
    (pss_one (ps_ret (pv 1)))))
abbrev s_grown_of : Stmt := top 45
theorem sc_grown_of : FnScope ["period", "numbers", "parts", "at"] ["period", "numbers"] (defScope s_grown_of) := ⟨rfl, rfl, rfl, by decide +kernel, rfl, by decide +kernel, by decide +kernel⟩
def t_grown_of (K : PySem.W.Frag) : TS :=
    (tSeq (tAsg (tLst tNil) (gName 2))
    (tSeq (tFor (iRng1 (tCons (tVar 0) tNil)) (gName 3) (tDrop (tBM K "list" rAppend (tVar 2) (tCons (tCall (pureSp (C_put_part K)) [] E0 (tCons (tCall (pureSp (C_part_through K)) [] E0 (tCons (tStepL K (tVar 1) (tPart (tVar 3)) (tPart (tVar 0))) tNil)) (tCons (tMake (He.ga K "Ratio") (initSp (He.ga K "Ratio") (C_Ratio_init K)) [] E0 (tCons (tC (.int 1)) (tCons (tVar 0) tNil))) (tCons (tMake (He.ga K "Ratio") (initSp (He.ga K "Ratio") (C_Ratio_init K)) [] E0 (tCons (tUn uNeg (tVar 3)) (tCons (tVar 0) tNil))) tNil)))) tNil))))
    (tRet (tCall (spCourseOf K) [] E0 (tCons (tVar 2) tNil)))))
theorem body_grown_of {P : Program} {w : World} {K : PySem.W.Frag} {mg : Str → Option Value} {base : Heap} (T : Txt K mg) (c0 : MkC P w K mg base "Ratio" (He.ga K "Ratio") 2 ["self", "top", "bottom"] (initSp (He.ga K "Ratio") (C_Ratio_init K)) []) (c1 : Cal P w K mg base "part_through" 6 ["numbers"] (pureSp (C_part_through K))) (c2 : Cal P w K mg base "put_part" 6 ["part", "by", "shift"] (pureSp (C_put_part K))) (c3 : Cal P w K mg base "course_of" 7 ["parts"] (spCourseOf K))
    {f : Addr} {cdv : Value} {A : Around} {outer : List Env} {s : Shared} {H : Hp} {E : XK} (hr : Room 7 (A.deeper (PyProof.Rows.envOfC "grown_of" (defScope s_grown_of) s.heap.objs.size f cdv))) :
    PSs (cxOf CX0 P w K mg base ["period", "numbers", "parts", "at"] "grown_of" (defScope s_grown_of) f cdv A outer s H E) (defBody s_grown_of) (t_grown_of K) := by
  obtain ⟨_, _, _, h0_M, h0_G, h0_b, h0_v, h0_m⟩ := c0
  obtain ⟨_, _, h1_G, h1_m, h1_k, h1_b⟩ := c1
  obtain ⟨_, _, h2_G, h2_m, h2_k, h2_b⟩ := c2
  obtain ⟨_, _, h3_G, h3_m, h3_k, h3_b⟩ := c3
  exact PSs.nox (pss_cons (ps_set (i := 2) sc_grown_of.nd rfl (Or.inl rfl) (pe_lst pa_nil))
    (pss_cons (ps_for PassesOwn.never rfl (pi_range1 (by rfl) T.f_range (pa_cons (pv 0) pa_nil)) (pg_name (i := 3) sc_grown_of.nd rfl (Or.inl rfl) (hf := .inl rfl)) (pss_one (ps_expr (pe_bm PySem.F.plainAttrs_list PySem.F.slot_list_append PySem.F.type_list_append mt_append (pv 2) (pa_cons (pe_call h2_G (hr.mono (by decide)) rfl h2_m h2_k h2_b .nil pass0 (pa_cons (pe_call h1_G (hr.mono (by decide)) rfl h1_m h1_k h1_b .nil pass0 (pa_cons (pe_stepL (pv 1) (po_some (pv 3)) (po_some (pv 0))) pa_nil)) (pa_cons (pe_make h0_M h0_G (hr.mono (by decide)) rfl h0_m h0_b h0_v pass0 (pa_cons pe_int (pa_cons (pv 0) pa_nil))) (pa_cons (pe_make h0_M h0_G (hr.mono (by decide)) rfl h0_m h0_b h0_v pass0 (pa_cons (pe_un un_neg (pv 3)) (pa_cons (pv 0) pa_nil))) pa_nil)))) pa_nil)))))
    (pss_one (ps_ret (pe_call h3_G hr rfl h3_m h3_k h3_b .nil pass0 (pa_cons (pv 2) pa_nil))))))
abbrev s_plus : Stmt := top 46
theorem sc_plus : FnScope ["course", "other", "one", "two"] ["course", "other"] (defScope s_plus) := ⟨rfl, rfl, rfl, by decide +kernel, rfl, by decide +kernel, by decide +kernel⟩
def t_plus (K : PySem.W.Frag) : TS :=
    (tSeq (tAsg (tCall (pureSp (C_want_course K)) [] E0 (tCons (tVar 0) tNil)) (gName 2))
    (tSeq (tAsg (tCall (pureSp (C_want_course K)) [] E0 (tCons (tVar 1) tNil)) (gName 3))
    (tSeq (tDrop (tCall (pureSp (C_want_at_most K)) [] E0 (tCons (tC (.str "period")) (tCons (tC (.int 60)) (tCons (tCB uLcm (tCons (tProp (He.ga K "Course") (pureSp (C_Course_period K)) [] E0 (tVar 2)) (tCons (tProp (He.ga K "Course") (pureSp (C_Course_period K)) [] E0 (tVar 3)) tNil))) tNil)))))
    (tRet (tCall (pureSp (C_sum_of K)) [] E0 (tCons (tVar 2) (tCons (tVar 3) tNil)))))))
theorem body_plus {P : Program} {w : World} {K : PySem.W.Frag} {mg : Str → Option Value} {base : Heap} (T : Txt K mg) (c0 : Cal P w K mg base "want_course" 1 ["value"] (pureSp (C_want_course K))) (c1 : PrC P w K mg base (He.ga K "Course") "period" 1 ["self"] (pureSp (C_Course_period K))) (c2 : Cal P w K mg base "want_at_most" 1 ["what", "limit", "number"] (pureSp (C_want_at_most K))) (c3 : Cal P w K mg base "sum_of" 8 ["one", "other"] (pureSp (C_sum_of K)))
    {f : Addr} {cdv : Value} {A : Around} {outer : List Env} {s : Shared} {H : Hp} {E : XK} (hr : Room 8 (A.deeper (PyProof.Rows.envOfC "plus" (defScope s_plus) s.heap.objs.size f cdv))) :
    PSs (cxOf CX0 P w K mg base ["course", "other", "one", "two"] "plus" (defScope s_plus) f cdv A outer s H E) (defBody s_plus) (t_plus K) := by
  obtain ⟨_, _, h0_G, h0_m, h0_k, h0_b⟩ := c0
  obtain ⟨_, _, _, h1_p, h1_G, h1_b⟩ := c1
  obtain ⟨_, _, h2_G, h2_m, h2_k, h2_b⟩ := c2
  obtain ⟨_, _, h3_G, h3_m, h3_k, h3_b⟩ := c3
  exact PSs.nox (pss_cons (ps_set (i := 2) sc_plus.nd rfl (Or.inl rfl) (pe_call h0_G (hr.mono (by decide)) rfl h0_m h0_k h0_b .nil pass0 (pa_cons (pv 0) pa_nil)))
    (pss_cons (ps_set (i := 3) sc_plus.nd rfl (Or.inl rfl) (pe_call h0_G (hr.mono (by decide)) rfl h0_m h0_k h0_b .nil pass0 (pa_cons (pv 1) pa_nil)))
    (pss_cons (ps_expr (pe_call h2_G (hr.mono (by decide)) rfl h2_m h2_k h2_b .nil pass0 (pa_cons pe_str (pa_cons (pe_glob rfl T.i_MOST_PERIOD.choose_spec ⟨_, rfl⟩) (pa_cons (pe_callBfun cr_lcm (by rfl) T.b_lcm (pa_cons (pe_prop (pv 2) T.c_Course h1_p h1_G (hr.mono (by decide)) h1_b .nil pass0 rfl) (pa_cons (pe_prop (pv 3) T.c_Course h1_p h1_G (hr.mono (by decide)) h1_b .nil pass0 rfl) pa_nil))) pa_nil)))))
    (pss_one (ps_ret (pe_call h3_G hr rfl h3_m h3_k h3_b .nil pass0 (pa_cons (pv 2) (pa_cons (pv 3) pa_nil))))))))
abbrev s_times : Stmt := top 47
theorem sc_times : FnScope ["course", "number", "told", "by", "part"] ["course", "number"] (defScope s_times) := ⟨rfl, rfl, rfl, by decide +kernel, rfl, by decide +kernel, by decide +kernel⟩
def t_times (K : PySem.W.Frag) : TS :=
    (tSeq (tAsg (tCall (pureSp (C_want_course K)) [] E0 (tCons (tVar 0) tNil)) (gName 2))
    (tSeq (tAsg (tCall (pureSp (C_want_number K)) [] E0 (tCons (tVar 1) tNil)) (gName 3))
    (tRet (tCall (spCourseOf K) [] E0 (tCons (tLc (iList K (tFld K (tVar 2) "own_parts")) (gName 4) tYes (tCall (pureSp (C_part_times K)) [] E0 (tCons (tVar 4) (tCons (tVar 3) tNil))) [4]) tNil)))))
theorem body_times {P : Program} {w : World} {K : PySem.W.Frag} {mg : Str → Option Value} {base : Heap} (T : Txt K mg) (c0 : Cal P w K mg base "want_course" 1 ["value"] (pureSp (C_want_course K))) (c1 : Cal P w K mg base "want_number" 5 ["value"] (pureSp (C_want_number K))) (c2 : Cal P w K mg base "part_times" 5 ["part", "number"] (pureSp (C_part_times K))) (c3 : Cal P w K mg base "course_of" 7 ["parts"] (spCourseOf K))
    {f : Addr} {cdv : Value} {A : Around} {outer : List Env} {s : Shared} {H : Hp} {E : XK} (hr : Room 7 (A.deeper (PyProof.Rows.envOfC "times" (defScope s_times) s.heap.objs.size f cdv))) :
    PSs (cxOf CX0 P w K mg base ["course", "number", "told", "by", "part"] "times" (defScope s_times) f cdv A outer s H E) (defBody s_times) (t_times K) := by
  obtain ⟨_, _, h0_G, h0_m, h0_k, h0_b⟩ := c0
  obtain ⟨_, _, h1_G, h1_m, h1_k, h1_b⟩ := c1
  obtain ⟨_, _, h2_G, h2_m, h2_k, h2_b⟩ := c2
  obtain ⟨_, _, h3_G, h3_m, h3_k, h3_b⟩ := c3
  exact PSs.nox (pss_cons (ps_set (i := 2) sc_times.nd rfl (Or.inl rfl) (pe_call h0_G (hr.mono (by decide)) rfl h0_m h0_k h0_b .nil pass0 (pa_cons (pv 0) pa_nil)))
    (pss_cons (ps_set (i := 3) sc_times.nd rfl (Or.inr rfl) (pe_call h1_G (hr.mono (by decide)) rfl h1_m h1_k h1_b .nil pass0 (pa_cons (pv 1) pa_nil)))
    (pss_one (ps_ret (pe_call h3_G hr rfl h3_m h3_k h3_b .nil pass0 (pa_cons (pe_lc (own := [("part", 4)]) (g := (gName 4)) (tt := tYes) (te := (tCall (pureSp (C_part_times K)) [] E0 (tCons (tVar 4) (tCons (tVar 3) tNil)))) rfl sc_times.nd (pi_list (pe_fld (pv 2) rfl)) (blkOk_by (N := ["course", "number", "told", "by", "part"]) (sc := defScope s_times) (by decide +kernel)) (fun _ _ _ _ _ => (pg_name (i := 4) sc_times.nd rfl (Or.inl rfl) (hf := Or.inr rfl))) (fun _ _ _ _ _ => pts_nil) (fun _ _ _ _ _ => (pe_call h2_G (hr.mono (by decide)) rfl h2_m h2_k h2_b .nil pass0 (pa_cons (pv 4) (pa_cons (pv 3) pa_nil))))) pa_nil))))))
abbrev s_led : Stmt := top 48
theorem sc_led : FnScope ["course", "by", "shift", "told"] ["course", "by", "shift"] (defScope s_led) := ⟨rfl, rfl, rfl, by decide +kernel, rfl, by decide +kernel, by decide +kernel⟩
def t_led (K : PySem.W.Frag) : TS :=
    (tSeq (tAsg (tCall (pureSp (C_want_course K)) [] E0 (tCons (tVar 0) tNil)) (gName 3))
    (tRet (tCall (pureSp (C_led_by K)) [] E0 (tCons (tVar 3) (tCons (tCall (pureSp (C_want_whole K)) [] E0 (tCons (tVar 1) tNil)) (tCons (tCall (pureSp (C_want_whole K)) [] E0 (tCons (tVar 2) tNil)) tNil))))))
theorem body_led {P : Program} {w : World} {K : PySem.W.Frag} {mg : Str → Option Value} {base : Heap} (T : Txt K mg) (c0 : Cal P w K mg base "want_course" 1 ["value"] (pureSp (C_want_course K))) (c1 : Cal P w K mg base "want_whole" 2 ["value"] (pureSp (C_want_whole K))) (c2 : Cal P w K mg base "led_by" 8 ["course", "by", "shift"] (pureSp (C_led_by K)))
    {f : Addr} {cdv : Value} {A : Around} {outer : List Env} {s : Shared} {H : Hp} {E : XK} (hr : Room 8 (A.deeper (PyProof.Rows.envOfC "led" (defScope s_led) s.heap.objs.size f cdv))) :
    PSs (cxOf CX0 P w K mg base ["course", "by", "shift", "told"] "led" (defScope s_led) f cdv A outer s H E) (defBody s_led) (t_led K) := by
  obtain ⟨_, _, h0_G, h0_m, h0_k, h0_b⟩ := c0
  obtain ⟨_, _, h1_G, h1_m, h1_k, h1_b⟩ := c1
  obtain ⟨_, _, h2_G, h2_m, h2_k, h2_b⟩ := c2
  exact PSs.nox (pss_cons (ps_set (i := 3) sc_led.nd rfl (Or.inl rfl) (pe_call h0_G (hr.mono (by decide)) rfl h0_m h0_k h0_b .nil pass0 (pa_cons (pv 0) pa_nil)))
    (pss_one (ps_ret (pe_call h2_G hr rfl h2_m h2_k h2_b .nil pass0 (pa_cons (pv 3) (pa_cons (pe_call h1_G (hr.mono (by decide)) rfl h1_m h1_k h1_b .nil pass0 (pa_cons (pv 1) pa_nil)) (pa_cons (pe_call h1_G (hr.mono (by decide)) rfl h1_m h1_k h1_b .nil pass0 (pa_cons (pv 2) pa_nil)) pa_nil)))))))
abbrev s_difference : Stmt := top 49
theorem sc_difference : FnScope ["course", "step", "told", "less", "part"] ["course", "step"] (defScope s_difference) := ⟨rfl, rfl, rfl, by decide +kernel, rfl, by decide +kernel, by decide +kernel⟩
def t_difference (K : PySem.W.Frag) : TS :=
    (tSeq (tAsg (tCall (pureSp (C_want_course K)) [] E0 (tCons (tVar 0) tNil)) (gName 2))
    (tSeq (tAsg (tCall (spCourseOf K) [] E0 (tCons (tLc (iList K (tFld K (tVar 2) "own_parts")) (gName 4) tYes (tCall (pureSp (C_part_times K)) [] E0 (tCons (tVar 4) (tCons (tUn uNeg (tC (.int 1))) tNil))) [4]) tNil)) (gName 3))
    (tRet (tCall (pureSp (C_sum_of K)) [] E0 (tCons (tCall (pureSp (C_led_by K)) [] E0 (tCons (tVar 2) (tCons (tC (.int 1)) (tCons (tCall (pureSp (C_want_whole K)) [] E0 (tCons (tVar 1) tNil)) tNil)))) (tCons (tVar 3) tNil))))))
theorem body_difference {P : Program} {w : World} {K : PySem.W.Frag} {mg : Str → Option Value} {base : Heap} (T : Txt K mg) (c0 : Cal P w K mg base "want_course" 1 ["value"] (pureSp (C_want_course K))) (c1 : Cal P w K mg base "part_times" 5 ["part", "number"] (pureSp (C_part_times K))) (c2 : Cal P w K mg base "course_of" 7 ["parts"] (spCourseOf K)) (c3 : Cal P w K mg base "want_whole" 2 ["value"] (pureSp (C_want_whole K))) (c4 : Cal P w K mg base "led_by" 8 ["course", "by", "shift"] (pureSp (C_led_by K))) (c5 : Cal P w K mg base "sum_of" 8 ["one", "other"] (pureSp (C_sum_of K)))
    {f : Addr} {cdv : Value} {A : Around} {outer : List Env} {s : Shared} {H : Hp} {E : XK} (hr : Room 8 (A.deeper (PyProof.Rows.envOfC "difference" (defScope s_difference) s.heap.objs.size f cdv))) :
    PSs (cxOf CX0 P w K mg base ["course", "step", "told", "less", "part"] "difference" (defScope s_difference) f cdv A outer s H E) (defBody s_difference) (t_difference K) := by
  obtain ⟨_, _, h0_G, h0_m, h0_k, h0_b⟩ := c0
  obtain ⟨_, _, h1_G, h1_m, h1_k, h1_b⟩ := c1
  obtain ⟨_, _, h2_G, h2_m, h2_k, h2_b⟩ := c2
  obtain ⟨_, _, h3_G, h3_m, h3_k, h3_b⟩ := c3
  obtain ⟨_, _, h4_G, h4_m, h4_k, h4_b⟩ := c4
  obtain ⟨_, _, h5_G, h5_m, h5_k, h5_b⟩ := c5
  exact PSs.nox (pss_cons (ps_set (i := 2) sc_difference.nd rfl (Or.inl rfl) (pe_call h0_G (hr.mono (by decide)) rfl h0_m h0_k h0_b .nil pass0 (pa_cons (pv 0) pa_nil)))
    (pss_cons (ps_set (i := 3) sc_difference.nd rfl (Or.inl rfl) (pe_call h2_G (hr.mono (by decide)) rfl h2_m h2_k h2_b .nil pass0 (pa_cons (pe_lc (own := [("part", 4)]) (g := (gName 4)) (tt := tYes) (te := (tCall (pureSp (C_part_times K)) [] E0 (tCons (tVar 4) (tCons (tUn uNeg (tC (.int 1))) tNil)))) rfl sc_difference.nd (pi_list (pe_fld (pv 2) rfl)) (blkOk_by (N := ["course", "step", "told", "less", "part"]) (sc := defScope s_difference) (by decide +kernel)) (fun _ _ _ _ _ => (pg_name (i := 4) sc_difference.nd rfl (Or.inl rfl) (hf := Or.inr rfl))) (fun _ _ _ _ _ => pts_nil) (fun _ _ _ _ _ => (pe_call h1_G (hr.mono (by decide)) rfl h1_m h1_k h1_b .nil pass0 (pa_cons (pv 4) (pa_cons (pe_un un_neg pe_int) pa_nil))))) pa_nil)))
    (pss_one (ps_ret (pe_call h5_G hr rfl h5_m h5_k h5_b .nil pass0 (pa_cons (pe_call h4_G hr rfl h4_m h4_k h4_b .nil pass0 (pa_cons (pv 2) (pa_cons pe_int (pa_cons (pe_call h3_G (hr.mono (by decide)) rfl h3_m h3_k h3_b .nil pass0 (pa_cons (pv 1) pa_nil)) pa_nil)))) (pa_cons (pv 3) pa_nil)))))))
abbrev s_are_grown : Stmt := top 50
theorem sc_are_grown : FnScope ["period", "value", "number"] ["period", "value"] (defScope s_are_grown) := ⟨rfl, rfl, rfl, by decide +kernel, rfl, by decide +kernel, by decide +kernel⟩
def t_are_grown (K : PySem.W.Frag) : TS :=
    (tSeq (tIfS (tOr (tNot (tB (tCall (pureSp (C_is_list K)) [] E0 (tCons (tVar 1) tNil)))) (tOr (tTest (tOp rNe (tOp oMod (tCB (uLen K) (tCons (tVar 1) tNil)) (tVar 0)) (tC (.int 0)))) (tTest (tOp oGt (tOp oDiv (tCB (uLen K) (tCons (tVar 1) tNil)) (tVar 0)) (tC (.int 5)))))) (tRet (tC (.bl false))) tNext)
    (tRet (tCB (rAll K) (tCons (tLc (iList K (tVar 1)) (gName 2) tYes (tCall (pureSp (C_is_number K)) [] E0 (tCons (tVar 2) tNil)) [2]) tNil))))
theorem body_are_grown {P : Program} {w : World} {K : PySem.W.Frag} {mg : Str → Option Value} {base : Heap} (T : Txt K mg) (c0 : Cal P w K mg base "is_list" 1 ["value"] (pureSp (C_is_list K))) (c1 : Cal P w K mg base "is_number" 2 ["value"] (pureSp (C_is_number K)))
    {f : Addr} {cdv : Value} {A : Around} {outer : List Env} {s : Shared} {H : Hp} {E : XK} (hr : Room 2 (A.deeper (PyProof.Rows.envOfC "are_grown" (defScope s_are_grown) s.heap.objs.size f cdv))) :
    PSs (cxOf CX0 P w K mg base ["period", "value", "number"] "are_grown" (defScope s_are_grown) f cdv A outer s H E) (defBody s_are_grown) (t_are_grown K) := by
  obtain ⟨_, _, h0_G, h0_m, h0_k, h0_b⟩ := c0
  obtain ⟨_, _, h1_G, h1_m, h1_k, h1_b⟩ := c1
  exact PSs.nox (pss_cons (ps_if (PW.pt (pw_or (pt_not (pt_val (pe_call h0_G (hr.mono (by decide)) rfl h0_m h0_k h0_b .nil pass0 (pa_cons (pv 1) pa_nil)))) (pw_or (pt_cmpR op_ne (pe_op op_mod (pe_callB cr_len (by rfl) T.f_len PySem.boot_len (pa_cons (pv 1) pa_nil)) (pv 0)) pe_int (nomark _)) (pw_or1 (pt_cmpR op_gt (pe_op op_fdivA (pe_callB cr_len (by rfl) T.f_len PySem.boot_len (pa_cons (pv 1) pa_nil)) (pv 0)) (pe_glob rfl T.i_MOST_SHARE.choose_spec ⟨_, rfl⟩) (nomark _)))))) (pss_one (ps_ret pe_bl)) pss_nil)
    (pss_one (ps_ret (pe_callB (cr_all rfl) (by rfl) T.f_all (by decide +kernel) (pa_cons (pe_lc (own := [("number", 2)]) (g := (gName 2)) (tt := tYes) (te := (tCall (pureSp (C_is_number K)) [] E0 (tCons (tVar 2) tNil))) rfl sc_are_grown.nd (pi_list (pv 1)) (blkOk_by (N := ["period", "value", "number"]) (sc := defScope s_are_grown) (by decide +kernel)) (fun _ _ _ _ _ => (pg_name (i := 2) sc_are_grown.nd rfl (Or.inl rfl) (hf := Or.inr rfl))) (fun _ _ _ _ _ => pts_nil) (fun _ _ _ _ _ => (pe_call h1_G hr rfl h1_m h1_k h1_b .nil pass0 (pa_cons (pv 2) pa_nil)))) pa_nil)))))
abbrev s_grown : Stmt := top 51
theorem sc_grown : FnScope ["period", "numbers", "number"] ["period", "numbers"] (defScope s_grown) := ⟨rfl, rfl, rfl, by decide +kernel, rfl, by decide +kernel, by decide +kernel⟩
def t_grown (K : PySem.W.Frag) : TS :=
    (tSeq (tIfS (tOr (tNot (tB (tCall (pureSp (C_is_integer K)) [] E0 (tCons (tVar 0) tNil)))) (tNot (tTest (tChain oLe oLe (tC (.int 1)) (tVar 0) (tC (.int 12)))))) tNever tNext)
    (tSeq (tIfS (tNot (tB (tCall (pureSp (C_are_grown K)) [] E0 (tCons (tVar 0) (tCons (tVar 1) tNil))))) tNever tNext)
    (tRet (tCall (pureSp (C_grown_of K)) [] E0 (tCons (tVar 0) (tCons (tLc (iList K (tVar 1)) (gName 2) tYes (tCall (pureSp (C_ratio_of K)) [] E0 (tCons (tVar 2) tNil)) [2]) tNil))))))
theorem body_grown {P : Program} {w : World} {K : PySem.W.Frag} {mg : Str → Option Value} {base : Heap} (T : Txt K mg) (c0 : Cal P w K mg base "is_integer" 1 ["value"] (pureSp (C_is_integer K))) (c1 : Cal P w K mg base "are_grown" 3 ["period", "value"] (pureSp (C_are_grown K))) (c2 : Cal P w K mg base "ratio_of" 4 ["number"] (pureSp (C_ratio_of K))) (c3 : Cal P w K mg base "grown_of" 8 ["period", "numbers"] (pureSp (C_grown_of K)))
    {f : Addr} {cdv : Value} {A : Around} {outer : List Env} {s : Shared} {H : Hp} {E : XK} (hr : Room 8 (A.deeper (PyProof.Rows.envOfC "grown" (defScope s_grown) s.heap.objs.size f cdv))) :
    PSs (cxOf CX0 P w K mg base ["period", "numbers", "number"] "grown" (defScope s_grown) f cdv A outer s H E) (defBody s_grown) (t_grown K) := by
  obtain ⟨_, _, h0_G, h0_m, h0_k, h0_b⟩ := c0
  obtain ⟨_, _, h1_G, h1_m, h1_k, h1_b⟩ := c1
  obtain ⟨_, _, h2_G, h2_m, h2_k, h2_b⟩ := c2
  obtain ⟨_, _, h3_G, h3_m, h3_k, h3_b⟩ := c3
  exact PSs.nox (pss_cons (ps_if (PW.pt (pw_or (pt_not (pt_val (pe_call h0_G (hr.mono (by decide)) rfl h0_m h0_k h0_b .nil pass0 (pa_cons (pv 0) pa_nil)))) (pw_or1 (pt_not (pt_chain op_le op_le pe_int (pv 0) (pe_glob rfl T.i_MOST_GROWN.choose_spec ⟨_, rfl⟩)))))) (pss_one ps_never) pss_nil)
    (pss_cons (ps_if (pt_not (pt_val (pe_call h1_G (hr.mono (by decide)) rfl h1_m h1_k h1_b .nil pass0 (pa_cons (pv 0) (pa_cons (pv 1) pa_nil))))) (pss_one ps_never) pss_nil)
    (pss_one (ps_ret (pe_call h3_G hr rfl h3_m h3_k h3_b .nil pass0 (pa_cons (pv 0) (pa_cons (pe_lc (own := [("number", 2)]) (g := (gName 2)) (tt := tYes) (te := (tCall (pureSp (C_ratio_of K)) [] E0 (tCons (tVar 2) tNil))) rfl sc_grown.nd (pi_list (pv 1)) (blkOk_by (N := ["period", "numbers", "number"]) (sc := defScope s_grown) (by decide +kernel)) (fun _ _ _ _ _ => (pg_name (i := 2) sc_grown.nd rfl (Or.inl rfl) (hf := Or.inr rfl))) (fun _ _ _ _ _ => pts_nil) (fun _ _ _ _ _ => (pe_call h2_G (hr.mono (by decide)) rfl h2_m h2_k h2_b .nil pass0 (pa_cons (pv 2) pa_nil)))) pa_nil)))))))
abbrev s_is_whole_of : Stmt := top 53
theorem sc_is_whole_of : FnScope ["course", "whole"] ["course"] (defScope s_is_whole_of) := ⟨rfl, rfl, rfl, by decide +kernel, rfl, by decide +kernel, by decide +kernel⟩
def t_is_whole_of (K : PySem.W.Frag) : TS :=
    (tRet (tCB (rAll K) (tCons (tLc (iRng1 (tCons (tOp oMul (tProp (He.ga K "Course") (pureSp (C_Course_period K)) [] E0 (tVar 0)) (tOp oAdd (tProp (He.ga K "Course") (pureSp (C_Course_degree K)) [] E0 (tVar 0)) (tC (.int 1)))) tNil)) (gName 1) tYes (tProp (He.ga K "Ratio") (pureSp (C_Ratio_is_whole K)) [] E0 (tMeth (He.ga K "Course") "at" (pureSp (C_Course_at K)) [] E0 (tVar 0) (tCons (tVar 1) tNil))) [1]) tNil)))
theorem body_is_whole_of {P : Program} {w : World} {K : PySem.W.Frag} {mg : Str → Option Value} {base : Heap} (T : Txt K mg) (c0 : PrC P w K mg base (He.ga K "Course") "period" 1 ["self"] (pureSp (C_Course_period K))) (c1 : PrC P w K mg base (He.ga K "Course") "degree" 1 ["self"] (pureSp (C_Course_degree K))) (c2 : MetC P w K mg base (He.ga K "Course") "at" 5 ["self", "whole"] (pureSp (C_Course_at K))) (c3 : PrC P w K mg base (He.ga K "Ratio") "is_whole" 1 ["self"] (pureSp (C_Ratio_is_whole K)))
    {f : Addr} {cdv : Value} {A : Around} {outer : List Env} {s : Shared} {H : Hp} {E : XK} (hr : Room 5 (A.deeper (PyProof.Rows.envOfC "is_whole_of" (defScope s_is_whole_of) s.heap.objs.size f cdv))) :
    PSs (cxOf CX0 P w K mg base ["course", "whole"] "is_whole_of" (defScope s_is_whole_of) f cdv A outer s H E) (defBody s_is_whole_of) (t_is_whole_of K) := by
  obtain ⟨_, _, _, h0_p, h0_G, h0_b⟩ := c0
  obtain ⟨_, _, _, h1_p, h1_G, h1_b⟩ := c1
  obtain ⟨_, _, h2_m, h2_G, h2_b⟩ := c2
  obtain ⟨_, _, _, h3_p, h3_G, h3_b⟩ := c3
  exact PSs.nox (pss_one (ps_ret (pe_callB (cr_all rfl) (by rfl) T.f_all (by decide +kernel) (pa_cons (pe_lc (own := [("whole", 1)]) (g := (gName 1)) (tt := tYes) (te := (tProp (He.ga K "Ratio") (pureSp (C_Ratio_is_whole K)) [] E0 (tMeth (He.ga K "Course") "at" (pureSp (C_Course_at K)) [] E0 (tVar 0) (tCons (tVar 1) tNil)))) rfl sc_is_whole_of.nd (pi_range1 (by rfl) T.f_range (pa_cons (pe_op op_mulW (pe_prop (pv 0) T.c_Course h0_p h0_G (hr.mono (by decide)) h0_b .nil pass0 rfl) (pe_op op_add (pe_prop (pv 0) T.c_Course h1_p h1_G (hr.mono (by decide)) h1_b .nil pass0 rfl) pe_int)) pa_nil)) (blkOk_by (N := ["course", "whole"]) (sc := defScope s_is_whole_of) (by decide +kernel)) (fun _ _ _ _ _ => (pg_name (i := 1) sc_is_whole_of.nd rfl (Or.inl rfl) (hf := Or.inr rfl))) (fun _ _ _ _ _ => pts_nil) (fun _ _ _ _ _ => (pe_prop (pe_meth (pv 0) T.c_Course h2_m h2_G hr h2_b .nil pass0 (pa_cons (pv 1) pa_nil)) T.c_Ratio h3_p h3_G (hr.mono (by decide)) h3_b .nil pass0 rfl))) pa_nil))))
abbrev s_is_whole_course : Stmt := top 54
theorem sc_is_whole_course : FnScope ["course"] ["course"] (defScope s_is_whole_course) := ⟨rfl, rfl, rfl, by decide +kernel, rfl, by decide +kernel, by decide +kernel⟩
def t_is_whole_course (K : PySem.W.Frag) : TS :=
    (tRet (tCall (pureSp (C_is_whole_of K)) [] E0 (tCons (tCall (pureSp (C_want_course K)) [] E0 (tCons (tVar 0) tNil)) tNil)))
theorem body_is_whole_course {P : Program} {w : World} {K : PySem.W.Frag} {mg : Str → Option Value} {base : Heap} (T : Txt K mg) (c0 : Cal P w K mg base "want_course" 1 ["value"] (pureSp (C_want_course K))) (c1 : Cal P w K mg base "is_whole_of" 6 ["course"] (pureSp (C_is_whole_of K)))
    {f : Addr} {cdv : Value} {A : Around} {outer : List Env} {s : Shared} {H : Hp} {E : XK} (hr : Room 6 (A.deeper (PyProof.Rows.envOfC "is_whole_course" (defScope s_is_whole_course) s.heap.objs.size f cdv))) :
    PSs (cxOf CX0 P w K mg base ["course"] "is_whole_course" (defScope s_is_whole_course) f cdv A outer s H E) (defBody s_is_whole_course) (t_is_whole_course K) := by
  obtain ⟨_, _, h0_G, h0_m, h0_k, h0_b⟩ := c0
  obtain ⟨_, _, h1_G, h1_m, h1_k, h1_b⟩ := c1
  exact PSs.nox (pss_one (ps_ret (pe_call h1_G hr rfl h1_m h1_k h1_b .nil pass0 (pa_cons (pe_call h0_G (hr.mono (by decide)) rfl h0_m h0_k h0_b .nil pass0 (pa_cons (pv 0) pa_nil)) pa_nil))))
abbrev s_law_pot : Stmt := top 56
theorem sc_law_pot : FnScope ["script", "k", "cell"] ["script", "k"] (defScope s_law_pot) := ⟨rfl, rfl, rfl, by decide +kernel, rfl, by decide +kernel, by decide +kernel⟩
def t_law_pot (K : PySem.W.Frag) : TS :=
    (tSeq (tAsg (tIf (tTest (tOp oLt (tVar 1) (tCB (uLen K) (tCons (tVar 0) tNil)))) (tCB uAbs (tCons (tOp (rIxL K) (tVar 0) (tVar 1)) tNil)) (tOp oAdd (tOp oMul (tC (.int 1931)) (tVar 1)) (tC (.int 1033)))) (gName 2))
    (tRet (tLst (tCons (tCB uMax (tCons (tC (.int 0)) (tCons (tOp oSub (tVar 2) (tOp oPow (tC (.int 10)) (tC (.int 18)))) tNil))) (tCons (tOp oAdd (tOp oMod (tCB uInt (tCons (tOp oAdd (tOp oAdd (tOp oMul (tOp oMod (tCB uInt (tCons (tVar 2) tNil)) (tC (.int 2147483549))) (tC (.int 40014))) (tOp oMul (tC (.int 6473)) (tVar 1))) (tC (.int 601))) tNil)) (tC (.int 2147483563))) (tC (.int 1))) tNil)))))
theorem body_law_pot {P : Program} {w : World} {K : PySem.W.Frag} {mg : Str → Option Value} {base : Heap} (T : Txt K mg) 
    {f : Addr} {cdv : Value} {A : Around} {outer : List Env} {s : Shared} {H : Hp} {E : XK} (hr : Room 0 (A.deeper (PyProof.Rows.envOfC "_law_pot" (defScope s_law_pot) s.heap.objs.size f cdv))) :
    PSs (cxOf CX0 P w K mg base ["script", "k", "cell"] "_law_pot" (defScope s_law_pot) f cdv A outer s H E) (defBody s_law_pot) (t_law_pot K) := by
  exact PSs.nox (pss_cons (ps_set (i := 2) sc_law_pot.nd rfl (Or.inl rfl) (pe_ifExp (pt_cmpR op_lt (pv 1) (pe_callB cr_len (by rfl) T.f_len PySem.boot_len (pa_cons (pv 0) pa_nil)) (nomark _)) (pe_callB cr_abs (by rfl) T.f_abs (by decide +kernel) (pa_cons (pe_ix ix_list (pv 0) (pv 1) (fun _ _ => rfl)) pa_nil)) (pe_op op_add (pe_op op_mulW pe_int (pv 1)) pe_int)))
    (pss_one (ps_ret (pe_lst (pa_cons (pe_callB (cr_max2 rfl) (by rfl) T.f_max (by decide +kernel) (pa_cons pe_int (pa_cons (pe_op op_sub (pv 2) (pe_op op_pow pe_int pe_int)) pa_nil))) (pa_cons (pe_op op_add (pe_op op_mod (pe_callTy cr_int (by rfl) T.f_int (by decide +kernel) (pa_cons (pe_op op_add (pe_op op_add (pe_op op_mulW (pe_op op_mod (pe_callTy cr_int (by rfl) T.f_int (by decide +kernel) (pa_cons (pv 2) pa_nil)) pe_int) pe_int) (pe_op op_mulW pe_int (pv 1))) pe_int) pa_nil)) pe_int) pe_int) pa_nil))))))
abbrev s_law_draw : Stmt := top 57
theorem sc_law_draw : FnScope ["pot", "many", "digit"] ["pot", "many"] (defScope s_law_draw) := ⟨rfl, rfl, rfl, by decide +kernel, rfl, by decide +kernel, by decide +kernel⟩
def t_law_draw (K : PySem.W.Frag) : TS :=
    (tSeq (tIfS (tTest (tOp oGt (tOp (rIxL K) (tVar 0) (tC (.int 0))) (tC (.int 0)))) (tSeq (tAsg (tCB uDivmod (tCons (tOp (rIxL K) (tVar 0) (tC (.int 0))) (tCons (tVar 1) tNil))) (gTup K 2 (gCons (gSub (tVar 0) (tC (.int 0)) rSetL) (gCons (gName 2) gNil))))
    (tRet (tVar 2))) tNext)
    (tSeq (tAsg (tOp oMod (tCB uInt (tCons (tOp oAdd (tOp oMul (tOp (rIxL K) (tVar 0) (tC (.int 1))) (tC (.int 40487))) (tC (.int 9623))) tNil)) (tC (.int 2147483563))) (gSub (tVar 0) (tC (.int 1)) rSetL))
    (tRet (tOp oMod (tCB uInt (tCons (tOp oDiv (tOp oMod (tCB uInt (tCons (tOp oMul (tOp (rIxL K) (tVar 0) (tC (.int 1))) (tOp (rIxL K) (tVar 0) (tC (.int 1)))) tNil)) (tC (.int 2147483549))) (tC (.int 19))) tNil)) (tVar 1)))))
theorem body_law_draw {P : Program} {w : World} {K : PySem.W.Frag} {mg : Str → Option Value} {base : Heap} (T : Txt K mg) 
    {f : Addr} {cdv : Value} {A : Around} {outer : List Env} {s : Shared} {H : Hp} {E : XK} (hr : Room 0 (A.deeper (PyProof.Rows.envOfC "_law_draw" (defScope s_law_draw) s.heap.objs.size f cdv))) :
    PSs (cxOf CX0 P w K mg base ["pot", "many", "digit"] "_law_draw" (defScope s_law_draw) f cdv A outer s H E) (defBody s_law_draw) (t_law_draw K) := by
  exact PSs.nox (pss_cons (ps_if (pt_cmpR op_gt (pe_ix ix_list (pv 0) pe_int (fun _ _ => rfl)) pe_int (nomark _)) (pss_cons (ps_asg (pe_callB cr_divmod (by rfl) T.f_divmod (by decide +kernel) (pa_cons (pe_ix ix_list (pv 0) pe_int (fun _ _ => rfl)) (pa_cons (pv 1) pa_nil))) (pg_tup rfl (pgs_cons (pg_sub (pv 0) pe_int set_list) (pgs_cons (pg_name (i := 2) sc_law_draw.nd rfl (Or.inl rfl) (hf := .inl rfl)) pgs_nil))))
    (pss_one (ps_ret (pv 2)))) pss_nil)
    (pss_cons (ps_asg (pe_op op_mod (pe_callTy cr_int (by rfl) T.f_int (by decide +kernel) (pa_cons (pe_op op_add (pe_op op_mulW (pe_ix ix_list (pv 0) pe_int (fun _ _ => rfl)) pe_int) pe_int) pa_nil)) pe_int) (pg_sub (pv 0) pe_int set_list))
    (pss_one (ps_ret (pe_op op_mod (pe_callTy cr_int (by rfl) T.f_int (by decide +kernel) (pa_cons (pe_op op_fdivA (pe_op op_mod (pe_callTy cr_int (by rfl) T.f_int (by decide +kernel) (pa_cons (pe_op op_mulW (pe_ix ix_list (pv 0) pe_int (fun _ _ => rfl)) (pe_ix ix_list (pv 0) pe_int (fun _ _ => rfl))) pa_nil)) pe_int) pe_int) pa_nil)) (pv 1))))))
abbrev s_law_pick : Stmt := top 58
theorem sc_law_pick : FnScope ["pot", "some"] ["pot", "some"] (defScope s_law_pick) := ⟨rfl, rfl, rfl, by decide +kernel, rfl, by decide +kernel, by decide +kernel⟩
def t_law_pick (K : PySem.W.Frag) : TS :=
    (tRet (tOp (rIxL K) (tVar 1) (tCall spDraw [] E0 (tCons (tVar 0) (tCons (tCB (uLen K) (tCons (tVar 1) tNil)) tNil)))))
theorem body_law_pick {P : Program} {w : World} {K : PySem.W.Frag} {mg : Str → Option Value} {base : Heap} (T : Txt K mg) (c0 : Cal P w K mg base "_law_draw" 1 ["pot", "many"] spDraw)
    {f : Addr} {cdv : Value} {A : Around} {outer : List Env} {s : Shared} {H : Hp} {E : XK} (hr : Room 1 (A.deeper (PyProof.Rows.envOfC "_law_pick" (defScope s_law_pick) s.heap.objs.size f cdv))) :
    PSs (cxOf CX0 P w K mg base ["pot", "some"] "_law_pick" (defScope s_law_pick) f cdv A outer s H E) (defBody s_law_pick) (t_law_pick K) := by
  obtain ⟨_, _, h0_G, h0_m, h0_k, h0_b⟩ := c0
  exact PSs.nox (pss_one (ps_ret (pe_ix ix_list (pv 1) (pe_call h0_G hr rfl h0_m h0_k h0_b .nil pass0 (pa_cons (pv 0) (pa_cons (pe_callB cr_len (by rfl) T.f_len PySem.boot_len (pa_cons (pv 1) pa_nil)) pa_nil))) (fun _ _ => rfl))))
abbrev s_law_made : Stmt := top 59
theorem sc_law_made : FnScope ["above", "below", "near", "far"] ["above", "below"] (defScope s_law_made) := ⟨rfl, rfl, rfl, by decide +kernel, rfl, by decide +kernel, by decide +kernel⟩
def t_law_made (K : PySem.W.Frag) : TS :=
    (tSeq (tPar 2 3 (tCons (tCB uAbs (tCons (tVar 0) tNil)) (tCons (tCB uAbs (tCons (tVar 1) tNil)) tNil)))
    (tSeq (tWhile (tTest (tOp oGt (tVar 3) (tC (.int 0)))) (tPar 2 3 (tCons (tVar 3) (tCons (tOp oMod (tCB uInt (tCons (tVar 2) tNil)) (tVar 3)) tNil))))
    (tSeq (tAsg (tIf (tTest (tOp oGt (tVar 1) (tC (.int 0)))) (tVar 2) (tOp oSub (tC (.int 0)) (tVar 2))) (gName 2))
    (tRet (tTup (tCons (tOp oDiv (tVar 0) (tVar 2)) (tCons (tOp oDiv (tVar 1) (tVar 2)) tNil)))))))
theorem body_law_made {P : Program} {w : World} {K : PySem.W.Frag} {mg : Str → Option Value} {base : Heap} (T : Txt K mg) 
    {f : Addr} {cdv : Value} {A : Around} {outer : List Env} {s : Shared} {H : Hp} {E : XK} (hr : Room 0 (A.deeper (PyProof.Rows.envOfC "_law_made" (defScope s_law_made) s.heap.objs.size f cdv))) :
    PSs (cxOf CX0 P w K mg base ["above", "below", "near", "far"] "_law_made" (defScope s_law_made) f cdv A outer s H E) (defBody s_law_made) (t_law_made K) := by
  exact PSs.nox (pss_cons (ps_par (i := 2) (j := 3) rfl sc_law_made.nd rfl rfl (by decide) rfl rfl (pa_cons (pe_callB cr_abs (by rfl) T.f_abs (by decide +kernel) (pa_cons (pv 0) pa_nil)) (pa_cons (pe_callB cr_abs (by rfl) T.f_abs (by decide +kernel) (pa_cons (pv 1) pa_nil)) pa_nil)) (by rfl))
    (pss_cons (ps_while PassesOwn.never (pt_cmpR op_gt (pv 3) pe_int (nomark _)) (pss_one (ps_par (i := 2) (j := 3) rfl sc_law_made.nd rfl rfl (by decide) rfl rfl (pa_cons (pv 3) (pa_cons (pe_op op_mod (pe_callTy cr_int (by rfl) T.f_int (by decide +kernel) (pa_cons (pv 2) pa_nil)) (pv 3)) pa_nil)) (by rfl))))
    (pss_cons (ps_set (i := 2) sc_law_made.nd rfl (Or.inl rfl) (pe_ifExp (pt_cmpR op_gt (pv 1) pe_int (nomark _)) (pv 2) (pe_op op_sub pe_int (pv 2))))
    (pss_one (ps_ret (pe_tup (pa_cons (pe_op op_fdivA (pv 0) (pv 2)) (pa_cons (pe_op op_fdivA (pv 1) (pv 2)) pa_nil))))))))
abbrev s_law_plus : Stmt := top 60
theorem sc_law_plus : FnScope ["a", "b"] ["a", "b"] (defScope s_law_plus) := ⟨rfl, rfl, rfl, by decide +kernel, rfl, by decide +kernel, by decide +kernel⟩
def t_law_plus (K : PySem.W.Frag) : TS :=
    (tRet (tCall (pureSp (C_law_made K)) [] E0 (tCons (tOp oAdd (tOp oMul (tOp (rIxT K) (tVar 0) (tC (.int 0))) (tOp (rIxT K) (tVar 1) (tC (.int 1)))) (tOp oMul (tOp (rIxT K) (tVar 1) (tC (.int 0))) (tOp (rIxT K) (tVar 0) (tC (.int 1))))) (tCons (tOp oMul (tOp (rIxT K) (tVar 0) (tC (.int 1))) (tOp (rIxT K) (tVar 1) (tC (.int 1)))) tNil))))
theorem body_law_plus {P : Program} {w : World} {K : PySem.W.Frag} {mg : Str → Option Value} {base : Heap} (T : Txt K mg) (c0 : Cal P w K mg base "_law_made" 1 ["above", "below"] (pureSp (C_law_made K)))
    {f : Addr} {cdv : Value} {A : Around} {outer : List Env} {s : Shared} {H : Hp} {E : XK} (hr : Room 1 (A.deeper (PyProof.Rows.envOfC "_law_plus" (defScope s_law_plus) s.heap.objs.size f cdv))) :
    PSs (cxOf CX0 P w K mg base ["a", "b"] "_law_plus" (defScope s_law_plus) f cdv A outer s H E) (defBody s_law_plus) (t_law_plus K) := by
  obtain ⟨_, _, h0_G, h0_m, h0_k, h0_b⟩ := c0
  exact PSs.nox (pss_one (ps_ret (pe_call h0_G hr rfl h0_m h0_k h0_b .nil pass0 (pa_cons (pe_op op_add (pe_op op_mulW (pe_ix ix_tup (pv 0) pe_int (fun _ _ => rfl)) (pe_ix ix_tup (pv 1) pe_int (fun _ _ => rfl))) (pe_op op_mulW (pe_ix ix_tup (pv 1) pe_int (fun _ _ => rfl)) (pe_ix ix_tup (pv 0) pe_int (fun _ _ => rfl)))) (pa_cons (pe_op op_mulW (pe_ix ix_tup (pv 0) pe_int (fun _ _ => rfl)) (pe_ix ix_tup (pv 1) pe_int (fun _ _ => rfl))) pa_nil)))))
abbrev s_law_times : Stmt := top 61
theorem sc_law_times : FnScope ["a", "b"] ["a", "b"] (defScope s_law_times) := ⟨rfl, rfl, rfl, by decide +kernel, rfl, by decide +kernel, by decide +kernel⟩
def t_law_times (K : PySem.W.Frag) : TS :=
    (tRet (tCall (pureSp (C_law_made K)) [] E0 (tCons (tOp oMul (tOp (rIxT K) (tVar 0) (tC (.int 0))) (tOp (rIxT K) (tVar 1) (tC (.int 0)))) (tCons (tOp oMul (tOp (rIxT K) (tVar 0) (tC (.int 1))) (tOp (rIxT K) (tVar 1) (tC (.int 1)))) tNil))))
theorem body_law_times {P : Program} {w : World} {K : PySem.W.Frag} {mg : Str → Option Value} {base : Heap} (T : Txt K mg) (c0 : Cal P w K mg base "_law_made" 1 ["above", "below"] (pureSp (C_law_made K)))
    {f : Addr} {cdv : Value} {A : Around} {outer : List Env} {s : Shared} {H : Hp} {E : XK} (hr : Room 1 (A.deeper (PyProof.Rows.envOfC "_law_times" (defScope s_law_times) s.heap.objs.size f cdv))) :
    PSs (cxOf CX0 P w K mg base ["a", "b"] "_law_times" (defScope s_law_times) f cdv A outer s H E) (defBody s_law_times) (t_law_times K) := by
  obtain ⟨_, _, h0_G, h0_m, h0_k, h0_b⟩ := c0
  exact PSs.nox (pss_one (ps_ret (pe_call h0_G hr rfl h0_m h0_k h0_b .nil pass0 (pa_cons (pe_op op_mulW (pe_ix ix_tup (pv 0) pe_int (fun _ _ => rfl)) (pe_ix ix_tup (pv 1) pe_int (fun _ _ => rfl))) (pa_cons (pe_op op_mulW (pe_ix ix_tup (pv 0) pe_int (fun _ _ => rfl)) (pe_ix ix_tup (pv 1) pe_int (fun _ _ => rfl))) pa_nil)))))
abbrev s_law_ratio : Stmt := top 64
theorem sc_law_ratio : FnScope ["a"] ["a"] (defScope s_law_ratio) := ⟨rfl, rfl, rfl, by decide +kernel, rfl, by decide +kernel, by decide +kernel⟩
def t_law_ratio (K : PySem.W.Frag) : TS :=
    (tRet (tMake (He.ga K "Ratio") (initSp (He.ga K "Ratio") (C_Ratio_init K)) [] E0 (tCons (tOp (rIxT K) (tVar 0) (tC (.int 0))) (tCons (tOp (rIxT K) (tVar 0) (tC (.int 1))) tNil))))
theorem body_law_ratio {P : Program} {w : World} {K : PySem.W.Frag} {mg : Str → Option Value} {base : Heap} (T : Txt K mg) (c0 : MkC P w K mg base "Ratio" (He.ga K "Ratio") 2 ["self", "top", "bottom"] (initSp (He.ga K "Ratio") (C_Ratio_init K)) [])
    {f : Addr} {cdv : Value} {A : Around} {outer : List Env} {s : Shared} {H : Hp} {E : XK} (hr : Room 3 (A.deeper (PyProof.Rows.envOfC "_law_ratio" (defScope s_law_ratio) s.heap.objs.size f cdv))) :
    PSs (cxOf CX0 P w K mg base ["a"] "_law_ratio" (defScope s_law_ratio) f cdv A outer s H E) (defBody s_law_ratio) (t_law_ratio K) := by
  obtain ⟨_, _, _, h0_M, h0_G, h0_b, h0_v, h0_m⟩ := c0
  exact PSs.nox (pss_one (ps_ret (pe_make h0_M h0_G hr rfl h0_m h0_b h0_v pass0 (pa_cons (pe_ix ix_tup (pv 0) pe_int (fun _ _ => rfl)) (pa_cons (pe_ix ix_tup (pv 0) pe_int (fun _ _ => rfl)) pa_nil)))))
abbrev s_law_raised : Stmt := top 66
theorem sc_law_raised : FnScope ["numbers", "start", "by", "longer", "place", "one"] ["numbers", "start", "by"] (defScope s_law_raised) := ⟨rfl, rfl, rfl, by decide +kernel, rfl, by decide +kernel, by decide +kernel⟩
def t_law_raised (K : PySem.W.Frag) : TS :=
    (tSeq (tAsg (tOp rCat (tLst (tCons (tTup (tCons (tC (.int 0)) (tCons (tC (.int 1)) tNil))) tNil)) (tVar 0)) (gName 3))
    (tSeq (tFor (iEnum K (tCons (tVar 0) tNil)) (gTup K 2 (gCons (gName 4) (gCons (gName 5) gNil))) (tAsg (tCall (pureSp (C_law_plus K)) [] E0 (tCons (tOp (rIxL K) (tVar 3) (tVar 4)) (tCons (tCall (pureSp (C_law_times K)) [] E0 (tCons (tVar 5) (tCons (tTup (tCons (tOp oSub (tC (.int 0)) (tVar 1)) (tCons (tC (.int 1)) tNil))) tNil))) tNil))) (gSub (tVar 3) (tVar 4) rSetL)))
    (tRet (tLc (iList K (tVar 3)) (gName 5) tYes (tCall (pureSp (C_law_times K)) [] E0 (tCons (tVar 5) (tCons (tTup (tCons (tC (.int 1)) (tCons (tVar 2) tNil))) tNil))) [5]))))
theorem body_law_raised {P : Program} {w : World} {K : PySem.W.Frag} {mg : Str → Option Value} {base : Heap} (T : Txt K mg) (c0 : Cal P w K mg base "_law_times" 2 ["a", "b"] (pureSp (C_law_times K))) (c1 : Cal P w K mg base "_law_plus" 2 ["a", "b"] (pureSp (C_law_plus K)))
    {f : Addr} {cdv : Value} {A : Around} {outer : List Env} {s : Shared} {H : Hp} {E : XK} (hr : Room 2 (A.deeper (PyProof.Rows.envOfC "_law_raised" (defScope s_law_raised) s.heap.objs.size f cdv))) :
    PSs (cxOf CX0 P w K mg base ["numbers", "start", "by", "longer", "place", "one"] "_law_raised" (defScope s_law_raised) f cdv A outer s H E) (defBody s_law_raised) (t_law_raised K) := by
  obtain ⟨_, _, h0_G, h0_m, h0_k, h0_b⟩ := c0
  obtain ⟨_, _, h1_G, h1_m, h1_k, h1_b⟩ := c1
  exact PSs.nox (pss_cons (ps_set (i := 3) sc_law_raised.nd rfl (Or.inl rfl) (pe_op op_cat (pe_lst (pa_cons (pe_tup (pa_cons pe_int (pa_cons pe_int pa_nil))) pa_nil)) (pv 0)))
    (pss_cons (ps_for PassesOwn.never rfl (pi_enum (by rfl) T.f_enumerate (pa_cons (pv 0) pa_nil)) (pg_tup rfl (pgs_cons (pg_name (i := 4) sc_law_raised.nd rfl (Or.inl rfl) (hf := .inl rfl)) (pgs_cons (pg_name (i := 5) sc_law_raised.nd rfl (Or.inl rfl) (hf := .inl rfl)) pgs_nil))) (pss_one (ps_asg (pe_call h1_G hr rfl h1_m h1_k h1_b .nil pass0 (pa_cons (pe_ix ix_list (pv 3) (pv 4) (fun _ _ => rfl)) (pa_cons (pe_call h0_G hr rfl h0_m h0_k h0_b .nil pass0 (pa_cons (pv 5) (pa_cons (pe_tup (pa_cons (pe_op op_sub pe_int (pv 1)) (pa_cons pe_int pa_nil))) pa_nil))) pa_nil))) (pg_sub (pv 3) (pv 4) set_list))))
    (pss_one (ps_ret (pe_lc (own := [("one", 5)]) (g := (gName 5)) (tt := tYes) (te := (tCall (pureSp (C_law_times K)) [] E0 (tCons (tVar 5) (tCons (tTup (tCons (tC (.int 1)) (tCons (tVar 2) tNil))) tNil)))) rfl sc_law_raised.nd (pi_list (pv 3)) (blkOk_by (N := ["numbers", "start", "by", "longer", "place", "one"]) (sc := defScope s_law_raised) (by decide +kernel)) (fun _ _ _ _ _ => (pg_name (i := 5) sc_law_raised.nd rfl (Or.inl rfl) (hf := Or.inr rfl))) (fun _ _ _ _ _ => pts_nil) (fun _ _ _ _ _ => (pe_call h0_G hr rfl h0_m h0_k h0_b .nil pass0 (pa_cons (pv 5) (pa_cons (pe_tup (pa_cons pe_int (pa_cons (pv 2) pa_nil))) pa_nil)))))))))
abbrev s_law_part : Stmt := top 67
theorem sc_law_part : FnScope ["rest", "period", "numbers", "found", "one", "at", "number", "place", "a"] ["rest", "period", "numbers"] (defScope s_law_part) := ⟨rfl, rfl, rfl, by decide +kernel, rfl, by decide +kernel, by decide +kernel⟩
def t_law_part (K : PySem.W.Frag) : TS :=
    (tSeq (tAsg (tTup (tCons (tOp rRep (tLst (tCons (tTup (tCons (tC (.int 0)) (tCons (tC (.int 1)) tNil))) tNil)) (tOp oAdd (tCB (uLen K) (tCons (tVar 2) tNil)) (tC (.int 1)))) (tCons (tLst (tCons (tTup (tCons (tC (.int 1)) (tCons (tC (.int 1)) tNil))) tNil)) tNil))) (gTup K 2 (gCons (gName 3) (gCons (gName 4) gNil))))
    (tSeq (tFor (iEnum K (tCons (tVar 2) tNil)) (gTup K 2 (gCons (gName 5) (gCons (gName 6) gNil))) (tSeq (tAsg (tLc (iEnum K (tCons (tVar 3) tNil)) (gTup K 2 (gCons (gName 7) (gCons (gName 8) gNil))) tYes (tCall (pureSp (C_law_plus K)) [] E0 (tCons (tVar 8) (tCons (tCall (pureSp (C_law_times K)) [] E0 (tCons (tVar 6) (tCons (tIf (tTest (tOp oLt (tVar 7) (tCB (uLen K) (tCons (tVar 4) tNil)))) (tOp (rIxL K) (tVar 4) (tVar 7)) (tTup (tCons (tC (.int 0)) (tCons (tC (.int 1)) tNil)))) tNil))) tNil))) [7, 8]) (gName 3))
    (tAsg (tCall (pureSp (C_law_raised K)) [] E0 (tCons (tVar 4) (tCons (tOp oAdd (tVar 0) (tOp oMul (tVar 5) (tVar 1))) (tCons (tOp oMul (tVar 1) (tOp oAdd (tVar 5) (tC (.int 1)))) tNil)))) (gName 4))))
    (tRet (tVar 3))))
theorem body_law_part {P : Program} {w : World} {K : PySem.W.Frag} {mg : Str → Option Value} {base : Heap} (T : Txt K mg) (c0 : Cal P w K mg base "_law_times" 2 ["a", "b"] (pureSp (C_law_times K))) (c1 : Cal P w K mg base "_law_plus" 2 ["a", "b"] (pureSp (C_law_plus K))) (c2 : Cal P w K mg base "_law_raised" 3 ["numbers", "start", "by"] (pureSp (C_law_raised K)))
    {f : Addr} {cdv : Value} {A : Around} {outer : List Env} {s : Shared} {H : Hp} {E : XK} (hr : Room 3 (A.deeper (PyProof.Rows.envOfC "_law_part" (defScope s_law_part) s.heap.objs.size f cdv))) :
    PSs (cxOf CX0 P w K mg base ["rest", "period", "numbers", "found", "one", "at", "number", "place", "a"] "_law_part" (defScope s_law_part) f cdv A outer s H E) (defBody s_law_part) (t_law_part K) := by
  obtain ⟨_, _, h0_G, h0_m, h0_k, h0_b⟩ := c0
  obtain ⟨_, _, h1_G, h1_m, h1_k, h1_b⟩ := c1
  obtain ⟨_, _, h2_G, h2_m, h2_k, h2_b⟩ := c2
  exact PSs.nox (pss_cons (ps_asg (pe_tup (pa_cons (pe_op op_rep (pe_lst (pa_cons (pe_tup (pa_cons pe_int (pa_cons pe_int pa_nil))) pa_nil)) (pe_op op_add (pe_callB cr_len (by rfl) T.f_len PySem.boot_len (pa_cons (pv 2) pa_nil)) pe_int)) (pa_cons (pe_lst (pa_cons (pe_tup (pa_cons pe_int (pa_cons pe_int pa_nil))) pa_nil)) pa_nil))) (pg_tup rfl (pgs_cons (pg_name (i := 3) sc_law_part.nd rfl (Or.inl rfl) (hf := .inl rfl)) (pgs_cons (pg_name (i := 4) sc_law_part.nd rfl (Or.inr rfl) (hf := .inl rfl)) pgs_nil))))
    (pss_cons (ps_for PassesOwn.never rfl (pi_enum (by rfl) T.f_enumerate (pa_cons (pv 2) pa_nil)) (pg_tup rfl (pgs_cons (pg_name (i := 5) sc_law_part.nd rfl (Or.inl rfl) (hf := .inl rfl)) (pgs_cons (pg_name (i := 6) sc_law_part.nd rfl (Or.inr rfl) (hf := .inl rfl)) pgs_nil))) (pss_cons (ps_setLc (i := 3) (own := [("place", 7), ("a", 8)]) (g := (gTup K 2 (gCons (gName 7) (gCons (gName 8) gNil)))) (tt := tYes) (te := (tCall (pureSp (C_law_plus K)) [] E0 (tCons (tVar 8) (tCons (tCall (pureSp (C_law_times K)) [] E0 (tCons (tVar 6) (tCons (tIf (tTest (tOp oLt (tVar 7) (tCB (uLen K) (tCons (tVar 4) tNil)))) (tOp (rIxL K) (tVar 4) (tVar 7)) (tTup (tCons (tC (.int 0)) (tCons (tC (.int 1)) tNil)))) tNil))) tNil)))) rfl sc_law_part.nd rfl rfl (sw_true rfl rfl rfl (by decide +kernel)) (pi_enum (by rfl) T.f_enumerate (pa_cons (pv 3) pa_nil)) (blkOk_by (N := ["rest", "period", "numbers", "found", "one", "at", "number", "place", "a"]) (sc := defScope s_law_part) (by decide +kernel)) (fun _ _ _ _ _ => (pg_tup rfl (pgs_cons (pg_name (i := 7) sc_law_part.nd rfl (Or.inl rfl) (hf := Or.inr rfl)) (pgs_cons (pg_name (i := 8) sc_law_part.nd rfl (Or.inl rfl) (hf := Or.inr rfl)) pgs_nil)))) (fun _ _ _ _ _ => pts_nil) (fun _ _ _ _ _ => (pe_call h1_G (hr.mono (by decide)) rfl h1_m h1_k h1_b .nil pass0 (pa_cons (pv 8) (pa_cons (pe_call h0_G (hr.mono (by decide)) rfl h0_m h0_k h0_b .nil pass0 (pa_cons (pv 6) (pa_cons (pe_ifExp (pt_cmpR op_lt (pv 7) (pe_callB cr_len (by rfl) T.f_len PySem.boot_len (pa_cons (pv 4) pa_nil)) (nomark _)) (pe_ix ix_list (pv 4) (pv 7) (fun _ _ => rfl)) (pe_tup (pa_cons pe_int (pa_cons pe_int pa_nil)))) pa_nil))) pa_nil)))))
    (pss_one (ps_set (i := 4) sc_law_part.nd rfl (Or.inr rfl) (pe_call h2_G hr rfl h2_m h2_k h2_b .nil pass0 (pa_cons (pv 4) (pa_cons (pe_op op_add (pv 0) (pe_op op_mulW (pv 5) (pv 1))) (pa_cons (pe_op op_mulW (pv 1) (pe_op op_add (pv 5) pe_int)) pa_nil))))))))
    (pss_one (ps_ret (pv 3)))))
abbrev s_law_some : Stmt := top 68
theorem sc_law_some : FnScope ["pot", "is_broken", "period", "lists", "rest", "at", "numbers", "spot", "parts", "turn", "part", "number"] ["pot", "is_broken"] (defScope s_law_some) := ⟨rfl, rfl, rfl, by decide +kernel, rfl, by decide +kernel, by decide +kernel⟩
def t_law_some (K : PySem.W.Frag) : TS :=
    (tSeq (tAsg (tTup (tCons (tCall (spPick K) [] E0 (tCons (tVar 0) (tCons (tLst (tCons (tC (.int 1)) (tCons (tC (.int 1)) (tCons (tC (.int 2)) (tCons (tC (.int 3)) (tCons (tC (.int 4)) tNil)))))) tNil))) (tCons (tLst tNil) tNil))) (gTup K 2 (gCons (gName 2) (gCons (gName 3) gNil))))
    (tSeq (tFor (iRng1 (tCons (tVar 2) tNil)) (gName 4) (tDrop (tBM K "list" rAppend (tVar 3) (tCons (tLc (iRng1 (tCons (tCall spDraw [] E0 (tCons (tVar 0) (tCons (tC (.int 6)) tNil))) tNil)) (gName 9) tYes (tTup (tCons (tOp oSub (tCall spDraw [] E0 (tCons (tVar 0) (tCons (tC (.int 7)) tNil))) (tC (.int 3))) (tCons (tC (.int 1)) tNil))) [9]) tNil))))
    (tSeq (tIfS (tB (tVar 1)) (tSeq (tAsg (tCall spDraw [] E0 (tCons (tVar 0) (tCons (tVar 2) tNil))) (gName 5))
    (tSeq (tAsg (tIf (tTest (tOp (rNeD K) (tOp (rIxL K) (tVar 3) (tVar 5)) (tLst tNil))) (tOp (rIxL K) (tVar 3) (tVar 5)) (tLst (tCons (tTup (tCons (tC (.int 0)) (tCons (tC (.int 1)) tNil))) tNil))) (gName 6))
    (tSeq (tAsg (tCall spDraw [] E0 (tCons (tVar 0) (tCons (tCB (uLen K) (tCons (tVar 6) tNil)) tNil))) (gName 7))
    (tAsg (tOp rCat (tOp rCat (tSl (rSlL K) (tVar 6) tNoPart (tPart (tVar 7))) (tLst (tCons (tCall (pureSp (C_law_plus K)) [] E0 (tCons (tOp (rIxL K) (tVar 6) (tVar 7)) (tCons (tCall (spPick K) [] E0 (tCons (tVar 0) (tCons (tLst (tCons (tTup (tCons (tC (.int 1)) (tCons (tC (.int 2)) tNil))) (tCons (tTup (tCons (tC (.int 1)) (tCons (tC (.int 3)) tNil))) (tCons (tTup (tCons (tUn uNeg (tC (.int 1))) (tCons (tC (.int 5)) tNil))) (tCons (tTup (tCons (tC (.int 1)) (tCons (tC (.int 4)) tNil))) tNil))))) tNil))) tNil))) tNil))) (tSl (rSlL K) (tVar 6) (tPart (tOp oAdd (tVar 7) (tC (.int 1)))) tNoPart)) (gSub (tVar 3) (tVar 5) rSetL))))) tNext)
    (tSeq (tAsg (tLc (iEnum K (tCons (tVar 3) tNil)) (gTup K 2 (gCons (gName 4) (gCons (gName 6) gNil))) tYes (tCall (pureSp (C_law_part K)) [] E0 (tCons (tVar 4) (tCons (tVar 2) (tCons (tVar 6) tNil)))) [4, 6]) (gName 8))
    (tRet (tMake (He.ga K "Course") (initSp (He.ga K "Course") (C_Course_init K)) [] E0 (tCons (tLc (iList K (tVar 8)) (gName 10) tYes (tLc (iList K (tVar 10)) (gName 11) tYes (tCall (pureSp (C_law_ratio K)) [] E0 (tCons (tVar 11) tNil)) [11]) [10]) tNil)))))))
theorem body_law_some {P : Program} {w : World} {K : PySem.W.Frag} {mg : Str → Option Value} {base : Heap} (T : Txt K mg) (c0 : Cal P w K mg base "_law_pick" 2 ["pot", "some"] (spPick K)) (c1 : Cal P w K mg base "_law_draw" 1 ["pot", "many"] spDraw) (c2 : Cal P w K mg base "_law_plus" 2 ["a", "b"] (pureSp (C_law_plus K))) (c3 : Cal P w K mg base "_law_part" 4 ["rest", "period", "numbers"] (pureSp (C_law_part K))) (c4 : MkC P w K mg base "Course" (He.ga K "Course") 5 ["self", "parts"] (initSp (He.ga K "Course") (C_Course_init K)) []) (c5 : Cal P w K mg base "_law_ratio" 4 ["a"] (pureSp (C_law_ratio K)))
    {f : Addr} {cdv : Value} {A : Around} {outer : List Env} {s : Shared} {H : Hp} {E : XK} (hr : Room 6 (A.deeper (PyProof.Rows.envOfC "_law_some" (defScope s_law_some) s.heap.objs.size f cdv))) :
    PSs (cxOf CX0 P w K mg base ["pot", "is_broken", "period", "lists", "rest", "at", "numbers", "spot", "parts", "turn", "part", "number"] "_law_some" (defScope s_law_some) f cdv A outer s H E) (defBody s_law_some) (t_law_some K) := by
  obtain ⟨_, _, h0_G, h0_m, h0_k, h0_b⟩ := c0
  obtain ⟨_, _, h1_G, h1_m, h1_k, h1_b⟩ := c1
  obtain ⟨_, _, h2_G, h2_m, h2_k, h2_b⟩ := c2
  obtain ⟨_, _, h3_G, h3_m, h3_k, h3_b⟩ := c3
  obtain ⟨_, _, _, h4_M, h4_G, h4_b, h4_v, h4_m⟩ := c4
  obtain ⟨_, _, h5_G, h5_m, h5_k, h5_b⟩ := c5
  exact PSs.nox (pss_cons (ps_asg (pe_tup (pa_cons (pe_call h0_G (hr.mono (by decide)) rfl h0_m h0_k h0_b .nil pass0 (pa_cons (pv 0) (pa_cons (pe_lst (pa_cons pe_int (pa_cons pe_int (pa_cons pe_int (pa_cons pe_int (pa_cons pe_int pa_nil)))))) pa_nil))) (pa_cons (pe_lst pa_nil) pa_nil))) (pg_tup rfl (pgs_cons (pg_name (i := 2) sc_law_some.nd rfl (Or.inr rfl) (hf := .inl rfl)) (pgs_cons (pg_name (i := 3) sc_law_some.nd rfl (Or.inl rfl) (hf := .inl rfl)) pgs_nil))))
    (pss_cons (ps_for PassesOwn.never rfl (pi_range1 (by rfl) T.f_range (pa_cons (pv 2) pa_nil)) (pg_name (i := 4) sc_law_some.nd rfl (Or.inl rfl) (hf := .inl rfl)) (pss_one (ps_expr (pe_bm PySem.F.plainAttrs_list PySem.F.slot_list_append PySem.F.type_list_append mt_append (pv 3) (pa_cons (pe_lc (own := [("turn", 9)]) (g := (gName 9)) (tt := tYes) (te := (tTup (tCons (tOp oSub (tCall spDraw [] E0 (tCons (tVar 0) (tCons (tC (.int 7)) tNil))) (tC (.int 3))) (tCons (tC (.int 1)) tNil)))) rfl sc_law_some.nd (pi_range1 (by rfl) T.f_range (pa_cons (pe_call h1_G (hr.mono (by decide)) rfl h1_m h1_k h1_b .nil pass0 (pa_cons (pv 0) (pa_cons pe_int pa_nil))) pa_nil)) (blkOk_by (N := ["pot", "is_broken", "period", "lists", "rest", "at", "numbers", "spot", "parts", "turn", "part", "number"]) (sc := defScope s_law_some) (by decide +kernel)) (fun _ _ _ _ _ => (pg_name (i := 9) sc_law_some.nd rfl (Or.inl rfl) (hf := Or.inr rfl))) (fun _ _ _ _ _ => pts_nil) (fun _ _ _ _ _ => (pe_tup (pa_cons (pe_op op_sub (pe_call h1_G (hr.mono (by decide)) rfl h1_m h1_k h1_b .nil pass0 (pa_cons (pv 0) (pa_cons pe_int pa_nil))) pe_int) (pa_cons pe_int pa_nil))))) pa_nil)))))
    (pss_cons (ps_if (pt_val (pv 1)) (pss_cons (ps_set (i := 5) sc_law_some.nd rfl (Or.inl rfl) (pe_call h1_G (hr.mono (by decide)) rfl h1_m h1_k h1_b .nil pass0 (pa_cons (pv 0) (pa_cons (pv 2) pa_nil))))
    (pss_cons (ps_set (i := 6) sc_law_some.nd rfl (Or.inl rfl) (pe_ifExp (pt_cmpR (op_neD hr.units) (pe_ix ix_list (pv 3) (pv 5) (fun _ _ => rfl)) (pe_lst pa_nil) (nomark _)) (pe_ix ix_list (pv 3) (pv 5) (fun _ _ => rfl)) (pe_lst (pa_cons (pe_tup (pa_cons pe_int (pa_cons pe_int pa_nil))) pa_nil))))
    (pss_cons (ps_set (i := 7) sc_law_some.nd rfl (Or.inl rfl) (pe_call h1_G (hr.mono (by decide)) rfl h1_m h1_k h1_b .nil pass0 (pa_cons (pv 0) (pa_cons (pe_callB cr_len (by rfl) T.f_len PySem.boot_len (pa_cons (pv 6) pa_nil)) pa_nil))))
    (pss_one (ps_asg (pe_op op_cat (pe_op op_cat (pe_slice sl_list (pv 6) po_none (po_some (pv 7))) (pe_lst (pa_cons (pe_call h2_G (hr.mono (by decide)) rfl h2_m h2_k h2_b .nil pass0 (pa_cons (pe_ix ix_list (pv 6) (pv 7) (fun _ _ => rfl)) (pa_cons (pe_call h0_G (hr.mono (by decide)) rfl h0_m h0_k h0_b .nil pass0 (pa_cons (pv 0) (pa_cons (pe_lst (pa_cons (pe_tup (pa_cons pe_int (pa_cons pe_int pa_nil))) (pa_cons (pe_tup (pa_cons pe_int (pa_cons pe_int pa_nil))) (pa_cons (pe_tup (pa_cons (pe_un un_neg pe_int) (pa_cons pe_int pa_nil))) (pa_cons (pe_tup (pa_cons pe_int (pa_cons pe_int pa_nil))) pa_nil))))) pa_nil))) pa_nil))) pa_nil))) (pe_slice sl_list (pv 6) (po_some (pe_op op_add (pv 7) pe_int)) po_none)) (pg_sub (pv 3) (pv 5) set_list)))))) pss_nil)
    (pss_cons (ps_setLc (i := 8) (own := [("rest", 4), ("numbers", 6)]) (g := (gTup K 2 (gCons (gName 4) (gCons (gName 6) gNil)))) (tt := tYes) (te := (tCall (pureSp (C_law_part K)) [] E0 (tCons (tVar 4) (tCons (tVar 2) (tCons (tVar 6) tNil))))) rfl sc_law_some.nd rfl rfl (sw_true rfl rfl rfl (by decide +kernel)) (pi_enum (by rfl) T.f_enumerate (pa_cons (pv 3) pa_nil)) (blkOk_by (N := ["pot", "is_broken", "period", "lists", "rest", "at", "numbers", "spot", "parts", "turn", "part", "number"]) (sc := defScope s_law_some) (by decide +kernel)) (fun _ _ _ _ _ => (pg_tup rfl (pgs_cons (pg_name (i := 4) sc_law_some.nd rfl (Or.inl rfl) (hf := Or.inr rfl)) (pgs_cons (pg_name (i := 6) sc_law_some.nd rfl (Or.inl rfl) (hf := Or.inr rfl)) pgs_nil)))) (fun _ _ _ _ _ => pts_nil) (fun _ _ _ _ _ => (pe_call h3_G (hr.mono (by decide)) rfl h3_m h3_k h3_b .nil pass0 (pa_cons (pv 4) (pa_cons (pv 2) (pa_cons (pv 6) pa_nil))))))
    (pss_one (ps_ret (pe_make h4_M h4_G hr rfl h4_m h4_b h4_v pass0 (pa_cons (pe_lc (own := [("part", 10)]) (g := (gName 10)) (tt := tYes) (te := (tLc (iList K (tVar 10)) (gName 11) tYes (tCall (pureSp (C_law_ratio K)) [] E0 (tCons (tVar 11) tNil)) [11])) rfl sc_law_some.nd (pi_list (pv 8)) (blkOk_by (N := ["pot", "is_broken", "period", "lists", "rest", "at", "numbers", "spot", "parts", "turn", "part", "number"]) (sc := defScope s_law_some) (by decide +kernel)) (fun _ _ _ _ _ => (pg_name (i := 10) sc_law_some.nd rfl (Or.inl rfl) (hf := Or.inr rfl))) (fun _ _ _ _ _ => pts_nil) (fun _ _ _ _ _ => (pe_lc (own := [("number", 11)]) (g := (gName 11)) (tt := tYes) (te := (tCall (pureSp (C_law_ratio K)) [] E0 (tCons (tVar 11) tNil))) rfl sc_law_some.nd (pi_list (pv 10)) (blkOk_by (N := ["pot", "is_broken", "period", "lists", "rest", "at", "numbers", "spot", "parts", "turn", "part", "number"]) (by show blkC _ (relS _ (defScope s_law_some)) _ _ = true; decide +kernel)) (fun _ _ _ _ _ => (pg_name (i := 11) sc_law_some.nd rfl (Or.inl rfl) (hf := Or.inr rfl))) (fun _ _ _ _ _ => pts_nil) (fun _ _ _ _ _ => (pe_call h5_G (hr.mono (by decide)) rfl h5_m h5_k h5_b .nil pass0 (pa_cons (pv 11) pa_nil)))))) pa_nil))))))))
abbrev s_law_right : Stmt := top 69
theorem sc_law_right : FnScope ["pot", "one", "other", "broken", "by", "shift", "period", "many", "numbers", "at", "whole"] ["pot"] (defScope s_law_right) := ⟨rfl, rfl, rfl, by decide +kernel, rfl, by decide +kernel, by decide +kernel⟩
def t_law_right (K : PySem.W.Frag) : TS :=
    (tSeq (tAsg (tTup (tCons (tCall (spSome K) [] E0 (tCons (tVar 0) (tCons (tC (.bl false)) tNil))) (tCons (tCall (spSome K) [] E0 (tCons (tVar 0) (tCons (tC (.bl false)) tNil))) (tCons (tCall (spSome K) [] E0 (tCons (tVar 0) (tCons (tC (.bl true)) tNil))) tNil)))) (gTup K 3 (gCons (gName 1) (gCons (gName 2) (gCons (gName 3) gNil)))))
    (tSeq (tIfS (tTest (tOp rNe (tCB (uRepr K) (tCons (tLst (tCons (tCall (pureSp (C_is_whole_course K)) [] E0 (tCons (tVar 1) tNil)) (tCons (tCallN 0 1 (pureSp (C_is_whole_course K)) (fun _ zs => zs) E0 tNil (tCons (tVar 2) tNil)) (tCons (tCall (pureSp (C_is_whole_course K)) [] E0 (tCons (tVar 3) tNil)) tNil)))) tNil)) (tCB (uRepr K) (tCons (tLst (tCons (tC (.bl true)) (tCons (tC (.bl true)) (tCons (tC (.bl false)) tNil)))) tNil)))) (tRet (tC (.bl false))) tNext)
    (tSeq (tPar 4 5 (tCons (tOp oSub (tCall spDraw [] E0 (tCons (tVar 0) (tCons (tC (.int 7)) tNil))) (tC (.int 3))) (tCons (tOp oSub (tCall spDraw [] E0 (tCons (tVar 0) (tCons (tC (.int 21)) tNil))) (tC (.int 10))) tNil)))
    (tSeq (tIfS (tOr (tNot (tB (tCall (pureSp (C_is_whole_course K)) [] E0 (tCons (tCall (pureSp (C_plus K)) [] E0 (tCons (tVar 1) (tCons (tVar 2) tNil))) tNil)))) (tOr (tB (tCall (pureSp (C_is_whole_course K)) [] E0 (tCons (tCall (pureSp (C_plus K)) [] E0 (tCons (tVar 1) (tCons (tVar 3) tNil))) tNil))) (tB (tCall (pureSp (C_is_whole_course K)) [] E0 (tCons (tCall (pureSp (C_plus K)) [] E0 (tCons (tVar 3) (tCons (tVar 2) tNil))) tNil))))) (tRet (tC (.bl false))) tNext)
    (tSeq (tIfS (tOr (tNot (tB (tCall (pureSp (C_is_whole_course K)) [] E0 (tCons (tCall (pureSp (C_led K)) [] E0 (tCons (tVar 1) (tCons (tVar 4) (tCons (tVar 5) tNil)))) tNil)))) (tNot (tB (tCall (pureSp (C_is_whole_course K)) [] E0 (tCons (tCall (pureSp (C_difference K)) [] E0 (tCons (tVar 1) (tCons (tVar 5) tNil))) tNil))))) (tRet (tC (.bl false))) tNext)
    (tSeq (tIfS (tOr (tB (tCall (pureSp (C_is_whole_course K)) [] E0 (tCons (tCall (pureSp (C_led K)) [] E0 (tCons (tVar 3) (tCons (tC (.int 1)) (tCons (tVar 5) tNil)))) tNil))) (tB (tCall (pureSp (C_is_whole_course K)) [] E0 (tCons (tCall (pureSp (C_led K)) [] E0 (tCons (tVar 3) (tCons (tUn uNeg (tC (.int 1))) (tCons (tVar 5) tNil)))) tNil)))) (tRet (tC (.bl false))) tNext)
    (tSeq (tIfS (tOr (tNot (tB (tCall (pureSp (C_is_whole_course K)) [] E0 (tCons (tCall (pureSp (C_times K)) [] E0 (tCons (tVar 3) (tCons (tC (.int 60)) tNil))) tNil)))) (tNot (tB (tCall (pureSp (C_is_whole_course K)) [] E0 (tCons (tCall (pureSp (C_plus K)) [] E0 (tCons (tCall (pureSp (C_times K)) [] E0 (tCons (tVar 3) (tCons (tC (.int 30)) tNil))) (tCons (tCall (pureSp (C_times K)) [] E0 (tCons (tVar 3) (tCons (tC (.int 30)) tNil))) tNil))) tNil))))) (tRet (tC (.bl false))) tNext)
    (tSeq (tPar 6 7 (tCons (tProp (He.ga K "Course") (pureSp (C_Course_period K)) [] E0 (tVar 1)) (tCons (tOp oAdd (tProp (He.ga K "Course") (pureSp (C_Course_degree K)) [] E0 (tVar 1)) (tC (.int 2))) tNil)))
    (tSeq (tAsg (tLc (iRng1 (tCons (tOp oMul (tVar 6) (tCB uMin (tCons (tC (.int 5)) (tCons (tVar 7) tNil)))) tNil)) (gName 10) tYes (tMeth (He.ga K "Course") "at" (pureSp (C_Course_at K)) [] E0 (tVar 1) (tCons (tVar 10) tNil)) [10]) (gName 8))
    (tSeq (tIfS (tAnd (tTest (tOp oLe (tVar 7) (tC (.int 5)))) (tTest (tOp (rNeO (He.ga K "Course") (pureSp (C_Course_eq K))) (tCall (pureSp (C_grown K)) [] E0 (tCons (tVar 6) (tCons (tVar 8) tNil))) (tVar 1)))) (tRet (tC (.bl false))) tNext)
    (tSeq (tAsg (tCall spDraw [] E0 (tCons (tVar 0) (tCons (tCB (uLen K) (tCons (tVar 8) tNil)) tNil))) (gName 9))
    (tSeq (tAsg (tOp (rOwnO (He.ga K "Ratio") (pureSp (C_Ratio_add K))) (tOp (rIxL K) (tVar 8) (tVar 9)) (tMake (He.ga K "Ratio") (initSp (He.ga K "Ratio") (C_Ratio_init K)) [] E0 (tCons (tC (.int 1)) (tCons (tC (.int 7)) tNil)))) (gSub (tVar 8) (tVar 9) rSetL))
    (tRet (tAndV (tOp rIsB (tCall (pureSp (C_is_whole_course K)) [] E0 (tCons (tCall (pureSp (C_grown K)) [] E0 (tCons (tVar 6) (tCons (tVar 8) tNil))) tNil)) (tC (.bl false))) (tOp rIsB (tCall (pureSp (C_is_whole_course K)) [] E0 (tCons (tMake (He.ga K "Course") (initSp (He.ga K "Course") (C_Course_init K)) [] E0 (tCons (tLst (tCons (tLst tNil) tNil)) tNil)) tNil)) (tC (.bl true)))))))))))))))))
theorem body_law_right {P : Program} {w : World} {K : PySem.W.Frag} {mg : Str → Option Value} {base : Heap} (T : Txt K mg) (c0 : Cal P w K mg base "_law_some" 7 ["pot", "is_broken"] (spSome K)) (c1 : Cal P w K mg base "is_whole_course" 7 ["course"] (pureSp (C_is_whole_course K))) (c2 : CalN P w K mg base "is_whole_course" 7 ["course"] (pureSp (C_is_whole_course K)) ["course"] (fun _ zs => zs)) (c3 : Cal P w K mg base "_law_draw" 1 ["pot", "many"] spDraw) (c4 : Cal P w K mg base "plus" 9 ["course", "other"] (pureSp (C_plus K))) (c5 : Cal P w K mg base "led" 9 ["course", "by", "shift"] (pureSp (C_led K))) (c6 : Cal P w K mg base "difference" 9 ["course", "step"] (pureSp (C_difference K))) (c7 : Cal P w K mg base "times" 8 ["course", "number"] (pureSp (C_times K))) (c8 : PrC P w K mg base (He.ga K "Course") "degree" 1 ["self"] (pureSp (C_Course_degree K))) (c9 : PrC P w K mg base (He.ga K "Course") "period" 1 ["self"] (pureSp (C_Course_period K))) (c10 : MetC P w K mg base (He.ga K "Course") "at" 5 ["self", "whole"] (pureSp (C_Course_at K))) (c11 : EqC P w K mg base (He.ga K "Course") 4 ["self", "other"] (pureSp (C_Course_eq K))) (c12 : Cal P w K mg base "grown" 9 ["period", "numbers"] (pureSp (C_grown K))) (c13 : MkC P w K mg base "Ratio" (He.ga K "Ratio") 2 ["self", "top", "bottom"] (initSp (He.ga K "Ratio") (C_Ratio_init K)) []) (c14 : OpC P w K mg base (He.ga K "Ratio") "__add__" "__radd__" 4 ["self", "other"] (pureSp (C_Ratio_add K))) (c15 : MkC P w K mg base "Course" (He.ga K "Course") 5 ["self", "parts"] (initSp (He.ga K "Course") (C_Course_init K)) [])
    {f : Addr} {cdv : Value} {A : Around} {outer : List Env} {s : Shared} {H : Hp} {E : XK} (gd : A.guards = some []) (hr : Room 9 (A.deeper (PyProof.Rows.envOfC "_law_right" (defScope s_law_right) s.heap.objs.size f cdv))) :
    PSs (cxOf CX0 P w K mg base ["pot", "one", "other", "broken", "by", "shift", "period", "many", "numbers", "at", "whole"] "_law_right" (defScope s_law_right) f cdv A outer s H E) (defBody s_law_right) (t_law_right K) := by
  obtain ⟨_, _, h0_G, h0_m, h0_k, h0_b⟩ := c0
  obtain ⟨_, _, h1_G, h1_m, h1_k, h1_b⟩ := c1
  obtain ⟨_, _, _, h2_G, h2_m, h2_k, h2_b⟩ := c2
  obtain ⟨_, _, h3_G, h3_m, h3_k, h3_b⟩ := c3
  obtain ⟨_, _, h4_G, h4_m, h4_k, h4_b⟩ := c4
  obtain ⟨_, _, h5_G, h5_m, h5_k, h5_b⟩ := c5
  obtain ⟨_, _, h6_G, h6_m, h6_k, h6_b⟩ := c6
  obtain ⟨_, _, h7_G, h7_m, h7_k, h7_b⟩ := c7
  obtain ⟨_, _, _, h8_p, h8_G, h8_b⟩ := c8
  obtain ⟨_, _, _, h9_p, h9_G, h9_b⟩ := c9
  obtain ⟨_, _, h10_m, h10_G, h10_b⟩ := c10
  obtain ⟨_, _, h11_1, h11_2, h11_G, h11_b⟩ := c11
  obtain ⟨_, _, h12_G, h12_m, h12_k, h12_b⟩ := c12
  obtain ⟨_, _, _, h13_M, h13_G, h13_b, h13_v, h13_m⟩ := c13
  obtain ⟨_, _, _, _, _, h14_1, h14_2, h14_3, h14_4, h14_5, h14_6, h14_7, h14_8, h14_G, h14_b⟩ := c14
  obtain ⟨_, _, _, h15_M, h15_G, h15_b, h15_v, h15_m⟩ := c15
  exact PSs.nox (pss_cons (ps_asg (pe_tup (pa_cons (pe_call h0_G (hr.mono (by decide)) rfl h0_m h0_k h0_b .nil pass0 (pa_cons (pv 0) (pa_cons pe_bl pa_nil))) (pa_cons (pe_call h0_G (hr.mono (by decide)) rfl h0_m h0_k h0_b .nil pass0 (pa_cons (pv 0) (pa_cons pe_bl pa_nil))) (pa_cons (pe_call h0_G (hr.mono (by decide)) rfl h0_m h0_k h0_b .nil pass0 (pa_cons (pv 0) (pa_cons pe_bl pa_nil))) pa_nil)))) (pg_tup rfl (pgs_cons (pg_name (i := 1) sc_law_right.nd rfl (Or.inr rfl) (hf := .inl rfl)) (pgs_cons (pg_name (i := 2) sc_law_right.nd rfl (Or.inl rfl) (hf := .inl rfl)) (pgs_cons (pg_name (i := 3) sc_law_right.nd rfl (Or.inl rfl) (hf := .inl rfl)) pgs_nil)))))
    (pss_cons (ps_if (pt_cmpR op_ne (pe_callB (cr_repr gd (unit_of hr)) (by rfl) T.f_repr (by decide +kernel) (pa_cons (pe_lst (pa_cons (pe_call h1_G (hr.mono (by decide)) rfl h1_m h1_k h1_b .nil pass0 (pa_cons (pv 1) pa_nil)) (pa_cons (pe_callN0 (ks := ["course"]) (gV := (fun _ zs => zs)) h2_G (hr.mono (by decide)) rfl h2_m h2_k h2_b pass0 (pk_cons (pv 2) pk_nil)) (pa_cons (pe_call h1_G (hr.mono (by decide)) rfl h1_m h1_k h1_b .nil pass0 (pa_cons (pv 3) pa_nil)) pa_nil)))) pa_nil)) (pe_callB (cr_repr gd (unit_of hr)) (by rfl) T.f_repr (by decide +kernel) (pa_cons (pe_lst (pa_cons pe_bl (pa_cons pe_bl (pa_cons pe_bl pa_nil)))) pa_nil)) (nomark _)) (pss_one (ps_ret pe_bl)) pss_nil)
    (pss_cons (ps_par (i := 4) (j := 5) rfl sc_law_right.nd rfl rfl (by decide) rfl rfl (pa_cons (pe_op op_sub (pe_call h3_G (hr.mono (by decide)) rfl h3_m h3_k h3_b .nil pass0 (pa_cons (pv 0) (pa_cons pe_int pa_nil))) pe_int) (pa_cons (pe_op op_sub (pe_call h3_G (hr.mono (by decide)) rfl h3_m h3_k h3_b .nil pass0 (pa_cons (pv 0) (pa_cons pe_int pa_nil))) pe_int) pa_nil)) (by rfl))
    (pss_cons (ps_if (PW.pt (pw_or (pt_not (pt_val (pe_call h1_G (hr.mono (by decide)) rfl h1_m h1_k h1_b .nil pass0 (pa_cons (pe_call h4_G hr rfl h4_m h4_k h4_b .nil pass0 (pa_cons (pv 1) (pa_cons (pv 2) pa_nil))) pa_nil)))) (pw_or (pt_val (pe_call h1_G (hr.mono (by decide)) rfl h1_m h1_k h1_b .nil pass0 (pa_cons (pe_call h4_G hr rfl h4_m h4_k h4_b .nil pass0 (pa_cons (pv 1) (pa_cons (pv 3) pa_nil))) pa_nil))) (pw_or1 (pt_val (pe_call h1_G (hr.mono (by decide)) rfl h1_m h1_k h1_b .nil pass0 (pa_cons (pe_call h4_G hr rfl h4_m h4_k h4_b .nil pass0 (pa_cons (pv 3) (pa_cons (pv 2) pa_nil))) pa_nil))))))) (pss_one (ps_ret pe_bl)) pss_nil)
    (pss_cons (ps_if (PW.pt (pw_or (pt_not (pt_val (pe_call h1_G (hr.mono (by decide)) rfl h1_m h1_k h1_b .nil pass0 (pa_cons (pe_call h5_G hr rfl h5_m h5_k h5_b .nil pass0 (pa_cons (pv 1) (pa_cons (pv 4) (pa_cons (pv 5) pa_nil)))) pa_nil)))) (pw_or1 (pt_not (pt_val (pe_call h1_G (hr.mono (by decide)) rfl h1_m h1_k h1_b .nil pass0 (pa_cons (pe_call h6_G hr rfl h6_m h6_k h6_b .nil pass0 (pa_cons (pv 1) (pa_cons (pv 5) pa_nil))) pa_nil))))))) (pss_one (ps_ret pe_bl)) pss_nil)
    (pss_cons (ps_if (PW.pt (pw_or (pt_val (pe_call h1_G (hr.mono (by decide)) rfl h1_m h1_k h1_b .nil pass0 (pa_cons (pe_call h5_G hr rfl h5_m h5_k h5_b .nil pass0 (pa_cons (pv 3) (pa_cons pe_int (pa_cons (pv 5) pa_nil)))) pa_nil))) (pw_or1 (pt_val (pe_call h1_G (hr.mono (by decide)) rfl h1_m h1_k h1_b .nil pass0 (pa_cons (pe_call h5_G hr rfl h5_m h5_k h5_b .nil pass0 (pa_cons (pv 3) (pa_cons (pe_un un_neg pe_int) (pa_cons (pv 5) pa_nil)))) pa_nil)))))) (pss_one (ps_ret pe_bl)) pss_nil)
    (pss_cons (ps_if (PW.pt (pw_or (pt_not (pt_val (pe_call h1_G (hr.mono (by decide)) rfl h1_m h1_k h1_b .nil pass0 (pa_cons (pe_call h7_G (hr.mono (by decide)) rfl h7_m h7_k h7_b .nil pass0 (pa_cons (pv 3) (pa_cons pe_int pa_nil))) pa_nil)))) (pw_or1 (pt_not (pt_val (pe_call h1_G (hr.mono (by decide)) rfl h1_m h1_k h1_b .nil pass0 (pa_cons (pe_call h4_G hr rfl h4_m h4_k h4_b .nil pass0 (pa_cons (pe_call h7_G (hr.mono (by decide)) rfl h7_m h7_k h7_b .nil pass0 (pa_cons (pv 3) (pa_cons pe_int pa_nil))) (pa_cons (pe_call h7_G (hr.mono (by decide)) rfl h7_m h7_k h7_b .nil pass0 (pa_cons (pv 3) (pa_cons pe_int pa_nil))) pa_nil))) pa_nil))))))) (pss_one (ps_ret pe_bl)) pss_nil)
    (pss_cons (ps_par (i := 6) (j := 7) rfl sc_law_right.nd rfl rfl (by decide) rfl rfl (pa_cons (pe_prop (pv 1) T.c_Course h9_p h9_G (hr.mono (by decide)) h9_b .nil pass0 rfl) (pa_cons (pe_op op_add (pe_prop (pv 1) T.c_Course h8_p h8_G (hr.mono (by decide)) h8_b .nil pass0 rfl) pe_int) pa_nil)) (by rfl))
    (pss_cons (ps_setLc (i := 8) (own := [("whole", 10)]) (g := (gName 10)) (tt := tYes) (te := (tMeth (He.ga K "Course") "at" (pureSp (C_Course_at K)) [] E0 (tVar 1) (tCons (tVar 10) tNil))) rfl sc_law_right.nd rfl rfl (sw_true rfl rfl rfl (by decide +kernel)) (pi_range1 (by rfl) T.f_range (pa_cons (pe_op op_mulW (pv 6) (pe_callB (cr_min2 rfl) (by rfl) T.f_min (by decide +kernel) (pa_cons pe_int (pa_cons (pv 7) pa_nil)))) pa_nil)) (blkOk_by (N := ["pot", "one", "other", "broken", "by", "shift", "period", "many", "numbers", "at", "whole"]) (sc := defScope s_law_right) (by decide +kernel)) (fun _ _ _ _ _ => (pg_name (i := 10) sc_law_right.nd rfl (Or.inl rfl) (hf := Or.inr rfl))) (fun _ _ _ _ _ => pts_nil) (fun _ _ _ _ _ => (pe_meth (pv 1) T.c_Course h10_m h10_G (hr.mono (by decide)) h10_b .nil pass0 (pa_cons (pv 10) pa_nil))))
    (pss_cons (ps_if (PW.pt (pw_and (pt_cmpR op_le (pv 7) pe_int (nomark _)) (pw_and1 (pt_cmpR (op_neO T.m_Course T.ne_Course h11_1 h11_2 h11_G (hr.mono (by decide)) h11_b) (pe_call h12_G hr rfl h12_m h12_k h12_b .nil pass0 (pa_cons (pv 6) (pa_cons (pv 8) pa_nil))) (pv 1) (nomark _))))) (pss_one (ps_ret pe_bl)) pss_nil)
    (pss_cons (ps_set (i := 9) sc_law_right.nd rfl (Or.inl rfl) (pe_call h3_G (hr.mono (by decide)) rfl h3_m h3_k h3_b .nil pass0 (pa_cons (pv 0) (pa_cons (pe_callB cr_len (by rfl) T.f_len PySem.boot_len (pa_cons (pv 8) pa_nil)) pa_nil))))
    (pss_cons (ps_asg (pe_op (op_ownO h14_1 h14_2 h14_3 h14_G (hr.mono (by decide)) h14_b) (pe_ix ix_list (pv 8) (pv 9) (fun _ _ => rfl)) (pe_make h13_M h13_G (hr.mono (by decide)) rfl h13_m h13_b h13_v pass0 (pa_cons pe_int (pa_cons pe_int pa_nil)))) (pg_sub (pv 8) (pv 9) set_list))
    (pss_one (ps_ret (pe_and (pe_cmpR op_isBl (pe_call h1_G (hr.mono (by decide)) rfl h1_m h1_k h1_b .nil pass0 (pa_cons (pe_call h12_G hr rfl h12_m h12_k h12_b .nil pass0 (pa_cons (pv 6) (pa_cons (pv 8) pa_nil))) pa_nil)) pe_bl (nomark _)) (pe_one (pe_cmpR op_isBl (pe_call h1_G (hr.mono (by decide)) rfl h1_m h1_k h1_b .nil pass0 (pa_cons (pe_make h15_M h15_G (hr.mono (by decide)) rfl h15_m h15_b h15_v pass0 (pa_cons (pe_lst (pa_cons (pe_lst pa_nil) pa_nil)) pa_nil)) pa_nil)) pe_bl (nomark _))))))))))))))))))
abbrev s_law : Stmt := top 70
theorem sc_law : FnScope ["script", "k"] ["script"] (defScope s_law) := ⟨rfl, rfl, rfl, by decide +kernel, rfl, by decide +kernel, by decide +kernel⟩
def t_law (K : PySem.W.Frag) : TS :=
    (tRet (tCB (rAll K) (tCons (tLc (iRng1 (tCons (tCB uMax (tCons (tC (.int 1)) (tCons (tCB uMin (tCons (tC (.int 3)) (tCons (tCB (uLen K) (tCons (tVar 0) tNil)) tNil))) tNil))) tNil)) (gName 1) tYes (tCall (spRight26 K) [] E0 (tCons (tCall (spPot K) [] E0 (tCons (tVar 0) (tCons (tVar 1) tNil))) tNil)) [1]) tNil)))
theorem body_law {P : Program} {w : World} {K : PySem.W.Frag} {mg : Str → Option Value} {base : Heap} (T : Txt K mg) (c0 : Cal P w K mg base "_law_pot" 1 ["script", "k"] (spPot K)) (c1 : CalG P w K mg base "_law_right" 10 ["pot"] (spRight26 K))
    {f : Addr} {cdv : Value} {A : Around} {outer : List Env} {s : Shared} {H : Hp} {E : XK} (gd : A.guards = some []) (hr : Room 10 (A.deeper (PyProof.Rows.envOfC "law" (defScope s_law) s.heap.objs.size f cdv))) :
    PSs (cxOf CX0 P w K mg base ["script", "k"] "law" (defScope s_law) f cdv A outer s H E) (defBody s_law) (t_law K) := by
  obtain ⟨_, _, h0_G, h0_m, h0_k, h0_b⟩ := c0
  obtain ⟨_, _, h1_G, h1_m, h1_k, h1_b⟩ := c1
  exact PSs.nox (pss_one (ps_ret (pe_callB (cr_all rfl) (by rfl) T.f_all (by decide +kernel) (pa_cons (pe_lc (own := [("k", 1)]) (g := (gName 1)) (tt := tYes) (te := (tCall (spRight26 K) [] E0 (tCons (tCall (spPot K) [] E0 (tCons (tVar 0) (tCons (tVar 1) tNil))) tNil))) rfl sc_law.nd (pi_range1 (by rfl) T.f_range (pa_cons (pe_callB (cr_max2 rfl) (by rfl) T.f_max (by decide +kernel) (pa_cons pe_int (pa_cons (pe_callB (cr_min2 rfl) (by rfl) T.f_min (by decide +kernel) (pa_cons pe_int (pa_cons (pe_callB cr_len (by rfl) T.f_len PySem.boot_len (pa_cons (pv 0) pa_nil)) pa_nil))) pa_nil))) pa_nil)) (blkOk_by (N := ["script", "k"]) (sc := defScope s_law) (by decide +kernel)) (fun _ _ _ _ _ => (pg_name (i := 1) sc_law.nd rfl (Or.inl rfl) (hf := Or.inr rfl))) (fun _ _ _ _ _ => pts_nil) (fun _ _ _ _ _ => (pe_callG h1_G gd hr rfl h1_m h1_k h1_b .nil pass0 (pa_cons (pe_call h0_G (hr.mono (by decide)) rfl h0_m h0_k h0_b .nil pass0 (pa_cons (pv 0) (pa_cons (pv 1) pa_nil))) pa_nil)))) pa_nil))))
end W
set_option Elab.async false
set_option linter.all false
set_option maxRecDepth 100000
set_option maxHeartbeats 0
namespace W
open PySem L2 Dn
def fa0 : List DnH.KB := [fun K => (He.Fa.free "abs").ok K,
  fun K => (He.Fa.free "all").ok K,
  fun K => (He.Fa.free "bool").ok K,
  fun K => (He.Fa.free "divmod").ok K,
  fun K => (He.Fa.free "enumerate").ok K,
  fun K => (He.Fa.free "int").ok K,
  fun K => (He.Fa.free "isinstance").ok K,
  fun K => (He.Fa.free "len").ok K,
  fun K => (He.Fa.free "list").ok K,
  fun K => (He.Fa.free "max").ok K,
  fun K => (He.Fa.free "min").ok K,
  fun K => (He.Fa.free "range").ok K,
  fun K => (He.Fa.free "repr").ok K,
  fun K => (He.Fa.free "tuple").ok K,
  fun K => (He.Fa.free "zip").ok K,
  fun K => (He.Fa.int "MOST_GROWN" 12).ok K,
  fun K => (He.Fa.int "MOST_PART" 8).ok K,
  fun K => (He.Fa.int "MOST_PERIOD" 60).ok K,
  fun K => (He.Fa.int "MOST_SHARE" 5).ok K,
  fun K => DnH.bltB "gcd" "math.gcd" K,
  fun K => DnH.bltB "lcm" "math.lcm" K,
  fun K => (He.Fa.glo "Ratio").ok K,
  fun K => (He.Fa.cls "Ratio").ok K,
  fun K => (He.Fa.mkr "Ratio").ok K,
  fun K => (He.Fa.glo "Course").ok K,
  fun K => (He.Fa.cls "Course").ok K,
  fun K => (He.Fa.mkr "Course").ok K,
  fun K => (He.Fa.noat "Ratio" "own_top").ok K,
  fun K => (He.Fa.noat "Ratio" "own_bottom").ok K,
  fun K => (He.Fa.noat "Course" "own_parts").ok K,
  fun K => (He.Fa.glo "is_integer").ok K,
  fun K => (He.Fa.glo "is_list").ok K,
  fun K => (He.Fa.glo "want_at_most").ok K,
  fun K => (He.Fa.glo "divisor_of").ok K,
  fun K => DnH.propB "Ratio" "sign" K,
  fun K => DnH.propB "Ratio" "is_whole" K,
  fun K => (He.Fa.glo "told_pair").ok K,
  fun K => DnH.operB "Ratio" "__add__" "__radd__" K,
  fun K => DnH.operB "Ratio" "__mul__" "__rmul__" K,
  fun K => DnH.operB "Ratio" "__sub__" "__rsub__" K,
  fun K => (He.Fa.meth "Ratio" "__eq__").ok K,
  fun K => (He.Fa.glo "is_number").ok K,
  fun K => (He.Fa.glo "ratio_of").ok K,
  fun K => (He.Fa.glo "want_number").ok K,
  fun K => (He.Fa.glo "wholes").ok K,
  fun K => (He.Fa.glo "stripped").ok K,
  fun K => (He.Fa.glo "trimmed").ok K,
  fun K => (He.Fa.glo "part_sum").ok K,
  fun K => (He.Fa.glo "part_times").ok K,
  fun K => (He.Fa.glo "put_part").ok K,
  fun K => (He.Fa.glo "worth_of").ok K,
  fun K => (He.Fa.glo "are_parts").ok K,
  fun K => DnH.propB "Course" "period" K,
  fun K => DnH.propB "Course" "degree" K,
  fun K => (He.Fa.meth "Course" "at").ok K,
  fun K => (He.Fa.meth "Course" "__eq__").ok K,
  fun K => (He.Fa.glo "want_course").ok K,
  fun K => (He.Fa.glo "want_whole").ok K,
  fun K => (He.Fa.glo "course_of").ok K,
  fun K => (He.Fa.glo "sum_of").ok K,
  fun K => (He.Fa.glo "led_by").ok K,
  fun K => (He.Fa.glo "part_through").ok K,
  fun K => (He.Fa.glo "grown_of").ok K,
  fun K => (He.Fa.glo "plus").ok K,
  fun K => (He.Fa.glo "times").ok K,
  fun K => (He.Fa.glo "led").ok K,
  fun K => (He.Fa.glo "difference").ok K,
  fun K => (He.Fa.glo "are_grown").ok K,
  fun K => (He.Fa.glo "grown").ok K,
  fun K => (He.Fa.glo "is_whole_of").ok K,
  fun K => (He.Fa.glo "is_whole_course").ok K,
  fun K => (He.Fa.glo "_law_pot").ok K,
  fun K => (He.Fa.glo "_law_draw").ok K,
  fun K => (He.Fa.glo "_law_pick").ok K,
  fun K => (He.Fa.glo "_law_made").ok K,
  fun K => (He.Fa.glo "_law_plus").ok K,
  fun K => (He.Fa.glo "_law_times").ok K,
  fun K => (He.Fa.glo "_law_ratio").ok K,
  fun K => (He.Fa.glo "_law_raised").ok K,
  fun K => (He.Fa.glo "_law_part").ok K,
  fun K => (He.Fa.glo "_law_some").ok K,
  fun K => (He.Fa.glo "_law_right").ok K,
  fun K => (He.Fa.glo "law").ok K,
  fun K => decide (PySem.W.mroIn K (He.ga K "Course") (.type "object") = some true),
  fun K => He.eqO (PySem.W.findIn K (.ref (He.ga K "Course")) "__ne__") (some (some (.builtin "object.__ne__"))),
  fun K => decide (PySem.W.kitOne K (.ref (He.ga K "Course")) (.ref (He.ga K "Course")) = some true),
  fun K => Dn.insB "Course" K,
  fun K => decide (PySem.W.kitOne K (.type "int") (.type "int") = some true),
  fun K => decide (PySem.W.kitOne K (.type "int") (.type "bool") = some false),
  fun K => decide (PySem.W.kitOne K (.ref (He.ga K "Ratio")) (.type "int") = some false),
  fun K => decide (PySem.W.kitOne K (.ref (He.ga K "Ratio")) (.ref (He.ga K "Ratio")) = some true),
  fun K => decide (PySem.W.kitOne K (.type "int") (.ref (He.ga K "Ratio")) = some false),
  fun K => decide (PySem.W.kitAny K (.type "list") [.type "list", .type "tuple"] = some true),
  fun K => Dn.insB "Ratio" K]
def fa : List DnH.KB := fa0
def dx_is_integer : DnH.DefX := ⟨(fun K => He.ga K "is_integer"), "is_integer", "is_integer", defArgs s_is_integer, defBody s_is_integer, defScope s_is_integer, []⟩
def dx_is_list : DnH.DefX := ⟨(fun K => He.ga K "is_list"), "is_list", "is_list", defArgs s_is_list, defBody s_is_list, defScope s_is_list, []⟩
def dx_want_at_most : DnH.DefX := ⟨(fun K => He.ga K "want_at_most"), "want_at_most", "want_at_most", defArgs s_want_at_most, defBody s_want_at_most, defScope s_want_at_most, []⟩
def dx_divisor_of : DnH.DefX := ⟨(fun K => He.ga K "divisor_of"), "divisor_of", "divisor_of", defArgs s_divisor_of, defBody s_divisor_of, defScope s_divisor_of, []⟩
def dx_Ratio_init : DnH.DefX := ⟨(fun K => He.ma K (He.ga K "Ratio") "__init__"), "__init__", "Ratio.__init__", defArgs s_Ratio_init, defBody s_Ratio_init, defScope s_Ratio_init, [.int 1]⟩
def dx_Ratio_sign : DnH.DefX := ⟨(fun K => DnH.getr K (He.ga K "Ratio") "sign"), "sign", "Ratio.sign", defArgs s_Ratio_sign, defBody s_Ratio_sign, defScope s_Ratio_sign, []⟩
def dx_Ratio_is_whole : DnH.DefX := ⟨(fun K => DnH.getr K (He.ga K "Ratio") "is_whole"), "is_whole", "Ratio.is_whole", defArgs s_Ratio_is_whole, defBody s_Ratio_is_whole, defScope s_Ratio_is_whole, []⟩
def dx_told_pair : DnH.DefX := ⟨(fun K => He.ga K "told_pair"), "told_pair", "told_pair", defArgs s_told_pair, defBody s_told_pair, defScope s_told_pair, []⟩
def dx_Ratio_add : DnH.DefX := ⟨(fun K => He.ma K (He.ga K "Ratio") "__add__"), "__add__", "Ratio.__add__", defArgs s_Ratio_add, defBody s_Ratio_add, defScope s_Ratio_add, []⟩
def dx_Ratio_mul : DnH.DefX := ⟨(fun K => He.ma K (He.ga K "Ratio") "__mul__"), "__mul__", "Ratio.__mul__", defArgs s_Ratio_mul, defBody s_Ratio_mul, defScope s_Ratio_mul, []⟩
def dx_Ratio_sub : DnH.DefX := ⟨(fun K => He.ma K (He.ga K "Ratio") "__sub__"), "__sub__", "Ratio.__sub__", defArgs s_Ratio_sub, defBody s_Ratio_sub, defScope s_Ratio_sub, []⟩
def dx_Ratio_eq : DnH.DefX := ⟨(fun K => He.ma K (He.ga K "Ratio") "__eq__"), "__eq__", "Ratio.__eq__", defArgs s_Ratio_eq, defBody s_Ratio_eq, defScope s_Ratio_eq, []⟩
def dx_is_number : DnH.DefX := ⟨(fun K => He.ga K "is_number"), "is_number", "is_number", defArgs s_is_number, defBody s_is_number, defScope s_is_number, []⟩
def dx_ratio_of : DnH.DefX := ⟨(fun K => He.ga K "ratio_of"), "ratio_of", "ratio_of", defArgs s_ratio_of, defBody s_ratio_of, defScope s_ratio_of, []⟩
def dx_want_number : DnH.DefX := ⟨(fun K => He.ga K "want_number"), "want_number", "want_number", defArgs s_want_number, defBody s_want_number, defScope s_want_number, []⟩
def dx_wholes : DnH.DefX := ⟨(fun K => He.ga K "wholes"), "wholes", "wholes", defArgs s_wholes, defBody s_wholes, defScope s_wholes, []⟩
def dx_stripped : DnH.DefX := ⟨(fun K => He.ga K "stripped"), "stripped", "stripped", defArgs s_stripped, defBody s_stripped, defScope s_stripped, []⟩
def dx_trimmed : DnH.DefX := ⟨(fun K => He.ga K "trimmed"), "trimmed", "trimmed", defArgs s_trimmed, defBody s_trimmed, defScope s_trimmed, []⟩
def dx_part_sum : DnH.DefX := ⟨(fun K => He.ga K "part_sum"), "part_sum", "part_sum", defArgs s_part_sum, defBody s_part_sum, defScope s_part_sum, []⟩
def dx_part_times : DnH.DefX := ⟨(fun K => He.ga K "part_times"), "part_times", "part_times", defArgs s_part_times, defBody s_part_times, defScope s_part_times, []⟩
def dx_put_part : DnH.DefX := ⟨(fun K => He.ga K "put_part"), "put_part", "put_part", defArgs s_put_part, defBody s_put_part, defScope s_put_part, []⟩
def dx_worth_of : DnH.DefX := ⟨(fun K => He.ga K "worth_of"), "worth_of", "worth_of", defArgs s_worth_of, defBody s_worth_of, defScope s_worth_of, []⟩
def dx_are_parts : DnH.DefX := ⟨(fun K => He.ga K "are_parts"), "are_parts", "are_parts", defArgs s_are_parts, defBody s_are_parts, defScope s_are_parts, []⟩
def dx_Course_init : DnH.DefX := ⟨(fun K => He.ma K (He.ga K "Course") "__init__"), "__init__", "Course.__init__", defArgs s_Course_init, defBody s_Course_init, defScope s_Course_init, []⟩
def dx_Course_period : DnH.DefX := ⟨(fun K => DnH.getr K (He.ga K "Course") "period"), "period", "Course.period", defArgs s_Course_period, defBody s_Course_period, defScope s_Course_period, []⟩
def dx_Course_degree : DnH.DefX := ⟨(fun K => DnH.getr K (He.ga K "Course") "degree"), "degree", "Course.degree", defArgs s_Course_degree, defBody s_Course_degree, defScope s_Course_degree, []⟩
def dx_Course_at : DnH.DefX := ⟨(fun K => He.ma K (He.ga K "Course") "at"), "at", "Course.at", defArgs s_Course_at, defBody s_Course_at, defScope s_Course_at, []⟩
def dx_Course_eq : DnH.DefX := ⟨(fun K => He.ma K (He.ga K "Course") "__eq__"), "__eq__", "Course.__eq__", defArgs s_Course_eq, defBody s_Course_eq, defScope s_Course_eq, []⟩
def dx_want_course : DnH.DefX := ⟨(fun K => He.ga K "want_course"), "want_course", "want_course", defArgs s_want_course, defBody s_want_course, defScope s_want_course, []⟩
def dx_want_whole : DnH.DefX := ⟨(fun K => He.ga K "want_whole"), "want_whole", "want_whole", defArgs s_want_whole, defBody s_want_whole, defScope s_want_whole, []⟩
def dx_course_of : DnH.DefX := ⟨(fun K => He.ga K "course_of"), "course_of", "course_of", defArgs s_course_of, defBody s_course_of, defScope s_course_of, []⟩
def dx_sum_of : DnH.DefX := ⟨(fun K => He.ga K "sum_of"), "sum_of", "sum_of", defArgs s_sum_of, defBody s_sum_of, defScope s_sum_of, []⟩
def dx_led_by : DnH.DefX := ⟨(fun K => He.ga K "led_by"), "led_by", "led_by", defArgs s_led_by, defBody s_led_by, defScope s_led_by, []⟩
def dx_part_through : DnH.DefX := ⟨(fun K => He.ga K "part_through"), "part_through", "part_through", defArgs s_part_through, defBody s_part_through, defScope s_part_through, []⟩
def dx_grown_of : DnH.DefX := ⟨(fun K => He.ga K "grown_of"), "grown_of", "grown_of", defArgs s_grown_of, defBody s_grown_of, defScope s_grown_of, []⟩
def dx_plus : DnH.DefX := ⟨(fun K => He.ga K "plus"), "plus", "plus", defArgs s_plus, defBody s_plus, defScope s_plus, []⟩
def dx_times : DnH.DefX := ⟨(fun K => He.ga K "times"), "times", "times", defArgs s_times, defBody s_times, defScope s_times, []⟩
def dx_led : DnH.DefX := ⟨(fun K => He.ga K "led"), "led", "led", defArgs s_led, defBody s_led, defScope s_led, []⟩
def dx_difference : DnH.DefX := ⟨(fun K => He.ga K "difference"), "difference", "difference", defArgs s_difference, defBody s_difference, defScope s_difference, []⟩
def dx_are_grown : DnH.DefX := ⟨(fun K => He.ga K "are_grown"), "are_grown", "are_grown", defArgs s_are_grown, defBody s_are_grown, defScope s_are_grown, []⟩
def dx_grown : DnH.DefX := ⟨(fun K => He.ga K "grown"), "grown", "grown", defArgs s_grown, defBody s_grown, defScope s_grown, []⟩
def dx_is_whole_of : DnH.DefX := ⟨(fun K => He.ga K "is_whole_of"), "is_whole_of", "is_whole_of", defArgs s_is_whole_of, defBody s_is_whole_of, defScope s_is_whole_of, []⟩
def dx_is_whole_course : DnH.DefX := ⟨(fun K => He.ga K "is_whole_course"), "is_whole_course", "is_whole_course", defArgs s_is_whole_course, defBody s_is_whole_course, defScope s_is_whole_course, []⟩
def dx_law_pot : DnH.DefX := ⟨(fun K => He.ga K "_law_pot"), "_law_pot", "_law_pot", defArgs s_law_pot, defBody s_law_pot, defScope s_law_pot, []⟩
def dx_law_draw : DnH.DefX := ⟨(fun K => He.ga K "_law_draw"), "_law_draw", "_law_draw", defArgs s_law_draw, defBody s_law_draw, defScope s_law_draw, []⟩
def dx_law_pick : DnH.DefX := ⟨(fun K => He.ga K "_law_pick"), "_law_pick", "_law_pick", defArgs s_law_pick, defBody s_law_pick, defScope s_law_pick, []⟩
def dx_law_made : DnH.DefX := ⟨(fun K => He.ga K "_law_made"), "_law_made", "_law_made", defArgs s_law_made, defBody s_law_made, defScope s_law_made, []⟩
def dx_law_plus : DnH.DefX := ⟨(fun K => He.ga K "_law_plus"), "_law_plus", "_law_plus", defArgs s_law_plus, defBody s_law_plus, defScope s_law_plus, []⟩
def dx_law_times : DnH.DefX := ⟨(fun K => He.ga K "_law_times"), "_law_times", "_law_times", defArgs s_law_times, defBody s_law_times, defScope s_law_times, []⟩
def dx_law_ratio : DnH.DefX := ⟨(fun K => He.ga K "_law_ratio"), "_law_ratio", "_law_ratio", defArgs s_law_ratio, defBody s_law_ratio, defScope s_law_ratio, []⟩
def dx_law_raised : DnH.DefX := ⟨(fun K => He.ga K "_law_raised"), "_law_raised", "_law_raised", defArgs s_law_raised, defBody s_law_raised, defScope s_law_raised, []⟩
def dx_law_part : DnH.DefX := ⟨(fun K => He.ga K "_law_part"), "_law_part", "_law_part", defArgs s_law_part, defBody s_law_part, defScope s_law_part, []⟩
def dx_law_some : DnH.DefX := ⟨(fun K => He.ga K "_law_some"), "_law_some", "_law_some", defArgs s_law_some, defBody s_law_some, defScope s_law_some, []⟩
def dx_law_right : DnH.DefX := ⟨(fun K => He.ga K "_law_right"), "_law_right", "_law_right", defArgs s_law_right, defBody s_law_right, defScope s_law_right, []⟩
def dx_law : DnH.DefX := ⟨(fun K => He.ga K "law"), "law", "law", defArgs s_law, defBody s_law, defScope s_law, []⟩
def fnx0 : List DnH.DefX := [dx_is_integer, dx_is_list, dx_want_at_most, dx_divisor_of, dx_Ratio_init, dx_Ratio_sign, dx_Ratio_is_whole, dx_told_pair, dx_Ratio_add, dx_Ratio_mul, dx_Ratio_sub, dx_Ratio_eq, dx_is_number, dx_ratio_of, dx_want_number, dx_wholes, dx_stripped, dx_trimmed, dx_part_sum, dx_part_times, dx_put_part, dx_worth_of, dx_are_parts, dx_Course_init, dx_Course_period, dx_Course_degree, dx_Course_at, dx_Course_eq, dx_want_course, dx_want_whole, dx_course_of, dx_sum_of, dx_led_by, dx_part_through, dx_grown_of, dx_plus, dx_times, dx_led, dx_difference, dx_are_grown, dx_grown, dx_is_whole_of, dx_is_whole_course, dx_law_pot, dx_law_draw, dx_law_pick, dx_law_made, dx_law_plus, dx_law_times, dx_law_ratio, dx_law_raised, dx_law_part, dx_law_some, dx_law_right, dx_law]
def fnx : List DnH.DefX := fnx0
end W
namespace HX
open PySem PySem.W PySem.Calls PyProof.Rows
abbrev R : OpenRow := OpenLaw.row PySem.Challenge.rw_wholefillrows_k26_whole_courses_reckoned
abbrev qv : Program := view R.prog [0, 70]
def names0 : List PySem.Str := ["_wall", "__name__", "BookError", "LimitError", "InvalidCourse", "InvalidNumber", "InvalidWhole", "InvalidNumbers", "InvalidParts", "InvalidPeriod", "TooMany", "is_integer", "is_list", "want_at_most", "PART", "digits_of", "divisor_of", "Ratio", "told_pair", "is_number"]
def names1 : List PySem.Str := ["ratio_of", "want_number", "wholes", "MOST_PERIOD", "MOST_PART", "MOST_GROWN", "MOST_SHARE", "stripped", "trimmed", "part_sum", "part_times", "put_part", "worth_of", "are_parts", "Course", "want_course", "want_whole", "course_of", "sum_of", "led_by"]
def names2 : List PySem.Str := ["part_through", "grown_of", "plus", "times", "led", "difference", "are_grown", "grown", "is_whole_of", "is_whole_course", "_law_pot", "_law_draw", "_law_pick", "_law_made", "_law_plus", "_law_times", "_law_total", "_law_dot", "_law_ratio", "_law_pair"]
def names3 : List PySem.Str := ["_law_raised", "_law_part", "_law_some", "_law_right"]
def names : List PySem.Str := names0 ++ names1 ++ names2 ++ names3
abbrev NH : Nat := 1500
abbrev hk : Hook := DnH.hookR NH W.fa W.fnx
def ob (s : SharedT) : He.AlD := DnH.seenRG NH W.fa W.fnx (HandSHeadRun.getT s)
theorem ob_eq (s : SharedT) : ob s = hk.obs s.abs := DnH.seenRG_eq (HandSHeadRun.getT_eq s)
theorem run (w : World) : HandSHeadRun.RunEqI R qv hk ob 14000 names w := by
  unfold HandSHeadRun.RunEqI
  kernel_rfl
end HX
set_option Elab.async false
set_option linter.all false
set_option maxRecDepth 100000
set_option maxHeartbeats 4000000
namespace Dn
open PySem L2
/-! an instance that is being made -/
def Zp (x : Addr) (o : HO) : Zx := ⟨fun b => b = x, fun H => H x = some o, fun h j => by rw [h x rfl]; exact j, fun {H b} j e => by rw [e, j]; exact fun z => nomatch z⟩
def pNo : RP := ⟨fun _ _ => False, fun _ h => h⟩
abbrev insO (Cl dx : Addr) (fs : List (Str × RP)) (us : List V) : HO := .ins Cl dx ((fs.map Prod.fst).zip us)
def Ti (x Cl dx : Addr) (done : List (Str × RP)) (ts : TS) (ρ : Rho) (all : List (Str × RP)) : Prop :=
  ∀ F H σ us, EnvOk F σ ρ → Ok (Zp x (insO Cl dx done us)) F H → Vrs F us (done.map Prod.snd) → ∀ D : Ends,
    (∀ F' H' σ' us', Go (fun b => b = x) F H F' H' → Ok (Zp x (insO Cl dx all us')) F' H' → Vrs F' us' (all.map Prod.snd) → D.nx σ' H') → ts D σ H
theorem putF_zip {f : Str} {v : V} : ∀ {ns : List Str} {us : List V}, ns.length = us.length → f ∉ ns → putF f v (ns.zip us) = (ns ++ [f]).zip (us ++ [v])
  | [], [], _, _ => rfl
  | n :: ns, u :: us, h, k => by
    show putF f v ((n, u) :: ns.zip us) = (n, u) :: (ns ++ [f]).zip (us ++ [v])
    unfold putF
    rw [if_neg (fun e => k (by rw [e]; exact List.mem_cons_self)), putF_zip (Nat.succ.inj h) fun m => k (List.mem_cons_of_mem _ m)]
  | [], _ :: _, h, _ => nomatch h
  | _ :: _, [], h, _ => nomatch h
section
variable {x Cl dx : Addr} {done all : List (Str × RP)} {ts tu : TS} {ρ ρ1 : Rho} {te : TE} {r : RP} {f : Str} {i : Nat} {K : PySem.W.Frag}
theorem ti_pre (a : ∀ us, Tr (Zp x (insO Cl dx done us)) ts ρ [] (Is ρ1 []) pNo) (b : Ti x Cl dx done tu ρ1 all) : Ti x Cl dx done (tSeq ts tu) ρ all := fun F H σ us env ok hv D q =>
  a us F H σ ⟨env, ok, (fun _ h => nomatch h), (fun _ h => nomatch h), List.nodup_nil⟩ { D with nx := tu D } (fun F1 H1 σ1 ρ' ms' ⟨e1, e2⟩ g1 s1 _ => by
    subst e1 e2
    have g1' : Go (fun b => b = x) F H F1 H1 := g1.weak fun b t => by
      rcases t with t | t
      · exact t
      · cases t
    exact b F1 H1 σ1 us s1.env s1.ok (hv.mono g1.ff) D fun F2 H2 σ2 us2 g2 k2 v2 => q F2 H2 σ2 us2 (g1'.trans g2) k2 v2) fun v F1 H1 _ _ z => z.elim
/-- what writing one of them does -/
theorem put_step {F H : Hp} {us : List V} {v : V} (ok : Ok (Zp x (insO Cl dx done us)) F H) (hv : Vrs F us (done.map Prod.snd)) (hr : r.R F v) (hf : f ∉ done.map Prod.fst) :
    H x = some (insO Cl dx done us) ∧ putF f v ((done.map Prod.fst).zip us) = ((done ++ [(f, r)]).map Prod.fst).zip (us ++ [v]) ∧
    Go (fun b => b = x) F H F (upd H x (insO Cl dx (done ++ [(f, r)]) (us ++ [v]))) ∧ Ok (Zp x (insO Cl dx (done ++ [(f, r)]) (us ++ [v]))) F (upd H x (insO Cl dx (done ++ [(f, r)]) (us ++ [v]))) ∧ Vrs F (us ++ [v]) ((done ++ [(f, r)]).map Prod.snd) := by
  have hx : H x = some (insO Cl dx done us) := ok.j
  have l : us.length = done.length := by rw [hv.len, List.length_map]
  refine ⟨hx, ?_, ⟨fun _ _ e => e, fun b o t e => ?_, fun b o e => .inl e, fun b e => ?_⟩, ⟨fun b o e => ?_, ok.fr, upd_same⟩, ?_⟩
  · rw [putF_zip (by rw [List.length_map, l]) hf, List.map_append]
    rfl
  · rw [upd_ne t]; exact e
  · by_cases q : b = x
    · subst q; rw [upd_same]; exact fun z => nomatch z
    · rw [upd_ne q]; exact e
  · have : b ≠ x := fun q => by
      have := ok.fr x rfl
      rw [q, this] at e
      cases e
    rw [upd_ne this]
    exact ok.fh b o e
  · rw [List.map_append]
    exact hv.app ⟨hr, trivial⟩
theorem ti_fld (hi : ρ[i]? = some (some (pRef x))) (h : ∀ us, Den (Zp x (insO Cl dx done us)) te ρ r) (c : Cls K Cl) (n : NoAttr K Cl f) (hf : f ∉ done.map Prod.fst) (hn : done.length < 1000)
    (b : Ti x Cl dx (done ++ [(f, r)]) tu ρ all) : Ti x Cl dx done (tSeq (sFld K (tVar i) te f) tu) ρ all := fun F H σ us env ok hv D q =>
  h us F H σ env ok _ fun v F1 H1 g1 k1 x1 => by
    have e1 := env.mono g1.ff
    obtain ⟨w, h1, h2⟩ := e1.at_ i _ hi
    have h2 : w = .ref x := h2
    subst h2
    have hv1 := hv.mono g1.ff
    obtain ⟨p1, p2, p3, p4, p5⟩ := put_step (f := f) (r := r) (v := v) k1 hv1 x1 hf
    refine ⟨_, h1, x, Cl, dx, _, rfl, p1, c, n, ?_, ?_⟩
    · rw [List.length_zip, List.length_map]
      exact Nat.lt_of_le_of_lt (Nat.min_le_left _ _) hn
    · rw [p2]
      exact b F1 _ σ _ e1 p4 p5 D fun F2 H2 σ2 us2 g2 k2 v2 => q F2 H2 σ2 us2 ((g1.trans p3).trans g2) k2 v2
theorem ti_last (hi : ρ[i]? = some (some (pRef x))) (h : ∀ us, Den (Zp x (insO Cl dx done us)) te ρ r) (c : Cls K Cl) (n : NoAttr K Cl f) (hf : f ∉ done.map Prod.fst) (hn : done.length < 1000) :
    Ti x Cl dx done (sFld K (tVar i) te f) ρ (done ++ [(f, r)]) := fun F H σ us env ok hv D q =>
  ti_fld (tu := tNext) hi h c n hf hn (fun F1 H1 σ1 us1 e1 k1 v1 D1 q1 => q1 F1 H1 σ1 us1 (Go.refl _ _) k1 v1) F H σ us env ok hv D q
/-- an __init__'s body, by what it sets -/
theorem init_of {N : List Str} {t : TS} {C : List RP → List (Str × RP) → Prop} {vs : List V} {H : Hp} {Q : VK} {E : XK} (h : initSp Cl C vs H Q E)
    (k : ∀ x dx rs fs, C rs fs → Ti x Cl dx [] t (startR N (pRef x :: rs)) fs) : t { nx := fun _ H' => Q .non H', rt := Q } (L2.start N vs) H := by
  obtain ⟨x, dx, F, rs, fs, ws, rfl, hx, hdx, fx, s, hv, c, q⟩ := h
  refine k x dx rs fs c F H _ [] (start_ok (vs := V.ref x :: ws) (rs := pRef x :: rs) ⟨rfl, hv⟩) ⟨s, fun b e => ?_, hx⟩ trivial _ fun F' H' σ' us' g ok hv' => ?_
  · have e : b = x := e
    rw [e]; exact fx
  · exact q F' H' us' g ok.fh (ok.fr x rfl) ok.j hv'
theorem initSp_len {C : List RP → List (Str × RP) → Prop} {n : Nat} (h : ∀ rs fs, C rs fs → rs.length = n) : ∀ vs H Q E, initSp Cl C vs H Q E → vs.length = n + 1 := fun vs H Q E ⟨x, dx, F, rs, fs, ws, e, _, _, _, _, hv, c, _⟩ => by
  rw [e, List.length_cons, hv.len, h rs fs c]
end
/-- a test that is not so -/
theorem tr_skip {Z : Zx} {tt : TT} {ts : TS} {ρ : Rho} {ms : List Mt} {R : RP} (h : DenT Z tt ρ (· = false)) : Tr Z (tIfS tt ts tNext) ρ ms (Is ρ ms) R := tr_if h (fun e => nomatch e) fun _ => tr_next ⟨rfl, rfl⟩
end Dn
namespace Dn
open PySem L2 HM
/-! lists of numbers compared -/
abbrev dI (ns : List Int) : PyData := .list (ns.map PyData.int)
theorem d_canI : ∀ ns : List Int, PyData.canLayAll0 (ns.map PyData.int) = true
  | [] => by simp [PyData.canLayAll0]
  | _ :: r => by simp [PyData.canLayAll0, PyData.canLay0, d_canI r]
theorem d_depI : ∀ ns : List Int, PyData.depthAll (ns.map PyData.int) = 0
  | [] => by simp [PyData.depthAll]
  | _ :: r => by simp [PyData.depthAll, PyData.depth, d_depI r]
theorem d_shI (ns : List Int) : SeqAt.shaped (dI ns) = true := by
  have h2 : PyData.depth (dI ns) ≤ 64 := by simp only [PyData.depth, d_depI]; omega
  show (PyData.canLay0 (dI ns) && decide (PyData.depth (dI ns) ≤ 64)) = true
  rw [Bool.and_eq_true]
  exact ⟨by simp only [PyData.canLay0]; exact d_canI ns, decide_eq_true h2⟩
theorem d_canII : ∀ rows : List (List Int), PyData.canLayAll0 (rows.map dI) = true
  | [] => by simp [PyData.canLayAll0]
  | a :: r => by simp [PyData.canLayAll0, PyData.canLay0, d_canI, d_canII r]
theorem d_depII : ∀ rows : List (List Int), PyData.depthAll (rows.map dI) ≤ 1
  | [] => by simp [PyData.depthAll]
  | a :: r => by
    have h := d_depII r
    simp only [List.map_cons, PyData.depthAll, PyData.depth, d_depI]
    omega
theorem d_shII (rows : List (List Int)) : SeqAt.shaped (.list (rows.map dI)) = true := by
  have h1 := d_depII rows
  have h2 : PyData.depth (.list (rows.map dI)) ≤ 64 := by simp only [PyData.depth]; omega
  show (PyData.canLay0 (.list (rows.map dI)) && decide (PyData.depth (.list (rows.map dI)) ≤ 64)) = true
  rw [Bool.and_eq_true]
  exact ⟨by simp only [PyData.canLay0]; exact d_canII rows, decide_eq_true h2⟩
theorem d_eqA : ∀ a b : List Int, PyData.eqvAll (a.map PyData.int) (b.map PyData.int) = decide (a = b)
  | [], [] => by simp [PyData.eqvAll]
  | [], _ :: _ => by simp [PyData.eqvAll]
  | _ :: _, [] => by simp [PyData.eqvAll]
  | x :: a, y :: b => by
    simp only [List.map_cons, PyData.eqvAll, PyData.eqv, d_eqA a b]
    by_cases h : x = y <;> by_cases h' : a = b <;> simp [h, h']
theorem d_eqI (a b : List Int) : PyData.eqv (dI a) (dI b) = decide (a = b) := by simp only [PyData.eqv]; exact d_eqA a b
theorem d_eqB : ∀ a b : List (List Int), PyData.eqvAll (a.map dI) (b.map dI) = decide (a = b)
  | [], [] => by simp [PyData.eqvAll]
  | [], _ :: _ => by simp [PyData.eqvAll]
  | _ :: _, [] => by simp [PyData.eqvAll]
  | x :: a, y :: b => by
    have e := d_eqI x y
    simp only [List.map_cons, PyData.eqvAll, d_eqB a b, e]
    by_cases h : x = y <;> by_cases h' : a = b <;> simp [h, h']
theorem d_eqII (a b : List (List Int)) : PyData.eqv (.list (a.map dI)) (.list (b.map dI)) = decide (a = b) := by simp only [PyData.eqv]; exact d_eqB a b
section
variable {K : PySem.W.Frag} {Z : Zx} {ρ : Rho} {te ta : TE}
theorem isd_Is {ns : List Int} : IsD K (pIs ns) (dI ns) := isd_list (d := PyData.int) fun _ => isd_int
theorem isd_Iss {rows : List (List Int)} : IsD K (pIss rows) (.list (rows.map dI)) := isd_list (d := dI) fun _ => isd_Is
theorem opd_eqIs {a b : List Int} : OpD (rEqD K) (pIs a) (pIs b) (pB (decide (a = b))) := opd_eqD isd_Is isd_Is (d_shI _) (d_shI _) (d_eqI a b)
theorem opd_neIs {a b : List Int} : OpD (rNeD K) (pIs a) (pIs b) (pB (!decide (a = b))) := opd_neD isd_Is isd_Is (d_shI _) (d_shI _) (d_eqI a b)
theorem opd_eqIss {a b : List (List Int)} : OpD (rEqD K) (pIss a) (pIss b) (pB (decide (a = b))) := opd_eqD isd_Iss isd_Iss (d_shII _) (d_shII _) (d_eqII a b)
theorem opd_neIss {a b : List (List Int)} : OpD (rNeD K) (pIss a) (pIss b) (pB (!decide (a = b))) := opd_neD isd_Iss isd_Iss (d_shII _) (d_shII _) (d_eqII a b)
/-! items, slices, folds -/
theorem opd_cel {row : List Int} {i : Nat} (h : i < row.length) : OpD (rIxL K) (pIs row) (pI (i : Int)) (pI (cel row i)) := opd_ixL rfl (by rw [List.getElem?_map, cel_in h]; rfl)
theorem get_getD {α : Type} {xs : List α} {i : Nat} {d : α} (h : i < xs.length) : xs[i]? = some (xs.getD i d) := by rw [List.getD_eq_getElem?_getD, List.getElem?_eq_getElem h]; rfl
theorem opd_row {α : Type} {f : α → RP} {xs : List α} {i : Nat} (d : α) (h : i < xs.length) : OpD (rIxL K) (pLm f xs) (pI (i : Int)) (f (xs.getD i d)) := opd_ixL rfl (by rw [List.getElem?_map, get_getD h (d := d)]; rfl)
theorem sld_take {xs : List RP} {k : Nat} : SlD (rSlL K) (pL xs) none (some (k : Int)) (pL (xs.take k)) := by
  have h := sld_list (K := K) (xs := xs) (lo := none) (hi := some (k : Int))
  rw [HT.sIx_none, HT.sIx_nat, Nat.sub_zero, List.drop_zero, ← List.take_eq_take_min] at h
  exact h
theorem sld_drop {xs : List RP} {k : Nat} : SlD (rSlL K) (pL xs) (some (k : Int)) none (pL (xs.drop k)) := by
  have h := sld_list (K := K) (xs := xs) (lo := some (k : Int)) (hi := none)
  rw [HT.sIx_none, HT.sIx_nat] at h
  have e : (xs.drop (min k xs.length)).take (xs.length - min k xs.length) = xs.drop k := by
    rw [List.take_of_length_le (by rw [List.length_drop]; omega)]
    by_cases q : k ≤ xs.length
    · rw [Nat.min_eq_left q]
    · rw [Nat.min_eq_right (by omega), List.drop_length, List.drop_eq_nil_of_le (by omega)]
  rw [e] at h
  exact h
theorem map_get {α : Type} {xs : List α} {f : α → RP} {i : Nat} {r : RP} (h : (xs.map f)[i]? = some r) : ∃ x, xs[i]? = some x ∧ r = f x := by
  rw [List.getElem?_map] at h
  cases q : xs[i]? with
  | none => rw [q] at h; cases h
  | some x => rw [q] at h; exact ⟨x, rfl, (Option.some.inj h).symm⟩
theorem fold_take {α β : Type} {f : β → α → β} {xs : List α} {i : Nat} {x : α} {b : β} (h : xs[i]? = some x) : (xs.take (i + 1)).foldl f b = f ((xs.take i).foldl f b) x := by
  obtain ⟨hi, e⟩ := List.getElem?_eq_some_iff.mp h
  rw [List.take_succ_eq_append_getElem hi, List.foldl_append, e]
  rfl
theorem den_re {r1 r : RP} (h : Den Z te ρ r1) (e : r1 = r) : Den Z te ρ r := e ▸ h
end
end Dn
namespace Dn
open PySem L2
section
variable {Z : Zx} {ρ : Rho} {tas : TA}
theorem deni_rngN {m : Nat} (h : DenA Z tas ρ [pI (m : Int)]) (hm : m ≤ 1000000) : DenI Z (iRng1 tas) ρ ((List.range m).map fun k : Nat => pI (k : Int)) := by
  have a := deni_rng1 h (by omega) (by omega)
  rw [Int.toNat_natCast] at a
  exact a
variable {x Cl dx : Addr} {done all : List (Str × RP)} {r1 r2 r3 : RP} {f1 f2 f3 : Str} {i : Nat}
end
end Dn
namespace Dn
open PySem L2
theorem den_all {Z : Zx} {ρ : Rho} {K : PySem.W.Frag} {α : Type} {wi : TI} {g : TG} {te : TE} {vs : List Nat} (xs : List α) (item : α → RP) (b : α → Bool) (hi : DenI Z wi ρ (xs.map item))
    (hx : ∀ x ∈ xs, ∃ up, DenG vs g (item x) up ∧ Den Z te (up (wipeR ρ vs)) (pB (b x))) (hz : xs.length ≤ sizeLine) : Den Z (tCB (rAll K) (tCons (tLc wi g tYes te vs) tNil)) ρ (pB (xs.all b)) := by
  have e : (xs.map b).all id = xs.all b := by rw [List.all_map]; rfl
  rw [← e]
  exact den_callB (den_cons (den_re (den_map xs item (fun x => pB (b x)) hi hx hz) (pLm_map pB b xs)) den_nil) cd_all
theorem den_allT {Z : Zx} {ρ : Rho} {K : PySem.W.Frag} {α : Type} {wi : TI} {g : TG} {te : TE} {vs : List Nat} (xs : List α) (item : α → RP) (hi : DenI Z wi ρ (xs.map item))
    (hx : ∀ x ∈ xs, ∃ up, DenG vs g (item x) up ∧ Den Z te (up (wipeR ρ vs)) (pB true)) (hz : xs.length ≤ sizeLine) : Den Z (tCB (rAll K) (tCons (tLc wi g tYes te vs) tNil)) ρ (pB true) :=
  den_re (den_all xs item (fun _ => true) hi hx hz) (by rw [List.all_eq_true.mpr fun _ _ => rfl])
end Dn
namespace Dn
open PySem L2
theorem den_pix {K : PySem.W.Frag} {ρ : Rho} {p : Addr} {vs : List V} {i j : Nat} {z : Int} {v : V} (hi : ρ[i]? = some (some (pRef p))) (hz : z = (j : Int)) (hj : vs[j]? = some v) : Den (Zp p (.lst vs)) (tOp (rIxL K) (tVar i) (tC (.int z))) ρ (pV v) := fun F H σ env ok Q q => by
  obtain ⟨w, h1, h2⟩ := env.at_ i _ hi
  have h2 : w = .ref p := h2
  subst h2
  exact ⟨_, h1, p, vs, z, v, rfl, rfl, SqL.of ok.j, at_of hz hj, q v F H (Go.refl F H) ok rfl⟩
end Dn
namespace W
open PySem L2 Dn HM
/-- facts of the kinds -/
structure Fx (K : PySem.W.Frag) : Prop where
  ii : PySem.W.kitOne K (.type "int") (.type "int") = some true
  ib : PySem.W.kitOne K (.type "int") (.type "bool") = some false
  ri : PySem.W.kitOne K (.ref (cR K)) (.type "int") = some false
  rr : PySem.W.kitOne K (.ref (cR K)) (.ref (cR K)) = some true
  ir : PySem.W.kitOne K (.type "int") (.ref (cR K)) = some false
  lt : PySem.W.kitAny K (.type "list") [.type "list", .type "tuple"] = some true
  kr : insB "Ratio" K = true
  cc : PySem.W.kitOne K (.ref (cC K)) (.ref (cC K)) = some true
  kc : insB "Course" K = true
section
variable {K : PySem.W.Frag} {mg : Str → Option Value} {rs : List RP} {res : RP}
theorem ci_int (X : Fx K) (i : Int) : C_is_integer K [pI i] (pB true) := ⟨_, _, true, false, rfl, kd_int, X.ii, fun _ => X.ib, rfl⟩
theorem ci_rat (T : Txt K mg) (X : Fx K) (q : Rat) : C_is_integer K [pQ K q] (pB false) := ⟨_, _, false, false, rfl, kd_own T.c_Ratio X.kr, X.ri, (fun e => nomatch e), rfl⟩
theorem cl_list (X : Fx K) (l : List RP) : C_is_list K [pL l] (pB true) := ⟨_, _, true, rfl, kd_lst, X.lt, rfl⟩
theorem d_is_integer (h : C_is_integer K rs res) : Tr Z0 (t_is_integer K) (startR ["value"] rs) [] No res := by
  obtain ⟨r, t, b1, b2, rfl, k, e1, e2, rfl⟩ := h
  exact tr_ret (den_andV (den_callB (den_cons (den_var rfl) (den_cons den_v den_nil)) (cd_isi k (.ty "int") e1)) fun e => den_notV (den_callB (den_cons (den_var rfl) (den_cons den_v den_nil)) (cd_isi k (.ty "bool") (e2 e))))
theorem d_is_list (h : C_is_list K rs res) : Tr Z0 (t_is_list K) (startR ["value"] rs) [] No res := by
  obtain ⟨r, t, b, rfl, k, e, rfl⟩ := h
  exact tr_ret (den_callB (den_cons (den_var rfl) (den_cons (den_tup (den_cons den_v (den_cons den_v den_nil)) (by decide)) den_nil)) (cd_isi2 k e))
theorem d_divisor_of (h : C_divisor_of K rs res) : Tr Z0 (t_divisor_of K) (startR ["one", "other"] rs) [] No res := by
  obtain ⟨a, b, rfl, rfl⟩ := h
  exact tr_ret (den_callB (den_cons (den_var rfl) (den_cons (den_var rfl) den_nil)) cd_gcd)
/-! ratios -/
theorem ratio_parts {t b : Int} (hb : b ≠ 0) (c : Int) (hc : c = if b < 0 then 0 - ((Nat.gcd t.natAbs b.natAbs : Nat) : Int) else ((Nat.gcd t.natAbs b.natAbs : Nat) : Int)) :
    t.fdiv c = (Rat.divInt t b).num ∧ b.fdiv c = ((Rat.divInt t b).den : Int) ∧ c ≠ 0 ∧ c.natAbs ≤ b.natAbs := by
  have eg : b.gcd t = Nat.gcd t.natAbs b.natAbs := Nat.gcd_comm _ _
  have hg : 0 < Nat.gcd t.natAbs b.natAbs := Nat.gcd_pos_of_pos_right _ (by omega)
  have dt : ((Nat.gcd t.natAbs b.natAbs : Nat) : Int) ∣ t := Int.natAbs_dvd_natAbs.mp (by rw [Int.natAbs_natCast]; exact Nat.gcd_dvd_left _ _)
  have db : ((Nat.gcd t.natAbs b.natAbs : Nat) : Int) ∣ b := Int.natAbs_dvd_natAbs.mp (by rw [Int.natAbs_natCast]; exact Nat.gcd_dvd_right _ _)
  have le : Nat.gcd t.natAbs b.natAbs ≤ b.natAbs := Nat.le_of_dvd (by omega) (Nat.gcd_dvd_right _ _)
  rw [Rat.num_divInt, Rat.den_divInt, eg, if_neg hb]
  generalize hG : Nat.gcd t.natAbs b.natAbs = G at *
  obtain ⟨t', rfl⟩ := dt
  obtain ⟨b', rfl⟩ := db
  have hG0 : ((G : Nat) : Int) ≠ 0 := by omega
  have nb : ((G : Int) * b').natAbs / G = b'.natAbs := by rw [Int.natAbs_mul, Int.natAbs_natCast]; exact Nat.mul_div_cancel_left _ hg
  rw [nb]
  by_cases hn : (G : Int) * b' < 0
  · rw [if_pos hn] at hc
    have hb' : b' < 0 := by
      refine Int.not_le.mp fun z => ?_
      have := Int.mul_nonneg (Int.natCast_nonneg G) z
      omega
    have e0 : c = -(G : Int) := by omega
    subst e0
    refine ⟨?_, ?_, by omega, by rw [Int.natAbs_neg, Int.natAbs_natCast]; exact le⟩
    · rw [Int.sign_eq_neg_one_of_neg hn, show (-1 : Int) * (G * t') = G * (-t') by rw [Int.mul_neg, Int.neg_mul, Int.one_mul], Int.mul_ediv_cancel_left _ hG0, show (G : Int) * t' = (-(G : Int)) * (-t') by rw [Int.neg_mul_neg], Int.mul_fdiv_cancel_left _ (by omega)]
    · rw [show (G : Int) * b' = (-(G : Int)) * (-b') by rw [Int.neg_mul_neg], Int.mul_fdiv_cancel_left _ (by omega)]
      omega
  · rw [if_neg hn] at hc
    subst hc
    have hp : 0 < (G : Int) * b' := by omega
    have hb' : 0 < b' := by
      refine Int.not_le.mp fun z => ?_
      have := Int.mul_nonneg (Int.natCast_nonneg G) (show 0 ≤ -b' by omega)
      rw [Int.mul_neg] at this
      omega
    refine ⟨?_, ?_, by omega, by rw [Int.natAbs_natCast]; exact le⟩
    · rw [Int.sign_eq_one_of_pos hp, Int.one_mul, Int.mul_ediv_cancel_left _ hG0, Int.mul_fdiv_cancel_left _ hG0]
    · rw [Int.mul_fdiv_cancel_left _ hG0]
      omega
theorem log2_lt {n k : Nat} (h : n < 2 ^ k) (hk : 0 < k) : n.log2 < k := by
  by_cases h0 : n = 0
  · subst h0; rw [Nat.log2_zero]; exact hk
  · exact (Nat.log2_lt h0).mpr h
theorem d_Ratio_init (T : Txt K mg) (X : Fx K) (x dx : Addr) (rs : List RP) (fs : List (Str × RP)) (h : C_Ratio_init K rs fs) : Ti x (cR K) dx [] (t_Ratio_init K) (startR ["self", "top", "bottom", "common"] (pRef x :: rs)) fs := by
  obtain ⟨t, b, rfl, hb, hs, rfl⟩ := h
  obtain ⟨q1, q2, q3, q4⟩ := ratio_parts (t := t) hb _ rfl
  have hd : CDivA 0 (if b < 0 then 0 - ((Nat.gcd t.natAbs b.natAbs : Nat) : Int) else ((Nat.gcd t.natAbs b.natAbs : Nat) : Int)) := ⟨q3, log2_lt (Nat.lt_of_le_of_lt q4 (Nat.lt_of_lt_of_le hs (Nat.pow_le_pow_right (by decide) (by decide)))) (by decide)⟩
  unfold t_Ratio_init
  refine ti_pre (fun us => tr_skip (dent_not (dent_val (den_call (den_cons (den_var rfl) den_nil) (ci_int X t))))) ?_
  refine ti_pre (fun us => tr_skip (dent_imp (dent_or (dent_not (dent_val (den_call (den_cons (den_var rfl) den_nil) (ci_int X b)))) fun _ => dent_test (den_op (den_var rfl) den_v (opd_eq rfl))) fun c e => ?_)) ?_
  · rw [e, decide_eq_false (fun z => hb (by injection z))]
    rfl
  refine ti_pre (fun us => tr_asg (den_call (den_cons (den_var rfl) (den_cons (den_var rfl) den_nil)) ⟨t, b, rfl, rfl⟩)) ?_
  refine ti_pre (ρ1 := startR ["self", "top", "bottom", "common"] [pRef x, pI t, pI b, pI (if b < 0 then 0 - ((Nat.gcd t.natAbs b.natAbs : Nat) : Int) else ((Nat.gcd t.natAbs b.natAbs : Nat) : Int))]) (fun us => tr_if (dent_test (den_op (den_var rfl) den_v opd_I0)) (fun e => ?_) fun e => ?_) ?_
  · have e : b < 0 := of_decide_eq_true e.symm
    rw [if_pos e]
    exact tr_asg (den_op den_v (den_var rfl) opd_I0)
  · have e : ¬ b < 0 := of_decide_eq_false e.symm
    rw [if_neg e]
    exact tr_next ⟨rfl, rfl⟩
  refine ti_fld (r := pI (Rat.divInt t b).num) rfl (fun us => ?_) T.c_Ratio T.n_own_top (by show _ ∉ ([] : List Str); decide) (by show 0 < 1000; decide) ?_
  · rw [← q1]
    exact den_op (den_var rfl) (den_var rfl) (opd_I (C := CDivA) (g := fun i j => .int (i.fdiv j)) hd)
  refine ti_last (r := pI ((Rat.divInt t b).den : Int)) rfl (fun us => ?_) T.c_Ratio T.n_own_bottom (by show _ ∉ (["own_top"] : List Str); decide) (by show 1 < 1000; decide)
  rw [← q2]
  exact den_op (den_var rfl) (den_var rfl) (opd_I (C := CDivA) (g := fun i j => .int (i.fdiv j)) hd)
theorem d_Ratio_sign (T : Txt K mg) (h : C_Ratio_sign K rs res) : Tr Z0 (t_Ratio_sign K) (startR ["self"] rs) [] No res := by
  obtain ⟨q, rfl, rfl⟩ := h
  refine tr_ret (den_imp (den_op (den_callB (den_cons (den_op (den_fld T.c_Ratio T.n_own_top (den_var rfl) rfl) den_v opd_I0) den_nil) cd_intB) (den_callB (den_cons (den_op (den_fld T.c_Ratio T.n_own_top (den_var rfl) rfl) den_v opd_I0) den_nil) cd_intB) opd_I0) fun F v e => ?_)
  have e : v = _ := e
  rw [e]
  show V.int _ = V.int _
  congr 1
  rcases Int.lt_trichotomy q.num 0 with z | z | z
  · rw [Int.sign_eq_neg_one_of_neg z, decide_eq_false (by omega), decide_eq_true (by omega)]; rfl
  · rw [z]; rfl
  · rw [Int.sign_eq_one_of_pos z, decide_eq_true (by omega), decide_eq_false (by omega)]; rfl
theorem d_Ratio_is_whole (T : Txt K mg) (h : C_Ratio_is_whole K rs res) : Tr Z0 (t_Ratio_is_whole K) (startR ["self"] rs) [] No res := by
  obtain ⟨q, rfl, rfl⟩ := h
  refine tr_ret (den_imp (den_op (den_fld T.c_Ratio T.n_own_bottom (den_var rfl) rfl) den_v (opd_eq rfl)) fun F v e => ?_)
  have e : v = _ := e
  rw [e]
  show V.bl _ = V.bl _
  congr 1
  refine decide_eq_decide.mpr ⟨fun z => ?_, fun z => by rw [z]; rfl⟩
  injection z with z
  omega
theorem d_told_pair (T : Txt K mg) (X : Fx K) (h : C_told_pair K rs res) : Tr Z0 (t_told_pair K) (startR ["value"] rs) [] No res := by
  rcases h with ⟨i, rfl, rfl⟩ | ⟨q, rfl, rfl⟩
  · refine tr_seqI (tr_skip (dent_val (den_callB (den_cons (den_var rfl) (den_cons den_v den_nil)) (cd_isi kd_int (.own _) X.ir)))) ?_
    refine tr_seqI (tr_skip (dent_not (dent_val (den_call (den_cons (den_var rfl) den_nil) (ci_int X i))))) ?_
    exact tr_ret (den_tup (den_cons (den_var rfl) (den_cons den_v den_nil)) (by show 2 ≤ sizeLine; decide))
  · refine tr_seq (tr_if (dent_val (den_callB (den_cons (den_var rfl) (den_cons den_v den_nil)) (cd_isi (kd_own T.c_Ratio X.kr) (.own _) X.rr))) (fun _ => ?_) (fun e => nomatch e)) (M := No) fun _ _ z => z.elim
    exact tr_ret (den_tup (den_cons (den_fld T.c_Ratio T.n_own_top (den_var rfl) rfl) (den_cons (den_fld T.c_Ratio T.n_own_bottom (den_var rfl) rfl) den_nil)) (by show 2 ≤ sizeLine; decide))
/-- a NUMBER's pair -/
theorem num_pair {r : RP} {q : Rat} (h : Num K r q) : C_told_pair K [r] (pT [pI q.num, pI (q.den : Int)]) := by
  rcases h with ⟨i, rfl, rfl⟩ | rfl
  · exact .inl ⟨i, rfl, rfl⟩
  · exact .inr ⟨q, rfl, rfl⟩
theorem mulS {a b : Int} (ha : a.natAbs < 2 ^ 4000) (hb : b.natAbs < 2 ^ 4000) : CMulW a b := wide_mul ha hb (by decide) (by decide) (by decide)
theorem mulB {a b : Nat} (ha : a < 2 ^ 4000) (hb : b < 2 ^ 4000) : a * b < 2 ^ 8999 := by
  refine Nat.lt_of_le_of_lt (Nat.mul_le_mul (Nat.le_of_lt ha) (Nat.le_of_lt hb)) ?_
  rw [← Nat.pow_add]
  exact Nat.pow_lt_pow_right (by decide) (by decide)
theorem den_ratio {t b : Int} {q : Rat} (hb : b ≠ 0) (hs : b.natAbs < 2 ^ 8999) (e : Rat.divInt t b = q) : C_Ratio_init K [pI t, pI b] [("own_top", pI q.num), ("own_bottom", pI (q.den : Int))] := ⟨t, b, rfl, hb, hs, by rw [e]⟩
theorem dn {q : Rat} : ((q.den : Nat) : Int) ≠ 0 := fun e => q.den_nz (by omega)
theorem d_Ratio_mul (T : Txt K mg) (h : C_Ratio_mul K rs res) : Tr Z0 (t_Ratio_mul K) (startR ["self", "other", "top", "bottom"] rs) [] No res := by
  obtain ⟨a, b, r, rfl, hr, ha, hb, rfl⟩ := h
  refine tr_seqI (tr_asgG (den_call (den_cons (den_var rfl) den_nil) (num_pair hr)) (deng_tup2 (vs := [2, 3]) (by decide) (by decide))) ?_
  refine tr_ret (den_make (rs := [pI (a.num * b.num), pI ((a.den : Int) * b.den)]) (drs := []) (den_cons (den_op (den_fld T.c_Ratio T.n_own_top (den_var rfl) rfl) (den_var rfl) (opd_I (mulS ha.1 hb.1))) (den_cons (den_op (den_fld T.c_Ratio T.n_own_bottom (den_var rfl) rfl) (den_var rfl) (opd_I (mulS (by exact ha.2) (by exact hb.2)))) den_nil)) (fun _ => trivial) (den_ratio ?_ ?_ ?_))
  · exact Int.mul_ne_zero dn dn
  · rw [Int.natAbs_mul]; exact mulB ha.2 hb.2
  · rw [← Rat.divInt_mul_divInt, Rat.num_divInt_den, Rat.num_divInt_den]
theorem d_Ratio_sub (T : Txt K mg) (h : C_Ratio_sub K rs res) : Tr Z0 (t_Ratio_sub K) (startR ["self", "other", "top", "bottom"] rs) [] No res := by
  obtain ⟨a, b, r, rfl, hr, ha, hb, rfl⟩ := h
  refine tr_seqI (tr_asgG (den_call (den_cons (den_var rfl) den_nil) (num_pair hr)) (deng_tup2 (vs := [2, 3]) (by decide) (by decide))) ?_
  refine tr_ret (den_make (rs := [pI (a.num * b.den - b.num * a.den), pI ((a.den : Int) * b.den)]) (drs := [])
    (den_cons (den_op (den_op (den_fld T.c_Ratio T.n_own_top (den_var rfl) rfl) (den_var rfl) (opd_I (mulS ha.1 (by exact hb.2)))) (den_op (den_var rfl) (den_fld T.c_Ratio T.n_own_bottom (den_var rfl) rfl) (opd_I (mulS hb.1 (by exact ha.2)))) opd_I0) (den_cons (den_op (den_fld T.c_Ratio T.n_own_bottom (den_var rfl) rfl) (den_var rfl) (opd_I (mulS (by exact ha.2) (by exact hb.2)))) den_nil)) (fun _ => trivial) (den_ratio ?_ ?_ ?_))
  · exact Int.mul_ne_zero dn dn
  · rw [Int.natAbs_mul]; exact mulB ha.2 hb.2
  · rw [← Rat.divInt_sub_divInt _ _ dn dn, Rat.num_divInt_den, Rat.num_divInt_den]
theorem d_is_number (T : Txt K mg) (X : Fx K) (h : C_is_number K rs res) : Tr Z0 (t_is_number K) (startR ["value"] rs) [] No res := by
  obtain ⟨q, r, rfl, hr, rfl⟩ := h
  rcases hr with ⟨i, rfl, rfl⟩ | rfl
  · exact tr_ret (den_orV (b := true) (c := true) (den_call (den_cons (den_var rfl) den_nil) (ci_int X i)) (fun e => nomatch e))
  · exact tr_ret (den_orV (b := false) (c := true) (den_call (den_cons (den_var rfl) den_nil) (ci_rat T X q)) fun _ => den_callB (den_cons (den_var rfl) (den_cons den_v den_nil)) (cd_isi (kd_own T.c_Ratio X.kr) (.own _) X.rr))
theorem d_ratio_of (T : Txt K mg) (X : Fx K) (h : C_ratio_of K rs res) : Tr Z0 (t_ratio_of K) (startR ["number"] rs) [] No res := by
  obtain ⟨q, r, rfl, hr, rfl⟩ := h
  rcases hr with ⟨i, rfl, rfl⟩ | rfl
  · refine tr_ret (den_if (dent_val (den_callB (den_cons (den_var rfl) (den_cons den_v den_nil)) (cd_isi kd_int (.own _) X.ir))) (fun e => nomatch e) fun _ => ?_)
    exact den_make (rs := [pI i]) (drs := [pI 1]) (den_cons (den_var rfl) den_nil) (fun _ => ⟨rfl, trivial⟩) (den_ratio (by decide) (Nat.lt_of_lt_of_le (by decide : (1 : Int).natAbs < 2 ^ 1) (Nat.pow_le_pow_right (by decide) (by decide))) (Rat.num_divInt_den ((i : Int) : Rat)))
  · exact tr_ret (den_if (dent_val (den_callB (den_cons (den_var rfl) (den_cons den_v den_nil)) (cd_isi (kd_own T.c_Ratio X.kr) (.own _) X.rr))) (fun _ => den_var rfl) (fun e => nomatch e))
theorem cDiv {i j : Int} {k : Nat} (h0 : j ≠ 0) (h : j.natAbs < 2 ^ k) (hk : 0 < k) (hk2 : k ≤ 9000) : CDivA i j := ⟨h0, Nat.lt_of_lt_of_le (log2_lt h hk) hk2⟩
theorem pw {a b : Nat} (h : a ≤ b) : (2 : Nat) ^ a ≤ 2 ^ b := Nat.pow_le_pow_right (by decide) h
theorem sz {n : Nat} (h : n ≤ 100000) : n ≤ sizeLine := Nat.le_trans h (by decide)
theorem d_Ratio_eq (T : Txt K mg) (X : Fx K) (h : C_Ratio_eq K rs res) : Tr Z0 (t_Ratio_eq K) (startR ["self", "other"] rs) [] No res := by
  obtain ⟨a, b, rfl, rfl⟩ := h
  refine tr_seqI (tr_skip (dent_not (dent_val (den_callB (den_cons (den_var rfl) (den_cons den_v den_nil)) (cd_isi (kd_own T.c_Ratio X.kr) (.own _) X.rr))))) ?_
  refine tr_ret (den_re (den_andV (den_op (den_fld T.c_Ratio T.n_own_top (den_var (i := 0) rfl) rfl) (den_fld T.c_Ratio T.n_own_top (den_var (i := 1) rfl) rfl) (opd_eq rfl)) fun _ => den_op (den_fld T.c_Ratio T.n_own_bottom (den_var (i := 0) rfl) rfl) (den_fld T.c_Ratio T.n_own_bottom (den_var (i := 1) rfl) rfl) (opd_eq rfl)) ?_)
  show pB _ = pB _
  congr 1
  refine Bool.eq_iff_iff.mpr ?_
  rw [Bool.and_eq_true, decide_eq_true_iff, decide_eq_true_iff, decide_eq_true_iff]
  constructor
  · rintro ⟨z1, z2⟩
    injection z1 with z1
    injection z2 with z2
    exact Rat.ext z1 (by omega)
  · rintro rfl
    exact ⟨rfl, rfl⟩
theorem d_Ratio_add (T : Txt K mg) (h : C_Ratio_add K rs res) : Tr Z0 (t_Ratio_add K) (startR ["self", "other", "top", "bottom"] rs) [] No res := by
  obtain ⟨a, b, r, rfl, hr, ha, hb, rfl⟩ := h
  refine tr_seqI (tr_asgG (den_call (den_cons (den_var rfl) den_nil) (num_pair hr)) (deng_tup2 (vs := [2, 3]) (by decide) (by decide))) ?_
  refine tr_ret (den_make (rs := [pI (a.num * b.den + b.num * a.den), pI ((a.den : Int) * b.den)]) (drs := [])
    (den_cons (den_op (den_op (den_fld T.c_Ratio T.n_own_top (den_var rfl) rfl) (den_var rfl) (opd_I (mulS ha.1 (by exact hb.2)))) (den_op (den_var rfl) (den_fld T.c_Ratio T.n_own_bottom (den_var rfl) rfl) (opd_I (mulS hb.1 (by exact ha.2)))) opd_I0) (den_cons (den_op (den_fld T.c_Ratio T.n_own_bottom (den_var rfl) rfl) (den_var rfl) (opd_I (mulS (by exact ha.2) (by exact hb.2)))) den_nil)) (fun _ => trivial) (den_ratio ?_ ?_ ?_))
  · exact Int.mul_ne_zero dn dn
  · rw [Int.natAbs_mul]; exact mulB ha.2 hb.2
  · rw [← Rat.divInt_add_divInt _ _ dn dn, Rat.num_divInt_den, Rat.num_divInt_den]
theorem d_want_at_most (h : C_want_at_most K rs res) : Tr Z0 (t_want_at_most K) (startR ["what", "limit", "number"] rs) [] (fun _ _ => True) res ∧ ∀ F, res.R F .non := by
  obtain ⟨z, l, n, rfl, hn, rfl⟩ := h
  refine ⟨tr_imp (tr_skip ?_) fun _ _ _ => trivial, fun F => rfl⟩
  refine dent_imp (dent_test (den_op (den_var (i := 2) rfl) (den_var (i := 1) rfl) opd_I0)) fun b e => ?_
  rw [e, decide_eq_false (by omega)]
end
end W
set_option Elab.async false
set_option linter.all false
set_option maxRecDepth 100000
set_option maxHeartbeats 4000000
namespace W
open PySem L2 Dn HM PM
section
variable {K : PySem.W.Frag} {mg : Str → Option Value} {rs : List RP} {res : RP}
/-- Ratio(i) -/
theorem den_mk1 {Z : Zx} {ρ : Rho} {te : TE} {i : Int} (h : Den Z te ρ (pI i)) : Den Z (tMake (He.ga K "Ratio") (initSp (He.ga K "Ratio") (C_Ratio_init K)) [.int 1] E0 (tCons te tNil)) ρ (pQ K (i : Rat)) :=
  den_make (rs := [pI i]) (drs := [pI 1]) (den_cons h den_nil) (fun _ => ⟨rfl, trivial⟩) (den_ratio (by decide) (Nat.lt_of_lt_of_le (by decide : (1 : Int).natAbs < 2 ^ 1) (Nat.pow_le_pow_right (by decide) (by decide))) (Rat.num_divInt_den ((i : Int) : Rat)))
/-- Ratio(t, b) -/
theorem den_mk2 {Z : Zx} {ρ : Rho} {ta tb : TE} {t b : Int} (hb : b ≠ 0) (hs : b.natAbs < 2 ^ 8999) (h1 : Den Z ta ρ (pI t)) (h2 : Den Z tb ρ (pI b)) : Den Z (tMake (He.ga K "Ratio") (initSp (He.ga K "Ratio") (C_Ratio_init K)) [] E0 (tCons ta (tCons tb tNil))) ρ (pQ K (Rat.divInt t b)) :=
  den_make (rs := [pI t, pI b]) (drs := []) (den_cons h1 (den_cons h2 den_nil)) (fun _ => trivial) (den_ratio hb hs rfl)
theorem num_or {r : RP} {q : Rat} (h : Num K r q) : (∃ i, r = pI i) ∨ ∃ gs, r = pO (cR K) gs := h.elim (fun ⟨i, e, _⟩ => .inl ⟨i, e⟩) fun e => .inr ⟨_, e⟩
theorem num_q (q : Rat) : Num K (pQ K q) q := .inr rfl
theorem num_i (i : Int) : Num K (pI i) (i : Rat) := .inl ⟨i, rfl, rfl⟩
theorem d_want_number (h : C_want_number K rs res) : Tr Z0 (t_want_number K) (startR ["value"] rs) [] No res := by
  obtain ⟨q, r, rfl, hr, rfl⟩ := h
  refine tr_seqI (tr_skip (dent_not (dent_val (den_call (den_cons (den_var (i := 0) rfl) den_nil) (show C_is_number K [r] (pB true) from ⟨q, r, rfl, hr, rfl⟩))))) ?_
  exact tr_ret (den_call (den_cons (den_var (i := 0) rfl) den_nil) (show C_ratio_of K [r] (pQ K q) from ⟨q, r, rfl, hr, rfl⟩))
theorem bot_take {l : List Rat} {i : Nat} {x : Rat} (h : l[i]? = some x) : bot (l.take (i + 1)) = Nat.lcm (bot (l.take i)) x.den := fold_take h
theorem bot_pos : ∀ l : List Rat, 0 < bot l := by
  have gen : ∀ (l : List Rat) (a : Nat), 0 < a → 0 < l.foldl (fun b x => Nat.lcm b x.den) a := by
    intro l
    induction l with
    | nil => intro a h; exact h
    | cons x t ih => intro a h; exact ih _ (Nat.lcm_pos h x.den_pos)
  exact fun l => gen l 1 (by decide)
theorem d_wholes (T : Txt K mg) (h : C_wholes K rs res) : Tr Z0 (t_wholes K) (startR ["ratios", "bottom", "ratio"] rs) [] No res := by
  obtain ⟨l, rfl, hl, hb, hn, rfl⟩ := h
  have b64 : ∀ i, ((bot (l.take i) : Nat) : Int).natAbs < 2 ^ 64 := fun i => by
    rw [Int.natAbs_natCast]
    exact Nat.lt_of_lt_of_le (hb i) (Nat.pow_le_pow_right (by decide) (by decide))
  have den_lt : ∀ {i : Nat} {x : Rat}, l[i]? = some x → x.den < 2 ^ 60 := fun {i x} hx => by
    have e := hb (i + 1)
    rw [bot_take hx] at e
    exact Nat.lt_of_le_of_lt (Nat.le_of_dvd (Nat.lcm_pos (bot_pos _) x.den_pos) (Nat.dvd_lcm_right _ _)) e
  refine tr_seqI (tr_asg (r := pI ((bot (l.take 0) : Nat) : Int)) (den_v (v := .int 1))) ?_
  refine tr_seq (tr_for (vs := [2]) (deni_list (f := pQ K) (xs := l) (den_var (i := 0) rfl)) (fun i ρ' ms' => ms' = [] ∧ ∃ a, ρ' = [some (pQs K l), some (pI ((bot (l.take i) : Nat) : Int)), a]) ⟨rfl, none, rfl⟩ ?_) ?_
  · intro i r hr
    obtain ⟨x, hx, rfl⟩ := map_get hr
    refine ⟨_, deng_name (by decide), ?_⟩
    rintro _ _ ⟨rfl, a, rfl⟩
    refine tr_imp (tr_asg (r := pI ((bot (l.take (i + 1)) : Nat) : Int)) ?_) ?_
    · rw [bot_take hx]
      refine den_re (den_callB (den_cons (den_var (i := 1) rfl) (den_cons (den_fld T.c_Ratio T.n_own_bottom (den_var (i := 2) rfl) rfl) den_nil)) (cd_lcm (b64 i) ?_)) ?_
      · rw [Int.natAbs_natCast]; exact Nat.lt_of_lt_of_le (den_lt hx) (Nat.pow_le_pow_right (by decide) (by decide))
      · rw [Int.natAbs_natCast, Int.natAbs_natCast]
    · rintro _ _ ⟨rfl, rfl⟩
      exact ⟨rfl, _, rfl⟩
  · rw [List.length_map, List.take_length]
    rintro _ _ ⟨rfl, a, rfl⟩
    refine tr_ret (den_tup (rs := [pI ((bot l : Nat) : Int), pIs (l.map fun x => x.num * ((bot l : Int) / (x.den : Int)))]) (den_cons (den_var (i := 1) rfl) (den_cons (den_re (den_map l (pQ K) (fun x => pI (x.num * ((bot l : Int) / (x.den : Int)))) (deni_list (den_var (i := 0) rfl)) (fun x hx => ⟨_, deng_name (by decide), ?_⟩) (Nat.le_trans hl (by decide))) (pLm_map pI (fun x : Rat => x.num * ((bot l : Int) / (x.den : Int))) l)) den_nil)) (by show 2 ≤ sizeLine; decide))
    obtain ⟨i, hi⟩ := List.getElem?_of_mem hx
    have dl := den_lt hi
    have bl : bot l < 2 ^ 60 := by have := hb l.length; rw [List.take_length] at this; exact this
    refine den_op (r2 := pI ((bot l : Int) / (x.den : Int))) (den_fld T.c_Ratio T.n_own_top (den_var (i := 2) rfl) rfl) (den_re (den_op (den_var (i := 1) rfl) (den_fld T.c_Ratio T.n_own_bottom (den_var (i := 2) rfl) rfl) (opd_I (C := CDivA) (g := fun i j => .int (i.fdiv j)) ⟨dn, log2_lt (Nat.lt_of_lt_of_le (by rw [Int.natAbs_natCast]; exact dl) (Nat.pow_le_pow_right (by decide) (by decide))) (by decide)⟩)) ?_) (opd_I (mulS (hn x hx) ?_))
    · rw [Int.fdiv_eq_ediv_of_nonneg _ (Int.natCast_nonneg _)]
    · rw [← Int.natCast_ediv, Int.natAbs_natCast]
      exact Nat.lt_of_le_of_lt (Nat.div_le_self _ _) (Nat.lt_of_lt_of_le bl (Nat.pow_le_pow_right (by decide) (by decide)))
theorem sign_zero (q : Rat) : (V.int q.num.sign = V.int 0) ↔ q = 0 := by
  refine ⟨fun h => ?_, fun h => by subst h; rfl⟩
  injection h with h
  exact Rat.num_eq_zero.mp (Int.sign_eq_zero_iff_zero.mp h)
theorem d_stripped (h : C_stripped K rs res) : Tr Z0 (t_stripped K) (startR ["part", "many"] rs) [] No res := by
  obtain ⟨l, rfl, hl, rfl⟩ := h
  refine tr_seqI (tr_asg (den_callB (den_cons (den_var (i := 0) rfl) den_nil) cd_len)) ?_
  refine tr_seqI (ρ1 := [some (pQs K l), some (pI (strN l l.length : Int))]) (ms1 := []) (tr_while (fun m ρ' ms' => ms' = [] ∧ m ≤ l.length ∧ strN l l.length = strN l m ∧ ρ' = [some (pQs K l), some (pI (m : Int))]) l.length ⟨rfl, Nat.le_refl _, rfl, by rw [List.length_map]; rfl⟩ ?_) ?_
  · rintro m _ _ ⟨rfl, hm, es, rfl⟩
    refine ⟨(· = (decide (0 < m) && decide (l.getD (m - 1) 0 = 0))), dent_and (dent_imp (dent_test (den_op (den_var (i := 1) rfl) (den_v (v := .int 0)) opd_I0)) fun b e => ?_) (fun e => ?_), fun e => ?_, fun e => ?_⟩
    · rw [e]; exact decide_eq_decide.mpr (by omega)
    · have hm0 : 0 < m := of_decide_eq_true e
      refine dent_imp (dent_test (den_op (den_prop (fs := [("own_top", pI (l.getD (m - 1) 0).num), ("own_bottom", pI ((l.getD (m - 1) 0).den : Int))]) (den_op (r2 := pI ((m - 1 : Nat) : Int)) (den_var (i := 0) rfl) (den_re (den_op (den_var (i := 1) rfl) (den_v (v := .int 1)) opd_I0) ?_) (opd_row (f := pQ K) 0 (by omega))) (show C_Ratio_sign K [pQ K (l.getD (m - 1) 0)] (pI (l.getD (m - 1) 0).num.sign) from ⟨_, rfl, rfl⟩)) (den_v (v := .int 0)) (opd_eq rfl))) fun b e => ?_
      · show pI _ = pI _
        congr 2
        omega
      · rw [e]; exact decide_eq_decide.mpr (sign_zero _)
    · have e := e.symm
      rw [Bool.and_eq_true] at e
      have hm0 : 0 < m := of_decide_eq_true e.1
      have hz : l.getD (m - 1) 0 = 0 := of_decide_eq_true e.2
      refine tr_imp (tr_asg (r := pI ((m - 1 : Nat) : Int)) (den_re (den_op (den_var (i := 1) rfl) (den_v (v := .int 1)) opd_I0) ?_)) ?_
      · show pI _ = pI _
        congr 2
        omega
      · rintro _ _ ⟨rfl, rfl⟩
        refine ⟨m - 1, by omega, rfl, by omega, ?_, rfl⟩
        rw [es]
        obtain ⟨k, rfl⟩ : ∃ k, m = k + 1 := ⟨m - 1, by omega⟩
        show (if l.getD k 0 = 0 then strN l k else k + 1) = strN l k
        exact if_pos hz
    · have em : strN l l.length = m := by
        rw [es]
        cases m with
        | zero => rfl
        | succ k =>
          have e := e.symm
          rw [decide_eq_true (Nat.succ_pos k), Bool.true_and] at e
          show (if l.getD k 0 = 0 then strN l k else k + 1) = k + 1
          exact if_neg (of_decide_eq_false e)
      rw [em]
      exact ⟨rfl, rfl⟩
  · refine tr_ret (den_re (den_slice (den_var (i := 0) rfl) deno_none (deno_some (den_var (i := 1) rfl)) sld_take) ?_)
    rw [← List.map_take]
    rfl
theorem rep_map {α β : Type} (f : α → β) (xs : List α) (k : Nat) : (List.replicate k (xs.map f)).flatten = (rep xs k).map f := by
  unfold rep
  rw [List.map_flatten, List.map_replicate]
theorem d_trimmed (h : C_trimmed K rs res) : Tr Z0 (t_trimmed K) (startR ["parts", "found", "many", "part"] rs) [] No res := by
  obtain ⟨f, rfl, hl, hne, hs, rfl⟩ := h
  refine tr_seqI (tr_asg (den_re (den_map f (pQs K) (fun l => pQs K (strip l)) (deni_list (den_var (i := 0) rfl)) (fun l hm => ⟨_, deng_name (by decide), den_call (den_cons (den_var (i := 3) rfl) den_nil) (show C_stripped K [pQs K l] (pQs K (strip l)) from ⟨l, rfl, hs l hm, rfl⟩)⟩) (Nat.le_trans hl (by decide))) (pLm_map (pQs K) strip f))) ?_
  have gl : (f.map strip).length = f.length := List.length_map ..
  have g0 : (f.map strip) ≠ [] := fun e => hne (by rw [← List.length_eq_zero_iff, ← gl, e]; rfl)
  generalize f.map strip = g at gl g0 ⊢
  have p0 : 0 < g.length := List.length_pos_iff.mpr g0
  refine tr_seq (tr_for (vs := [2]) (deni_rng2 (lo := 1) (n := (g.length : Int)) (den_cons (den_v (v := .int 1)) (den_cons (den_re (den_callB (den_cons (den_var (i := 1) rfl) den_nil) cd_len) (by rw [List.length_map])) den_nil)) (by omega)) (fun i ρ' ms' => ms' = [] ∧ trimL g = trimGo g (g.length - 1 - i) (1 + i) ∧ ∃ a2 a3, ρ' = [some (pPs K f), some (pPs K g), a2, a3]) ⟨rfl, rfl, none, none, rfl⟩ ?_) ?_
  · intro i r hr
    obtain ⟨i', hx, rfl⟩ := map_get hr
    obtain ⟨hpl, hpe⟩ := List.getElem?_eq_some_iff.mp hx
    rw [List.getElem_range] at hpe
    subst hpe
    rw [List.length_range] at hpl
    refine ⟨_, deng_name (by decide), ?_⟩
    rintro _ _ ⟨rfl, eg, a2, a3, rfl⟩
    have hi : 1 + i < g.length := by omega
    have ei : g.length - 1 - i = (g.length - 1 - (i + 1)) + 1 := by omega
    have ec : (1 : Int) + (i : Int) = ((1 + i : Nat) : Int) := by omega
    rw [ec]
    rw [ei, trimGo] at eg
    refine tr_if (P := (· = decide (Per g (1 + i)))) ?_ (fun e => ?_) fun e => ?_
    · refine dent_imp (dent_and (b := decide (g.length % (1 + i) = 0)) (c := decide (g = rep (g.take (1 + i)) (g.length / (1 + i)))) (dent_imp (dent_test (den_op (den_op (den_callB (den_cons (den_var (i := 1) rfl) den_nil) cd_len) (den_var (i := 2) rfl) (opd_I (C := fun _ j => 0 < j) (g := fun i j => .int (i % j)) (by omega))) (den_v (v := .int 0)) (opd_eq rfl))) fun b e => ?_) fun _ => dent_test (den_op (r2 := pPs K (rep (g.take (1 + i)) (g.length / (1 + i)))) (den_var (i := 1) rfl) (den_re (den_op (r2 := pI ((g.length / (1 + i) : Nat) : Int)) (den_slice (den_var (i := 1) rfl) deno_none (deno_some (den_var (i := 2) rfl)) sld_take) (den_re (den_op (den_callB (den_cons (den_var (i := 1) rfl) den_nil) cd_len) (den_var (i := 2) rfl) (opd_I (C := CDivA) (g := fun i j => .int (i.fdiv j)) ⟨by omega, ?_⟩)) ?_) (opd_rep ?_ ?_ ?_)) ?_) opd_eqF)) fun b e => ?_
      · rw [e, List.length_map]
        refine decide_eq_decide.mpr ⟨fun z => ?_, fun z => ?_⟩
        · injection z with z
          omega
        · show V.int _ = V.int _
          congr 1
          omega
      · exact Nat.lt_of_lt_of_le (log2_lt (k := 8) (by omega) (by decide)) (by decide)
      · rw [List.length_map, Int.fdiv_eq_ediv_of_nonneg _ (Int.natCast_nonneg _), ← Int.natCast_ediv]
      · exact Int.le_trans (by decide) (Int.natCast_nonneg _)
      · exact Int.lt_of_le_of_lt (Int.ofNat_le.mpr (Nat.le_trans (Nat.div_le_self _ _) (show g.length ≤ 60 by omega))) (by decide)
      · rw [Int.toNat_natCast, List.length_take, List.length_map, Nat.min_eq_left (by omega)]
        refine Nat.le_trans (Nat.mul_div_le _ _) (Nat.le_trans (show g.length ≤ 60 by omega) (by decide))
      · rw [Int.toNat_natCast, ← List.map_take, rep_map]
      · rw [e, ← Bool.decide_and]
        rfl
    · rw [if_pos (of_decide_eq_true e.symm)] at eg
      rw [eg]
      refine tr_ret (den_re (den_slice (den_var (i := 1) rfl) deno_none (deno_some (den_var (i := 2) rfl)) sld_take) ?_)
      rw [← List.map_take]
    · rw [if_neg (of_decide_eq_false e.symm)] at eg
      refine tr_next ⟨rfl, ?_, _, _, rfl⟩
      rw [eg]
      rfl
  · rw [List.length_map, List.length_range]
    rintro _ _ ⟨rfl, eg, a2, a3, rfl⟩
    rw [show g.length - 1 - ((g.length : Int) - 1).toNat = 0 by omega, trimGo] at eg
    rw [eg]
    exact tr_ret (den_var (i := 1) rfl)
end
end W
set_option Elab.async false
set_option linter.all false
set_option maxRecDepth 100000
set_option maxHeartbeats 4000000
namespace W
open PySem L2 Dn HM PM
section
variable {K : PySem.W.Frag} {mg : Str → Option Value} {rs : List RP} {res : RP}
theorem rep_one (n : Nat) : (List.replicate n [pQ K 0]).flatten = (List.replicate n (0 : Rat)).map (pQ K) := by
  induction n with
  | zero => rfl
  | succ n ih => rw [List.replicate_succ, List.flatten_cons, ih, List.replicate_succ]; rfl
theorem den_mk0 {Z : Zx} {ρ : Rho} : Den Z (tMake (He.ga K "Ratio") (initSp (He.ga K "Ratio") (C_Ratio_init K)) [.int 1] E0 (tCons (tC (.int 0)) tNil)) ρ (pQ K 0) := den_re (den_mk1 (den_v (v := .int 0))) (by rw [show ((0 : Int) : Rat) = 0 from rfl])
theorem szq0 : SzQ (0 : Rat) := ⟨show (0 : Nat) < 2 ^ 4000 from Nat.pow_pos (by decide), show (1 : Nat) < 2 ^ 4000 from Nat.lt_of_lt_of_le (by decide : 1 < 2 ^ 1) (Nat.pow_le_pow_right (by decide) (by decide))⟩
theorem sz_pad {l : List Rat} {n : Nat} (h : Sz l) : Sz (pad l n) := fun x m => by
  rcases List.mem_append.mp m with z | z
  · exact h x z
  · rw [(List.mem_replicate.mp z).2]; exact szq0
theorem d_part_sum (h : C_part_sum K rs res) : Tr Z0 (t_part_sum K) (startR ["one", "other", "size", "near", "far", "part", "here", "there"] rs) [] No res := by
  obtain ⟨a, b, rfl, ha, hb, sa, sb, rfl⟩ := h
  refine tr_seqI (tr_asg (r := pI ((max a.length b.length : Nat) : Int)) (den_re (den_callB (den_cons (den_callB (den_cons (den_var (i := 0) rfl) den_nil) cd_len) (den_cons (den_callB (den_cons (den_var (i := 1) rfl) den_nil) cd_len) den_nil)) cd_max) ?_)) ?_
  · rw [List.length_map, List.length_map]
    show pI _ = pI _
    congr 2
    omega
  have na : a.length ≤ max a.length b.length := Nat.le_max_left _ _
  have nb : b.length ≤ max a.length b.length := Nat.le_max_right _ _
  have nn : max a.length b.length ≤ 100 := Nat.max_le.mpr ⟨ha, hb⟩
  unfold psum
  generalize max a.length b.length = n at na nb nn ⊢
  have one : ∀ l : List Rat, l.length ≤ n → n ≤ 100 → Den Z0 (tOp rCat (tVar 5) (tOp rRep (tLst (tCons (tMake (He.ga K "Ratio") (initSp (He.ga K "Ratio") (C_Ratio_init K)) [.int 1] E0 (tCons (tC (.int 0)) tNil)) tNil)) (tOp oSub (tVar 2) (tCB (uLen K) (tCons (tVar 5) tNil)))))
      [some (pQs K a), some (pQs K b), some (pI (n : Int)), none, none, some (pQs K l), none, none] (pQs K (pad l n)) := fun l hl hn => by
    refine den_re (den_op (r2 := pQs K (List.replicate (n - l.length) 0)) (den_var (i := 5) rfl) (den_re (den_op (r2 := pI ((n - l.length : Nat) : Int)) (den_lst (rs := [pQ K 0]) (den_cons den_mk0 den_nil) (by show 1 ≤ sizeLine; decide)) (den_re (den_op (den_var (i := 2) rfl) (den_callB (den_cons (den_var (i := 5) rfl) den_nil) cd_len) opd_I0) ?_) (opd_rep (by omega) (by omega) ?_)) ?_) (opd_cat ?_)) ?_
    · rw [List.length_map]
      show pI _ = pI _
      congr 2
      omega
    · rw [Int.toNat_natCast]
      refine Nat.le_trans (show [pQ K 0].length * (n - l.length) ≤ 100 from ?_) (by decide)
      show 1 * (n - l.length) ≤ 100
      omega
    · rw [Int.toNat_natCast, rep_one]
    · rw [List.length_map, List.length_map, List.length_replicate]
      exact Nat.le_trans (show _ ≤ 100 by omega) (by decide)
    · rw [← List.map_append]
      rfl
  refine tr_seqI (tr_asgG (r := pL [pQs K (pad a n), pQs K (pad b n)]) (den_re (den_map [a, b] (pQs K) (fun l => pQs K (pad l n)) (deni_tupR (den_tup (den_cons (den_var (i := 0) rfl) (den_cons (den_var (i := 1) rfl) den_nil)) (by show 2 ≤ sizeLine; decide))) (fun l hl => ⟨_, deng_name (by decide), one l ?_ nn⟩) (by show 2 ≤ sizeLine; decide)) rfl) (deng_lst2 (vs := [3, 4]) (by decide) (by decide))) ?_
  · rcases List.mem_cons.mp hl with z | z
    · rw [z]; exact na
    · rw [List.mem_singleton.mp z]; exact nb
  show Tr Z0 _ [some (pQs K a), some (pQs K b), some (pI (n : Int)), some (pQs K (pad a n)), some (pQs K (pad b n)), none, none, none] [] No _
  refine tr_ret (den_re (den_map ((pad a n).zip (pad b n)) (fun p => pT [pQ K p.1, pQ K p.2]) (fun p => pQ K (p.1 + p.2)) (deni_zip (f := pQ K) (g := pQ K) (den_cons (den_var (i := 3) rfl) (den_cons (den_var (i := 4) rfl) den_nil))) ?_ ?_) (pLm_map (pQ K) (fun p : Rat × Rat => p.1 + p.2) _))
  · intro p hp
    have m := List.of_mem_zip hp
    exact ⟨_, deng_tup2 (by decide) (by decide), den_op (den_var (i := 6) rfl) (den_var (i := 7) rfl) (opd_ownO (show C_Ratio_add K [pQ K p.1, pQ K p.2] (pQ K (p.1 + p.2)) from ⟨_, _, _, rfl, num_q _, sz_pad sa _ m.1, sz_pad sb _ m.2, rfl⟩))⟩
  · rw [List.length_zip]
    have : (pad a n).length = n := by unfold pad; rw [List.length_append, List.length_replicate]; omega
    exact Nat.le_trans (Nat.min_le_left _ _) (by rw [this]; exact Nat.le_trans nn (by decide))
theorem d_part_times (h : C_part_times K rs res) : Tr Z0 (t_part_times K) (startR ["part", "number", "here"] rs) [] No res := by
  obtain ⟨l, c, r, rfl, hr, hl, sl, sc, rfl⟩ := h
  exact tr_ret (den_re (den_map l (pQ K) (fun x => pQ K (x * c)) (deni_list (den_var (i := 0) rfl)) (fun x hx => ⟨_, deng_name (by decide), den_op (den_var (i := 2) rfl) (den_var (i := 1) rfl) (opd_ownX (show C_Ratio_mul K [pQ K x, r] (pQ K (x * c)) from ⟨_, _, _, rfl, hr, sl x hx, sc, rfl⟩) (num_or hr))⟩) (Nat.le_trans hl (by decide))) (pLm_map (pQ K) (fun x : Rat => x * c) l))
theorem putP_len (b s : Rat) : ∀ l : List Rat, (putP l b s).length = l.length
  | [] => rfl
  | a :: l => by
    rw [putP_cons]
    unfold putStep
    rw [psum_len, psum_len, List.length_cons, pscale_len, pscale_len, putP_len b s l, List.length_cons, List.length_cons, List.length_nil]
    omega
theorem putOk_drop {b s : Rat} : ∀ (k : Nat) {l : List Rat}, PutOk b s l → PutOk b s (l.drop k)
  | 0, _, h => h
  | _ + 1, [], h => h
  | k + 1, _ :: _, h => putOk_drop k h.1
theorem rev_drop {α : Type} {l : List α} {i : Nat} {x : α} (h : l.reverse[i]? = some x) : l.drop (l.length - (i + 1)) = x :: l.drop (l.length - i) ∧ i < l.length := by
  obtain ⟨hi, e⟩ := List.getElem?_eq_some_iff.mp h
  rw [List.length_reverse] at hi
  refine ⟨?_, hi⟩
  rw [List.getElem_reverse] at e
  rw [List.drop_eq_getElem_cons (by omega)]
  congr 1
  · rw [← e]; congr 1; omega
  · congr 1; omega
theorem d_put_part (h : C_put_part K rs res) : Tr Z0 (t_put_part K) (startR ["part", "by", "shift", "found", "number"] rs) [] No res := by
  obtain ⟨l, b, s, rb, rs', rfl, hb, hs, hl, sb, ss, ok, rfl⟩ := h
  refine tr_seqI (tr_asg (r := pQs K (putP (l.drop (l.length - 0)) b s)) (den_re (den_lst (rs := []) den_nil (Nat.zero_le _)) ?_)) ?_
  · rw [Nat.sub_zero, List.drop_length]
    rfl
  refine tr_seq (tr_for (vs := [4]) (deni_list (f := pQ K) (xs := l.reverse) (den_re (den_revL (den_var (i := 0) rfl)) (by rw [← List.map_reverse]))) (fun i ρ' ms' => ms' = [] ∧ ∃ a, ρ' = [some (pQs K l), some rb, some rs', some (pQs K (putP (l.drop (l.length - i)) b s)), a]) ⟨rfl, none, rfl⟩ ?_) ?_
  · intro i r hr
    obtain ⟨x, hx, rfl⟩ := map_get hr
    obtain ⟨ed, hi⟩ := rev_drop hx
    refine ⟨_, deng_name (by decide), ?_⟩
    rintro _ _ ⟨rfl, a, rfl⟩
    have ok1 := putOk_drop (l.length - (i + 1)) ok
    rw [ed] at ok1
    rw [ed, putP_cons]
    obtain ⟨_, s1, s2, s3, s4, s5⟩ := ok1
    have fl : (putP (l.drop (l.length - i)) b s).length ≤ 20 := by rw [putP_len, List.length_drop]; omega
    generalize putP (l.drop (l.length - i)) b s = found at s1 s2 s3 s4 fl ⊢
    have p1 : Den Z0 _ _ (pQs K (psum (0 :: pscale found b) (pscale found s))) := den_call (E := E0) (C := C_part_sum K) (ρ := [some (pQs K l), some rb, some rs', some (pQs K found), some (pQ K x)]) (den_cons (r := pQs K (0 :: pscale found b)) (den_re (den_op (r2 := pQs K (pscale found b)) (den_lst (rs := [pQ K 0]) (den_cons den_mk0 den_nil) (by show 1 ≤ sizeLine; decide)) (den_call (E := E0) (den_cons (den_var (i := 3) rfl) (den_cons (den_var (i := 1) rfl) den_nil)) (show C_part_times K [pQs K found, rb] (pQs K (pscale found b)) from ⟨_, _, _, rfl, hb, by omega, s1, sb, rfl⟩)) (opd_cat ?_)) rfl) (den_cons (den_call (E := E0) (den_cons (den_var (i := 3) rfl) (den_cons (den_var (i := 2) rfl) den_nil)) (show C_part_times K [pQs K found, rs'] (pQs K (pscale found s)) from ⟨_, _, _, rfl, hs, by omega, s1, ss, rfl⟩)) den_nil)) (show C_part_sum K [pQs K (0 :: pscale found b), pQs K (pscale found s)] _ from ⟨_, _, rfl, ?_, ?_, s2, s3, rfl⟩)
    · refine tr_imp (tr_asg (r := pQs K (putStep b s found x)) (den_call (den_cons p1 (den_cons (den_lst (rs := [pQ K x]) (den_cons (den_var (i := 4) rfl) den_nil) (by show 1 ≤ sizeLine; decide)) den_nil)) (show C_part_sum K [pQs K (psum (0 :: pscale found b) (pscale found s)), pQs K [x]] _ from ⟨_, _, rfl, ?_, ?_, s4, fun y hy => ?_, rfl⟩))) ?_
      · rw [psum_len, List.length_cons, pscale_len, pscale_len]; omega
      · show 1 ≤ 100; decide
      · rw [List.mem_singleton.mp hy]; exact s5
      · rintro _ _ ⟨rfl, rfl⟩
        exact ⟨rfl, _, rfl⟩
    · rw [List.length_map, pscale_len]
      exact Nat.le_trans (show [pQ K 0].length + found.length ≤ 100 from by show 1 + _ ≤ _; omega) (by decide)
    · rw [List.length_cons, pscale_len]; omega
    · rw [pscale_len]; omega
  · rw [List.length_map, List.length_reverse]
    rintro _ _ ⟨rfl, a, rfl⟩
    rw [Nat.sub_self, List.drop_zero]
    exact tr_ret (den_var (i := 3) rfl)
/-- a polynomial of whole numbers -/
def evI (n : Int) : List Int → Int
  | [] => 0
  | t :: ts => evI n ts * n + t
theorem evI_ev (n : Int) (b : Nat) : ∀ l : List Rat, (∀ x ∈ l, x.den ∣ b) → ((evI n (l.map fun x => x.num * ((b : Int) / (x.den : Int))) : Int) : Rat) = (b : Rat) * ev l (n : Rat)
  | [], _ => by
    show ((0 : Int) : Rat) = (b : Rat) * 0
    rw [Rat.mul_zero]; rfl
  | x :: l, h => by
    have ih := evI_ev n b l fun y m => h y (List.mem_cons_of_mem _ m)
    obtain ⟨c, hc⟩ := h x List.mem_cons_self
    have ed : (b : Int) / (x.den : Int) = (c : Int) := by
      rw [← Int.natCast_ediv, hc, Nat.mul_div_cancel_left _ x.den_pos]
    have eb : (b : Rat) = (x.den : Rat) * (c : Rat) := by rw [hc, Rat.natCast_mul]
    have ex : x * (x.den : Rat) = (x.num : Rat) := mul_den x
    show ((evI n _ * n + x.num * ((b : Int) / (x.den : Int)) : Int) : Rat) = (b : Rat) * (x + (n : Rat) * ev l (n : Rat))
    rw [Rat.intCast_add, Rat.intCast_mul, Rat.intCast_mul, ih, ed, ← ex]
    show (b : Rat) * ev l (n : Rat) * (n : Rat) + x * (x.den : Rat) * (c : Rat) = _
    grind
theorem bot_dvd {l : List Rat} {x : Rat} (h : x ∈ l) : x.den ∣ bot l := by
  obtain ⟨i, hi⟩ := List.getElem?_of_mem h
  have gen : ∀ (l : List Rat) (a : Nat), (a ∣ l.foldl (fun b x => Nat.lcm b x.den) a) ∧ ∀ x ∈ l, x.den ∣ l.foldl (fun b x => Nat.lcm b x.den) a := by
    intro l
    induction l with
    | nil => intro a; exact ⟨Nat.dvd_refl _, fun x h => nomatch h⟩
    | cons y t ih =>
      intro a
      obtain ⟨h1, h2⟩ := ih (Nat.lcm a y.den)
      refine ⟨Nat.dvd_trans (Nat.dvd_lcm_left _ _) h1, fun x hx => ?_⟩
      rcases List.mem_cons.mp hx with e | e
      · rw [e]; exact Nat.dvd_trans (Nat.dvd_lcm_right _ _) h1
      · exact h2 x e
  exact (gen l 1).2 x h
theorem d_worth_of (h : C_worth_of K rs res) : Tr Z0 (t_worth_of K) (startR ["part", "whole", "bottom", "tops", "found", "top"] rs) [] No res := by
  obtain ⟨l, n, rfl, hl, hb, hn, hz, rfl⟩ := h
  have bl : bot l < 2 ^ 60 := by have := hb l.length; rw [List.take_length] at this; exact this
  have eq : Rat.divInt (evI n (l.map fun x => x.num * ((bot l : Int) / (x.den : Int)))) (bot l : Int) = ev l (n : Rat) := by
    have e := evI_ev n (bot l) l fun x m => bot_dvd m
    rw [Rat.divInt_eq_div, e]
    have b0 : ((bot l : Int) : Rat) ≠ 0 := fun z => by
      have := Rat.intCast_inj.mp (z.trans (show (0 : Rat) = ((0 : Int) : Rat) from rfl))
      have := bot_pos l
      omega
    show (bot l : Rat) * ev l (n : Rat) / (bot l : Rat) = _
    have b0 : (bot l : Rat) ≠ 0 := b0
    grind
  have ts : ∀ t ∈ l.map (fun x => x.num * ((bot l : Int) / (x.den : Int))), t.natAbs < 2 ^ 4060 := by
    intro t ht
    obtain ⟨x, hx, rfl⟩ := List.mem_map.mp ht
    rw [Int.natAbs_mul, ← Int.natCast_ediv, Int.natAbs_natCast]
    have h1 := hn x hx
    have h2 : bot l / x.den ≤ 2 ^ 60 := Nat.le_trans (Nat.div_le_self _ _) (Nat.le_of_lt bl)
    calc x.num.natAbs * (bot l / x.den) ≤ x.num.natAbs * 2 ^ 60 := Nat.mul_le_mul_left _ h2
      _ < 2 ^ 4000 * 2 ^ 60 := Nat.mul_lt_mul_of_pos_right h1 (Nat.pow_pos (by decide))
      _ = 2 ^ 4060 := (Nat.pow_add 2 4000 60).symm
  refine tr_seqI (tr_asgG (den_call (den_cons (den_var (i := 0) rfl) den_nil) (show C_wholes K [pQs K l] _ from ⟨l, rfl, hl, hb, hn, rfl⟩)) (deng_tup2 (vs := [2, 3]) (by decide) (by decide))) ?_
  have tl : (l.map fun x => x.num * ((bot l : Int) / (x.den : Int))).length ≤ 8 := by rw [List.length_map]; exact hl
  have b0 := bot_pos l
  generalize bot l = B at b0 bl eq ts tl ⊢
  generalize (l.map fun x => x.num * ((B : Int) / (x.den : Int))) = tops at ts tl eq ⊢
  refine tr_seqI (tr_asg (r := pI (evI n (tops.drop (tops.length - 0)))) (den_re (den_v (v := .int 0)) (by rw [Nat.sub_zero, List.drop_length]; rfl))) ?_
  refine tr_seq (tr_for (vs := [5]) (deni_list (f := pI) (xs := tops.reverse) (den_re (den_revL (den_var (i := 3) rfl)) (by rw [← List.map_reverse]))) (fun i ρ' ms' => ms' = [] ∧ (evI n (tops.drop (tops.length - i))).natAbs < 2 ^ (4061 + 1002 * i) ∧ ∃ a, ρ' = [some (pQs K l), some (pI n), some (pI (B : Int)), some (pIs tops), some (pI (evI n (tops.drop (tops.length - i)))), a]) ⟨rfl, ?_, none, rfl⟩ ?_) ?_
  · rw [Nat.sub_zero, List.drop_length]
    show 0 < _
    exact Nat.pow_pos (by decide)
  · intro i r hr
    obtain ⟨t, hx, rfl⟩ := map_get hr
    obtain ⟨ed, hi⟩ := rev_drop hx
    have tm : t ∈ tops := List.mem_reverse.mp (List.mem_of_getElem? hx)
    refine ⟨_, deng_name (by decide), ?_⟩
    rintro _ _ ⟨rfl, fb, a, rfl⟩
    rw [ed]
    show Tr Z0 _ _ _ (fun ρ' ms' => ms' = [] ∧ (evI n (tops.drop (tops.length - i)) * n + t).natAbs < 2 ^ (4061 + 1002 * (i + 1)) ∧ ∃ a, ρ' = [some (pQs K l), some (pI n), some (pI (B : Int)), some (pIs tops), some (pI (evI n (tops.drop (tops.length - i)) * n + t)), a]) _
    generalize evI n (tops.drop (tops.length - i)) = f at fb ⊢
    refine tr_imp (tr_asg (r := pI (f * n + t)) (den_op (den_op (den_var (i := 4) rfl) (den_var (i := 1) rfl) (opd_I (wide_mul fb hz (by omega) (by decide) (by omega)))) (den_var (i := 5) rfl) opd_I0)) ?_
    rintro _ _ ⟨rfl, rfl⟩
    refine ⟨rfl, ?_, _, rfl⟩
    have h1 : (f * n).natAbs ≤ 2 ^ (4061 + 1002 * i) * 2 ^ 1000 := by rw [Int.natAbs_mul]; exact Nat.mul_le_mul (Nat.le_of_lt fb) (Nat.le_of_lt hz)
    rw [← Nat.pow_add] at h1
    have h2 := ts t tm
    have h3 : 2 ^ 4060 ≤ 2 ^ (4061 + 1002 * i + 1000) := Nat.pow_le_pow_right (by decide) (by omega)
    have h4 : (f * n + t).natAbs ≤ (f * n).natAbs + t.natAbs := Int.natAbs_add_le _ _
    have h5 : 2 ^ (4061 + 1002 * (i + 1)) = 2 ^ (4061 + 1002 * i + 1000) * 4 := by
      rw [show 4061 + 1002 * (i + 1) = 4061 + 1002 * i + 1000 + 2 by omega, Nat.pow_add]
    have h6 : 0 < 2 ^ (4061 + 1002 * i + 1000) := Nat.pow_pos (by decide)
    omega
  · rw [List.length_map, List.length_reverse, Nat.sub_self, List.drop_zero]
    rintro _ _ ⟨rfl, fb, a, rfl⟩
    rw [← eq]
    exact tr_ret (den_mk2 (by omega) (by rw [Int.natAbs_natCast]; exact Nat.lt_of_lt_of_le bl (Nat.pow_le_pow_right (by decide) (by decide))) (den_var (i := 4) rfl) (den_var (i := 2) rfl))
end
end W
set_option Elab.async false
set_option linter.all false
set_option maxRecDepth 100000
set_option maxHeartbeats 4000000
namespace W
open PySem L2 Dn HM PM
section
variable {K : PySem.W.Frag} {mg : Str → Option Value} {rs : List RP} {res : RP}
theorem d_are_parts (X : Fx K) (h : C_are_parts K rs res) : Tr Z0 (t_are_parts K) (startR ["value", "part", "number"] rs) [] No res := by
  obtain ⟨f, rfl, h1, h2, h3, rfl⟩ := h
  refine tr_seqI (tr_skip (dent_imp (dent_or (b := false) (c := false) (dent_not (dent_val (den_call (den_cons (den_var (i := 0) rfl) den_nil) (cl_list X _)))) fun _ => dent_imp (dent_not (dent_test (den_chain (den_v (v := .int 1)) (den_callB (den_cons (den_var (i := 0) rfl) den_nil) cd_len) (den_v (v := .int 60)) opd_I0 opd_I0))) fun b e => ?_) fun b e => e)) ?_
  · rw [e, List.length_map, decide_eq_true (show (1 : Int) ≤ (f.length : Int) by omega), decide_eq_true (show (f.length : Int) ≤ 60 by omega)]
    rfl
  refine tr_seqI (tr_skip (dent_not (dent_val (den_allT f (pQs K) (deni_list (den_var (i := 0) rfl)) (fun l hl => ⟨_, deng_name (by decide), ?_⟩) (sz (by omega)))))) ?_
  · refine den_re (den_andV (den_call (den_cons (den_var (i := 1) rfl) den_nil) (cl_list X _)) fun _ => den_op (den_callB (den_cons (den_var (i := 1) rfl) den_nil) cd_len) (den_v (v := .int 8)) opd_I0) ?_
    have := h3 l hl
    rw [List.length_map, decide_eq_true (show (l.length : Int) ≤ 8 by omega)]
    rfl
  · have el : ((f.map fun l : List Rat => l.map fun _ : Rat => pB true).flatten) = ((f.map fun l : List Rat => l.map fun _ : Rat => true).flatten).map pB := by
      rw [List.map_flatten, List.map_map]
      congr 1
      refine List.map_congr_left fun l _ => ?_
      show _ = (l.map fun _ => true).map pB
      rw [List.map_map]
      rfl
    have ea : ((f.map fun l : List Rat => l.map fun _ : Rat => true).flatten).all id = true := List.all_eq_true.mpr fun b hb => by
      obtain ⟨m, hm, hb⟩ := List.mem_flatten.mp hb
      obtain ⟨l, _, rfl⟩ := List.mem_map.mp hm
      obtain ⟨_, _, rfl⟩ := List.mem_map.mp hb
      rfl
    rw [← ea]
    refine tr_ret (den_callB (den_cons (den_re (den_lc2 f (pQs K) (fun l => l) (fun _ q => pQ K q) (fun _ _ => pB true) (deni_list (den_var (i := 0) rfl)) (fun l hl => ⟨_, deng_name (by decide), deni_list (den_var (i := 1) rfl), fun q hq => ⟨_, deng_name (by decide), den_call (den_cons (den_var (i := 2) rfl) den_nil) (show C_is_number K [pQ K q] (pB true) from ⟨q, _, rfl, num_q q, rfl⟩)⟩⟩) ?_) (congrArg pL el)) den_nil) cd_all)
    have gen : ∀ f : List (List Rat), (∀ l ∈ f, l.length ≤ 8) → ((f.map fun l : List Rat => l.map fun _ : Rat => pB true).flatten).length ≤ f.length * 8 := by
      intro f
      induction f with
      | nil => intro _; exact Nat.le_refl _
      | cons a t ih =>
        intro h
        rw [List.map_cons, List.flatten_cons, List.length_append, List.length_map, List.length_cons]
        have := h a List.mem_cons_self
        have := ih fun l m => h l (List.mem_cons_of_mem _ m)
        omega
    exact sz (Nat.le_trans (gen f h3) (by omega))
theorem parts_den {Z : Zx} {ρ : Rho} {i j l : Nat} {f : Parts} (hi : ρ[i]? = some (some (pPs K f))) (h1 : f.length ≤ 60) (h2 : ∀ l ∈ f, l.length ≤ 8) (hj : ∀ r, ((wipeR ρ [j]).set j (some r))[j]? = some (some r)) (hl : ∀ r s, ((wipeR ((wipeR ρ [j]).set j (some r)) [l]).set l (some s))[l]? = some (some s)) :
    Den Z (tLc (iList K (tVar i)) (gName j) tYes (tLc (iList K (tVar j)) (gName l) tYes (tCall (pureSp (C_ratio_of K)) [] E0 (tCons (tVar l) tNil)) [l]) [j]) ρ (pPs K f) :=
  den_re (den_map f (pQs K) (pQs K) (deni_list (den_var hi)) (fun p hp => ⟨_, deng_name (by simp), den_map p (pQ K) (pQ K) (deni_list (den_var (hj _))) (fun q hq => ⟨_, deng_name (by simp), den_call (den_cons (den_var (hl _ _)) den_nil) (show C_ratio_of K [pQ K q] (pQ K q) from ⟨q, _, rfl, num_q q, rfl⟩)⟩) (sz (Nat.le_trans (h2 p hp) (by decide)))⟩) (sz (by omega))) rfl
theorem d_Course_init (T : Txt K mg) (x dx : Addr) (rs : List RP) (fs : List (Str × RP)) (h : C_Course_init K rs fs) : Ti x (cC K) dx [] (t_Course_init K) (startR ["self", "parts", "part", "number"] (pRef x :: rs)) fs := by
  obtain ⟨f, rfl, h1, h2, h3, rfl⟩ := h
  unfold t_Course_init
  refine ti_pre (fun us => tr_skip (dent_not (dent_val (den_call (den_cons (den_var (i := 1) rfl) den_nil) (show C_are_parts K [pPs K f] (pB true) from ⟨f, rfl, h1, h2, h3, rfl⟩))))) ?_
  refine ti_last (r := pPs K (trimL (f.map strip))) rfl (fun us => ?_) T.c_Course T.n_own_parts (by show _ ∉ ([] : List Str); decide) (by show 0 < 1000; decide)
  exact den_call (den_cons (parts_den (f := f) rfl h2 h3 (fun _ => rfl) (fun _ _ => rfl)) den_nil) (show C_trimmed K [pPs K f] (pPs K (trimL (f.map strip))) from ⟨f, rfl, h2, (fun e => by rw [e] at h1; cases h1), fun l hl => Nat.le_trans (h3 l hl) (by decide), rfl⟩)
theorem den_parts (T : Txt K mg) {Z : Zx} {ρ : Rho} {i : Nat} {f : Parts} (h : ρ[i]? = some (some (pC K f))) : Den Z (tFld K (tVar i) "own_parts") ρ (pPs K f) := den_fld T.c_Course T.n_own_parts (den_var h) rfl
theorem d_Course_period (T : Txt K mg) (h : C_Course_period K rs res) : Tr Z0 (t_Course_period K) (startR ["self"] rs) [] No res := by
  obtain ⟨f, rfl, rfl⟩ := h
  exact tr_ret (den_re (den_callB (den_cons (den_parts T (i := 0) rfl) den_nil) cd_len) (by rw [List.length_map]))
theorem mx_mem : ∀ (f : Parts) (a : Nat), f.foldl (fun m l => max m l.length) a = a ∨ ∃ l ∈ f, f.foldl (fun m l => max m l.length) a = l.length
  | [], a => .inl rfl
  | x :: t, a => by
    rw [List.foldl_cons]
    rcases mx_mem t (max a x.length) with h | ⟨l, hl, h⟩
    · rw [h]
      rcases Nat.le_total a x.length with z | z
      · exact .inr ⟨x, List.mem_cons_self, Nat.max_eq_right z⟩
      · exact .inl (Nat.max_eq_left z)
    · exact .inr ⟨l, List.mem_cons_of_mem _ hl, h⟩
theorem d_Course_degree (T : Txt K mg) (h : C_Course_degree K rs res) : Tr Z0 (t_Course_degree K) (startR ["self", "part"] rs) [] No res := by
  obtain ⟨f, rfl, hne, hl, rfl⟩ := h
  refine tr_ret (den_op (r1 := pI (mx f : Int)) (den_callB (den_cons (den_re (den_map f (pQs K) (fun l => pI (l.length : Int)) (deni_list (den_parts T (i := 0) rfl)) (fun l hm => ⟨_, deng_name (by decide), den_re (den_callB (den_cons (den_var (i := 1) rfl) den_nil) cd_len) (by rw [List.length_map])⟩) (sz (by omega))) (pLm_map pI (fun l : List Rat => (l.length : Int)) f)) den_nil) (cd_maxL ?_ fun y hy => ?_)) (den_v (v := .int 1)) opd_I0)
  · rcases mx_mem f 0 with z | ⟨l, hm, z⟩
    · obtain ⟨l, hm⟩ := List.exists_mem_of_ne_nil f hne
      have h1 := mx_le hm
      have h2 : mx f = 0 := z
      exact List.mem_map.mpr ⟨l, hm, by omega⟩
    · have h2 : mx f = l.length := z
      exact List.mem_map.mpr ⟨l, hm, by omega⟩
  · obtain ⟨l, hm, rfl⟩ := List.mem_map.mp hy
    have := mx_le hm
    omega
theorem d_Course_at (T : Txt K mg) (X : Fx K) (h : C_Course_at K rs res) : Tr Z0 (t_Course_at K) (startR ["self", "whole"] rs) [] No res := by
  obtain ⟨f, n, rfl, hne, hl, ok, hn, rfl⟩ := h
  have p0 : 0 < f.length := List.length_pos_iff.mpr hne
  have m0 : 0 ≤ n % (f.length : Int) := Int.emod_nonneg _ (by omega)
  have m1 : n % (f.length : Int) < (f.length : Int) := Int.emod_lt_of_pos _ (by omega)
  have hr : (n % (f.length : Int)).toNat < f.length := by omega
  obtain ⟨k1, k2, k3⟩ := ok _ (getD_memP hr)
  refine tr_seqI (tr_skip (dent_not (dent_val (den_call (den_cons (den_var (i := 1) rfl) den_nil) (ci_int X n))))) ?_
  refine tr_ret (den_call (den_cons (den_op (r2 := pI (((n % (f.length : Int)).toNat : Nat) : Int)) (den_parts T (i := 0) rfl) (den_re (den_op (den_var (i := 1) rfl) (den_re (den_callB (den_cons (den_parts T (i := 0) rfl) den_nil) cd_len) (by rw [List.length_map])) (opd_I (C := fun _ j => 0 < j) (g := fun i j => .int (i % j)) (j := (f.length : Int)) (by omega))) ?_) (opd_row (f := pQs K) [] hr)) (den_cons (den_var (i := 1) rfl) den_nil)) (show C_worth_of K [pQs K (f.getD (n % (f.length : Int)).toNat []), pI n] (pQ K (cv f n)) from ⟨_, _, rfl, k1, k2, k3, hn, rfl⟩))
  show pI _ = pI _
  congr 2
  omega
theorem d_Course_eq (T : Txt K mg) (X : Fx K) (h : C_Course_eq K rs res) : Tr Z0 (t_Course_eq K) (startR ["self", "other"] rs) [] No res := by
  obtain ⟨f, g, rfl, rfl⟩ := h
  refine tr_seqI (tr_skip (dent_not (dent_val (den_callB (den_cons (den_var (i := 1) rfl) (den_cons den_v den_nil)) (cd_isi (kd_own T.c_Course X.kc) (.own _) X.cc))))) ?_
  exact tr_ret (den_op (den_parts T (i := 0) rfl) (den_parts T (i := 1) rfl) opd_eqF)
theorem d_want_course (T : Txt K mg) (X : Fx K) (h : C_want_course K rs res) : Tr Z0 (t_want_course K) (startR ["value"] rs) [] No res := by
  obtain ⟨f, rfl, rfl⟩ := h
  refine tr_seqI (tr_skip (dent_not (dent_val (den_callB (den_cons (den_var (i := 0) rfl) (den_cons den_v den_nil)) (cd_isi (kd_own T.c_Course X.kc) (.own _) X.cc))))) ?_
  exact tr_ret (den_var (i := 0) rfl)
theorem d_want_whole (X : Fx K) (h : C_want_whole K rs res) : Tr Z0 (t_want_whole K) (startR ["value"] rs) [] No res := by
  obtain ⟨n, rfl, rfl⟩ := h
  refine tr_seqI (tr_skip (dent_not (dent_val (den_call (den_cons (den_var (i := 0) rfl) den_nil) (ci_int X n))))) ?_
  exact tr_ret (den_var (i := 0) rfl)
theorem putF_one {f : Str} {u v : V} : putF f v [(f, u)] = [(f, v)] := by
  unfold putF
  rw [if_pos rfl]
theorem p_course_of (T : Txt K mg) {vs : List V} {H : Hp} {Q : VK} {E : XK} (h : spCourseOf K vs H Q E) : t_course_of K { nx := fun _ H' => Q .non H', rt := Q } (L2.start ["parts", "found"] vs) H := by
  obtain ⟨F, rs, r, ⟨f, rfl, hne, hl, hs, rfl⟩, s, hv, q⟩ := h
  have en0 : EnvOk F (L2.start ["parts", "found"] vs) (startR ["parts", "found"] [pPs K f]) := start_ok hv
  have hd : DenA Z0 (tCons (tLst (tCons (tLst tNil) tNil)) tNil) (startR ["parts", "found"] [pPs K f]) [pPs K [[]]] := den_cons (den_lst (rs := [pQs K []]) (den_cons (den_lst (rs := []) den_nil (Nat.zero_le _)) den_nil) (by show 1 ≤ sizeLine; decide)) den_nil
  unfold t_course_of tSeq tAsg tMake
  refine hd F H _ en0 (Ok.z0 s) _ ?_
  intro vs1 F1 H1 g1 k1 x1 x dx hx hdx hnx
  have hx' : (upd H1 dx (.own x)) x = none := by rw [upd_ne hnx.symm]; exact hx
  have g2 : Go0 F1 H1 F1 (upd (upd H1 dx (.own x)) x (.ins (cC K) dx [])) := (Go.new' hdx).trans (Go.new' hx')
  have s2 : Same F1 (upd (upd H1 dx (.own x)) x (.ins (cC K) dx [])) := same_new' (same_new' k1.fh hdx) hx'
  have hc : C_Course_init K [pPs K [[]]] [("own_parts", pPs K (trimL (([[]] : Parts).map strip)))] := ⟨[[]], rfl, by decide, by decide, fun l hl => by rw [List.mem_singleton.mp hl]; exact Nat.zero_le _, rfl⟩
  refine ⟨x, dx, F1, [pPs K [[]]], _, vs1 ++ [], rfl, upd_same, by rw [upd_ne hnx]; exact upd_same, k1.fh.free hx, s2, by rw [List.append_nil]; exact x1, hc, fun F2 H2 us g s3 fx hi hu => ⟨rfl, ?_⟩⟩
  generalize pPs K (trimL (([[]] : Parts).map strip)) = r0 at hi hu
  have en2 : EnvOk F2 ((L2.start ["parts", "found"] vs).set 1 (some (.ref x))) ((startR ["parts", "found"] [pPs K f]).set 1 (some (pRef x))) := ((en0.mono g1.ff).mono g.ff).set 1 rfl
  have ok2 : Ok (Zp x (insO (cC K) dx [("own_parts", r0)] us)) F2 H2 := ⟨s3, fun b e => by rw [show b = x from e]; exact fx, hi⟩
  have dt : Den (Zp x (insO (cC K) dx [("own_parts", r0)] us)) (tCall (pureSp (C_trimmed K)) [] E0 (tCons (tVar 0) tNil)) ((startR ["parts", "found"] [pPs K f]).set 1 (some (pRef x))) (pPs K (trimL (f.map strip))) := den_call (den_cons (den_var (i := 0) rfl) den_nil) (show C_trimmed K [pPs K f] _ from ⟨f, rfl, hl, hne, hs, rfl⟩)
  refine dt F2 H2 _ en2 ok2 _ fun v F3 H3 g3 k3 rv => ?_
  have en3 := en2.mono g3.ff
  obtain ⟨w, hw1, hw2⟩ := en3.at_ 1 _ rfl
  have hw2 : w = .ref x := hw2
  subst hw2
  have hx3 : H3 x = some (insO (cC K) dx [("own_parts", r0)] us) := k3.j
  have hu1 : us.length = 1 := hu.len
  obtain ⟨u, rfl⟩ : ∃ u, us = [u] := by
    match us, hu1 with
    | [u], _ => exact ⟨u, rfl⟩
  refine ⟨.ref x, hw1, x, cC K, dx, _, rfl, hx3, T.c_Course, T.n_own_parts, by show 1 < 1000; decide, ?_⟩
  refine ⟨.ref x, hw1, ?_⟩
  have eo : putF "own_parts" v ((([("own_parts", r0)] : List (Str × RP)).map Prod.fst).zip [u]) = ([("own_parts", v)] : List (Str × V)) := putF_one
  rw [eo]
  have fx3 : F3 x = none := k3.fr x rfl
  have s4 : Same F3 (upd H3 x (.ins (cC K) dx [("own_parts", v)])) := fun b o e => by
    have : b ≠ x := fun z => by rw [z, fx3] at e; cases e
    rw [upd_ne this]; exact k3.fh b o e
  have gb : Go (fun b => b = x) F1 (upd (upd H1 dx (.own x)) x (.ins (cC K) dx [])) F3 H3 := g.trans g3
  have g5 : Go0 F1 H1 F3 (upd H3 x (.ins (cC K) dx [("own_parts", v)])) := by
    refine ⟨gb.ff, fun b o _ e => ?_, fun b o e => ?_, fun b e => ?_⟩
    · have nb : b ≠ x := fun z => by rw [z, hx] at e; cases e
      rw [upd_ne nb]
      exact gb.hh b o nb (g2.hh b o (fun z => z) e)
    · rcases gb.gr b o e with z | z | z
      · exact .inl z
      · exact .inr (.inl (none_back (g2.dm b) z))
      · exact .inr (.inl (by rw [z]; exact hx))
    · by_cases z : b = x
      · rw [z, upd_same]; exact fun z => nomatch z
      · rw [upd_ne z]; exact gb.dm b (g2.dm b e)
  obtain ⟨a, b, c⟩ := freeze (Z := Z0) (o := .ins (cC K) dx [("own_parts", v)]) hx trivial g5 (Ok.z0 s4) fx3 upd_same
  exact q (.ref x) _ _ (g1.trans a) b.fh ⟨x, dx, [v], rfl, upd_same, (pPs K (trimL (f.map strip))).mono c rv, trivial⟩
end
end W
set_option Elab.async false
set_option linter.all false
set_option maxRecDepth 100000
set_option maxHeartbeats 4000000
namespace Dn
open PySem L2
theorem tr_par3 {Z : Zx} {ρ : Rho} {ms : List Mt} {R r1 r2 r3 : RP} {ta tc te : TE} {i j l : Nat} (h1 : Den Z ta ρ r1) (h2 : Den Z tc ρ r2) (h3 : Den Z te ρ r3) :
    Tr Z (tPar3 i j l (tCons ta (tCons tc (tCons te tNil)))) ρ ms (Is (((ρ.set i (some r1)).set j (some r2)).set l (some r3)) ms) R := fun F H σ s D q w =>
  h1 F H σ s.env s.ok _ fun v F1 H1 g1 k1 x1 => h2 F1 H1 σ (s.env.mono g1.ff) k1 _ fun u F2 H2 g2 k2 x2 => h3 F2 H2 σ (s.env.mono (g1.trans g2).ff) k2 _ fun t F3 H3 g3 k3 x3 => ⟨v, u, t, rfl, by
    have g13 := (g1.trans g2).trans g3
    have s2 := s.step g13 k3
    exact q F3 H3 _ _ _ ⟨rfl, rfl⟩ (go_t g13) ⟨((s2.env.set i (r1.mono (g2.trans g3).ff x1)).set j (r2.mono g3.ff x2)).set l x3, k3, s2.mu, s2.nz, s2.nd⟩ Sub.refl⟩
end Dn
namespace W
open PySem L2 Dn HM PM
section
variable {K : PySem.W.Frag} {mg : Str → Option Value} {rs : List RP} {res : RP}
theorem den_period {Z : Zx} {ρ : Rho} {i : Nat} {f : Parts} (h : ρ[i]? = some (some (pC K f))) : Den Z (tProp (He.ga K "Course") (pureSp (C_Course_period K)) [] E0 (tVar i)) ρ (pI (f.length : Int)) :=
  den_prop (fs := [("own_parts", pPs K f)]) (den_var h) (show C_Course_period K [pC K f] (pI (f.length : Int)) from ⟨f, rfl, rfl⟩)
theorem den_lcmP {Z : Zx} {ρ : Rho} {i j : Nat} {f g : Parts} (h1 : ρ[i]? = some (some (pC K f))) (h2 : ρ[j]? = some (some (pC K g))) (lf : f.length ≤ 60) (lg : g.length ≤ 60) :
    Den Z (tCB uLcm (tCons (tProp (He.ga K "Course") (pureSp (C_Course_period K)) [] E0 (tVar i)) (tCons (tProp (He.ga K "Course") (pureSp (C_Course_period K)) [] E0 (tVar j)) tNil))) ρ (pI ((Nat.lcm f.length g.length : Nat) : Int)) :=
  den_re (den_callB (den_cons (den_period h1) (den_cons (den_period h2) den_nil)) (cd_lcm (by rw [Int.natAbs_natCast]; exact Nat.lt_of_le_of_lt lf (by decide)) (by rw [Int.natAbs_natCast]; exact Nat.lt_of_le_of_lt lg (by decide)))) (by rw [Int.natAbs_natCast, Int.natAbs_natCast])
theorem den_modix {Z : Zx} {ρ : Rho} {i j : Nat} {f : Parts} {a : Nat} (h1 : ρ[i]? = some (some (pPs K f))) (h2 : ρ[j]? = some (some (pI (a : Int)))) (p0 : 0 < f.length) :
    Den Z (tOp (rIxL K) (tVar i) (tOp oMod (tVar j) (tCB (uLen K) (tCons (tVar i) tNil)))) ρ (pQs K (f.getD (a % f.length) [])) := by
  refine den_op (r2 := pI ((a % f.length : Nat) : Int)) (den_var h1) (den_re (den_op (den_var h2) (den_re (den_callB (den_cons (den_var h1) den_nil) cd_len) (by rw [List.length_map])) (opd_I (C := fun _ j => 0 < j) (g := fun i j => .int (i % j)) (j := (f.length : Int)) (by omega))) ?_) (opd_row (f := pQs K) [] (Nat.mod_lt _ p0))
  show pI _ = pI _
  congr 2
theorem getD_mem0 {f : Parts} {i : Nat} (P : List Rat → Prop) (h : ∀ l ∈ f, P l) (h0 : P []) : P (f.getD i []) := by
  rw [List.getD_eq_getElem?_getD]
  cases q : f[i]? with
  | none => exact h0
  | some x => exact h x (List.mem_of_getElem? q)
theorem d_sum_of (T : Txt K mg) (h : C_sum_of K rs res) : Tr Z0 (t_sum_of K) (startR ["one", "other", "period", "near", "far", "at"] rs) [] No res := by
  obtain ⟨f, g, rfl, pf, pg, hl, rfl⟩ := h
  have f0 : 0 < f.length := List.length_pos_iff.mpr pf.ne
  have g0 : 0 < g.length := List.length_pos_iff.mpr pg.ne
  have l0 : 0 < Nat.lcm f.length g.length := Nat.lcm_pos f0 g0
  refine tr_seqI (tr_asgG (den_tup (den_cons (den_lcmP (i := 0) (j := 1) rfl rfl pf.ct pg.ct) (den_cons (den_parts T (i := 0) rfl) (den_cons (den_parts T (i := 1) rfl) den_nil))) (by show 3 ≤ sizeLine; decide)) (deng_tup3 (vs := [2, 3, 4]) (by decide) (by decide) (by decide))) ?_
  unfold sumP
  generalize Nat.lcm f.length g.length = n at hl l0 ⊢
  show Tr Z0 _ [some (pC K f), some (pC K g), some (pI (n : Int)), some (pPs K f), some (pPs K g), none] [] No _
  refine tr_ret (den_call (C := C_course_of K) (den_cons (den_re (den_map (List.range n) (fun a : Nat => pI (a : Int)) (fun a => pQs K (psum (f.getD (a % f.length) []) (g.getD (a % g.length) []))) (deni_rngN (den_cons (den_var (i := 2) rfl) den_nil) (by omega)) (fun a ha => ⟨_, deng_name (by decide), den_call (den_cons (den_modix (i := 3) (j := 5) rfl rfl f0) (den_cons (den_modix (i := 4) (j := 5) rfl rfl g0) den_nil)) (show C_part_sum K [pQs K (f.getD (a % f.length) []), pQs K (g.getD (a % g.length) [])] _ from ⟨_, _, rfl, ?_, ?_, ?_, ?_, rfl⟩)⟩) (sz (by rw [List.length_range]; omega))) (pLm_map (pQs K) (fun a : Nat => psum (f.getD (a % f.length) []) (g.getD (a % g.length) [])) _)) den_nil) (show C_course_of K [pPs K _] _ from ⟨_, rfl, fun e => ?_, by rw [List.length_map, List.length_range]; exact hl, fun l hm => ?_, rfl⟩))
  · exact getD_mem0 (·.length ≤ 100) (fun l m => Nat.le_trans (pf.ln l m) (by decide)) (Nat.zero_le _)
  · exact getD_mem0 (·.length ≤ 100) (fun l m => Nat.le_trans (pg.ln l m) (by decide)) (Nat.zero_le _)
  · exact getD_mem0 Sz pf.sz fun _ m => nomatch m
  · exact getD_mem0 Sz pg.sz fun _ m => nomatch m
  · have := congrArg List.length e
    rw [List.length_map, List.length_range] at this
    exact absurd this (by show ¬ n = 0; omega)
  · obtain ⟨a, _, rfl⟩ := List.mem_map.mp hm
    rw [psum_len]
    exact Nat.max_le.mpr ⟨getD_mem0 (·.length ≤ 100) (fun l m => Nat.le_trans (pf.ln l m) (by decide)) (Nat.zero_le _), getD_mem0 (·.length ≤ 100) (fun l m => Nat.le_trans (pg.ln l m) (by decide)) (Nat.zero_le _)⟩
theorem szi {i : Int} (h : i.natAbs < 2 ^ 4000) : SzQ (i : Rat) := ⟨h, Nat.lt_of_lt_of_le (show (1 : Nat) < 2 ^ 1 by decide) (Nat.pow_le_pow_right (by decide) (by decide))⟩
theorem small_pow {n : Nat} (h : n < 2 ^ 20) (k : Nat) (hk : 20 ≤ k) : n < 2 ^ k := Nat.lt_of_lt_of_le h (Nat.pow_le_pow_right (by decide) hk)
theorem d_led_by (T : Txt K mg) (h : C_led_by K rs res) : Tr Z0 (t_led_by K) (startR ["course", "by", "shift", "parts", "period", "at"] rs) [] No res := by
  obtain ⟨f, b, s, rfl, pf, hb, hs, ok, rfl⟩ := h
  have f0 : 0 < f.length := List.length_pos_iff.mpr pf.ne
  have fc := pf.ct
  refine tr_seqI (tr_asg (den_parts T (i := 0) rfl)) ?_
  refine tr_seqI (tr_asg (r := pI (f.length : Int)) (den_re (den_callB (den_cons (den_var (i := 3) rfl) den_nil) cd_len) (by rw [List.length_map]))) ?_
  show Tr Z0 _ [some (pC K f), some (pI b), some (pI s), some (pPs K f), some (pI (f.length : Int)), none] [] No _
  have hmod : ∀ a : Nat, ((b * (a : Int) + s) % (f.length : Int)).toNat < f.length := fun a => by
    have h1 := Int.emod_nonneg (b * (a : Int) + s) (show (f.length : Int) ≠ 0 by omega)
    have h2 := Int.emod_lt_of_pos (b * (a : Int) + s) (show (0 : Int) < (f.length : Int) by omega)
    omega
  refine tr_ret (den_call (C := C_course_of K) (den_cons (den_re (den_map (List.range f.length) (fun a : Nat => pI (a : Int)) (fun a : Nat => pQs K (putP (f.getD ((b * (a : Int) + s) % (f.length : Int)).toNat []) (b : Rat) (s : Rat))) (deni_rngN (den_cons (den_var (i := 4) rfl) den_nil) (by omega)) (fun a ha => ⟨_, deng_name (by decide), den_call (den_cons (den_op (r2 := pI ((((b * (a : Int) + s) % (f.length : Int)).toNat : Nat) : Int)) (den_var (i := 3) rfl) (den_re (den_op (den_op (den_op (den_var (i := 1) rfl) (den_var (i := 5) rfl) (opd_I (wide_mul (a := 20) (b := 20) (by omega) ?_ (by decide) (by decide) (by decide)))) (den_var (i := 2) rfl) opd_I0) (den_var (i := 4) rfl) (opd_I (C := fun _ j => 0 < j) (g := fun i j => .int (i % j)) (by omega))) ?_) (opd_row (f := pQs K) [] (hmod a))) (den_cons (den_var (i := 1) rfl) (den_cons (den_var (i := 2) rfl) den_nil))) (show C_put_part K [pQs K (f.getD ((b * (a : Int) + s) % (f.length : Int)).toNat []), pI b, pI s] _ from ⟨_, _, _, _, _, rfl, num_i b, num_i s, Nat.le_trans (pf.ln _ (getD_memP (hmod a))) (by decide), szi (small_pow (by omega) _ (by decide)), szi (small_pow (by omega) _ (by decide)), ok _ (getD_memP (hmod a)), rfl⟩)⟩) (sz (by rw [List.length_range]; omega))) (pLm_map (pQs K) (fun a : Nat => putP (f.getD ((b * (a : Int) + s) % (f.length : Int)).toNat []) (b : Rat) (s : Rat)) _)) den_nil) (show C_course_of K [pPs K (ledP f b s)] _ from ⟨_, rfl, fun e => ?_, ?_, fun l hm => ?_, rfl⟩))
  · have := List.mem_range.mp ha
    rw [Int.natAbs_natCast]
    omega
  · show pI _ = pI _
    congr 2
    have h1 := Int.emod_nonneg (b * (a : Int) + s) (show (f.length : Int) ≠ 0 by omega)
    omega
  · have := congrArg List.length e
    unfold ledP at this
    rw [List.length_map, List.length_range] at this
    exact absurd this (by show ¬ f.length = 0; omega)
  · unfold ledP
    rw [List.length_map, List.length_range]
    exact fc
  · obtain ⟨a, _, rfl⟩ := List.mem_map.mp hm
    rw [putP_len]
    exact Nat.le_trans (pf.ln _ (getD_memP (hmod a))) (by decide)
theorem th_len (l : List Rat) : ∀ s : Nat, ((List.range s).foldl thStep ⟨[], [1], l⟩).found.length = s ∧ ((List.range s).foldl thStep ⟨[], [1], l⟩).base.length = s + 1 ∧ ((List.range s).foldl thStep ⟨[], [1], l⟩).left.length = l.length - s
  | 0 => ⟨rfl, rfl, rfl⟩
  | s + 1 => by
    obtain ⟨h1, h2, h3⟩ := th_len l s
    rw [List.range_succ, List.foldl_append]
    show (thStep ((List.range s).foldl thStep ⟨[], [1], l⟩) s).found.length = _ ∧ (thStep ((List.range s).foldl thStep ⟨[], [1], l⟩) s).base.length = _ ∧ (thStep ((List.range s).foldl thStep ⟨[], [1], l⟩) s).left.length = _
    generalize (List.range s).foldl thStep ⟨[], [1], l⟩ = st at h1 h2 h3 ⊢
    unfold thStep
    refine ⟨?_, ?_, ?_⟩
    · rw [psum_len, pscale_len, h1, h2]; omega
    · rw [pscale_len, psum_len, List.length_cons, pscale_len, h2]; omega
    · rw [List.length_map, List.length_zip, List.length_drop, h3]; omega
theorem inv_succ (s : Nat) : Rat.divInt 1 ((s : Int) + 1) = 1 / ((s : Rat) + 1) := by
  rw [Rat.divInt_eq_div, castS]
  rfl
theorem inv_size (s : Nat) (h : s < 100000) : SzQ (1 / ((s : Rat) + 1)) := by
  have e : (1 / ((s : Rat) + 1)) = 1 / ((s + 1 : Nat) : Rat) := by rw [natS]
  rw [e]
  exact (Cd.one_over (p := s + 1) (Nat.succ_pos s)).sz (Nat.succ_pos s) (small_pow (by omega) _ (by decide)) (small_pow (by decide) _ (by decide))
theorem d_part_through (h : C_part_through K rs res) : Tr Z0 (t_part_through K) (startR ["numbers", "found", "base", "left", "step", "near", "far"] rs) [] No res := by
  obtain ⟨l, rfl, hl, ok, rfl⟩ := h
  refine tr_seqI (tr_par3 (r1 := pQs K []) (r2 := pQs K [1]) (r3 := pQs K l) (den_lst (rs := []) den_nil (Nat.zero_le _)) (den_lst (rs := [pQ K 1]) (den_cons (den_re (den_mk1 (den_v (v := .int 1))) (by rw [show ((1 : Int) : Rat) = 1 from rfl])) den_nil) (by show 1 ≤ sizeLine; decide)) (den_var (i := 0) rfl)) ?_
  refine tr_seq (tr_for (vs := [4]) (deni_rngN (m := l.length) (den_cons (den_re (den_callB (den_cons (den_var (i := 0) rfl) den_nil) cd_len) (by rw [List.length_map])) den_nil) (by omega)) (fun s ρ' ms' => ms' = [] ∧ ∃ a4 a5 a6, ρ' = [some (pQs K l), some (pQs K ((List.range s).foldl thStep ⟨[], [1], l⟩).found), some (pQs K ((List.range s).foldl thStep ⟨[], [1], l⟩).base), some (pQs K ((List.range s).foldl thStep ⟨[], [1], l⟩).left), a4, a5, a6]) ⟨rfl, none, none, none, rfl⟩ ?_) ?_
  · intro s r hr
    obtain ⟨s', hx, rfl⟩ := map_get hr
    obtain ⟨hpl, hpe⟩ := List.getElem?_eq_some_iff.mp hx
    rw [List.getElem_range] at hpe
    subst hpe
    rw [List.length_range] at hpl
    refine ⟨_, deng_name (by decide), ?_⟩
    rintro _ _ ⟨rfl, a4, a5, a6, rfl⟩
    have e1 : (List.range (s + 1)).foldl thStep ⟨[], [1], l⟩ = thStep ((List.range s).foldl thStep ⟨[], [1], l⟩) s := by rw [List.range_succ, List.foldl_append]; rfl
    rw [e1]
    obtain ⟨l1, l2, l3⟩ := th_len l s
    obtain ⟨z1, z2, z3, z4, z5, z6⟩ := ok s hpl
    generalize (List.range s).foldl thStep ⟨[], [1], l⟩ = st at l1 l2 l3 z1 z2 z3 z4 z5 z6 ⊢
    obtain ⟨found, base, left⟩ := st
    have l1 : found.length = s := l1
    have l2 : base.length = s + 1 := l2
    have l3 : left.length = l.length - s := l3
    have q0 : SzQ (left.getD 0 0) := by
      have := get_getD (xs := left) (i := 0) (d := 0) (by omega)
      exact z3 _ (List.mem_of_getElem? this)
    refine tr_seqI (tr_asg (r := pQs K (psum found (pscale base (left.getD 0 0)))) (den_call (den_cons (den_var (i := 1) rfl) (den_cons (den_call (den_cons (den_var (i := 2) rfl) (den_cons (den_op (r2 := pI ((0 : Nat) : Int)) (den_var (i := 3) rfl) (den_v (v := .int 0)) (opd_row (f := pQ K) 0 (by omega))) den_nil)) (show C_part_times K [pQs K base, pQ K (left.getD 0 0)] (pQs K (pscale base (left.getD 0 0))) from ⟨_, _, _, rfl, num_q _, by omega, z2, q0, rfl⟩)) den_nil)) (show C_part_sum K [pQs K found, pQs K (pscale base (left.getD 0 0))] _ from ⟨_, _, rfl, by omega, by rw [pscale_len]; omega, z1, z4, rfl⟩))) ?_
    show Tr Z0 _ [some (pQs K l), some (pQs K (psum found (pscale base (left.getD 0 0)))), some (pQs K base), some (pQs K left), some (pI (s : Int)), a5, a6] [] _ _
    refine tr_seqI (tr_asg (r := pQs K (pscale (psum (0 :: base) (pscale base (((-(s : Int) : Int)) : Rat))) (1 / ((s : Rat) + 1)))) (den_call (den_cons (den_call (den_cons (r := pQs K (0 :: base)) (den_re (den_op (den_lst (rs := [pQ K 0]) (den_cons den_mk0 den_nil) (by show 1 ≤ sizeLine; decide)) (den_var (i := 2) rfl) (opd_cat ?_)) rfl) (den_cons (den_call (den_cons (den_var (i := 2) rfl) (den_cons (den_un (den_var (i := 4) rfl) und_neg) den_nil)) (show C_part_times K [pQs K base, pI (-(s : Int))] (pQs K (pscale base (((-(s : Int) : Int)) : Rat))) from ⟨_, _, _, rfl, num_i _, by omega, z2, szi (small_pow (by omega) _ (by decide)), rfl⟩)) den_nil)) (show C_part_sum K [pQs K (0 :: base), pQs K (pscale base (((-(s : Int) : Int)) : Rat))] (pQs K (psum (0 :: base) (pscale base (((-(s : Int) : Int)) : Rat)))) from ⟨_, _, rfl, by rw [List.length_cons]; omega, by rw [pscale_len]; omega, fun x hx => ?_, z5, rfl⟩)) (den_cons (den_re (den_mk2 (t := 1) (b := (s : Int) + 1) (by omega) (small_pow (by omega) _ (by decide)) (den_v (v := .int 1)) (den_op (den_var (i := 4) rfl) (den_v (v := .int 1)) opd_I0)) (by rw [inv_succ])) den_nil)) (show C_part_times K [pQs K (psum (0 :: base) (pscale base (((-(s : Int) : Int)) : Rat))), pQ K (1 / ((s : Rat) + 1))] _ from ⟨_, _, _, rfl, num_q _, by rw [psum_len, List.length_cons, pscale_len]; omega, z6, inv_size s (by omega), rfl⟩))) ?_
    · rw [List.length_map]
      exact sz (show [pQ K 0].length + base.length ≤ 100000 from by show 1 + _ ≤ _; omega)
    · rcases List.mem_cons.mp hx with e | e
      · rw [e]; exact szq0
      · exact z2 x e
    refine tr_imp (tr_asg (r := pQs K ((left.zip (left.drop 1)).map fun p => p.2 - p.1)) (den_re (den_map (left.zip (left.drop 1)) (fun p => pT [pQ K p.1, pQ K p.2]) (fun p => pQ K (p.2 - p.1)) (deni_zip (f := pQ K) (g := pQ K) (den_cons (den_var (i := 3) rfl) (den_cons (den_re (den_slice (den_var (i := 3) rfl) (deno_some (den_v (v := .int 1))) deno_none (sld_drop (k := 1))) (by rw [← List.map_drop])) den_nil))) (fun p hp => ⟨_, deng_tup2 (by decide) (by decide), den_op (den_var (i := 6) rfl) (den_var (i := 5) rfl) (opd_ownO (show C_Ratio_sub K [pQ K p.2, pQ K p.1] (pQ K (p.2 - p.1)) from ⟨_, _, _, rfl, num_q _, z3 _ (List.mem_of_mem_drop (List.of_mem_zip hp).2), z3 _ (List.of_mem_zip hp).1, rfl⟩))⟩) (sz (by rw [List.length_zip]; omega))) (pLm_map (pQ K) (fun p : Rat × Rat => p.2 - p.1) _))) ?_
    rintro _ _ ⟨rfl, rfl⟩
    exact ⟨rfl, _, _, _, rfl⟩
  · rw [List.length_map, List.length_range]
    rintro _ _ ⟨rfl, a4, a5, a6, rfl⟩
    exact tr_ret (den_var (i := 1) rfl)
end
end W
set_option Elab.async false
set_option linter.all false
set_option maxRecDepth 100000
set_option maxHeartbeats 4000000
namespace W
open PySem L2 Dn HM PM
section
variable {K : PySem.W.Frag} {mg : Str → Option Value} {rs : List RP} {res : RP}
theorem every_map {numbers : List Rat} {a p m : Nat} (hl : numbers.length = p * m) (ha : a < p) : everyL (numbers.map (pQ K)) a p m = (every numbers a p m).map (pQ K) := by
  unfold everyL every
  rw [List.map_map]
  have h : ∀ j ∈ List.range m, (numbers.map (pQ K))[a + p * j]? = some (pQ K (numbers.getD (a + p * j) 0)) := fun j hj => by
    have hj := List.mem_range.mp hj
    have : a + p * j < numbers.length := by
      rw [hl]
      calc a + p * j < p + p * j := by omega
        _ = p * (j + 1) := by rw [Nat.mul_succ, Nat.add_comm]
        _ ≤ p * m := Nat.mul_le_mul_left _ hj
    rw [List.getElem?_map, get_getD this (d := 0)]
    rfl
  generalize List.range m = l at h
  induction l with
  | nil => rfl
  | cons x t ih =>
    rw [List.filterMap_cons, h x List.mem_cons_self, List.map_cons, ih fun j hj => h j (List.mem_cons_of_mem _ hj)]
    rfl
theorem th_found_len (l : List Rat) : (through l).length = l.length := (th_len l l.length).1
theorem every_len {numbers : List Rat} {a p m : Nat} : (every numbers a p m).length = m := by
  unfold every
  rw [List.length_map, List.length_range]
theorem divI (a : Int) (p : Nat) : Rat.divInt a (p : Int) = (a : Rat) / (p : Rat) := by rw [Rat.divInt_eq_div]; rfl
theorem cd_frac {p : Nat} (hp : 0 < p) (a : Int) : Cd p a.natAbs ((a : Rat) / (p : Rat)) := by
  have h := (Cd.int a).mul (Cd.one_over hp)
  rw [Nat.one_mul, Nat.mul_one] at h
  have e : (a : Rat) * (1 / (p : Rat)) = (a : Rat) / (p : Rat) := by grind
  rw [e] at h
  exact h
theorem frac_sz {p : Nat} (hp : 0 < p) (h : p < 2 ^ 20) (a : Int) (ha : a.natAbs < 2 ^ 20) : SzQ ((a : Rat) / (p : Rat)) := (cd_frac hp a).sz hp (small_pow h _ (by decide)) (small_pow ha _ (by decide))
theorem d_grown_of (h : C_grown_of K rs res) : Tr Z0 (t_grown_of K) (startR ["period", "numbers", "parts", "at"] rs) [] No res := by
  obtain ⟨p, m, numbers, rfl, G, rfl⟩ := h
  have p1 := G.p1
  have p12 := G.p12
  have m1 := G.m1
  have m5 := G.m5
  refine tr_seq (tr_asgF (i := 2) (denf_lst (rs := []) den_nil (Nat.zero_le _))) ?_
  rintro _ _ ⟨q, rfl, rfl⟩
  refine tr_seq (tr_for (vs := [3]) (deni_rngN (m := p) (den_cons (den_var (i := 0) rfl) den_nil) (by omega)) (fun s ρ' ms' => (∃ a3, ρ' = [some (pI (p : Int)), some (pQs K numbers), some (pRef q), a3]) ∧ ms' = [⟨q, ((List.range s).map fun a => putP (through (every numbers a p m)) (1 / (p : Rat)) ((((-(a : Int) : Int)) : Rat) / (p : Rat))).map (pQs K)⟩]) ⟨⟨none, rfl⟩, rfl⟩ ?_) ?_
  · intro a r hr
    obtain ⟨a', hx, rfl⟩ := map_get hr
    obtain ⟨hpl, hpe⟩ := List.getElem?_eq_some_iff.mp hx
    rw [List.getElem_range] at hpe
    subst hpe
    rw [List.length_range] at hpl
    refine ⟨_, deng_name (by decide), ?_⟩
    rintro _ _ ⟨⟨a3, rfl⟩, rfl⟩
    refine tr_imp (tr_append (i := 2) (k := 0) (p := q) (r := pQs K (putP (through (every numbers a p m)) (1 / (p : Rat)) ((((-(a : Int) : Int)) : Rat) / (p : Rat)))) rfl rfl ?_ ?_) ?_
    · refine den_call (den_cons (r := pQs K (through (every numbers a p m))) (den_call (den_cons (r := pQs K (every numbers a p m)) (den_re (den_stepL (k := a) (p := p) (m := m) (den_var (i := 1) rfl) (deno_some (den_var (i := 3) rfl)) (deno_some (den_var (i := 0) rfl)) (by rw [List.length_map]; exact G.ln) (by omega) hpl (by omega)) (by rw [every_map G.ln hpl])) den_nil) (show C_part_through K [pQs K (every numbers a p m)] _ from ⟨_, rfl, by rw [every_len]; omega, G.th a hpl, rfl⟩)) (den_cons (den_re (den_mk2 (t := 1) (b := (p : Int)) (by omega) (small_pow (by omega) _ (by decide)) (den_v (v := .int 1)) (den_var (i := 0) rfl)) (by rw [divI])) (den_cons (den_re (den_mk2 (t := -(a : Int)) (b := (p : Int)) (by omega) (small_pow (by omega) _ (by decide)) (den_un (den_var (i := 3) rfl) und_neg) (den_var (i := 0) rfl)) (by rw [divI])) den_nil))) (show C_put_part K [pQs K (through (every numbers a p m)), pQ K (((1 : Int) : Rat) / (p : Rat)), pQ K ((((-(a : Int) : Int)) : Rat) / (p : Rat))] _ from ⟨_, _, _, _, _, rfl, num_q _, num_q _, by rw [th_found_len, every_len]; omega, frac_sz (by omega) (by omega) 1 (by decide), frac_sz (by omega) (by omega) _ (by omega), G.pt a hpl, rfl⟩)
    · rw [List.length_map, List.length_map, List.length_range]
      exact Nat.lt_of_lt_of_le (show a < 100 by omega) (by decide)
    · rintro _ _ ⟨rfl, rfl⟩
      refine ⟨⟨_, rfl⟩, ?_⟩
      rw [List.range_succ, List.map_append, List.map_append]
      rfl
  · rw [List.length_map, List.length_range]
    rintro _ _ ⟨⟨a3, rfl⟩, rfl⟩
    refine tr_freeze (i := 2) (k := 0) rfl rfl ?_
    refine tr_ret (den_call (C := C_course_of K) (den_cons (den_var (i := 2) rfl) den_nil) (show C_course_of K [pPs K (growParts p m numbers)] (pC K (grP p m numbers)) from ⟨_, rfl, fun e => ?_, ?_, fun l hm => ?_, rfl⟩))
    · have := congrArg List.length e
      unfold growParts at this
      rw [List.length_map, List.length_range] at this
      exact absurd this (by show ¬ p = 0; omega)
    · unfold growParts
      rw [List.length_map, List.length_range]
      omega
    · obtain ⟨a, _, rfl⟩ := List.mem_map.mp hm
      rw [putP_len, th_found_len, every_len]
      omega
theorem d_plus (T : Txt K mg) (h : C_plus K rs res) : Tr Z0 (t_plus K) (startR ["course", "other", "one", "two"] rs) [] No res := by
  obtain ⟨f, g, rfl, pf, pg, hl, rfl⟩ := h
  refine tr_seqI (tr_asg (den_call (den_cons (den_var (i := 0) rfl) den_nil) (show C_want_course K [pC K f] _ from ⟨f, rfl, rfl⟩))) ?_
  refine tr_seqI (tr_asg (den_call (den_cons (den_var (i := 1) rfl) den_nil) (show C_want_course K [pC K g] _ from ⟨g, rfl, rfl⟩))) ?_
  show Tr Z0 _ [some (pC K f), some (pC K g), some (pC K f), some (pC K g)] [] No _
  refine tr_seqI (tr_drop (den_call (den_cons (den_v (v := .str "period")) (den_cons (den_v (v := .int 60)) (den_cons (den_lcmP (i := 2) (j := 3) rfl rfl pf.ct pg.ct) den_nil))) (show C_want_at_most K [pV (.str "period"), pI 60, pI ((Nat.lcm f.length g.length : Nat) : Int)] pNon from ⟨_, _, _, rfl, by omega, rfl⟩))) ?_
  exact tr_ret (den_call (den_cons (den_var (i := 2) rfl) (den_cons (den_var (i := 3) rfl) den_nil)) (show C_sum_of K [pC K f, pC K g] _ from ⟨f, g, rfl, pf, pg, hl, rfl⟩))
theorem den_times (T : Txt K mg) {Z : Zx} {ρ : Rho} {i j : Nat} {tn : TE} {f : Parts} {c : Rat} {r : RP} (hi : ρ[i]? = some (some (pC K f))) (hj : ∀ s, ((wipeR ρ [j]).set j (some s))[j]? = some (some s)) (hn : ∀ s, Den Z tn ((wipeR ρ [j]).set j (some s)) r) (hr : Num K r c) (pf : Pt f) (sc : SzQ c) :
    Den Z (tCall (spCourseOf K) [] E0 (tCons (tLc (iList K (tFld K (tVar i) "own_parts")) (gName j) tYes (tCall (pureSp (C_part_times K)) [] E0 (tCons (tVar j) (tCons tn tNil))) [j]) tNil)) ρ (pC K (trimL ((f.map fun l => pscale l c).map strip))) :=
  den_call (C := C_course_of K) (den_cons (den_re (den_map f (pQs K) (fun l => pQs K (pscale l c)) (deni_list (den_parts T hi)) (fun l hl => ⟨_, deng_name (by simp), den_call (den_cons (den_var (hj _)) (den_cons (hn _) den_nil)) (show C_part_times K [pQs K l, r] _ from ⟨l, c, r, rfl, hr, Nat.le_trans (pf.ln l hl) (by decide), pf.sz l hl, sc, rfl⟩)⟩) (sz (Nat.le_trans pf.ct (by decide)))) (pLm_map (pQs K) (fun l => pscale l c) f)) den_nil)
    (show C_course_of K [pPs K (f.map fun l => pscale l c)] _ from ⟨_, rfl, fun e => pf.ne (List.map_eq_nil_iff.mp e), by rw [List.length_map]; exact pf.ct, fun l hm => by obtain ⟨x, hx, rfl⟩ := List.mem_map.mp hm; rw [pscale_len]; exact Nat.le_trans (pf.ln x hx) (by decide), rfl⟩)
theorem d_times (T : Txt K mg) (h : C_times K rs res) : Tr Z0 (t_times K) (startR ["course", "number", "told", "by", "part"] rs) [] No res := by
  obtain ⟨f, c, r, rfl, hr, pf, sc, rfl⟩ := h
  refine tr_seqI (tr_asg (den_call (den_cons (den_var (i := 0) rfl) den_nil) (show C_want_course K [pC K f] _ from ⟨f, rfl, rfl⟩))) ?_
  refine tr_seqI (tr_asg (den_call (den_cons (den_var (i := 1) rfl) den_nil) (show C_want_number K [r] (pQ K c) from ⟨c, r, rfl, hr, rfl⟩))) ?_
  show Tr Z0 _ [some (pC K f), some r, some (pC K f), some (pQ K c), none] [] No _
  exact tr_ret (den_times T (i := 2) (j := 4) rfl (fun _ => rfl) (fun _ => den_var (i := 3) rfl) (num_q c) pf sc)
theorem d_led (h : C_led K rs res) : Tr Z0 (t_led K) (startR ["course", "by", "shift", "told"] rs) [] No res := by
  obtain ⟨f, b, s, rfl, pf, hb, hs, ok, rfl⟩ := h
  refine tr_seqI (tr_asg (den_call (den_cons (den_var (i := 0) rfl) den_nil) (show C_want_course K [pC K f] _ from ⟨f, rfl, rfl⟩))) ?_
  exact tr_ret (den_call (den_cons (den_var (i := 3) rfl) (den_cons (den_call (den_cons (den_var (i := 1) rfl) den_nil) (show C_want_whole K [pI b] _ from ⟨b, rfl, rfl⟩)) (den_cons (den_call (den_cons (den_var (i := 2) rfl) den_nil) (show C_want_whole K [pI s] _ from ⟨s, rfl, rfl⟩)) den_nil))) (show C_led_by K [pC K f, pI b, pI s] _ from ⟨f, b, s, rfl, pf, hb, hs, ok, rfl⟩))
theorem d_difference (T : Txt K mg) (h : C_difference K rs res) : Tr Z0 (t_difference K) (startR ["course", "step", "told", "less", "part"] rs) [] No res := by
  obtain ⟨f, s, rfl, pf, hs, ok, p1, p2, hl, rfl⟩ := h
  refine tr_seqI (tr_asg (den_call (den_cons (den_var (i := 0) rfl) den_nil) (show C_want_course K [pC K f] _ from ⟨f, rfl, rfl⟩))) ?_
  refine tr_seqI (tr_asg (r := pC K (trS (f.map fun l => pscale l (-1)))) (den_times T (i := 2) (j := 4) (r := pI (-1)) rfl (fun _ => rfl) (fun _ => den_un (den_v (v := .int 1)) und_neg) (.inl ⟨-1, rfl, rfl⟩) pf (szi (i := -1) (small_pow (by decide) _ (by decide))))) ?_
  show Tr Z0 _ [some (pC K f), some (pI s), some (pC K f), some (pC K (trS (f.map fun l => pscale l (-1)))), none] [] No _
  exact tr_ret (den_call (den_cons (den_call (den_cons (den_var (i := 2) rfl) (den_cons (den_v (v := .int 1)) (den_cons (den_call (den_cons (den_var (i := 1) rfl) den_nil) (show C_want_whole K [pI s] _ from ⟨s, rfl, rfl⟩)) den_nil))) (show C_led_by K [pC K f, pI 1, pI s] (pC K (trS (ledP f 1 s))) from ⟨f, 1, s, rfl, pf, by decide, hs, ok, rfl⟩)) (den_cons (den_var (i := 3) rfl) den_nil)) (show C_sum_of K [pC K (trS (ledP f 1 s)), pC K (trS (f.map fun l => pscale l (-1)))] _ from ⟨_, _, rfl, p1, p2, hl, rfl⟩))
theorem d_are_grown (X : Fx K) (h : C_are_grown K rs res) : Tr Z0 (t_are_grown K) (startR ["period", "value", "number"] rs) [] No res := by
  obtain ⟨p, m, numbers, rfl, hp, hm, hl, hp2, rfl⟩ := h
  have em : (p * m) % p = 0 := Nat.mul_mod_right p m
  have ed : (p * m) / p = m := Nat.mul_div_cancel_left m hp
  refine tr_seqI (tr_skip (dent_imp (dent_or (b := false) (c := false) (dent_not (dent_val (den_call (den_cons (den_var (i := 1) rfl) den_nil) (cl_list X _)))) fun _ => dent_imp (dent_or (b := false) (c := false) (dent_imp (dent_test (den_op (den_op (r1 := pI ((p * m : Nat) : Int)) (den_re (den_callB (den_cons (den_var (i := 1) rfl) den_nil) cd_len) (by rw [List.length_map, hl])) (den_var (i := 0) rfl) (opd_I (C := fun _ j => 0 < j) (g := fun i j => .int (i % j)) (by omega))) (den_v (v := .int 0)) (opd_ne rfl))) fun b e => ?_) fun _ => dent_imp (dent_test (den_op (den_op (r1 := pI ((p * m : Nat) : Int)) (den_re (den_callB (den_cons (den_var (i := 1) rfl) den_nil) cd_len) (by rw [List.length_map, hl])) (den_var (i := 0) rfl) (opd_I (C := CDivA) (g := fun i j => .int (i.fdiv j)) ⟨by omega, Nat.lt_of_lt_of_le (log2_lt (k := 8) (by omega) (by decide)) (by decide)⟩)) (den_v (v := .int 5)) opd_I0)) fun b e => ?_) fun b e => e) fun b e => e)) ?_
  · rw [e, ← Int.natCast_emod, em]
    rfl
  · rw [e, Int.fdiv_eq_ediv_of_nonneg _ (Int.natCast_nonneg _), ← Int.natCast_ediv, ed, decide_eq_false (by omega)]
  have ln : numbers.length ≤ 60 := by
    rw [hl]
    exact Nat.mul_le_mul hp2 hm
  exact tr_ret (den_allT numbers (pQ K) (deni_list (den_var (i := 1) rfl)) (fun q hq => ⟨_, deng_name (by decide), den_call (den_cons (den_var (i := 2) rfl) den_nil) (show C_is_number K [pQ K q] (pB true) from ⟨q, _, rfl, num_q q, rfl⟩)⟩) (sz (by omega)))
theorem d_grown (X : Fx K) (h : C_grown K rs res) : Tr Z0 (t_grown K) (startR ["period", "numbers", "number"] rs) [] No res := by
  obtain ⟨p, m, numbers, rfl, G, rfl⟩ := h
  have p1 := G.p1
  have p12 := G.p12
  have ln : numbers.length ≤ 60 := by
    rw [G.ln]
    exact Nat.mul_le_mul p12 G.m5
  refine tr_seqI (tr_skip (dent_imp (dent_or (b := false) (c := false) (dent_not (dent_val (den_call (den_cons (den_var (i := 0) rfl) den_nil) (ci_int X _)))) fun _ => dent_imp (dent_not (dent_test (den_chain (den_v (v := .int 1)) (den_var (i := 0) rfl) (den_v (v := .int 12)) opd_I0 opd_I0))) fun b e => ?_) fun b e => e)) ?_
  · rw [e, decide_eq_true (show (1 : Int) ≤ (p : Int) by omega), decide_eq_true (show (p : Int) ≤ 12 by omega)]
    rfl
  refine tr_seqI (tr_skip (dent_not (dent_val (den_call (den_cons (den_var (i := 0) rfl) (den_cons (den_var (i := 1) rfl) den_nil)) (show C_are_grown K [pI (p : Int), pQs K numbers] (pB true) from ⟨p, m, numbers, rfl, p1, G.m5, G.ln, p12, rfl⟩))))) ?_
  exact tr_ret (den_call (den_cons (den_var (i := 0) rfl) (den_cons (r := pQs K numbers) (den_map numbers (pQ K) (pQ K) (deni_list (den_var (i := 1) rfl)) (fun q hq => ⟨_, deng_name (by decide), den_call (den_cons (den_var (i := 2) rfl) den_nil) (show C_ratio_of K [pQ K q] (pQ K q) from ⟨q, _, rfl, num_q q, rfl⟩)⟩) (sz (by omega))) den_nil)) (show C_grown_of K [pI (p : Int), pQs K numbers] _ from ⟨p, m, numbers, rfl, G, rfl⟩))
theorem mx_bound {f : Parts} {n : Nat} (h : ∀ l ∈ f, l.length ≤ n) : mx f ≤ n := by
  rcases mx_mem f 0 with z | ⟨l, hm, z⟩
  · have h2 : mx f = 0 := z
    omega
  · have h2 : mx f = l.length := z
    have := h l hm
    omega
theorem d_is_whole_of (h : C_is_whole_of K rs res) : Tr Z0 (t_is_whole_of K) (startR ["course", "whole"] rs) [] No res := by
  obtain ⟨f, rfl, hne, hl, ok, rfl⟩ := h
  have hm : mx f ≤ 8 := mx_bound fun l hl => (ok l hl).1
  have hb : f.length * mx f ≤ 480 := Nat.mul_le_mul hl hm
  refine tr_ret (den_all (List.range (f.length * mx f)) (fun n : Nat => pI (n : Int)) (fun n => decide ((cv f (n : Int)).den = 1)) (deni_rngN (m := f.length * mx f) (den_cons (den_re (den_op (den_period (i := 0) rfl) (den_op (den_prop (fs := [("own_parts", pPs K f)]) (den_var (i := 0) rfl) (show C_Course_degree K [pC K f] _ from ⟨f, rfl, hne, hl, rfl⟩)) (den_v (v := .int 1)) opd_I0) (opd_I (wide_mul (a := 20) (b := 20) (by omega) (by omega) (by decide) (by decide) (by decide)))) ?_) den_nil) (by omega)) (fun n hn => ⟨_, deng_name (by decide), ?_⟩) (sz (by rw [List.length_range]; omega)))
  · show pI _ = pI _
    congr 2
    rw [Int.sub_add_cancel, Int.natCast_mul]
  · have hn := List.mem_range.mp hn
    exact den_prop (fs := [("own_top", pI (cv f (n : Int)).num), ("own_bottom", pI ((cv f (n : Int)).den : Int))]) (den_meth (fs := [("own_parts", pPs K f)]) (den_var (i := 0) rfl) (by show ((["own_parts"] : List Str).contains "at") = false; decide) (den_cons (den_var (i := 1) rfl) den_nil) (show C_Course_at K [pC K f, pI (n : Int)] (pQ K (cv f (n : Int))) from ⟨f, _, rfl, hne, hl, ok, small_pow (by omega) _ (by decide), rfl⟩)) (show C_Ratio_is_whole K [pQ K (cv f (n : Int))] _ from ⟨_, rfl, rfl⟩)
theorem d_is_whole_course (h : C_is_whole_course K rs res) : Tr Z0 (t_is_whole_course K) (startR ["course"] rs) [] No res := by
  obtain ⟨f, rfl, hne, hl, ok, rfl⟩ := h
  exact tr_ret (den_call (den_cons (den_call (den_cons (den_var (i := 0) rfl) den_nil) (show C_want_course K [pC K f] _ from ⟨f, rfl, rfl⟩)) den_nil) (show C_is_whole_of K [pC K f] _ from ⟨f, rfl, hne, hl, ok, rfl⟩))
end
end W
set_option Elab.async false
set_option linter.all false
set_option maxRecDepth 100000
set_option maxHeartbeats 4000000
namespace Dn
open PySem L2
/-! expressions that look into an own list -/
def DenM (Z : Zx) (te : TE) (ρ : Rho) (ms : List Mt) (r : RP) : Prop :=
  ∀ F H σ, S8 Z F H σ ρ ms → ∀ Q : VK, (∀ v F' H', Go Z.T F H F' H' → Ok Z F' H' → r.R F' v → Q v H') → te σ H Q
def DenAM (Z : Zx) (ta : TA) (ρ : Rho) (ms : List Mt) (rs : List RP) : Prop :=
  ∀ F H σ, S8 Z F H σ ρ ms → ∀ Q : List V → Hp → Prop, (∀ vs F' H', Go Z.T F H F' H' → Ok Z F' H' → Vrs F' vs rs → Q vs H') → ta σ H Q
def DenTM (Z : Zx) (tt : TT) (ρ : Rho) (ms : List Mt) (P : Bool → Prop) : Prop :=
  ∀ F H σ, S8 Z F H σ ρ ms → ∀ Q : Bool → Hp → Prop, (∀ b F' H', Go Z.T F H F' H' → Ok Z F' H' → P b → Q b H') → tt σ H Q
section
variable {Z : Zx} {ρ : Rho} {ms : List Mt} {ta tb te tc : TE} {tas : TA} {tt : TT} {r r1 r2 R : RP} {rs : List RP} {K : PySem.W.Frag} {C : List RP → RP → Prop} {E : XK} {P : Bool → Prop}
theorem denM_of (h : Den Z te ρ r) : DenM Z te ρ ms r := fun F H σ s Q q => h F H σ s.env s.ok Q q
theorem denM_ix {i n k : Nat} {p : Addr} {tj : TE} (hi : ρ[i]? = some (some (pRef p))) (hk : ms[k]? = some ⟨p, rs⟩) (hj : Den Z tj ρ (pI (n : Int))) (hn : rs[n]? = some r) : DenM Z (tOp (rIxL K) (tVar i) tj) ρ ms r := fun F H σ s Q q => by
  obtain ⟨v, h1, h2⟩ := s.env.at_ i _ hi
  have e2 : v = .ref p := h2
  subst e2
  refine ⟨.ref p, h1, ?_⟩
  refine hj F H σ s.env s.ok _ fun y F1 H1 g1 k1 ey => ?_
  have ey : y = .int (n : Int) := ey
  subst ey
  have s1 := s.step g1 k1
  obtain ⟨fp, vs, hp, hv⟩ := s1.mu _ (List.mem_of_getElem? hk)
  have hp : H1 p = some (.lst vs) := hp
  obtain ⟨v, hvn, hr⟩ := hv.get hn
  exact ⟨p, vs, (n : Int), v, rfl, rfl, SqL.of hp, at_of rfl hvn, q v F1 H1 g1 k1 hr⟩
theorem denM_op {op : R2} (ha : DenM Z ta ρ ms r1) (hb : DenM Z tb ρ ms r2) (ho : OpD op r1 r2 r) : DenM Z (tOp op ta tb) ρ ms r := fun F H σ s Q q =>
  ha F H σ s _ fun x F1 H1 g1 k1 x1 => hb F1 H1 σ (s.step g1 k1) _ fun y F2 H2 g2 k2 x2 => ho F2 H2 x y k2.fh (r1.mono g2.ff x1) x2 _ fun v F3 H3 g3 s3 x3 => by
    obtain ⟨g3', k3⟩ := k2.step g3 s3
    exact q v F3 H3 ((g1.trans g2).trans g3') k3 x3
theorem denM_nil : DenAM Z tNil ρ ms [] := fun F H σ s Q q => q [] F H (Go.refl F H) s.ok trivial
theorem denM_cons (ha : DenM Z ta ρ ms r) (hs : DenAM Z tas ρ ms rs) : DenAM Z (tCons ta tas) ρ ms (r :: rs) := fun F H σ s Q q =>
  ha F H σ s _ fun x F1 H1 g1 k1 x1 => hs F1 H1 σ (s.step g1 k1) _ fun xs F2 H2 g2 k2 x2 => q (x :: xs) F2 H2 (g1.trans g2) k2 ⟨r.mono g2.ff x1, x2⟩
theorem denM_call (ha : DenAM Z tas ρ ms rs) (hc : C rs r) : DenM Z (tCall (pureSp C) [] E tas) ρ ms r := fun F H σ s Q q =>
  ha F H σ s _ fun vs F1 H1 g1 k1 x1 => by
    rw [List.append_nil]
    exact pure_call k1 x1 hc fun v F' H' g k rv => q v F' H' (g1.trans g) k rv
theorem dentM_test {b : Bool} (ha : DenM Z ta ρ ms (pB b)) : DenTM Z (tTest ta) ρ ms (· = b) := fun F H σ s Q q =>
  ha F H σ s _ fun v F1 H1 g1 k1 e => ⟨b, e, q b F1 H1 g1 k1 rfl⟩
theorem denM_if (ht : DenTM Z tt ρ ms P) (h1 : P true → DenM Z ta ρ ms r) (h2 : P false → DenM Z tb ρ ms r) : DenM Z (tIf tt ta tb) ρ ms r := fun F H σ s Q q =>
  ht F H σ s _ fun b F1 H1 g1 k1 p => by
    have s1 := s.step g1 k1
    cases b with
    | true => rw [if_pos rfl]; exact h1 p F1 H1 σ s1 Q fun v F' H' g k rv => q v F' H' (g1.trans g) k rv
    | false => rw [if_neg Bool.false_ne_true]; exact h2 p F1 H1 σ s1 Q fun v F' H' g k rv => q v F' H' (g1.trans g) k rv
theorem tr_asgM {i : Nat} (h : DenM Z te ρ ms r) : Tr Z (tAsg te (gName i)) ρ ms (Is (ρ.set i (some r)) ms) R := fun F H σ s D q w =>
  h F H σ s _ fun v F1 H1 g1 k1 r1 => by
    have s1 := s.step g1 k1
    exact q F1 H1 _ _ ms ⟨rfl, rfl⟩ (go_t g1) ⟨s1.env.set i r1, s1.ok, s1.mu, s1.nz, s1.nd⟩ Sub.refl
theorem tr_setAtM {i k : Nat} {p : Addr} {z : Int} {j : Nat} (hi : ρ[i]? = some (some (pRef p))) (hk : ms[k]? = some ⟨p, rs⟩) (h : DenM Z te ρ ms r) (hx : Den Z tc ρ (pI z)) (hj : ixN rs.length z = some j) :
    Tr Z (tAsg te (gSub (tVar i) tc rSetL)) ρ ms (Is ρ (ms.set k ⟨p, rs.set j r⟩)) R := fun F H σ s D q w => by
  refine h F H σ s _ fun y F1 H1 g1 k1 x1 => ?_
  have s1 := s.step g1 k1
  obtain ⟨v, h1, h2⟩ := s1.env.at_ i _ hi
  have e2 : v = .ref p := h2
  subst e2
  refine ⟨.ref p, h1, ?_⟩
  refine hx F1 H1 σ s1.env k1 _ fun zi F2 H2 g2 k2 ez => ?_
  have s2 := s1.step g2 k2
  obtain ⟨_, vs1, hp1, hv1⟩ := s2.mu _ (List.mem_of_getElem? hk)
  have hp1 : H2 p = some (.lst vs1) := hp1
  obtain ⟨g3, s3⟩ := s2.wr (vs := vs1.set j y) (rs1 := rs.set j r) hk (Vrs.set (r.mono g2.ff x1) j hv1)
  exact ⟨p, vs1, z, j, rfl, ez, hp1, by rw [hv1.len]; exact hj, q F2 _ σ ρ _ ⟨rfl, rfl⟩ ((go_t (g1.trans g2)).trans g3) s3 (sub_set hk)⟩
/-- a, b = (x, a new list) -/
theorem tr_tup2F {i j : Nat} (h1 : Den Z ta ρ r1) (h2 : DenF Z te ρ rs) : Tr Z (tAsg (tTup (tCons ta (tCons te tNil))) (gTup K 2 (gCons (gName i) (gCons (gName j) gNil)))) ρ ms (fun ρ' ms' => ∃ p, ρ' = (ρ.set i (some r1)).set j (some (pRef p)) ∧ ms' = ⟨p, rs⟩ :: ms) R := fun F H σ s D q w =>
  h1 F H σ s.env s.ok _ fun v F1 H1 g1 k1 x1 => h2 F1 H1 σ (s.env.mono g1.ff) k1 _ fun p vs F2 H2 hp g2 k2 fp ho hv => ⟨show 2 ≤ sizeLine by decide, fun t ht => by
    have gt : Go0 F2 H2 F2 (upd H2 t (.tup [v, .ref p])) := Go.new' ht
    obtain ⟨g3, k3⟩ := k2.step gt (same_new' k2.fh ht)
    have g13 := (g1.trans g2).trans g3
    have s2 := s.step g13 k3
    have hp0 : H p = none := none_back (g1.dm p) hp
    have pt : p ≠ t := fun e => by rw [e, ht] at ho; cases ho
    refine ⟨t, [v, .ref p], rfl, SqT.of upd_same, rfl, v, [.ref p], rfl, .ref p, [], rfl, rfl, ?_⟩
    refine q F2 _ _ _ _ ⟨p, rfl, rfl⟩ (go_t g13) ⟨(s2.env.set i (r1.mono g2.ff x1)).set j rfl, k3, fun m hm => ?_, fun m hm => ?_, ?_⟩ fun m hm => ?_
    · rcases List.mem_cons.mp hm with e | e
      · rw [e]; exact ⟨fp, vs, by rw [upd_ne pt]; exact ho, hv⟩
      · exact s2.mu m e
    · rcases List.mem_cons.mp hm with e | e
      · rw [e]; exact fun t => Z.has s.ok.j t hp0
      · exact s2.nz m e
    · rw [List.map_cons, List.nodup_cons]
      refine ⟨fun z => ?_, s2.nd⟩
      obtain ⟨m, hm, e⟩ := List.mem_map.mp z
      obtain ⟨_, us, h2, _⟩ := s.mu m hm
      rw [e, hp0] at h2
      cases h2
    · rcases List.mem_cons.mp hm with e | e
      · rw [e]; exact .inr hp0
      · exact .inl (List.mem_map_of_mem e)⟩
end
/-! draws -/
def Zpot (p : Addr) : Zx := ⟨fun b => b = p, fun H => ∃ a b : Int, H p = some (.lst [.int a, .int b]) ∧ 0 ≤ a ∧ 0 ≤ b ∧ b < 4294967296, fun h ⟨a, b, e, z⟩ => ⟨a, b, by rw [h p rfl]; exact e, z⟩, fun {H c} ⟨a, b, e, _⟩ t => by rw [t, e]; exact fun z => nomatch z⟩
section
variable {Z : Zx} {ρ : Rho} {te : TE} {tas : TA} {r r1 : RP} {rs : List RP} {K : PySem.W.Frag} {C : List RP → RP → Prop} {E : XK} {α : Type} {P : α → Prop} {f g : α → RP} {op : R2}
theorem opd_X2 (h : ∀ x, P x → OpD op r1 (f x) (g x)) : OpD op r1 (pX P f) (pX P g) := fun F H x y s hx ⟨z, p, hz⟩ Q q => h z p F H x y s hx hz Q fun v F' H' g' s' rv => q v F' H' g' s' ⟨z, p, rv⟩
theorem opd_X1 (h : ∀ x, P x → OpD op (f x) r1 (g x)) : OpD op (pX P f) r1 (pX P g) := fun F H x y s ⟨z, p, hz⟩ hy Q q => h z p F H x y s hz hy Q fun v F' H' g' s' rv => q v F' H' g' s' ⟨z, p, rv⟩
theorem vrs_X {β : Type} {F : Hp} : ∀ {xs : List β} {vs : List V}, Vrs F vs (xs.map fun _ => pX P f) → ∃ l : List α, l.length = xs.length ∧ (∀ x ∈ l, P x) ∧ Vrs F vs (l.map f)
  | [], [], _ => ⟨[], rfl, (fun _ h => nomatch h), trivial⟩
  | _ :: xs, v :: vs, ⟨⟨a, pa, ra⟩, h⟩ => by
    obtain ⟨l, l1, l2, l3⟩ := vrs_X (xs := xs) h
    refine ⟨a :: l, by rw [List.length_cons, List.length_cons, l1], fun x m => ?_, ra, l3⟩
    rcases List.mem_cons.mp m with e | e
    · rw [e]; exact pa
    · exact l2 x e
  | [], _ :: _, h => h.elim
  | _ :: _, [], h => h.elim
theorem plx {β : Type} {xs : List β} : ∀ F v, (pLm (fun _ : β => pX P f) xs).R F v → (pX (fun l : List α => l.length = xs.length ∧ ∀ x ∈ l, P x) (pLm f)).R F v := fun F v ⟨a, vs, e, h, hv⟩ => by
  obtain ⟨l, l1, l2, l3⟩ := vrs_X hv
  exact ⟨l, ⟨l1, l2⟩, a, vs, e, h, l3⟩
/-- an own list of unknown ones -/
theorem tr_openM {β : Type} {ts : TS} {ms : List Mt} {N : Rho → List Mt → Prop} {R : RP} {q : Addr} {xs : List β} (a : ∀ l : List α, l.length = xs.length → (∀ x ∈ l, P x) → Tr Z ts ρ (⟨q, l.map f⟩ :: ms) N R) : Tr Z ts ρ (⟨q, xs.map fun _ => pX P f⟩ :: ms) N R := fun F H σ s D h w => by
  obtain ⟨fq, vs, hq, hv⟩ := s.mu _ List.mem_cons_self
  obtain ⟨l, l1, l2, l3⟩ := vrs_X hv
  refine a l l1 l2 F H σ ⟨s.env, s.ok, fun m hm => ?_, fun m hm => ?_, s.nd⟩ D h w
  · rcases List.mem_cons.mp hm with e | e
    · rw [e]; exact ⟨fq, vs, hq, l3⟩
    · exact s.mu m (List.mem_cons_of_mem _ e)
  · rcases List.mem_cons.mp hm with e | e
    · rw [e]; exact s.nz ⟨q, xs.map fun _ => pX P f⟩ List.mem_cons_self
    · exact s.nz m (List.mem_cons_of_mem _ e)
theorem den_rngX {h : α → Int} {tn : TE} {tg : TG} {tt : TT} {vs : List Nat} (hn : Den Z tn ρ (pX P fun a => pI (h a))) (k : ∀ x, P x → Den Z (tLc (iRng1 (tCons (tC (.int (h x))) tNil)) tg tt te vs) ρ r) : Den Z (tLc (iRng1 (tCons tn tNil)) tg tt te vs) ρ r := fun F H σ env ok Q q =>
  hn F H σ env ok _ fun v F1 H1 g1 k1 ⟨x, px, ev⟩ => by
    have ev : v = .int (h x) := ev
    subst ev
    exact k x px F1 H1 σ (env.mono g1.ff) k1 Q fun v F' H' g' k' rv => q v F' H' (g1.trans g') k' rv
theorem den_pot {p : Addr} {i : Nat} (hi : ρ[i]? = some (some (pRef p))) (ha : DenA (Zpot p) tas ρ rs) (hc : C rs r) : Den (Zpot p) (tCall (potSp C) [] E (tCons (tVar i) tas)) ρ r := fun F H σ env ok Q q => by
  obtain ⟨w, e1, e2⟩ := env.at_ i _ hi
  have e2 : w = .ref p := e2
  subst e2
  refine ⟨_, e1, ha F H σ env ok _ fun vs F1 H1 g1 k1 hv => ?_⟩
  obtain ⟨a, b, ep, h1, h2, h3⟩ := k1.j
  refine ⟨F1, p, a, b, vs ++ [], rs, r, rfl, k1.fh, k1.fr p rfl, ep, h1, h2, h3, by rw [List.append_nil]; exact hv, hc, fun v F' H' a' b' g s fp hp ha' hb' hb2' rv => ?_⟩
  exact q v F' H' (g1.trans g) ⟨s, fun c t => by rw [show c = p from t]; exact fp, a', b', hp, ha', hb', hb2'⟩ rv
theorem pot_of {N : List Str} {t : TS} {vs : List V} {H : Hp} {Q : VK} (h : potSp C vs H Q E) (k : ∀ p rs r, C rs r → Tr (Zpot p) t (startR N (pRef p :: rs)) [] No r) : t { nx := fun _ H' => Q .non H', rt := Q } (L2.start N vs) H := by
  obtain ⟨F, p, a, b, ws, rs, r, rfl, s, fp, hp, ha, hb, hb2, hv, hc, q⟩ := h
  refine k p rs r hc F H _ ⟨start_ok (vs := V.ref p :: ws) (rs := pRef p :: rs) ⟨rfl, hv⟩, ⟨s, fun c t => by rw [show c = p from t]; exact fp, a, b, hp, ha, hb, hb2⟩, (fun _ h => nomatch h), (fun _ h => nomatch h), List.nodup_nil⟩ _ (fun _ _ _ _ _ z => z.elim) fun v F' H' g k rv => ?_
  obtain ⟨a', b', hp', h1, h2, h3⟩ := k.j
  refine q v F' H' a' b' (g.weak fun c t => ?_) k.fh (k.fr p rfl) hp' h1 h2 h3 rv
  rcases t with t | t
  · exact t
  · cases t
theorem potSp_len {n : Nat} (h : ∀ rs r, C rs r → rs.length = n) : ∀ vs H Q E, potSp C vs H Q E → vs.length = n + 1 := fun vs H Q E ⟨F, p, a, b, ws, rs, r, e, _, _, _, _, _, _, hv, hc, _⟩ => by
  rw [e, List.length_cons, hv.len, h rs r hc]
end
end Dn
namespace W
open PySem L2 Dn HM
theorem den_draw {ρ : Rho} {p : Addr} {te : TE} {many : Int} {i : Nat} {E : XK} (hi : ρ[i]? = some (some (pRef p))) (ht : Den (Zpot p) te ρ (pI many)) (h1 : 1 ≤ many) (h2 : many ≤ 1000) : Den (Zpot p) (tCall spDraw [] E (tCons (tVar i) (tCons te tNil))) ρ (pX (fun r : Int => 0 ≤ r ∧ r < many) pI) := fun F H σ env ok Q q => by
  obtain ⟨w, e1, e2⟩ := env.at_ i _ hi
  have e2 : w = .ref p := e2
  subst e2
  refine ⟨_, e1, ht F H σ env ok _ fun v F1 H1 g1 k1 ev => ?_⟩
  have ev : v = .int many := ev
  subst ev
  obtain ⟨a, b, ep, ha, hb, hb2⟩ := k1.j
  refine ⟨p, a, b, many, rfl, ep, ha, hb, hb2, h1, h2, fun a' b' r H' ha' hb' hb2' hr0 hr1 hh hd hp => ?_⟩
  refine q (.int r) F1 H' (g1.trans ⟨fun _ _ e => e, fun c o hc e => hh c o hc e, fun c o e => .inl e, hd⟩) ⟨fun c o e => hh c o (fun z => by rw [z, k1.fr p rfl] at e; cases e) (k1.fh c o e), k1.fr, a', b', hp, ha', hb', hb2'⟩ ⟨r, ⟨hr0, hr1⟩, rfl⟩
end W
set_option Elab.async false
set_option linter.all false
set_option maxRecDepth 100000
set_option maxHeartbeats 4000000
namespace Dn
open PySem L2
theorem denf_cat {Z : Zx} {ρ : Rho} {ta tb : TE} {xs ys : List RP} (ha : Den Z ta ρ (pL xs)) (hb : Den Z tb ρ (pL ys)) (hz : xs.length + ys.length ≤ sizeLine) : DenF Z (tOp rCat ta tb) ρ (xs ++ ys) := fun F H σ env ok Q q =>
  ha F H σ env ok _ fun x F1 H1 g1 k1 x1 => hb F1 H1 σ (env.mono g1.ff) k1 _ fun y F2 H2 g2 k2 ⟨b, ws, e2, h2, v2⟩ => by
    obtain ⟨a, vs, e1, h1, v1⟩ := (pL xs).mono g2.ff x1
    have g12 := g1.trans g2
    refine ⟨a, b, vs, ws, e1, e2, k2.fh _ _ h1, k2.fh _ _ h2, by rw [v1.len, v2.len]; exact hz, fun p hp => ?_⟩
    have hp0 : H p = none := none_back (g12.dm p) hp
    have nt : ¬ Z.T p := fun t => Z.has ok.j t hp0
    refine q p (vs ++ ws) F2 (upd H2 p (.lst (vs ++ ws))) hp0 (g12.trans (Go.new' hp)) ⟨same_new' k2.fh hp, k2.fr, Z.stay (fun b t => ?_) k2.j⟩ (k2.fh.free hp) upd_same (v1.app v2)
    rw [upd_ne (fun e => nt (by rw [← e]; exact t))]
end Dn
namespace W
open PySem L2 Dn HM PM
section
variable {K : PySem.W.Frag} {mg : Str → Option Value} {rs : List RP} {res : RP}
theorem mulT {a b : Int} {i j : Nat} (ha : a.natAbs < 2 ^ i) (hb : b.natAbs < 2 ^ j) (hi : 0 < i := by decide) (hj : 0 < j := by decide) (h : i + j ≤ 1000000 := by decide) : CMulW a b := wide_mul ha hb hi hj h
theorem p_law_pot {vs : List V} {H : Hp} {Q : VK} {E : XK} (h : spPot K vs H Q E) : t_law_pot K { nx := fun _ H' => Q .non H', rt := Q } (L2.start ["script", "k", "cell"] vs) H := by
  obtain ⟨F, script, k, s, hv, hk, q⟩ := h
  have c0 : 0 ≤ (if k < script.length then ((script.getD k 0).natAbs : Int) else 1931 * (k : Int) + 1033) := by split <;> omega
  have hc : Den Z0 (tIf (tTest (tOp oLt (tVar 1) (tCB (uLen K) (tCons (tVar 0) tNil)))) (tCB uAbs (tCons (tOp (rIxL K) (tVar 0) (tVar 1)) tNil)) (tOp oAdd (tOp oMul (tC (.int 1931)) (tVar 1)) (tC (.int 1033)))) (startR ["script", "k", "cell"] [pSq K script, pI (k : Int)]) (pI (if k < script.length then ((script.getD k 0).natAbs : Int) else 1931 * (k : Int) + 1033)) := by
    refine den_if (dent_test (den_op (den_var (i := 1) rfl) (den_callB (den_cons (den_var (i := 0) rfl) den_nil) cd_lenS) opd_I0)) (fun e => ?_) fun e => ?_
    · have e : (k : Int) < (script.length : Int) := of_decide_eq_true e.symm
      have hl : k < script.length := by omega
      rw [if_pos hl]
      exact den_callB (den_cons (den_op (den_var (i := 0) rfl) (den_var (i := 1) rfl) (opd_ixS (j := k) rfl (get_getD hl))) den_nil) cd_abs
    · have e : ¬ (k : Int) < (script.length : Int) := of_decide_eq_false e.symm
      rw [if_neg (by omega)]
      exact den_op (den_op den_v (den_var (i := 1) rfl) (opd_I (mulT (i := 11) (j := 2) (by decide) (by omega)))) den_v opd_I0
  generalize (if k < script.length then ((script.getD k 0).natAbs : Int) else 1931 * (k : Int) + 1033) = c at c0 hc
  refine tr_asg (ms := []) (i := 2) (R := pNo) hc F H _ ⟨start_ok hv, Ok.z0 s, (fun _ h => nomatch h), (fun _ h => nomatch h), List.nodup_nil⟩ { nx := _, rt := Q } (fun F1 H1 σ1 ρ1 ms1 ⟨e1, e2⟩ g1 s1 _ => ?_) (fun _ _ _ _ _ z => z.elim)
  subst e1 e2
  have hf : DenF Z0 _ _ [pI (max 0 (c - 10 ^ 18)), pI ((c % 2147483549 * 40014 + 6473 * (k : Int) + 601) % 2147483563 + 1)] := denf_lst (ρ := (startR ["script", "k", "cell"] [pSq K script, pI (k : Int)]).set 2 (some (pI c)))
    (den_cons (den_callB (den_cons (den_v (v := .int 0)) (den_cons (den_op (den_var (i := 2) rfl) (den_op (den_v (v := .int 10)) (den_v (v := .int 18)) (opd_I (C := CPow) (g := fun i j => .int (i ^ j.toNat)) ⟨by decide, by decide, by decide⟩)) (opd_I0 (g := fun i j => .int (i - j)))) den_nil)) cd_max)
      (den_cons (den_op (den_op (den_callB (den_cons (den_op (den_op (den_op (den_op (den_callB (den_cons (den_var (i := 2) rfl) den_nil) cd_int) (den_v (v := .int 2147483549)) (opd_I (C := fun _ j => 0 < j) (g := fun i j => .int (i % j)) (by decide))) (den_v (v := .int 40014)) (opd_I (C := CMulW) (g := fun i j => .int (i * j)) (mulT (i := 32) (j := 16) (by omega) (by decide)))) (den_op (den_v (v := .int 6473)) (den_var (i := 1) rfl) (opd_I (C := CMulW) (g := fun i j => .int (i * j)) (mulT (i := 13) (j := 2) (by decide) (by omega)))) (opd_I0 (g := fun i j => .int (i + j)))) (den_v (v := .int 601)) (opd_I0 (g := fun i j => .int (i + j)))) den_nil) cd_int) (den_v (v := .int 2147483563)) (opd_I (C := fun _ j => 0 < j) (g := fun i j => .int (i % j)) (by decide))) (den_v (v := .int 1)) (opd_I0 (g := fun i j => .int (i + j)))) den_nil)) (sz (by show 2 ≤ 100000; decide))
  refine hf F1 H1 σ1 s1.env s1.ok _ fun p us F2 H2 hp g2 k2 fp ho hu => ?_
  match us, hu with
  | [u1, u2], ⟨x1, x2, _⟩ =>
    have x1 : u1 = .int _ := x1
    have x2 : u2 = .int _ := x2
    subst x1 x2
    have g1' : Go0 F H F1 H1 := g1.weak fun b t => by
      rcases t with t | t
      · exact t
      · cases t
    exact q p F2 H2 _ _ (none_back (g1.dm p) hp) (g1'.trans g2) k2.fh fp ho (by omega) (by omega) (by omega)
theorem p_law_draw {vs : List V} {H : Hp} {Q : VK} {E : XK} (h : spDraw vs H Q E) : t_law_draw K { nx := fun _ H' => Q .non H', rt := Q } (L2.start ["pot", "many", "digit"] vs) H := by
  obtain ⟨p, a, b, many, rfl, hp, ha, hb, hb2, hm, hm2, q⟩ := h
  have en : EnvOk (fun _ => none) (L2.start ["pot", "many", "digit"] [.ref p, .int many]) (startR ["pot", "many", "digit"] [pRef p, pI many]) := start_ok ⟨rfl, rfl, trivial⟩
  have ok : Ok (Zp p (.lst [.int a, .int b])) (fun _ => none) H := ⟨(fun _ _ e => nomatch e), (fun _ _ => rfl), hp⟩
  have dt := dent_test (Z := Zp p (.lst [.int a, .int b])) (ρ := startR ["pot", "many", "digit"] [pRef p, pI many]) (den_op (den_pix (K := K) (i := 0) (z := 0) (j := 0) rfl rfl rfl) (den_v (v := .int 0)) (opd_I0 (g := fun i j => .bl (decide (j < i)))))
  refine dt _ H _ en ok _ fun c F1 H1 g1 k1 ec => ?_
  have e1 := en.mono g1.ff
  cases c with
  | true =>
    have ec : (0 : Int) < a := of_decide_eq_true ec.symm
    rw [if_pos rfl]
    have dd := den_callB (Z := Zp p (.lst [.int a, .int b])) (ρ := startR ["pot", "many", "digit"] [pRef p, pI many]) (den_cons (den_pix (K := K) (i := 0) (z := 0) (j := 0) rfl rfl rfl) (den_cons (den_var (i := 1) rfl) den_nil)) (cd_divmod (i := a) (j := many) ⟨by omega, by omega⟩)
    refine dd F1 H1 _ e1 k1 _ fun v F2 H2 g2 k2 ⟨t, us, ev, ht, hu⟩ => ?_
    subst ev
    match us, hu with
    | [u1, u2], ⟨x1, x2, _⟩ =>
      have x1 : u1 = .int _ := x1
      have x2 : u2 = .int _ := x2
      subst x1 x2
      have hp2 : H2 p = some (.lst [.int a, .int b]) := k2.j
      have g := g1.trans g2
      refine ⟨t, _, rfl, SqT.of (k2.fh _ _ ht), rfl, _, _, rfl, _, rfl, p, _, 0, 0, rfl, rfl, hp2, rfl, _, _, rfl, rfl, _, rfl, ?_⟩
      refine q (a / many) b (a % many) _ (Int.ediv_nonneg ha (by omega)) hb hb2 (Int.emod_nonneg _ (by omega)) (Int.emod_lt_of_pos _ (by omega)) (fun c o hc e => ?_) (fun c e => ?_) upd_same
      · rw [upd_ne hc]; exact g.hh c o hc e
      · by_cases z : c = p
        · subst z; rw [upd_same]; exact fun z => nomatch z
        · rw [upd_ne z]; exact g.dm c e
  | false =>
    rw [if_neg Bool.false_ne_true]
    have d1 := den_op (Z := Zp p (.lst [.int a, .int b])) (ρ := startR ["pot", "many", "digit"] [pRef p, pI many]) (den_callB (den_cons (den_op (den_op (den_pix (K := K) (i := 0) (z := 1) (j := 1) rfl rfl rfl) (den_v (v := .int 40487)) (opd_I (C := CMulW) (g := fun i j => .int (i * j)) (mulT (i := 32) (j := 16) (by omega) (by decide)))) (den_v (v := .int 9623)) (opd_I0 (g := fun i j => .int (i + j)))) den_nil) cd_int) (den_v (v := .int 2147483563)) (opd_I (C := fun _ j => 0 < j) (g := fun i j => .int (i % j)) (by decide))
    refine d1 F1 H1 _ e1 k1 _ fun v F2 H2 g2 k2 ev => ?_
    have ev : v = .int ((b * 40487 + 9623) % 2147483563) := ev
    subst ev
    have hp2 : H2 p = some (.lst [.int a, .int b]) := k2.j
    have g := g1.trans g2
    refine ⟨_, rfl, p, _, 1, 1, rfl, rfl, hp2, rfl, ?_⟩
    have b0 : 0 ≤ (b * 40487 + 9623) % 2147483563 := Int.emod_nonneg _ (by decide)
    have b1 : (b * 40487 + 9623) % 2147483563 < 2147483563 := Int.emod_lt_of_pos _ (by decide)
    generalize (b * 40487 + 9623) % 2147483563 = b' at b0 b1 ⊢
    have k3 : Ok (Zp p (.lst [.int a, .int b'])) F2 (upd H2 p (.lst [.int a, .int b'])) := ⟨fun c o e => by
      have : c ≠ p := fun z => by rw [z, k2.fr p rfl] at e; cases e
      rw [upd_ne this]; exact k2.fh c o e, k2.fr, upd_same⟩
    have d2 := den_op (Z := Zp p (.lst [.int a, .int b'])) (ρ := startR ["pot", "many", "digit"] [pRef p, pI many]) (den_callB (den_cons (den_op (den_op (den_callB (den_cons (den_op (den_pix (K := K) (i := 0) (z := 1) (j := 1) rfl rfl rfl) (den_pix (K := K) (i := 0) (z := 1) (j := 1) rfl rfl rfl) (opd_I (C := CMulW) (g := fun i j => .int (i * j)) (mulT (i := 32) (j := 32) (by omega) (by omega)))) den_nil) cd_int) (den_v (v := .int 2147483549)) (opd_I (C := fun _ j => 0 < j) (g := fun i j => .int (i % j)) (by decide))) (den_v (v := .int 19)) (opd_I (C := CDivA) (g := fun i j => .int (i.fdiv j)) ⟨by decide, by decide⟩)) den_nil) cd_int) (den_var (i := 1) rfl) (opd_I (C := fun _ j => 0 < j) (g := fun i j => .int (i % j)) (i := (b' * b' % 2147483549).fdiv 19) (j := many) (by omega))
    refine d2 F2 _ _ (e1.mono g2.ff) k3 _ fun v F3 H3 g3 k4 ev => ?_
    have ev : v = .int ((b' * b' % 2147483549).fdiv 19 % many) := ev
    subst ev
    refine q a b' _ H3 ha b0 (by omega) (Int.emod_nonneg _ (by omega)) (Int.emod_lt_of_pos _ (by omega)) (fun c o hc e => ?_) (fun c e => ?_) k4.j
    · refine g3.hh c o hc ?_
      rw [upd_ne hc]
      exact g.hh c o hc e
    · refine g3.dm c ?_
      by_cases z : c = p
      · subst z; rw [upd_same]; exact fun z => nomatch z
      · rw [upd_ne z]; exact g.dm c e
theorem getD_mem' {α : Type} {xs : List α} {i : Nat} {d : α} (h : i < xs.length) : xs.getD i d ∈ xs := List.mem_of_getElem? (get_getD h)
theorem p_law_pick {vs : List V} {H : Hp} {Q : VK} {E : XK} (h : spPick K vs H Q E) : t_law_pick K { nx := fun _ H' => Q .non H', rt := Q } (L2.start ["pot", "some"] vs) H := by
  refine pot_of h fun p rs r hc => ?_
  obtain ⟨α, xs, f, rfl, hne, hl, rfl⟩ := hc
  have p0 : 0 < xs.length := List.length_pos_iff.mpr hne
  refine tr_ret (den_imp (den_op (den_var (i := 1) rfl) (den_draw (many := (xs.length : Int)) (i := 0) rfl (den_re (den_callB (den_cons (den_var (i := 1) rfl) den_nil) cd_len) (by rw [List.length_map])) (by omega) (by omega)) (opd_X2 (g := fun i : Int => f (xs.getD i.toNat (xs[0]'p0))) fun i hi => ?_)) fun F v ⟨i, hi, hv⟩ => ⟨_, getD_mem' (by omega), hv⟩)
  have := opd_row (K := K) (f := f) (xs := xs) (i := i.toNat) (xs[0]'p0) (by omega)
  rw [Int.toNat_of_nonneg hi.1] at this
  exact this
theorem d_law_made (h : C_law_made K rs res) : Tr Z0 (t_law_made K) (startR ["above", "below", "near", "far"] rs) [] No res := by
  obtain ⟨a, b, rfl, hb, hs, rfl⟩ := h
  refine tr_seqI (tr_par (den_callB (den_cons (den_var (i := 0) rfl) den_nil) cd_abs) (den_callB (den_cons (den_var (i := 1) rfl) den_nil) cd_abs)) ?_
  refine tr_seqI (ρ1 := [some (pI a), some (pI b), some (pI ((Nat.gcd a.natAbs b.natAbs : Nat) : Int)), some (pI ((0 : Nat) : Int))]) (ms1 := []) (tr_while (fun m ρ' ms' => ms' = [] ∧ ∃ x : Nat, Nat.gcd x m = Nat.gcd a.natAbs b.natAbs ∧ ρ' = [some (pI a), some (pI b), some (pI (x : Int)), some (pI (m : Int))]) b.natAbs ⟨rfl, a.natAbs, rfl, rfl⟩ ?_) ?_
  · rintro m _ _ ⟨rfl, x, eg, rfl⟩
    refine ⟨(· = decide ((0 : Int) < (m : Int))), dent_test (den_op (den_var (i := 3) rfl) (den_v (v := .int 0)) opd_I0), fun e => ?_, fun e => ?_⟩
    · have m0 : (0 : Int) < (m : Int) := of_decide_eq_true e.symm
      refine tr_imp (tr_par (r1 := pI (m : Int)) (r2 := pI ((x % m : Nat) : Int)) (den_var (i := 3) rfl) (den_op (den_callB (den_cons (den_var (i := 2) rfl) den_nil) cd_int) (den_var (i := 3) rfl) (opd_I (C := fun _ j => 0 < j) (g := fun i j => .int (i % j)) m0))) ?_
      rintro _ _ ⟨rfl, rfl⟩
      exact ⟨x % m, Nat.mod_lt _ (by omega), rfl, m, by rw [← eg, Nat.gcd_comm m, ← Nat.gcd_rec, Nat.gcd_comm], rfl⟩
    · have m0 : ¬ (0 : Int) < (m : Int) := of_decide_eq_false e.symm
      obtain rfl : m = 0 := by omega
      rw [Nat.gcd_zero_right] at eg
      rw [eg]
      exact ⟨rfl, rfl⟩
  · obtain ⟨q1, q2, q3, q4⟩ := ratio_parts (t := a) hb _ rfl
    refine tr_seqI (tr_asg (r := pI (if b < 0 then 0 - ((Nat.gcd a.natAbs b.natAbs : Nat) : Int) else ((Nat.gcd a.natAbs b.natAbs : Nat) : Int))) (den_if (dent_test (den_op (den_var (i := 1) rfl) (den_v (v := .int 0)) opd_I0)) (fun e => ?_) fun e => ?_)) ?_
    · have e : (0 : Int) < b := of_decide_eq_true e.symm
      rw [if_neg (by omega)]
      exact den_var (i := 2) rfl
    · have e : ¬ (0 : Int) < b := of_decide_eq_false e.symm
      rw [if_pos (by omega)]
      exact den_op (den_v (v := .int 0)) (den_var (i := 2) rfl) opd_I0
    have hd : CDivA 0 (if b < 0 then 0 - ((Nat.gcd a.natAbs b.natAbs : Nat) : Int) else ((Nat.gcd a.natAbs b.natAbs : Nat) : Int)) := ⟨q3, log2_lt (Nat.lt_of_le_of_lt q4 (Nat.lt_of_lt_of_le hs (Nat.pow_le_pow_right (by decide) (by decide)))) (by decide)⟩
    refine tr_ret (den_re (den_tup (rs := [_, _]) (den_cons (den_op (den_var (i := 0) rfl) (den_var (i := 2) rfl) (opd_I (C := CDivA) (g := fun i j => .int (i.fdiv j)) hd)) (den_cons (den_op (den_var (i := 1) rfl) (den_var (i := 2) rfl) (opd_I (C := CDivA) (g := fun i j => .int (i.fdiv j)) hd)) den_nil)) (by show 2 ≤ sizeLine; decide)) ?_)
    rw [q1, q2]
theorem d_law_plus (h : C_law_plus K rs res) : Tr Z0 (t_law_plus K) (startR ["a", "b"] rs) [] No res := by
  obtain ⟨a, b, rfl, ha, hb, rfl⟩ := h
  have i0 : ∀ {q : Rat} {i : Nat}, [some (pF a), some (pF b)][i]? = some (some (pF q)) → Den Z0 (tOp (rIxT K) (tVar i) (tC (.int 0))) [some (pF a), some (pF b)] (pI q.num) := fun hi => den_op (den_var hi) (den_v (v := .int 0)) (opd_ixT (j := 0) rfl rfl)
  have i1 : ∀ {q : Rat} {i : Nat}, [some (pF a), some (pF b)][i]? = some (some (pF q)) → Den Z0 (tOp (rIxT K) (tVar i) (tC (.int 1))) [some (pF a), some (pF b)] (pI (q.den : Int)) := fun hi => den_op (den_var hi) (den_v (v := .int 1)) (opd_ixT (j := 1) rfl rfl)
  refine tr_ret (den_call (den_cons (den_op (den_op (i0 (i := 0) rfl) (i1 (i := 1) rfl) (opd_I (mulS ha.1 (by exact hb.2)))) (den_op (i0 (i := 1) rfl) (i1 (i := 0) rfl) (opd_I (mulS hb.1 (by exact ha.2)))) opd_I0) (den_cons (den_op (i1 (i := 0) rfl) (i1 (i := 1) rfl) (opd_I (mulS (by exact ha.2) (by exact hb.2)))) den_nil)) (show C_law_made K [pI (a.num * b.den + b.num * a.den), pI ((a.den : Int) * b.den)] (pF (a + b)) from ⟨_, _, rfl, Int.mul_ne_zero dn dn, ?_, ?_⟩))
  · rw [Int.natAbs_mul]; exact mulB ha.2 hb.2
  · rw [← Rat.divInt_add_divInt _ _ dn dn, Rat.num_divInt_den, Rat.num_divInt_den]
theorem d_law_times (h : C_law_times K rs res) : Tr Z0 (t_law_times K) (startR ["a", "b"] rs) [] No res := by
  obtain ⟨z, n, y, m, rfl, hn, hm, hz, hn2, hy, hm2, rfl⟩ := h
  have ix : ∀ {x w : Int} {i : Nat}, [some (pT [pI z, pI n]), some (pT [pI y, pI m])][i]? = some (some (pT [pI x, pI w])) → Den Z0 (tOp (rIxT K) (tVar i) (tC (.int 0))) [some (pT [pI z, pI n]), some (pT [pI y, pI m])] (pI x) ∧ Den Z0 (tOp (rIxT K) (tVar i) (tC (.int 1))) [some (pT [pI z, pI n]), some (pT [pI y, pI m])] (pI w) := fun hi => ⟨den_op (den_var hi) (den_v (v := .int 0)) (opd_ixT (j := 0) rfl rfl), den_op (den_var hi) (den_v (v := .int 1)) (opd_ixT (j := 1) rfl rfl)⟩
  refine tr_ret (den_call (den_cons (den_op (ix (i := 0) rfl).1 (ix (i := 1) rfl).1 (opd_I (mulS hz hy))) (den_cons (den_op (ix (i := 0) rfl).2 (ix (i := 1) rfl).2 (opd_I (mulS hn2 hm2))) den_nil)) (show C_law_made K [pI (z * y), pI (n * m)] _ from ⟨_, _, rfl, Int.mul_ne_zero hn hm, ?_, ?_⟩))
  · rw [Int.natAbs_mul]; exact mulB hn2 hm2
  · rw [Rat.divInt_mul_divInt]
theorem d_law_ratio (h : C_law_ratio K rs res) : Tr Z0 (t_law_ratio K) (startR ["a"] rs) [] No res := by
  obtain ⟨q, rfl, hq, rfl⟩ := h
  exact tr_ret (den_re (den_mk2 dn (Nat.lt_of_lt_of_le (by exact hq.2) (Nat.pow_le_pow_right (by decide) (by decide))) (den_op (den_var (i := 0) rfl) (den_v (v := .int 0)) (opd_ixT (j := 0) rfl rfl)) (den_op (den_var (i := 0) rfl) (den_v (v := .int 1)) (opd_ixT (j := 1) rfl rfl))) (by rw [Rat.num_divInt_den]))
end
end W
set_option Elab.async false
set_option linter.all false
set_option maxRecDepth 100000
set_option maxHeartbeats 4000000
/-! the sizes of the numbers on the way -/
namespace W
open PySem L2 Dn HM PM
theorem pw2 {a b : Nat} (h : a ≤ b) : (2 : Nat) ^ a ≤ 2 ^ b := Nat.pow_le_pow_right (by decide) h
theorem big_lt {D : Nat} (h : D ≤ 2 ^ 3500) : D < 2 ^ 4000 := Nat.lt_of_le_of_lt h (Nat.pow_lt_pow_right (by decide) (by decide))
theorem sz_cd {D C : Nat} {l : List Rat} (h : Cs D C l) (h0 : 0 < D) (h1 : D ≤ 2 ^ 3500) (h2 : C ≤ 2 ^ 3500) : Sz l := fun x m => (h x m).sz h0 (big_lt h1) (big_lt h2)
theorem sq_cd {D C : Nat} {x : Rat} (h : Cd D C x) (h0 : 0 < D) (h1 : D ≤ 2 ^ 3500) (h2 : C ≤ 2 ^ 3500) : SzQ x := h.sz h0 (big_lt h1) (big_lt h2)
theorem cd_getD {D C : Nat} {l : List Rat} (h : Cs D C l) (i : Nat) : Cd D C (l.getD i 0) := by
  rw [List.getD_eq_getElem?_getD]
  cases q : l[i]? with
  | none => exact Cd.zero
  | some x => exact h x (List.mem_of_getElem? q)
/-! put -/
theorem put_cd {D C e U V : Nat} {b s : Rat} (hb : Cd e U b) (hs : Cd e V s) : ∀ l : List Rat, Cs D C l → Cs (D * e ^ l.length) (C * (U + V + e) ^ l.length) (putP l b s)
  | [], _ => fun x m => by cases m
  | a :: l, h => by
    have ih := put_cd hb hs l fun x m => h x (List.mem_cons_of_mem _ m)
    rw [putP_cons, List.length_cons, Nat.pow_succ, Nat.pow_succ]
    unfold putStep
    have e1 := Cs.cons0 (Cs.pscale ih hb)
    have e2 := Cs.pscale ih hs
    have e3 := e1.psum e2
    have e4 : Cs (D * e ^ l.length * e) (C * (e ^ l.length * e)) [a] := fun x m => by
      rw [List.mem_singleton.mp m]
      exact (h a List.mem_cons_self).to (E := e ^ l.length * e) (Nat.mul_assoc _ _ _) (Nat.le_refl _)
    have e5 := e3.psum e4
    rw [Nat.mul_assoc] at e5
    refine e5.le ?_
    have k1 : e ^ l.length ≤ (U + V + e) ^ l.length := Nat.pow_le_pow_left (by omega) _
    generalize (U + V + e) ^ l.length = X at k1 ⊢
    generalize e ^ l.length = Y at k1 ⊢
    have k2 : Y * e ≤ X * e := Nat.mul_le_mul_right _ k1
    calc C * X * U + C * X * V + C * (Y * e) ≤ C * X * U + C * X * V + C * (X * e) := Nat.add_le_add_left (Nat.mul_le_mul_left _ k2) _
      _ = C * (X * (U + V + e)) := by rw [Nat.mul_add, Nat.mul_add, Nat.mul_add, Nat.mul_add, Nat.mul_assoc, Nat.mul_assoc]
theorem putOk_of {D C e U V n : Nat} {b s : Rat} (hb : Cd e U b) (hs : Cd e V s) (hD : 0 < D) (he : 0 < e) (h1 : D * e ^ n ≤ 2 ^ 3500) (h2 : C * (U + V + e) ^ n ≤ 2 ^ 3500) : ∀ l : List Rat, Cs D C l → l.length ≤ n → PutOk b s l
  | [], _, _ => trivial
  | a :: l, h, hl => by
    have hl : l.length + 1 ≤ n := hl
    have hc : Cs D C l := fun x m => h x (List.mem_cons_of_mem _ m)
    have ih := put_cd hb hs l hc
    have d1 : D * e ^ (l.length + 1) ≤ 2 ^ 3500 := Nat.le_trans (Nat.mul_le_mul_left _ (Nat.pow_le_pow_right he hl)) h1
    have c1 : C * (U + V + e) ^ (l.length + 1) ≤ 2 ^ 3500 := Nat.le_trans (Nat.mul_le_mul_left _ (Nat.pow_le_pow_right (by omega) hl)) h2
    have d0 : D * e ^ l.length ≤ 2 ^ 3500 := Nat.le_trans (Nat.mul_le_mul_left _ (Nat.pow_le_pow_right he (Nat.le_succ _))) d1
    have c0 : C * (U + V + e) ^ l.length ≤ 2 ^ 3500 := Nat.le_trans (Nat.mul_le_mul_left _ (Nat.pow_le_pow_right (by omega) (Nat.le_succ _))) c1
    have p0 : 0 < D * e ^ l.length := Nat.mul_pos hD (Nat.pow_pos he)
    rw [Nat.pow_succ, ← Nat.mul_assoc] at d1 c1
    have p1 : 0 < D * e ^ l.length * e := Nat.mul_pos p0 he
    generalize D * e ^ l.length = DD at *
    generalize C * (U + V + e) ^ l.length = CC at *
    have m1 : CC * U ≤ CC * (U + V + e) := Nat.mul_le_mul_left _ (by omega)
    have m2 : CC * V ≤ CC * (U + V + e) := Nat.mul_le_mul_left _ (by omega)
    have m3 : CC * U + CC * V ≤ CC * (U + V + e) := by rw [← Nat.mul_add]; exact Nat.mul_le_mul_left _ (by omega)
    have e1 := Cs.cons0 (Cs.pscale ih hb)
    have e2 := Cs.pscale ih hs
    have aD : D ≤ 2 ^ 3500 := Nat.le_trans (Nat.le_mul_of_pos_right _ (Nat.pow_pos he)) h1
    have aC : C ≤ 2 ^ 3500 := Nat.le_trans (Nat.le_mul_of_pos_right _ (Nat.pow_pos (by omega))) h2
    exact ⟨putOk_of hb hs hD he h1 h2 l hc (by omega), sz_cd ih p0 d0 c0, sz_cd e1 p1 d1 (Nat.le_trans m1 c1), sz_cd e2 p1 d1 (Nat.le_trans m2 c1), sz_cd (e1.psum e2) p1 d1 (Nat.le_trans m3 c1), sq_cd (h a List.mem_cons_self) hD aD aC⟩
/-! through -/
def fc : Nat → Nat
  | 0 => 1
  | n + 1 => fc n * (n + 1)
theorem fc_pos : ∀ n, 0 < fc n
  | 0 => by decide
  | n + 1 => Nat.mul_pos (fc_pos n) (Nat.succ_pos n)
theorem fc_le {n : Nat} (h : n ≤ 5) : fc n ≤ 120 := by
  match n, h with
  | 0, _ => decide
  | 1, _ => decide
  | 2, _ => decide
  | 3, _ => decide
  | 4, _ => decide
  | 5, _ => decide
theorem th_cd {N : Nat} {l : List Rat} (h : Cs 7 N l) : ∀ s : Nat, s ≤ 5 → Cs (7 * fc s) (N * 18 ^ s) ((List.range s).foldl thStep ⟨[], [1], l⟩).found ∧ Cs (fc s) (6 ^ s) ((List.range s).foldl thStep ⟨[], [1], l⟩).base ∧ Cs 7 (N * 2 ^ s) ((List.range s).foldl thStep ⟨[], [1], l⟩).left
  | 0, _ => by
    refine ⟨(fun x m => nomatch (show x ∈ ([] : List Rat) from m)), fun x m => ?_, (by rw [Nat.pow_zero, Nat.mul_one]; exact h)⟩
    have m : x ∈ ([1] : List Rat) := m
    rw [List.mem_singleton.mp m]
    exact Cd.int 1
  | s + 1, hs => by
    obtain ⟨h1, h2, h3⟩ := th_cd h s (by omega)
    rw [List.range_succ, List.foldl_append]
    show Cs _ _ (thStep ((List.range s).foldl thStep ⟨[], [1], l⟩) s).found ∧ Cs _ _ (thStep ((List.range s).foldl thStep ⟨[], [1], l⟩) s).base ∧ Cs _ _ (thStep ((List.range s).foldl thStep ⟨[], [1], l⟩) s).left
    generalize (List.range s).foldl thStep ⟨[], [1], l⟩ = st at h1 h2 h3 ⊢
    unfold thStep
    refine ⟨?_, ?_, ?_⟩
    · have a := Cs.pscale h2 (cd_getD h3 0)
      rw [Nat.mul_comm (fc s) 7] at a
      refine (h1.psum a).to (E := s + 1) (by show 7 * (fc s * (s + 1)) = _; rw [Nat.mul_assoc]) ?_
      have k1 : 6 ^ s * (N * 2 ^ s) ≤ N * 18 ^ s := by
        rw [Nat.mul_left_comm, ← Nat.mul_pow]
        exact Nat.mul_le_mul_left _ (Nat.pow_le_pow_left (by decide) _)
      calc (N * 18 ^ s + 6 ^ s * (N * 2 ^ s)) * (s + 1) ≤ (N * 18 ^ s + N * 18 ^ s) * 5 := Nat.mul_le_mul (Nat.add_le_add_left k1 _) (by omega)
        _ ≤ N * 18 ^ s * 18 := by omega
        _ = N * 18 ^ (s + 1) := by rw [Nat.pow_succ, Nat.mul_assoc]
    · have a := Cs.pscale ((Cs.cons0 h2).psum (Cs.to (D' := fc s) (C' := 6 ^ s * s) (E := 1) (Cs.pscale h2 (Cd.int (-(s : Int)))) (by rw [Nat.mul_one, Nat.mul_one]) (by rw [Nat.mul_one, Int.natAbs_neg, Int.natAbs_natCast]; exact Nat.le_refl _))) (Cd.one_over (p := s + 1) (Nat.succ_pos s))
      rw [natS] at a
      refine Cs.le a ?_
      rw [Nat.mul_one, Nat.pow_succ]
      calc 6 ^ s + 6 ^ s * s = 6 ^ s * (s + 1) := by rw [Nat.mul_succ, Nat.add_comm]
        _ ≤ 6 ^ s * 6 := Nat.mul_le_mul_left _ (by omega)
    · intro x m
      obtain ⟨p, hp, rfl⟩ := List.mem_map.mp m
      obtain ⟨m1, m2⟩ := List.of_mem_zip hp
      refine ((h3 _ (List.mem_of_mem_drop m2)).sub (h3 _ m1)).le ?_
      rw [Nat.pow_succ, ← Nat.mul_assoc]
      omega
theorem le_big {N a b : Nat} (hN : N ≤ 2 ^ 3000) (ha : a ≤ 2 ^ 60) (hb : b ≤ N * a) : b ≤ 2 ^ 3500 := by
  refine Nat.le_trans hb (Nat.le_trans (Nat.mul_le_mul hN ha) ?_)
  rw [← Nat.pow_add]
  exact pw2 (by decide)
theorem thOk_of {N : Nat} {l : List Rat} (h : Cs 7 N l) (hl : l.length ≤ 5) (hN : N ≤ 2 ^ 3000) : ThOk l := fun s hs => by
  obtain ⟨h1, h2, h3⟩ := th_cd h s (by omega)
  have f0 := fc_pos s
  have f1 := fc_le (n := s) (by omega)
  have p6 : 6 ^ s ≤ 2 ^ 20 := Nat.le_trans (Nat.pow_le_pow_right (by decide) (show s ≤ 5 by omega)) (by decide)
  have p2 : 2 ^ s ≤ 2 ^ 20 := Nat.pow_le_pow_right (by decide) (by omega)
  have p18 : 18 ^ s ≤ 2 ^ 60 := Nat.le_trans (Nat.pow_le_pow_right (by decide) (show s ≤ 5 by omega)) (by decide)
  have b60 : ∀ {n : Nat}, n ≤ 2 ^ 60 → n ≤ 2 ^ 3500 := fun h => Nat.le_trans h (pw2 (by decide))
  have neg := Cs.to (D' := fc s) (C' := 6 ^ s * s) (E := 1) (Cs.pscale h2 (Cd.int (-(s : Int)))) (by rw [Nat.mul_one, Nat.mul_one]) (by rw [Nat.mul_one, Int.natAbs_neg, Int.natAbs_natCast]; exact Nat.le_refl _)
  have m5 : 6 ^ s * s ≤ 2 ^ 20 * 5 := Nat.mul_le_mul p6 (by omega)
  have d60 : fc s ≤ 2 ^ 60 := Nat.le_trans f1 (by decide)
  refine ⟨sz_cd h1 (by omega) (b60 (Nat.le_trans (Nat.mul_le_mul_left 7 f1) (by decide))) (le_big hN p18 (Nat.le_refl _)), sz_cd h2 f0 (b60 d60) (b60 (Nat.le_trans p6 (by decide))), sz_cd h3 (by decide) (b60 (by decide)) (le_big hN (Nat.le_trans p2 (by decide)) (Nat.le_refl _)), ?_, ?_, ?_⟩
  · refine sz_cd (Cs.pscale h2 (cd_getD h3 0)) (by omega) (b60 (Nat.le_trans (Nat.mul_le_mul_right 7 f1) (by decide))) (le_big (a := 6 ^ s * 2 ^ s) hN ?_ ?_)
    · exact Nat.le_trans (Nat.mul_le_mul p6 p2) (by decide)
    · rw [Nat.mul_left_comm]
      exact Nat.le_refl _
  · exact sz_cd neg f0 (b60 d60) (b60 (Nat.le_trans m5 (by decide)))
  · exact sz_cd ((Cs.cons0 h2).psum neg) f0 (b60 d60) (b60 (Nat.le_trans (Nat.add_le_add p6 m5) (by decide)))
theorem through_cd {N : Nat} {l : List Rat} (h : Cs 7 N l) (hl : l.length ≤ 5) : Cs 840 (N * (18 ^ 5 * 120)) (through l) := by
  have a := (th_cd h l.length hl).1
  have f1 : fc l.length ∣ 120 := by
    match l.length, hl with
    | 0, _ => exact ⟨120, rfl⟩
    | 1, _ => exact ⟨120, rfl⟩
    | 2, _ => exact ⟨60, rfl⟩
    | 3, _ => exact ⟨20, rfl⟩
    | 4, _ => exact ⟨5, rfl⟩
    | 5, _ => exact ⟨1, rfl⟩
  obtain ⟨c, hc⟩ := f1
  have c1 : c ≤ 120 := by
    rw [hc]
    exact Nat.le_mul_of_pos_left _ (fc_pos _)
  refine a.to (E := c) (by rw [Nat.mul_assoc, ← hc]) ?_
  rw [Nat.mul_assoc]
  exact Nat.mul_le_mul_left _ (Nat.mul_le_mul (Nat.pow_le_pow_right (by decide) hl) c1)
end W
set_option Elab.async false
set_option linter.all false
set_option maxRecDepth 100000
set_option maxHeartbeats 4000000
/-! the law's own parts; what is drawn -/
namespace W
open PySem L2 Dn HM PM
theorem addTo_cd {D C c0 : Nat} {found o : List Rat} {c : Rat} (hf : Cs D C found) (ho : Cs D c0 (pscale o c)) : Cs D (C + c0) (addTo found c o) := fun x m => by
  obtain ⟨y, hy, rfl⟩ := List.mem_map.mp m
  have h1 := hf _ (List.mem_of_getElem? (List.mem_zipIdx_iff_getElem?.mp hy))
  refine h1.add ?_
  split
  · rename_i q
    have e : o[y.2]? = some (o.getD y.2 0) := by rw [List.getD_eq_getElem?_getD, List.getElem?_eq_getElem q]; rfl
    have z := ho _ (List.mem_map.mpr ⟨_, List.mem_of_getElem? e, rfl⟩)
    rw [Rat.mul_comm]
    exact z
  · rw [Rat.mul_zero]
    exact Cd.zero
section
variable {r p : Nat} {numbers : List Rat}
theorem pos_cast (r p i : Nat) : (((r : Int) : Rat) + (i : Rat) * ((p : Int) : Rat)) = (((r : Int) + (i : Int) * (p : Int) : Int) : Rat) := by
  rw [Rat.intCast_add, Rat.intCast_mul]
  rfl
theorem by_cast (p i : Nat) : ((p : Int) : Rat) * ((i : Rat) + 1) = ((p * (i + 1) : Nat) : Rat) := by
  rw [Rat.natCast_mul, natS]
  rfl
theorem pa_cd (hp : 0 < p) (hp4 : p ≤ 4) (hr : r < 4) (hl : numbers.length ≤ 5) (h : Cs 60 240 numbers) : ∀ i, i ≤ numbers.length →
    Cs (p ^ i * fc i * 60) (240 * 500 ^ i) ((numbers.zipIdx.take i).foldl (partStep ((r : Int) : Rat) ((p : Int) : Rat)) (List.replicate (numbers.length + 1) 0, [1])).1 ∧ Cs (p ^ i * fc i) (25 ^ i) ((numbers.zipIdx.take i).foldl (partStep ((r : Int) : Rat) ((p : Int) : Rat)) (List.replicate (numbers.length + 1) 0, [1])).2
  | 0, _ => by
    refine ⟨fun x m => ?_, fun x m => ?_⟩
    · have m : x ∈ List.replicate (numbers.length + 1) (0 : Rat) := m
      rw [(List.mem_replicate.mp m).2]
      exact Cd.zero
    · have m : x ∈ ([1] : List Rat) := m
      rw [List.mem_singleton.mp m]
      exact Cd.int 1
  | i + 1, hi => by
    obtain ⟨h1, h2⟩ := pa_cd hp hp4 hr hl h i (by omega)
    have hz : numbers.zipIdx[i]? = some (numbers.getD i 0, i) := by
      rw [List.getElem?_zipIdx, List.getElem?_eq_getElem (by omega), Nat.zero_add, List.getD_eq_getElem?_getD, List.getElem?_eq_getElem (by omega)]
      rfl
    rw [foldTake hz]
    generalize (numbers.zipIdx.take i).foldl (partStep ((r : Int) : Rat) ((p : Int) : Rat)) (List.replicate (numbers.length + 1) 0, [1]) = st at h1 h2 ⊢
    have hE : p ^ (i + 1) * fc (i + 1) = p ^ i * fc i * (p * (i + 1)) := by
      show p ^ (i + 1) * (fc i * (i + 1)) = _
      rw [Nat.pow_succ, Nat.mul_mul_mul_comm]
    have hb : p * (i + 1) ≤ 20 := Nat.mul_le_mul hp4 (show i + 1 ≤ 5 by omega)
    have k1 : 25 ^ i ≤ 500 ^ i := Nat.pow_le_pow_left (by decide) _
    refine ⟨?_, ?_⟩
    · have a := addTo_cd h1 (Cs.pscale h2 (cd_getD h i))
      refine Cs.to a (E := p * (i + 1)) (by rw [hE, Nat.mul_right_comm]) ?_
      rw [Nat.pow_succ]
      calc (240 * 500 ^ i + 25 ^ i * 240) * (p * (i + 1)) ≤ (240 * 500 ^ i + 500 ^ i * 240) * 20 := Nat.mul_le_mul (Nat.add_le_add_left (Nat.mul_le_mul_right _ k1) _) hb
        _ ≤ 240 * (500 ^ i * 500) := by omega
    · show Cs _ _ (raised st.2 (((r : Int) : Rat) + (i : Rat) * ((p : Int) : Rat)) (((p : Int) : Rat) * ((i : Rat) + 1)))
      unfold raised
      rw [pos_cast, by_cast]
      have sc : Cd 1 23 (0 - (((r : Int) + (i : Int) * (p : Int) : Int) : Rat)) := by
        have z := (Cd.int 0).sub (Cd.int ((r : Int) + (i : Int) * (p : Int)))
        refine Cd.le z ?_
        have : i * p ≤ 5 * 4 := Nat.mul_le_mul (by omega) hp4
        have e : ((r : Int) + (i : Int) * (p : Int)) = ((r + i * p : Nat) : Int) := by rw [Int.natCast_add, Int.natCast_mul]
        rw [e, Int.natAbs_natCast]
        show 0 + (r + i * p) ≤ 23
        omega
      have s1 := Cs.pscale h2 sc
      rw [Nat.mul_one] at s1
      have a := Cs.pscale ((Cs.cons0 h2).psum s1) (Cd.one_over (p := p * (i + 1)) (Nat.mul_pos hp (Nat.succ_pos i)))
      rw [hE]
      refine a.le ?_
      rw [Nat.pow_succ]
      omega
theorem fc_dvd {i : Nat} (h : i ≤ 5) : fc i ∣ 120 := by
  match i, h with
  | 0, _ => exact ⟨120, rfl⟩
  | 1, _ => exact ⟨120, rfl⟩
  | 2, _ => exact ⟨60, rfl⟩
  | 3, _ => exact ⟨20, rfl⟩
  | 4, _ => exact ⟨5, rfl⟩
  | 5, _ => exact ⟨1, rfl⟩
theorem p_dvd {i : Nat} (hp : 0 < p) (hp4 : p ≤ 4) (h : i ≤ 5) : p ^ i ∣ 12 ^ 5 := by
  have a : p ∣ 12 := by
    match p, hp, hp4 with
    | 1, _, _ => exact ⟨12, rfl⟩
    | 2, _, _ => exact ⟨6, rfl⟩
    | 3, _, _ => exact ⟨4, rfl⟩
    | 4, _, _ => exact ⟨3, rfl⟩
  obtain ⟨c, hc⟩ := a
  have e : p ^ i ∣ 12 ^ i := ⟨c ^ i, by rw [hc, Nat.mul_pow]⟩
  exact Nat.dvd_trans e (Nat.pow_dvd_pow 12 h)
theorem paOk_of (hp : 0 < p) (hp4 : p ≤ 4) (hr : r < 4) (hl : numbers.length ≤ 5) (h : Cs 60 240 numbers) : PaOk (r : Int) (p : Int) numbers := fun i hi => by
  obtain ⟨h1, h2⟩ := pa_cd hp hp4 hr hl h i (by omega)
  have hc := cd_getD h i
  have f1 := fc_le (n := i) (by omega)
  have f0 := fc_pos i
  have q0 : 0 < p ^ i := Nat.pow_pos hp
  have q1 : p ^ i ≤ 1024 := Nat.le_trans (Nat.pow_le_pow_left hp4 i) (Nat.le_trans (Nat.pow_le_pow_right (by decide) (show i ≤ 5 by omega)) (by decide))
  have e0 : 0 < p ^ i * fc i := Nat.mul_pos q0 f0
  have e1 : p ^ i * fc i ≤ 1024 * 120 := Nat.mul_le_mul q1 f1
  have b60 : ∀ {n : Nat}, n ≤ 2 ^ 60 → n ≤ 2 ^ 3500 := fun h => Nat.le_trans h (pw2 (by decide))
  have g1 : 25 ^ i ≤ 25 ^ 5 := Nat.pow_le_pow_right (by decide) (by omega)
  have g2 : 500 ^ i ≤ 500 ^ 5 := Nat.pow_le_pow_right (by decide) (by omega)
  have sc : Cd 1 23 (0 - (((r : Int) + (i : Int) * (p : Int) : Int) : Rat)) := by
    have z := (Cd.int 0).sub (Cd.int ((r : Int) + (i : Int) * (p : Int)))
    refine Cd.le z ?_
    have : i * p ≤ 5 * 4 := Nat.mul_le_mul (by omega) hp4
    have e : ((r : Int) + (i : Int) * (p : Int)) = ((r + i * p : Nat) : Int) := by rw [Int.natCast_add, Int.natCast_mul]
    rw [e, Int.natAbs_natCast]
    show 0 + (r + i * p) ≤ 23
    omega
  have s1 := Cs.pscale h2 sc
  rw [Nat.mul_one] at s1
  generalize (numbers.zipIdx.take i).foldl (partStep ((r : Int) : Rat) ((p : Int) : Rat)) (List.replicate (numbers.length + 1) 0, [1]) = st at h1 h2 s1 ⊢
  have d60 : p ^ i * fc i ≤ 2 ^ 60 := Nat.le_trans e1 (by decide)
  refine ⟨sz_cd h1 (Nat.mul_pos e0 (by decide)) (b60 (Nat.le_trans (Nat.mul_le_mul_right 60 e1) (by decide))) (b60 (Nat.le_trans (Nat.mul_le_mul_left 240 g2) (by decide))), sz_cd h2 e0 (b60 d60) (b60 (Nat.le_trans g1 (by decide))), fun x hx => ?_, sq_cd hc (by decide) (b60 (by decide)) (b60 (by decide)), ?_, ?_⟩
  · exact sq_cd (hc.mul (h2 x hx)) (by omega) (b60 (Nat.le_trans (Nat.mul_le_mul_left 60 e1) (by decide))) (b60 (Nat.le_trans (Nat.mul_le_mul_left 240 g1) (by decide)))
  · exact sz_cd s1 e0 (b60 d60) (b60 (Nat.le_trans (Nat.mul_le_mul_right 23 g1) (by decide)))
  · exact sz_cd ((Cs.cons0 h2).psum s1) e0 (b60 d60) (b60 (Nat.le_trans (Nat.add_le_add g1 (Nat.mul_le_mul_right 23 g1)) (by decide)))
theorem partOf_cd (hp : 0 < p) (hp4 : p ≤ 4) (hr : r < 4) (hl : numbers.length ≤ 5) (h : Cs 60 240 numbers) : Cs D0 C0 (partOf ((r : Int) : Rat) ((p : Int) : Rat) numbers) := by
  have a := (pa_cd hp hp4 hr hl h numbers.length (Nat.le_refl _)).1
  rw [List.take_of_length_le (by rw [List.length_zipIdx]; exact Nat.le_refl _)] at a
  obtain ⟨c, hc⟩ := Nat.mul_dvd_mul (Nat.mul_dvd_mul (p_dvd hp hp4 hl) (fc_dvd hl)) (Nat.dvd_refl 60)
  refine Cs.to a (E := c) (by rw [← hc]) ?_
  have c1 : c ≤ 12 ^ 5 * 120 * 60 := by
    rw [hc]
    exact Nat.le_mul_of_pos_left _ (Nat.mul_pos (Nat.mul_pos (Nat.pow_pos hp) (fc_pos _)) (by decide))
  have g2 : 500 ^ numbers.length ≤ 500 ^ 5 := Nat.pow_le_pow_right (by decide) hl
  exact Nat.le_trans (Nat.mul_le_mul (Nat.mul_le_mul_left 240 g2) c1) (by decide)
theorem partOf_len (rest period : Rat) (numbers : List Rat) : (partOf rest period numbers).length = numbers.length + 1 := by
  have gen : ∀ (l : List (Rat × Nat)) (st : List Rat × List Rat), (l.foldl (partStep rest period) st).1.length = st.1.length := by
    intro l
    induction l with
    | nil => intro st; rfl
    | cons x t ih =>
      intro st
      rw [List.foldl_cons, ih]
      exact addTo_len _ _ _
  unfold partOf
  rw [gen, List.length_replicate]
end
/-- the lists of numbers that are drawn -/
structure PL (br : Bool) (L : List (List Rat)) : Prop where
  l1 : 1 ≤ L.length
  l4 : L.length ≤ 4
  ln : ∀ l ∈ L, l.length ≤ 5
  cd : ∀ l ∈ L, Cs 60 240 l
  wh : br = false → ∀ l ∈ L, ∀ x ∈ l, IsZ x
  bk : br = true → ∃ a s, a < L.length ∧ s < (L.getD a []).length ∧ ¬ IsZ ((L.getD a []).getD s 0) ∧ ∀ i, i ≠ s → IsZ ((L.getD a []).getD i 0)
def partsOf (L : List (List Rat)) : Parts := L.zipIdx.map fun y => partOf ((y.2 : Int) : Rat) ((L.length : Int) : Rat) y.1
theorem partsOf_len (L : List (List Rat)) : (partsOf L).length = L.length := by
  unfold partsOf
  rw [List.length_map, List.length_zipIdx]
theorem partsOf_get {L : List (List Rat)} {a : Nat} (h : a < L.length) : (partsOf L).getD a [] = partOf ((a : Int) : Rat) ((L.length : Int) : Rat) (L.getD a []) := by
  unfold partsOf
  rw [List.getD_eq_getElem?_getD, List.getElem?_map, List.getElem?_zipIdx, List.getElem?_eq_getElem h, Nat.zero_add, List.getD_eq_getElem?_getD, List.getElem?_eq_getElem h]
  rfl
theorem partsOf_mem {L : List (List Rat)} {l : List Rat} (h : l ∈ partsOf L) : ∃ a, a < L.length ∧ l = partOf ((a : Int) : Rat) ((L.length : Int) : Rat) (L.getD a []) := by
  obtain ⟨y, hy, rfl⟩ := List.mem_map.mp h
  have e := List.mem_zipIdx_iff_getElem?.mp hy
  obtain ⟨h1, h2⟩ := List.getElem?_eq_some_iff.mp e
  exact ⟨y.2, h1, by rw [List.getD_eq_getElem?_getD, e]; rfl⟩
theorem cv_parts {L : List (List Rat)} {a : Nat} (h : a < L.length) (k : Int) : cv (partsOf L) ((a : Int) + (L.length : Int) * k) = sumN (L.getD a []) k (L.getD a []).length := by
  have e := cv_on (f := partsOf L) (r := a) (by rw [partsOf_len]; exact h) k
  rw [partsOf_len, partsOf_get h] at e
  rw [e]
  have z := ev_part (rest := ((a : Int) : Rat)) (period := ((L.length : Int) : Rat)) (fun z => by
    have := Rat.intCast_inj.mp (z.trans (show (0 : Rat) = ((0 : Int) : Rat) from rfl))
    omega) (L.getD a []) k
  exact z
theorem int_split {m : Nat} (hm : 0 < m) (n : Int) : ∃ (a : Nat) (k : Int), a < m ∧ n = (a : Int) + (m : Int) * k := by
  have a0 := Int.emod_nonneg n (show (m : Int) ≠ 0 by omega)
  have a1 := Int.emod_lt_of_pos n (show (0 : Int) < (m : Int) by omega)
  have := Int.emod_add_mul_ediv n (m : Int)
  exact ⟨(n % (m : Int)).toNat, n / (m : Int), by omega, by rw [Int.toNat_of_nonneg a0]; omega⟩
theorem cv_trS {f : Parts} (h : f ≠ []) (n : Int) : cv (trS f) n = cv f n := by
  rw [cv_trim (fun e => h (List.map_eq_nil_iff.mp e)), cv_strip]
theorem trim_len {f : Parts} (h : f ≠ []) : (trimL f).length ≤ f.length := by
  obtain ⟨j, _, h2, e, _⟩ := trim_facts h
  rw [e, List.length_take]
  omega
/-- what a reckoned course keeps -/
theorem trS_pt {f : Parts} {D C n : Nat} (h : f ≠ []) (hl : f.length ≤ 60) (hn : ∀ l ∈ f, l.length ≤ n) (n8 : n ≤ 8) (hc : Cp D C f) (d0 : 0 < D) (d1 : D ≤ 2 ^ 3500) (c1 : C ≤ 2 ^ 3500) : Pt (trS f) ∧ (trS f).length ≤ f.length ∧ (∀ l ∈ trS f, l.length ≤ n) ∧ Cp D C (trS f) := by
  have h' : f.map strip ≠ [] := fun e => h (List.map_eq_nil_iff.mp e)
  have tl : (trS f).length ≤ f.length := by
    have := trim_len h'
    rw [List.length_map] at this
    exact this
  have ln : ∀ l ∈ trS f, l.length ≤ n := fun l m => by
    obtain ⟨k, hk, rfl⟩ := List.mem_map.mp (trim_mem m)
    exact Nat.le_trans (Nat.le_trans (List.length_take_le _ _) (strN_le _ _)) (hn k hk)
  have cp := Cp.trS hc
  exact ⟨⟨trim_ne h', Nat.le_trans tl hl, fun l m => Nat.le_trans (ln l m) n8, fun l m => by
    obtain ⟨k, hk, rfl⟩ := List.mem_map.mp (trim_mem m)
    exact strip_sd k, trim_noper h', fun l m => sz_cd (cp l m) d0 d1 c1⟩, tl, ln, cp⟩
theorem atOk_of {f : Parts} {D C : Nat} (hn : ∀ l ∈ f, l.length ≤ 8) (hc : Cp D C f) (d0 : 0 < D) (d1 : D < 2 ^ 60) (c1 : C < 2 ^ 4000) : AtOk f := fun l m => by
  refine ⟨hn l m, fun i => ?_, fun x hx => Nat.lt_of_le_of_lt ((hc l m x hx).den d0).2 c1⟩
  have gen : ∀ (l : List Rat) (a : Nat), a ∣ D → (∀ x ∈ l, x.den ∣ D) → l.foldl (fun b x => Nat.lcm b x.den) a ∣ D := by
    intro l
    induction l with
    | nil => intro a h _; exact h
    | cons x t ih => intro a h hx; exact ih _ (Nat.lcm_dvd h (hx x List.mem_cons_self)) fun y hy => hx y (List.mem_cons_of_mem _ hy)
  have z : bot (l.take i) ∣ D := gen (l.take i) 1 ⟨D, (Nat.one_mul D).symm⟩ fun x hx => ((hc l m x (List.mem_of_mem_take hx)).den d0).1
  exact Nat.lt_of_le_of_lt (Nat.le_of_dvd d0 z) d1
theorem d0_big : D0 ≤ 2 ^ 3500 := Nat.le_trans (show D0 ≤ 2 ^ 60 by decide) (pw2 (by decide))
theorem c0_big {k : Nat} (h : k ≤ 2 ^ 60) : C0 * k ≤ 2 ^ 3500 := Nat.le_trans (Nat.mul_le_mul_left _ h) (by rw [← Nat.pow_add]; exact pw2 (by decide))
theorem drawn_of {br : Bool} {L : List (List Rat)} (h : PL br L) : Drawn br (trS (partsOf L)) := by
  have l1 := h.l1
  have l4 := h.l4
  have ne : partsOf L ≠ [] := fun e => by
    have := partsOf_len L
    rw [e] at this
    have : 0 = L.length := this
    omega
  have mem : ∀ a, a < L.length → L.getD a [] ∈ L := fun a ha => getD_memP ha
  have cp : Cp D0 C0 (partsOf L) := fun l m => by
    obtain ⟨a, ha, rfl⟩ := partsOf_mem m
    exact partOf_cd (by omega) l4 (by omega) (h.ln _ (mem a ha)) (h.cd _ (mem a ha))
  obtain ⟨p1, p2, p3, p4⟩ := trS_pt (n := 6) ne (by rw [partsOf_len]; omega) (fun l m => by
    obtain ⟨a, ha, rfl⟩ := partsOf_mem m
    rw [partOf_len]
    have := h.ln _ (mem a ha)
    omega) (by decide) cp (by decide) d0_big (Nat.le_trans (by rw [Nat.mul_one]; exact Nat.le_refl _) (c0_big (k := 1) (by decide)))
  rw [partsOf_len] at p2
  have one : ∀ c : Rat, (∀ l ∈ L, ∀ x ∈ l, IsZ (c * x)) → Whole fun n => c * cv (trS (partsOf L)) n := fun c hc n => by
    obtain ⟨a, k, ha, e⟩ := int_split (m := L.length) (by omega) n
    show IsZ (c * cv (trS (partsOf L)) n)
    rw [cv_trS ne, e, cv_parts ha]
    refine sum_whole (fun i => ?_) k _
    rw [List.getD_eq_getElem?_getD]
    cases q : (L.getD a [])[i]? with
    | none => show IsZ (c * 0); rw [Rat.mul_zero]; exact IsZ.zero
    | some x => exact hc _ (mem a ha) x (List.mem_of_getElem? q)
  refine ⟨p1, by omega, p3, p4, fun e n => ?_, fun e => ⟨fun z => ?_, ?_⟩⟩
  · have := one 1 (fun l m x hx => by rw [Rat.one_mul]; exact h.wh e l m x hx) n
    have this : IsZ (1 * cv (trS (partsOf L)) n) := this
    rw [Rat.one_mul] at this
    exact this
  · obtain ⟨a, s, ha, hs, n1, n2⟩ := h.bk e
    have := z ((a : Int) + (L.length : Int) * (s : Int))
    rw [cv_trS ne, cv_parts ha] at this
    exact sum_broken n2 n1 _ hs this
  · refine one 60 fun l m x hx => ?_
    obtain ⟨z, hz, _⟩ := h.cd l m x hx
    exact ⟨z, by rw [Rat.mul_comm]; exact hz⟩
end W
set_option Elab.async false
set_option linter.all false
set_option maxRecDepth 100000
set_option maxHeartbeats 4000000
namespace W
open PySem L2 Dn HM PM
section
variable {K : PySem.W.Frag} {mg : Str → Option Value} {rs : List RP} {res : RP}
/-- the product of two fractions as the law tells them -/
theorem c_times {a b : Rat} (ha : SzQ a) (hb : SzQ b) : C_law_times K [pF a, pF b] (pF (a * b)) := ⟨a.num, a.den, b.num, b.den, rfl, dn, dn, ha.1, by exact ha.2, hb.1, by exact hb.2, by rw [Rat.num_divInt_den, Rat.num_divInt_den]⟩
theorem c_timesI {a : Rat} {y m : Int} (ha : SzQ a) (hm : m ≠ 0) (hy : y.natAbs < 2 ^ 4000) (hm2 : m.natAbs < 2 ^ 4000) : C_law_times K [pF a, pT [pI y, pI m]] (pF (a * Rat.divInt y m)) := ⟨a.num, a.den, y, m, rfl, dn, hm, ha.1, by exact ha.2, hy, hm2, by rw [Rat.num_divInt_den]⟩
/-- the longer list on its way -/
def upL (l : List Rat) (c : Rat) (i : Nat) : List Rat := (List.range (l.length + 1)).map fun j => if j < i then (0 :: l).getD j 0 + l.getD j 0 * c else (0 :: l).getD j 0
theorem upL_len (l : List Rat) (c : Rat) (i : Nat) : (upL l c i).length = l.length + 1 := by unfold upL; rw [List.length_map, List.length_range]
theorem upL_get {l : List Rat} {c : Rat} {i j : Nat} (h : j < l.length + 1) : (upL l c i)[j]? = some (if j < i then (0 :: l).getD j 0 + l.getD j 0 * c else (0 :: l).getD j 0) := by
  unfold upL
  rw [List.getElem?_map, List.getElem?_range h]
  rfl
theorem upL_zero (l : List Rat) (c : Rat) : upL l c 0 = 0 :: l := by
  refine List.ext_getElem? fun j => ?_
  by_cases hj : j < l.length + 1
  · rw [upL_get hj, if_neg (Nat.not_lt_zero j), List.getD_eq_getElem?_getD, List.getElem?_eq_getElem (show j < (0 :: l).length from hj)]
    rfl
  · rw [List.getElem?_eq_none (by rw [upL_len]; omega), List.getElem?_eq_none (by rw [List.length_cons]; omega)]
theorem upL_set {l : List Rat} {c : Rat} {i : Nat} (h : i < l.length) : (upL l c i).set i ((0 :: l).getD i 0 + l.getD i 0 * c) = upL l c (i + 1) := by
  refine List.ext_getElem? fun j => ?_
  by_cases hj : j < l.length + 1
  · rw [upL_get hj, List.getElem?_set]
    split
    · rename_i e
      subst e
      rw [if_pos (by rw [upL_len]; exact hj), if_pos (Nat.lt_succ_self i)]
    · rename_i e
      rw [upL_get hj]
      by_cases q : j < i
      · rw [if_pos q, if_pos (by omega)]
      · rw [if_neg q, if_neg (by omega)]
  · rw [List.getElem?_eq_none (by rw [List.length_set, upL_len]; omega), List.getElem?_eq_none (by rw [upL_len]; omega)]
theorem upL_full (l : List Rat) (c : Rat) : upL l c l.length = psum (0 :: l) (pscale l c) := by
  have len : (psum (0 :: l) (pscale l c)).length = l.length + 1 := by rw [psum_len, List.length_cons, pscale_len]; omega
  refine List.ext_getElem? fun j => ?_
  by_cases hj : j < l.length + 1
  · have a := psum_getD (0 :: l) (pscale l c) j
    rw [List.getD_eq_getElem?_getD, List.getElem?_eq_getElem (by omega)] at a
    rw [upL_get hj, List.getElem?_eq_getElem (by omega)]
    congr 1
    have a : (psum (0 :: l) (pscale l c))[j] = (0 :: l).getD j 0 + (pscale l c).getD j 0 := a
    rw [a]
    have g : (pscale l c).getD j 0 = l.getD j 0 * c := by
      unfold pscale
      rw [List.getD_eq_getElem?_getD, List.getElem?_map, List.getD_eq_getElem?_getD]
      cases l[j]? with
      | none => show (0 : Rat) = 0 * c; rw [Rat.zero_mul]
      | some x => rfl
    rw [g]
    by_cases q : j < l.length
    · rw [if_pos q]
    · rw [if_neg q, List.getD_eq_getElem?_getD (l := l), List.getElem?_eq_none (by omega)]
      show _ = (0 :: l).getD j 0 + 0 * c
      rw [Rat.zero_mul, Rat.add_zero]
  · rw [List.getElem?_eq_none (by rw [upL_len]; omega), List.getElem?_eq_none (by omega)]
theorem d_law_raised (h : C_law_raised K rs res) : Tr Z0 (t_law_raised K) (startR ["numbers", "start", "by", "longer", "place", "one"] rs) [] No res := by
  obtain ⟨l, s, b, rfl, hl, hb, hb2, hs, z1, z2, z3, rfl⟩ := h
  have ec : (0 - (s : Rat)) = ((0 - s : Int) : Rat) := by rw [Rat.intCast_sub]; rfl
  unfold raised
  rw [ec] at z2 z3 ⊢
  have sc : SzQ ((0 - s : Int) : Rat) := szi (Nat.lt_of_lt_of_le (show (0 - s).natAbs < 2 ^ 1000 by rw [Int.zero_sub, Int.natAbs_neg]; exact hs) (Nat.pow_le_pow_right (by decide) (by decide)))
  generalize hc : ((0 - s : Int) : Rat) = c at z2 z3 sc ⊢
  have zl : ∀ j, SzQ (l.getD j 0) := fun j => by
    rw [List.getD_eq_getElem?_getD]
    cases q : l[j]? with
    | none => exact szq0
    | some x => exact z1 x (List.mem_of_getElem? q)
  have zl0 : ∀ j, SzQ ((0 :: l).getD j 0) := fun j => by
    cases j with
    | zero => exact szq0
    | succ j => exact zl j
  refine tr_seq (tr_asgF (i := 3) (denf_cat (xs := [pF 0]) (ys := l.map pF) (den_lst (rs := [pF 0]) (den_cons (den_tup (rs := [pI 0, pI 1]) (den_cons (den_v (v := .int 0)) (den_cons (den_v (v := .int 1)) den_nil)) (by show 2 ≤ sizeLine; decide)) den_nil) (by show 1 ≤ sizeLine; decide)) (den_var (i := 0) rfl) (by rw [List.length_map]; exact sz (show [pF 0].length + l.length ≤ 100000 from by show 1 + _ ≤ _; omega)))) ?_
  rintro _ _ ⟨q, rfl, rfl⟩
  show Tr Z0 _ [some (pFs l), some (pI s), some (pI b), some (pRef q), none, none] [⟨q, (0 :: l).map pF⟩] _ _
  have e0 : ([⟨q, (0 :: l).map pF⟩] : List Mt) = [⟨q, (upL l c 0).map pF⟩] := by rw [upL_zero]
  rw [e0]
  refine tr_seq (tr_for (vs := [4, 5]) (deni_enum (f := pF) (xs := l) (den_cons (den_var (i := 0) rfl) den_nil)) (fun i ρ' ms' => (∃ a4 a5, ρ' = [some (pFs l), some (pI s), some (pI b), some (pRef q), a4, a5]) ∧ ms' = [⟨q, (upL l c i).map pF⟩]) ⟨⟨none, none, rfl⟩, rfl⟩ ?_) ?_
  · intro i r hr
    obtain ⟨⟨x, j⟩, hx, rfl⟩ := map_get hr
    rw [List.getElem?_zipIdx] at hx
    obtain ⟨x', hx', e⟩ := Option.map_eq_some_iff.mp hx
    obtain ⟨rfl, rfl⟩ := Prod.mk.inj e
    obtain ⟨hi, ex⟩ := List.getElem?_eq_some_iff.mp hx'
    have gx : l.getD i 0 = x' := by rw [List.getD_eq_getElem?_getD, hx']; rfl
    refine ⟨_, deng_tup2 (by decide) (by decide), ?_⟩
    rintro _ _ ⟨⟨a4, a5, rfl⟩, rfl⟩
    rw [Nat.zero_add]
    have zx : SzQ x' := z1 x' (List.mem_of_getElem? hx')
    have zp : SzQ (x' * c) := z2 _ (List.mem_map.mpr ⟨x', List.mem_of_getElem? hx', rfl⟩)
    have gi := upL_get (l := l) (c := c) (i := i) (j := i) (by omega)
    rw [if_neg (Nat.lt_irrefl i)] at gi
    refine tr_imp (tr_setAtM (i := 3) (k := 0) (p := q) (z := (i : Int)) (j := i) (r := pF ((0 :: l).getD i 0 + x' * c)) rfl rfl (denM_call (denM_cons (denM_ix (i := 3) (k := 0) (n := i) rfl rfl (den_var (i := 4) rfl) (r := pF ((0 :: l).getD i 0)) (by rw [List.getElem?_map, gi]; rfl)) (denM_cons (denM_of (den_call (den_cons (den_var (i := 5) rfl) (den_cons (den_tup (rs := [pI (0 - s), pI 1]) (den_cons (den_op (den_v (v := .int 0)) (den_var (i := 1) rfl) opd_I0) (den_cons (den_v (v := .int 1)) den_nil)) (by show 2 ≤ sizeLine; decide)) den_nil)) (show C_law_times K [pF x', pT [pI (0 - s), pI 1]] (pF (x' * c)) from ?_))) denM_nil)) (show C_law_plus K [pF ((0 :: l).getD i 0), pF (x' * c)] _ from ⟨_, _, rfl, zl0 i, zp, rfl⟩)) (den_var (i := 4) rfl) ?_) ?_
    · have := c_times (K := K) zx sc
      rw [← hc] at this ⊢
      exact this
    · unfold ixN
      rw [List.length_map, upL_len, if_pos (Int.natCast_nonneg i), if_pos (by omega), Int.toNat_natCast]
    · rintro _ _ ⟨rfl, rfl⟩
      refine ⟨⟨_, _, rfl⟩, ?_⟩
      show [(⟨q, ((upL l c i).map pF).set i (pF ((0 :: l).getD i 0 + x' * c))⟩ : Mt)] = _
      rw [← gx, ← List.map_set, upL_set hi]
  · rw [List.length_map, List.length_zipIdx, upL_full]
    rintro _ _ ⟨⟨a4, a5, rfl⟩, rfl⟩
    refine tr_freeze (i := 3) (k := 0) rfl rfl ?_
    have zlen : (psum (0 :: l) (pscale l c)).length ≤ 100 := by rw [psum_len, List.length_cons, pscale_len]; omega
    generalize psum (0 :: l) (pscale l c) = m at z3 zlen ⊢
    show Tr Z0 _ [some (pFs l), some (pI s), some (pI b), some (pFs m), a4, a5] [] No _
    have hb1 : b.natAbs < 2 ^ 1000 := by
      have e : ((b.natAbs : Nat) : Int) = b := by omega
      rw [← Int.ofNat_lt, e]
      exact_mod_cast hb2
    have bb : b.natAbs < 2 ^ 4000 := Nat.lt_of_lt_of_le hb1 (Nat.pow_le_pow_right (by decide) (by decide))
    refine tr_ret (den_re (den_map m pF (fun x => pF (x * Rat.divInt 1 b)) (deni_list (den_var (i := 3) rfl)) (fun x hx => ⟨_, deng_name (by decide), den_call (den_cons (den_var (i := 5) rfl) (den_cons (den_tup (rs := [pI 1, pI b]) (den_cons (den_v (v := .int 1)) (den_cons (den_var (i := 2) rfl) den_nil)) (by show 2 ≤ sizeLine; decide)) den_nil)) (c_timesI (z3 x hx) (by omega) (small_pow (by decide) _ (by decide)) bb)⟩) (sz (by omega))) ?_)
    have e1 : Rat.divInt 1 b = 1 / (b : Rat) := by rw [Rat.divInt_eq_div]; rfl
    rw [e1]
    exact pLm_map pF (fun x : Rat => x * (1 / (b : Rat))) m
end
end W
set_option Elab.async false
set_option linter.all false
set_option maxRecDepth 100000
set_option maxHeartbeats 4000000
namespace W
open PySem L2 Dn HM PM
section
variable {K : PySem.W.Frag} {mg : Str → Option Value} {rs : List RP} {res : RP}
theorem rep_oneF (n : Nat) : (List.replicate n [pF 0]).flatten = (List.replicate n (0 : Rat)).map pF := by
  induction n with
  | zero => rfl
  | succ n ih => rw [List.replicate_succ, List.flatten_cons, ih, List.replicate_succ]; rfl
theorem pa_len (rest period : Rat) (numbers : List Rat) : ∀ i, i ≤ numbers.length → ((numbers.zipIdx.take i).foldl (partStep rest period) (List.replicate (numbers.length + 1) 0, [1])).1.length = numbers.length + 1 ∧ ((numbers.zipIdx.take i).foldl (partStep rest period) (List.replicate (numbers.length + 1) 0, [1])).2.length = i + 1
  | 0, _ => ⟨List.length_replicate .., rfl⟩
  | i + 1, hi => by
    obtain ⟨h1, h2⟩ := pa_len rest period numbers i (by omega)
    have hz : numbers.zipIdx[i]? = some (numbers.getD i 0, i) := by
      rw [List.getElem?_zipIdx, List.getElem?_eq_getElem (by omega), Nat.zero_add, List.getD_eq_getElem?_getD, List.getElem?_eq_getElem (by omega)]
      rfl
    rw [foldTake hz]
    generalize (numbers.zipIdx.take i).foldl (partStep rest period) (List.replicate (numbers.length + 1) 0, [1]) = st at h1 h2 ⊢
    unfold partStep
    exact ⟨by rw [addTo_len]; exact h1, by rw [raised_len, h2]⟩
theorem den_f0 {Z : Zx} {ρ : Rho} : Den Z (tTup (tCons (tC (.int 0)) (tCons (tC (.int 1)) tNil))) ρ (pF 0) := den_tup (rs := [pI 0, pI 1]) (den_cons (den_v (v := .int 0)) (den_cons (den_v (v := .int 1)) den_nil)) (by show 2 ≤ sizeLine; decide)
theorem den_f1 {Z : Zx} {ρ : Rho} : Den Z (tTup (tCons (tC (.int 1)) (tCons (tC (.int 1)) tNil))) ρ (pF 1) := den_tup (rs := [pI 1, pI 1]) (den_cons (den_v (v := .int 1)) (den_cons (den_v (v := .int 1)) den_nil)) (by show 2 ≤ sizeLine; decide)
theorem d_law_part (h : C_law_part K rs res) : Tr Z0 (t_law_part K) (startR ["rest", "period", "numbers", "found", "one", "at", "number", "place", "a"] rs) [] No res := by
  obtain ⟨rest, period, numbers, rfl, p1, p4, r0, r4, hl, ok, rfl⟩ := h
  refine tr_seqI (tr_asgG (r := pT [pFs (List.replicate (numbers.length + 1) 0), pFs [1]]) (den_tup (den_cons (den_re (den_op (r2 := pI ((numbers.length + 1 : Nat) : Int)) (den_lst (rs := [pF 0]) (den_cons den_f0 den_nil) (by show 1 ≤ sizeLine; decide)) (den_re (den_op (den_callB (den_cons (den_var (i := 2) rfl) den_nil) cd_len) (den_v (v := .int 1)) opd_I0) (by rw [List.length_map]; rfl)) (opd_rep (by omega) (by omega) ?_)) (by rw [Int.toNat_natCast, rep_oneF])) (den_cons (den_lst (rs := [pF 1]) (den_cons den_f1 den_nil) (by show 1 ≤ sizeLine; decide)) den_nil)) (by show 2 ≤ sizeLine; decide)) (deng_tup2 (vs := [3, 4]) (by decide) (by decide))) ?_
  · rw [Int.toNat_natCast]
    exact sz (show 1 * (numbers.length + 1) ≤ 100000 by omega)
  show Tr Z0 _ [some (pI rest), some (pI period), some (pFs numbers), some (pFs (List.replicate (numbers.length + 1) 0)), some (pFs [1]), none, none, none, none] [] _ _
  refine tr_seq (tr_for (vs := [5, 6]) (deni_enum (f := pF) (xs := numbers) (den_cons (den_var (i := 2) rfl) den_nil)) (fun i ρ' ms' => ms' = [] ∧ ∃ a5 a6 a7 a8, ρ' = [some (pI rest), some (pI period), some (pFs numbers), some (pFs ((numbers.zipIdx.take i).foldl (partStep (rest : Rat) (period : Rat)) (List.replicate (numbers.length + 1) 0, [1])).1), some (pFs ((numbers.zipIdx.take i).foldl (partStep (rest : Rat) (period : Rat)) (List.replicate (numbers.length + 1) 0, [1])).2), a5, a6, a7, a8]) ⟨rfl, none, none, none, none, rfl⟩ ?_) ?_
  · intro i r hr
    obtain ⟨⟨c, j⟩, hx, rfl⟩ := map_get hr
    have hz := hx
    rw [List.getElem?_zipIdx] at hx
    obtain ⟨c', hx', e⟩ := Option.map_eq_some_iff.mp hx
    obtain ⟨rfl, rfl⟩ := Prod.mk.inj e
    obtain ⟨hi, ex⟩ := List.getElem?_eq_some_iff.mp hx'
    have gx : numbers.getD i 0 = c' := by rw [List.getD_eq_getElem?_getD, hx']; rfl
    refine ⟨_, deng_tup2 (by decide) (by decide), ?_⟩
    rintro _ _ ⟨rfl, a5, a6, a7, a8, rfl⟩
    obtain ⟨l1, l2⟩ := pa_len (rest : Rat) (period : Rat) numbers i (by omega)
    obtain ⟨z1, z2, z3, z4, z5, z6⟩ := ok i hi
    rw [foldTake hz]
    rw [gx] at z3 z4
    rw [Nat.zero_add]
    generalize (numbers.zipIdx.take i).foldl (partStep (rest : Rat) (period : Rat)) (List.replicate (numbers.length + 1) 0, [1]) = st at l1 l2 z1 z2 z3 z5 z6 ⊢
    obtain ⟨found, one⟩ := st
    have l1 : found.length = numbers.length + 1 := l1
    have l2 : one.length = i + 1 := l2
    show Tr Z0 _ [some (pI rest), some (pI period), some (pFs numbers), some (pFs found), some (pFs one), some (pI (i : Int)), some (pF c'), a7, a8] [] _ _
    refine tr_seqI (ρ1 := [some (pI rest), some (pI period), some (pFs numbers), some (pFs (addTo found c' one)), some (pFs one), some (pI (i : Int)), some (pF c'), a7, a8]) (tr_asg (r := pFs (addTo found c' one)) (den_re (den_map found.zipIdx (fun y => pT [pI (y.2 : Int), pF y.1]) (fun y => pF (y.1 + c' * (if y.2 < one.length then one.getD y.2 0 else 0))) (deni_enum (f := pF) (xs := found) (den_cons (den_var (i := 3) rfl) den_nil)) (fun y hy => ⟨_, deng_tup2 (by decide) (by decide), ?_⟩) (sz (by rw [List.length_zipIdx]; omega))) (pLm_map pF (fun y : Rat × Nat => y.1 + c' * (if y.2 < one.length then one.getD y.2 0 else 0)) _))) ?_
    · have fy : SzQ y.1 := z1 _ (List.mem_of_getElem? (List.mem_zipIdx_iff_getElem?.mp hy))
      have vx : SzQ (if y.2 < one.length then one.getD y.2 0 else 0) ∧ SzQ (c' * (if y.2 < one.length then one.getD y.2 0 else 0)) := by
        by_cases q : y.2 < one.length
        · rw [if_pos q]
          have m : one.getD y.2 0 ∈ one := getD_mem' q
          exact ⟨z2 _ m, z3 _ m⟩
        · rw [if_neg q, Rat.mul_zero]
          exact ⟨szq0, szq0⟩
      refine den_call (den_cons (den_var (i := 8) rfl) (den_cons (den_call (den_cons (den_var (i := 6) rfl) (den_cons (den_if (dent_test (den_op (den_var (i := 7) rfl) (den_callB (den_cons (den_var (i := 4) rfl) den_nil) cd_len) opd_I0)) (fun e => ?_) fun e => ?_) den_nil)) (c_times (a := c') (b := if y.2 < one.length then one.getD y.2 0 else 0) z4 vx.1)) den_nil)) (show C_law_plus K [pF y.1, pF (c' * (if y.2 < one.length then one.getD y.2 0 else 0))] _ from ⟨_, _, rfl, fy, vx.2, rfl⟩)
      · have e : ((y.2 : Nat) : Int) < (((one.map pF).length : Nat) : Int) := of_decide_eq_true e.symm
        rw [List.length_map] at e
        have q : y.2 < one.length := by omega
        rw [if_pos q]
        exact den_op (den_var (i := 4) rfl) (den_var (i := 7) rfl) (opd_row (f := pF) 0 q)
      · have e : ¬ ((y.2 : Nat) : Int) < (((one.map pF).length : Nat) : Int) := of_decide_eq_false e.symm
        rw [List.length_map] at e
        rw [if_neg (by omega)]
        exact den_f0
    have es : ((rest : Rat) + (i : Rat) * (period : Rat)) = ((rest + (i : Int) * period : Int) : Rat) := by
      rw [Rat.intCast_add, Rat.intCast_mul]
      rfl
    have eb : (period : Rat) * ((i : Rat) + 1) = ((period * ((i : Int) + 1) : Int) : Rat) := by
      rw [Rat.intCast_mul, castS]
      rfl
    have b0 : 0 < period * ((i : Int) + 1) := Int.mul_pos (by omega) (by omega)
    have ml : ∀ {x y : Int}, 0 ≤ x → x ≤ 6 → 0 ≤ y → y ≤ 6 → (x * y).natAbs ≤ 36 := fun {x y} h1 h2 h3 h4 => by
      rw [Int.natAbs_mul]
      exact Nat.mul_le_mul (show x.natAbs ≤ 6 by omega) (show y.natAbs ≤ 6 by omega)
    have m1 := ml (x := (i : Int)) (y := period) (by omega) (by omega) (by omega) (by omega)
    have m2 := ml (x := period) (y := (i : Int) + 1) (by omega) (by omega) (by omega) (by omega)
    refine tr_imp (tr_asg (r := pFs (raised one ((rest : Rat) + (i : Rat) * (period : Rat)) ((period : Rat) * ((i : Rat) + 1)))) ?_) ?_
    · rw [es, eb]
      refine den_call (den_cons (den_var (i := 4) rfl) (den_cons (den_op (den_var (i := 0) rfl) (den_op (den_var (i := 5) rfl) (den_var (i := 1) rfl) (opd_I (wide_mul (a := 20) (b := 20) (by omega) (by omega) (by decide) (by decide) (by decide)))) opd_I0) (den_cons (den_op (den_var (i := 1) rfl) (den_op (den_var (i := 5) rfl) (den_v (v := .int 1)) opd_I0) (opd_I (wide_mul (a := 20) (b := 20) (by omega) (by omega) (by decide) (by decide) (by decide)))) den_nil))) (show C_law_raised K [pFs one, pI (rest + (i : Int) * period), pI (period * ((i : Int) + 1))] _ from ⟨one, _, _, rfl, by omega, b0, ?_, small_pow (by omega) _ (by decide), z2, z5, z6, rfl⟩)
      have : (period * ((i : Int) + 1)) < 2 ^ 20 := by omega
      exact Int.lt_trans this (by exact_mod_cast (Nat.pow_lt_pow_right (by decide) (by decide) : (2 : Nat) ^ 20 < 2 ^ 1000))
    · rintro _ _ ⟨rfl, rfl⟩
      exact ⟨rfl, _, _, _, _, rfl⟩
  · rw [List.length_map]
    rintro _ _ ⟨rfl, a5, a6, a7, a8, rfl⟩
    rw [List.take_length]
    exact tr_ret (den_var (i := 3) rfl)
end
end W
set_option Elab.async false
set_option linter.all false
set_option maxRecDepth 100000
set_option maxHeartbeats 4000000
namespace Dn
open PySem L2
section
variable {Z : Zx} {ρ : Rho} {ta tb te : TE} {r r1 : RP} {rs : List RP} {K : PySem.W.Frag} {C : List RP → RP → Prop} {E : XK} {α : Type} {P : α → Prop} {f g : α → RP}
theorem pt_X {F : Hp} {v : V} (h : (pT [pX P f, r]).R F v) : (pX P fun x => pT [f x, r]).R F v := by
  obtain ⟨a, vs, e, ha, hv⟩ := h
  match vs, hv with
  | [u, w], ⟨⟨x, px, rx⟩, hw, _⟩ => exact ⟨x, px, a, [u, w], e, ha, rx, hw, trivial⟩
theorem den_callX2 (h1 : Den Z ta ρ r1) (h2 : Den Z tb ρ (pX P f)) (hc : ∀ x, P x → C [r1, f x] (g x)) : Den Z (tCall (pureSp C) [] E (tCons ta (tCons tb tNil))) ρ (pX P g) := fun F H σ env ok Q q =>
  (den_cons h1 (den_cons h2 den_nil)) F H σ env ok _ fun vs F1 H1 g1 k1 x1 => by
    rw [List.append_nil]
    match vs, x1 with
    | [u, w], ⟨h, ⟨x, px, rx⟩, _⟩ => exact pure_call (rs := [r1, f x]) k1 ⟨h, rx, trivial⟩ (hc x px) fun v F' H' g k rv => q v F' H' (g1.trans g) k ⟨x, px, rv⟩
theorem vrs_mid {F : Hp} {B : List RP} : ∀ {A : List RP} {vs : List V}, Vrs F vs (A ++ (pX P f :: B)) → ∃ x, P x ∧ Vrs F vs (A ++ (f x :: B))
  | [], v :: vs, ⟨⟨x, px, rx⟩, h⟩ => ⟨x, px, rx, h⟩
  | a :: A, v :: vs, ⟨h1, h⟩ => by
    obtain ⟨x, px, h2⟩ := vrs_mid (A := A) h
    exact ⟨x, px, h1, h2⟩
  | [], [], h => h.elim
  | _ :: _, [], h => h.elim
theorem vrs_setX {F : Hp} : ∀ {rs : List RP} {vs : List V} (i : Nat), i < rs.length → Vrs F vs (rs.set i (pX P f)) → ∃ x, P x ∧ Vrs F vs (rs.set i (f x))
  | r :: rs, v :: vs, 0, _, ⟨⟨x, px, rx⟩, h⟩ => ⟨x, px, rx, h⟩
  | r :: rs, v :: vs, i + 1, hi, ⟨h1, h⟩ => by
    obtain ⟨x, px, h2⟩ := vrs_setX (rs := rs) i (Nat.lt_of_succ_lt_succ hi) h
    exact ⟨x, px, h1, h2⟩
  | [], _, i, hi, _ => absurd hi (Nat.not_lt_zero i)
  | _ :: _, [], 0, _, h => h.elim
  | _ :: _, [], _ + 1, _, h => h.elim
theorem tr_openS {ts : TS} {ms : List Mt} {N : Rho → List Mt → Prop} {R : RP} {q : Addr} {i : Nat} (hi : i < rs.length) (a : ∀ x, P x → Tr Z ts ρ (⟨q, rs.set i (f x)⟩ :: ms) N R) : Tr Z ts ρ (⟨q, rs.set i (pX P f)⟩ :: ms) N R := fun F H σ s D h w => by
  obtain ⟨fq, vs, hq, hv⟩ := s.mu _ List.mem_cons_self
  obtain ⟨x, px, l3⟩ := vrs_setX i hi hv
  refine a x px F H σ ⟨s.env, s.ok, fun m hm => ?_, fun m hm => ?_, s.nd⟩ D h w
  · rcases List.mem_cons.mp hm with e | e
    · rw [e]; exact ⟨fq, vs, hq, l3⟩
    · exact s.mu m (List.mem_cons_of_mem _ e)
  · rcases List.mem_cons.mp hm with e | e
    · rw [e]; exact s.nz ⟨q, rs.set i (pX P f)⟩ List.mem_cons_self
    · exact s.nz m (List.mem_cons_of_mem _ e)
end
end Dn
namespace W
open PySem L2 Dn HM PM
abbrev dF (q : Rat) : PyData := .tuple [.int q.num, .int (q.den : Int)]
theorem d_canF : ∀ l : List Rat, PyData.canLayAll0 (l.map dF) = true
  | [] => by simp [PyData.canLayAll0]
  | _ :: r => by simp [PyData.canLayAll0, PyData.canLay0, d_canF r]
theorem d_depF : ∀ l : List Rat, PyData.depthAll (l.map dF) ≤ 1
  | [] => by simp [PyData.depthAll]
  | a :: r => by
    have h := d_depF r
    simp only [List.map_cons, PyData.depthAll, PyData.depth]
    omega
theorem d_shF (l : List Rat) : SeqAt.shaped (.list (l.map dF)) = true := by
  have h1 := d_depF l
  have h2 : PyData.depth (.list (l.map dF)) ≤ 64 := by simp only [PyData.depth]; omega
  show (PyData.canLay0 (.list (l.map dF)) && decide (PyData.depth (.list (l.map dF)) ≤ 64)) = true
  rw [Bool.and_eq_true]
  exact ⟨by simp only [PyData.canLay0]; exact d_canF l, decide_eq_true h2⟩
theorem d_eqF0 : ∀ l : List Rat, PyData.eqv (.list (l.map dF)) (.list (([] : List Rat).map dF)) = decide (l = [])
  | [] => by simp [PyData.eqv, PyData.eqvAll]
  | a :: r => by simp [PyData.eqv, PyData.eqvAll]
section
variable {K : PySem.W.Frag} {mg : Str → Option Value} {rs : List RP} {res : RP}
theorem isd_F {q : Rat} : IsD K (pF q) (dF q) := isd_pr (p := (q.num, (q.den : Int)))
theorem opd_neF {l : List Rat} : OpD (rNeD K) (pFs l) (pFs []) (pB (!decide (l = []))) := opd_neD (isd_list (d := dF) fun _ => isd_F) (isd_list (d := dF) fun _ => isd_F) (d_shF l) (d_shF []) (d_eqF0 l)
abbrev q2 : Rat := ⟨1, 2, by decide, by decide⟩
abbrev q3 : Rat := ⟨1, 3, by decide, by decide⟩
abbrev q5 : Rat := ⟨-1, 5, by decide, by decide⟩
abbrev q4 : Rat := ⟨1, 4, by decide, by decide⟩
theorem q_broken {c : Rat} (h : c ∈ [q2, q3, q5, q4]) : c.den ≠ 1 ∧ Cd 60 60 c ∧ SzQ c := by
  have gen : ∀ (c : Rat) (k : Nat) (z : Int), (c.den : Nat) * k = 60 → c.num.natAbs ≤ 1 → Cd 60 60 c := fun c k z h1 h2 => by
    refine ⟨c.num * (k : Int), ?_, ?_⟩
    · rw [← h1, Rat.natCast_mul, Rat.intCast_mul, ← mul_den c, Rat.mul_assoc]
      rfl
    · rw [Int.natAbs_mul, Int.natAbs_natCast]
      have : k ≤ 60 := by
        rw [← h1]
        exact Nat.le_mul_of_pos_left _ c.den_pos
      calc c.num.natAbs * k ≤ 1 * 60 := Nat.mul_le_mul h2 this
        _ = 60 := rfl
  have all : c.den ≠ 1 ∧ Cd 60 60 c := by
    rcases List.mem_cons.mp h with e | h
    · rw [e]; exact ⟨by decide, gen q2 30 0 rfl (by decide)⟩
    · rcases List.mem_cons.mp h with e | h
      · rw [e]; exact ⟨by decide, gen q3 20 0 rfl (by decide)⟩
      · rcases List.mem_cons.mp h with e | h
        · rw [e]; exact ⟨by decide, gen q5 12 0 rfl (by decide)⟩
        · rw [List.mem_singleton.mp h]; exact ⟨by decide, gen q4 15 0 rfl (by decide)⟩
  exact ⟨all.1, all.2, all.2.sz (by decide) (small_pow (by decide) _ (by decide)) (small_pow (by decide) _ (by decide))⟩
/-- the whole numbers that are drawn -/
def Pw (l : List Int) : Prop := l.length ≤ 5 ∧ ∀ z ∈ l, z.natAbs ≤ 3
abbrev toQ' (l : List Int) : List Rat := l.map fun z : Int => (z : Rat)
theorem toQ_cd {l : List Int} (h : Pw l) : Cs 60 180 (toQ' l) := fun x m => by
  obtain ⟨z, hz, rfl⟩ := List.mem_map.mp m
  exact (Cd.int z).to (E := 60) rfl (Nat.mul_le_mul_right 60 (h.2 z hz))
theorem toQ_z {l : List Int} : ∀ x ∈ toQ' l, IsZ x := fun x m => by
  obtain ⟨z, hz, rfl⟩ := List.mem_map.mp m
  exact IsZ.int z
theorem pl_whole {ls : List (List Int)} (h1 : 1 ≤ ls.length) (h4 : ls.length ≤ 4) (h : ∀ l ∈ ls, Pw l) : PL false (ls.map toQ') := by
  refine ⟨by rw [List.length_map]; exact h1, by rw [List.length_map]; exact h4, fun l m => ?_, fun l m => ?_, fun _ l m => ?_, fun e => nomatch e⟩
  · obtain ⟨z, hz, rfl⟩ := List.mem_map.mp m
    rw [List.length_map]
    exact (h z hz).1
  · obtain ⟨z, hz, rfl⟩ := List.mem_map.mp m
    exact (toQ_cd (h z hz)).le (by decide)
  · obtain ⟨z, hz, rfl⟩ := List.mem_map.mp m
    exact toQ_z
theorem pl_broken {ls : List (List Int)} {M : List Rat} {a s : Nat} {c : Rat} (h1 : 1 ≤ ls.length) (h4 : ls.length ≤ 4) (h : ∀ l ∈ ls, Pw l) (ha : a < ls.length) (m5 : M.length ≤ 5) (mc : Cs 60 180 M) (mz : ∀ x ∈ M, IsZ x) (hs : s < M.length) (hc : c ∈ [q2, q3, q5, q4]) :
    PL true ((ls.map toQ').set a (M.set s (M.getD s 0 + c))) := by
  obtain ⟨c1, c2, _⟩ := q_broken hc
  have W := pl_whole h1 h4 h
  have len : ((ls.map toQ').set a (M.set s (M.getD s 0 + c))).length = ls.length := by rw [List.length_set, List.length_map]
  have gz : ∀ i, IsZ (M.getD i 0) := fun i => by
    rw [List.getD_eq_getElem?_getD]
    cases q : M[i]? with
    | none => exact IsZ.zero
    | some x => exact mz x (List.mem_of_getElem? q)
  have ga : ((ls.map toQ').set a (M.set s (M.getD s 0 + c))).getD a [] = M.set s (M.getD s 0 + c) := by
    rw [List.getD_eq_getElem?_getD, List.getElem?_set_self (by rw [List.length_map]; exact ha)]
    rfl
  refine ⟨by omega, by omega, fun l m => ?_, fun l m => ?_, (fun e => nomatch e), fun _ => ⟨a, s, by omega, by rw [ga, List.length_set]; exact hs, ?_, fun i hi => ?_⟩⟩
  · rcases List.mem_or_eq_of_mem_set m with e | e
    · exact W.ln l e
    · rw [e, List.length_set]; exact m5
  · rcases List.mem_or_eq_of_mem_set m with e | e
    · exact W.cd l e
    · rw [e]
      intro x hx
      rcases List.mem_or_eq_of_mem_set hx with e2 | e2
      · exact (mc x e2).le (by decide)
      · rw [e2]
        exact (cd_getD mc s).add c2
  · rw [ga, List.getD_eq_getElem?_getD, List.getElem?_set_self hs]
    intro z
    refine c1 (isZ_den.mp ?_)
    have := IsZ.sub z (gz s)
    have e : M.getD s 0 + c - M.getD s 0 = c := by grind
    rw [← e]
    exact this
  · rw [ga, List.getD_eq_getElem?_getD, List.getElem?_set_ne (fun e => hi e.symm), ← List.getD_eq_getElem?_getD]
    exact gz i
end
end W
set_option Elab.async false
set_option linter.all false
set_option maxRecDepth 100000
set_option maxHeartbeats 4000000
namespace W
open PySem L2 Dn HM PM
section
variable {K : PySem.W.Frag} {mg : Str → Option Value} {rs : List RP} {res : RP}
/-- a list of whole numbers as drawn -/
theorem den_row {p : Addr} {ρ : Rho} {E1 E2 : XK} (h0 : ρ[0]? = some (some (pRef p))) (h1 : ∀ r, ((wipeR ρ [9]).set 9 (some r))[0]? = some (some (pRef p))) :
    Den (Zpot p) (tLc (iRng1 (tCons (tCall spDraw [] E1 (tCons (tVar 0) (tCons (tC (.int 6)) tNil))) tNil)) (gName 9) tYes (tTup (tCons (tOp oSub (tCall spDraw [] E2 (tCons (tVar 0) (tCons (tC (.int 7)) tNil))) (tC (.int 3))) (tCons (tC (.int 1)) tNil))) [9]) ρ (pX Pw fun l => pFs (toQ' l)) := by
  refine den_rngX (P := fun r : Int => 0 ≤ r ∧ r < 6) (h := fun r => r) (den_draw (i := 0) h0 (den_v (v := .int 6)) (by decide) (by decide)) fun x hx => ?_
  obtain ⟨m, hm⟩ : ∃ m : Nat, x = (m : Int) := ⟨x.toNat, by omega⟩
  subst hm
  have m5 : m ≤ 5 := by omega
  refine den_imp (den_map (List.range m) (fun k : Nat => pI (k : Int)) (fun _ => pX (fun z : Int => z.natAbs ≤ 3) fun z => pT [pI z, pI 1]) (deni_rngN (den_cons (den_v (v := .int (m : Int))) den_nil) (by omega)) (fun k hk => ⟨_, deng_name (by decide), den_imp (den_tup (den_cons (den_op (den_draw (i := 0) (h1 _) (den_v (v := .int 7)) (by decide) (by decide)) (den_v (v := .int 3)) (opd_X1 fun x hx => opd_I0)) (den_cons (den_v (v := .int 1)) den_nil)) (by show 2 ≤ sizeLine; decide)) fun F v hv => ?_⟩) (sz (by rw [List.length_range]; omega))) fun F v hv => ?_
  · obtain ⟨x, hx, hv⟩ := pt_X hv
    exact ⟨x - 3, by omega, hv⟩
  · obtain ⟨l, ⟨l1, l2⟩, hv⟩ := plx F v hv
    rw [List.length_range] at l1
    refine ⟨l, ⟨by omega, l2⟩, ?_⟩
    have e : (toQ' l).map pF = l.map fun z => pT [pI z, pI 1] := by
      rw [List.map_map]
      rfl
    show (pL ((toQ' l).map pF)).R F v
    rw [e]
    exact hv
theorem den_frac {Z : Zx} {ρ : Rho} {ta tb : TE} {q : Rat} (h1 : Den Z ta ρ (pI q.num)) (h2 : Den Z tb ρ (pI (q.den : Int))) : Den Z (tTup (tCons ta (tCons tb tNil))) ρ (pF q) := den_tup (den_cons h1 (den_cons h2 den_nil)) (by show 2 ≤ sizeLine; decide)
theorem q_law_some (p : Addr) (br : Bool) : Tr (Zpot p) (t_law_some K) (startR ["pot", "is_broken", "period", "lists", "rest", "at", "numbers", "spot", "parts", "turn", "part", "number"] [pRef p, pB br]) [] No (pX (Drawn br) (pC K)) := by
  -- the period
  refine tr_seq (tr_tup2F (i := 2) (j := 3) (r1 := pX (fun z : Int => 1 ≤ z ∧ z ≤ 4) pI) (rs := []) (den_imp (den_pot (C := C_law_pick) (i := 0) rfl (den_cons (den_lst (rs := [pI 1, pI 1, pI 2, pI 3, pI 4]) (den_cons (den_v (v := .int 1)) (den_cons (den_v (v := .int 1)) (den_cons (den_v (v := .int 2)) (den_cons (den_v (v := .int 3)) (den_cons (den_v (v := .int 4)) den_nil))))) (by show 5 ≤ sizeLine; decide)) den_nil) (show C_law_pick [pLm pI [1, 1, 2, 3, 4]] (pX (fun x : Int => x ∈ [1, 1, 2, 3, 4]) pI) from ⟨Int, [1, 1, 2, 3, 4], pI, rfl, by decide, by decide, rfl⟩)) fun F v ⟨x, hx, hv⟩ => ⟨x, ?_, hv⟩) (denf_lst (rs := []) den_nil (Nat.zero_le _))) ?_
  · have gen : ∀ x ∈ ([1, 1, 2, 3, 4] : List Int), 1 ≤ x ∧ x ≤ 4 := by decide
    exact gen x hx
  rintro _ _ ⟨q, rfl, rfl⟩
  refine tr_open (i := 2) rfl fun z hz => ?_
  obtain ⟨n, hn⟩ : ∃ n : Nat, z = (n : Int) := ⟨z.toNat, by omega⟩
  subst hn
  have n1 : 1 ≤ n := by omega
  have n4 : n ≤ 4 := by omega
  show Tr (Zpot p) _ [some (pRef p), some (pB br), some (pI (n : Int)), some (pRef q), none, none, none, none, none, none, none, none] [⟨q, []⟩] _ _
  -- the lists
  refine tr_seq (tr_for (vs := [4]) (deni_rngN (m := n) (den_cons (den_var (i := 2) rfl) den_nil) (by omega)) (fun i ρ' ms' => (∃ a4, ρ' = [some (pRef p), some (pB br), some (pI (n : Int)), some (pRef q), a4, none, none, none, none, none, none, none]) ∧ ms' = [⟨q, (List.range i).map fun _ => pX Pw fun l => pFs (toQ' l)⟩]) ⟨⟨none, rfl⟩, rfl⟩ ?_) ?_
  · intro i r hr
    obtain ⟨i', hx, rfl⟩ := map_get hr
    obtain ⟨hpl, hpe⟩ := List.getElem?_eq_some_iff.mp hx
    rw [List.length_range] at hpl
    refine ⟨_, deng_name (by decide), ?_⟩
    rintro _ _ ⟨⟨a4, rfl⟩, rfl⟩
    refine tr_imp (tr_append (i := 3) (k := 0) (p := q) rfl rfl (den_row rfl (fun _ => rfl)) ?_) ?_
    · rw [List.length_map, List.length_range]
      exact Nat.lt_of_lt_of_le (show i < 100 by omega) (by decide)
    · rintro _ _ ⟨rfl, rfl⟩
      refine ⟨⟨_, rfl⟩, ?_⟩
      rw [List.range_succ, List.map_append]
      rfl
  rw [List.length_map, List.length_range]
  rintro _ _ ⟨⟨a4, rfl⟩, rfl⟩
  refine tr_openM fun ls hls hP => ?_
  rw [List.length_range] at hls
  have e0 : (ls.map fun l => pFs (toQ' l)) = (ls.map toQ').map pFs := by rw [List.map_map]; rfl
  rw [e0]
  -- one is broken
  refine tr_seq (M := fun ρ' ms' => ∃ L a5 a6 a7, PL br L ∧ L.length = n ∧ ρ' = [some (pRef p), some (pB br), some (pI (n : Int)), some (pRef q), a4, a5, a6, a7, none, none, none, none] ∧ ms' = [⟨q, L.map pFs⟩]) (tr_if (dent_val (den_var (i := 1) rfl)) (fun eb => ?_) fun eb => ?_) ?_
  · subst eb
    refine tr_seqI (tr_asg (den_draw (i := 0) rfl (den_var (i := 2) rfl) (by omega) (by omega))) ?_
    refine tr_open (i := 5) rfl fun z hz2 => ?_
    obtain ⟨a, ha⟩ : ∃ a : Nat, z = (a : Int) := ⟨z.toNat, by omega⟩
    subst ha
    have an : a < ls.length := by omega
    show Tr (Zpot p) _ [some (pRef p), some (pB true), some (pI (n : Int)), some (pRef q), a4, some (pI (a : Int)), none, none, none, none, none, none] [⟨q, (ls.map toQ').map pFs⟩] _ _
    have al : a < (ls.map toQ').length := by rw [List.length_map]; exact an
    have gm : (ls.map toQ').getD a [] ∈ ls.map toQ' := getD_memP al
    have ix : ∀ {tj : TE}, Den (Zpot p) tj [some (pRef p), some (pB true), some (pI (n : Int)), some (pRef q), a4, some (pI (a : Int)), none, none, none, none, none, none] (pI (a : Int)) → DenM (Zpot p) (tOp (rIxL K) (tVar 3) tj) [some (pRef p), some (pB true), some (pI (n : Int)), some (pRef q), a4, some (pI (a : Int)), none, none, none, none, none, none] [⟨q, (ls.map toQ').map pFs⟩] (pFs ((ls.map toQ').getD a [])) := fun hj => denM_ix (i := 3) (k := 0) rfl rfl hj (by rw [List.getElem?_map, get_getD al (d := [])]; rfl)
    refine tr_seqI (tr_asgM (r := pFs (if (ls.map toQ').getD a [] = [] then [0] else (ls.map toQ').getD a [])) (denM_if (dentM_test (denM_op (ix (den_var (i := 5) rfl)) (denM_of (den_lst (rs := []) den_nil (Nat.zero_le _))) opd_neF)) (fun e => ?_) fun e => ?_)) ?_
    · have e : ¬ (ls.map toQ').getD a [] = [] := fun z => by rw [decide_eq_true z] at e; cases e
      rw [if_neg e]
      exact ix (den_var (i := 5) rfl)
    · have e : (ls.map toQ').getD a [] = [] := Classical.byContradiction fun z => by rw [decide_eq_false z] at e; cases e
      rw [if_pos e]
      exact denM_of (den_lst (rs := [pF 0]) (den_cons den_f0 den_nil) (by show 1 ≤ sizeLine; decide))
    have W := pl_whole (ls := ls) (by omega) (by omega) hP
    have fM : (if (ls.map toQ').getD a [] = [] then [0] else (ls.map toQ').getD a []).length ≤ 5 ∧ 1 ≤ (if (ls.map toQ').getD a [] = [] then [0] else (ls.map toQ').getD a []).length ∧ Cs 60 180 (if (ls.map toQ').getD a [] = [] then [0] else (ls.map toQ').getD a []) ∧ ∀ x ∈ (if (ls.map toQ').getD a [] = [] then [0] else (ls.map toQ').getD a []), IsZ x := by
      by_cases e : (ls.map toQ').getD a [] = []
      · rw [if_pos e]
        exact ⟨by show 1 ≤ 5; decide, by show 1 ≤ 1; decide, fun x m => by rw [List.mem_singleton.mp m]; exact Cd.zero, fun x m => by rw [List.mem_singleton.mp m]; exact IsZ.zero⟩
      · rw [if_neg e]
        refine ⟨W.ln _ gm, List.length_pos_iff.mpr e, ?_, W.wh rfl _ gm⟩
        obtain ⟨l, hl, e2⟩ := List.mem_map.mp gm
        rw [← e2]
        exact toQ_cd (hP l hl)
    generalize (if (ls.map toQ').getD a [] = [] then [0] else (ls.map toQ').getD a []) = M at fM ⊢
    obtain ⟨m5, m1, mc, mz⟩ := fM
    refine tr_seqI (tr_asg (den_draw (many := (M.length : Int)) (i := 0) rfl (den_re (den_callB (den_cons (den_var (i := 6) rfl) den_nil) cd_len) (by rw [List.length_map])) (by omega) (by omega))) ?_
    refine tr_open (i := 7) rfl fun z hz3 => ?_
    obtain ⟨s, hs⟩ : ∃ s : Nat, z = (s : Int) := ⟨z.toNat, by omega⟩
    subst hs
    have sM : s < M.length := by omega
    have zM : SzQ (M.getD s 0) := (cd_getD mc s).sz (by decide) (small_pow (by decide) _ (by decide)) (small_pow (by decide) _ (by decide))
    show Tr (Zpot p) _ [some (pRef p), some (pB true), some (pI (n : Int)), some (pRef q), a4, some (pI (a : Int)), some (pFs M), some (pI (s : Int)), none, none, none, none] [⟨q, (ls.map toQ').map pFs⟩] _ _
    have d1 : Den (Zpot p) (tOp (rIxL K) (tVar 6) (tVar 7)) [some (pRef p), some (pB true), some (pI (n : Int)), some (pRef q), a4, some (pI (a : Int)), some (pFs M), some (pI (s : Int)), none, none, none, none] (pF (M.getD s 0)) := den_op (den_var (i := 6) rfl) (den_var (i := 7) rfl) (opd_row (f := pF) 0 sM)
    refine tr_seq (tr_setAt (i := 3) (k := 0) (p := q) (z := (a : Int)) (j := a) (r := pX (fun c => c ∈ [q2, q3, q5, q4]) fun c => pFs (M.set s (M.getD s 0 + c))) rfl rfl (den_imp (den_op (den_op (den_slice (den_var (i := 6) rfl) deno_none (deno_some (den_var (i := 7) rfl)) sld_take) (den_lst (rs := [pX (fun c => c ∈ [q2, q3, q5, q4]) fun c => pF (M.getD s 0 + c)]) (den_cons (den_callX2 (C := C_law_plus K) d1 (den_pot (C := C_law_pick) (i := 0) rfl (den_cons (den_lst (rs := [pF q2, pF q3, pF q5, pF q4]) (den_cons (den_frac (den_v (v := .int 1)) (den_v (v := .int 2))) (den_cons (den_frac (den_v (v := .int 1)) (den_v (v := .int 3))) (den_cons (den_frac (den_un (den_v (v := .int 1)) und_neg) (den_v (v := .int 5))) (den_cons (den_frac (den_v (v := .int 1)) (den_v (v := .int 4))) den_nil)))) (by show 4 ≤ sizeLine; decide)) den_nil) (show C_law_pick [pLm pF [q2, q3, q5, q4]] (pX (fun x : Rat => x ∈ [q2, q3, q5, q4]) pF) from ⟨Rat, [q2, q3, q5, q4], pF, rfl, (fun e => nomatch e), by show 4 ≤ 1000; decide, rfl⟩)) (fun c hc => (show C_law_plus K [pF (M.getD s 0), pF c] (pF (M.getD s 0 + c)) from ⟨_, _, rfl, zM, (q_broken hc).2.2, rfl⟩))) den_nil) (by show 1 ≤ sizeLine; decide)) (opd_cat ?_)) (den_slice (den_var (i := 6) rfl) (deno_some (den_re (den_op (den_var (i := 7) rfl) (den_v (v := .int 1)) opd_I0) (show _ = pI ((s + 1 : Nat) : Int) from rfl))) deno_none (sld_drop (k := s + 1))) (opd_cat ?_)) fun F v hv => ?_) (den_var (i := 5) rfl) ?_) ?_
    · rw [List.length_take, List.length_map]
      exact sz (show _ + 1 ≤ 100000 by omega)
    · rw [List.length_append, List.length_take, List.length_drop, List.length_map]
      exact sz (show _ + 1 + _ ≤ 100000 by omega)
    · obtain ⟨b, vs, ev, hb, hvs⟩ := hv
      rw [List.append_assoc] at hvs
      obtain ⟨c, hc, hvs⟩ := vrs_mid hvs
      refine ⟨c, hc, b, vs, ev, hb, ?_⟩
      have es : (M.set s (M.getD s 0 + c)).map pF = (M.map pF).take s ++ (pF (M.getD s 0 + c) :: (M.map pF).drop (s + 1)) := by
        rw [List.set_eq_take_append_cons_drop, if_pos sM, List.map_append, List.map_cons, List.map_take, List.map_drop]
      rw [es]
      exact hvs
    · unfold ixN
      rw [List.length_map, List.length_map, if_pos (Int.natCast_nonneg a), if_pos (by omega), Int.toNat_natCast]
    · rintro _ _ ⟨rfl, rfl⟩
      show Tr (Zpot p) tNext [some (pRef p), some (pB true), some (pI (n : Int)), some (pRef q), a4, some (pI (a : Int)), some (pFs M), some (pI (s : Int)), none, none, none, none] [⟨q, ((ls.map toQ').map pFs).set a (pX (fun c => c ∈ [q2, q3, q5, q4]) fun c => pFs (M.set s (M.getD s 0 + c)))⟩] _ _
      refine tr_openS (i := a) (by rw [List.length_map, List.length_map]; exact an) fun c hc => tr_next ⟨(ls.map toQ').set a (M.set s (M.getD s 0 + c)), _, _, _, pl_broken (by omega) (by omega) hP an m5 mc mz sM hc, by rw [List.length_set, List.length_map]; exact hls, rfl, by rw [List.map_set]⟩
  · subst eb
    refine tr_next ⟨ls.map toQ', none, none, none, pl_whole (by omega) (by omega) hP, by rw [List.length_map]; exact hls, rfl, rfl⟩
  · rintro _ _ ⟨L, a5, a6, a7, hL, hLn, rfl, rfl⟩
    refine tr_freeze (i := 3) (k := 0) rfl rfl ?_
    show Tr (Zpot p) _ [some (pRef p), some (pB br), some (pI (n : Int)), some (pLm pFs L), a4, a5, a6, a7, none, none, none, none] [] _ _
    subst hLn
    have L1 := hL.l1
    have L4 := hL.l4
    have mem : ∀ a, a < L.length → L.getD a [] ∈ L := fun a ha => getD_memP ha
    have hy : ∀ y ∈ L.zipIdx, y.2 < L.length ∧ y.1 ∈ L := fun y hy => by
      have e := List.mem_zipIdx_iff_getElem?.mp hy
      exact ⟨(List.getElem?_eq_some_iff.mp e).1, List.mem_of_getElem? e⟩
    refine tr_seqI (tr_asg (r := pLm pFs (partsOf L)) (den_re (den_map L.zipIdx (fun y => pT [pI (y.2 : Int), pFs y.1]) (fun y => pFs (partOf ((y.2 : Int) : Rat) ((L.length : Int) : Rat) y.1)) (deni_enum (f := fun l => pFs l) (xs := L) (den_cons (den_var (i := 3) rfl) den_nil)) (fun y my => ⟨_, deng_tup2 (by decide) (by decide), den_call (den_cons (den_var (i := 4) rfl) (den_cons (den_var (i := 2) rfl) (den_cons (den_var (i := 6) rfl) den_nil))) (show C_law_part K [pI (y.2 : Int), pI (L.length : Int), pFs y.1] _ from ⟨_, _, _, rfl, by omega, by omega, by omega, by have := (hy y my).1; omega, hL.ln _ (hy y my).2, paOk_of (by omega) L4 (by have := (hy y my).1; omega) (hL.ln _ (hy y my).2) (hL.cd _ (hy y my).2), rfl⟩)⟩) (sz (by rw [List.length_zipIdx]; omega))) (pLm_map (fun l => pFs l) (fun y : List Rat × Nat => partOf ((y.2 : Int) : Rat) ((L.length : Int) : Rat) y.1) _))) ?_
    show Tr (Zpot p) _ [some (pRef p), some (pB br), some (pI (L.length : Int)), some (pLm pFs L), a4, a5, a6, a7, some (pLm pFs (partsOf L)), none, none, none] [] _ _
    have pl := partsOf_len L
    have fm : ∀ l ∈ partsOf L, l.length ≤ 6 ∧ Cs D0 C0 l := fun l m => by
      obtain ⟨a, ha, rfl⟩ := partsOf_mem m
      have := hL.ln _ (mem a ha)
      exact ⟨by rw [partOf_len]; omega, partOf_cd (by omega) L4 (by omega) (hL.ln _ (mem a ha)) (hL.cd _ (mem a ha))⟩
    refine tr_ret (den_imp (den_make (rs := [pPs K (partsOf L)]) (drs := []) (fs := [("own_parts", pPs K (trS (partsOf L)))]) (den_cons (den_map (partsOf L) pFs (pQs K) (deni_list (den_var (i := 8) rfl)) (fun l hl => ⟨_, deng_name (by decide), den_map l pF (pQ K) (deni_list (den_var (i := 10) rfl)) (fun x hx => ⟨_, deng_name (by decide), den_call (den_cons (den_var (i := 11) rfl) den_nil) (show C_law_ratio K [pF x] (pQ K x) from ⟨x, rfl, sq_cd ((fm l hl).2 x hx) (by decide) d0_big (Nat.le_trans (by rw [Nat.mul_one]; exact Nat.le_refl _) (c0_big (k := 1) (by decide))), rfl⟩)⟩) (sz (Nat.le_trans (fm l hl).1 (by decide)))⟩) (sz (by omega))) den_nil) (fun _ => trivial) (show C_Course_init K [pPs K (partsOf L)] _ from ⟨partsOf L, rfl, by omega, by omega, fun l hl => Nat.le_trans (fm l hl).1 (by decide), rfl⟩)) fun F v hv => ⟨trS (partsOf L), drawn_of hL, hv⟩)
theorem p_law_some {vs : List V} {H : Hp} {Q : VK} {E : XK} (h : spSome K vs H Q E) : t_law_some K { nx := fun _ H' => Q .non H', rt := Q } (L2.start ["pot", "is_broken", "period", "lists", "rest", "at", "numbers", "spot", "parts", "turn", "part", "number"] vs) H := by
  refine pot_of h fun p rs r hc => ?_
  obtain ⟨br, rfl, rfl⟩ := hc
  exact q_law_some p br
end
end W
set_option Elab.async false
set_option linter.all false
set_option maxRecDepth 100000
set_option maxHeartbeats 4000000
/-! what is known of reckoned courses -/
namespace W
open PySem L2 Dn HM PM
structure Kn (C m : Nat) (f : Parts) : Prop where
  pt : Pt f
  l4 : f.length ≤ m
  ln : ∀ l ∈ f, l.length ≤ 6
  cp : Cp D0 C f
theorem emod_in {b n s : Int} {m : Nat} (hm : 0 < m) : (b * (((n % (m : Int)).toNat : Nat) : Int) + s) % (m : Int) = (b * n + s) % (m : Int) := by
  have a0 := Int.emod_nonneg n (show (m : Int) ≠ 0 by omega)
  rw [Int.toNat_of_nonneg a0]
  have e : b * n + s = b * (n % (m : Int)) + s + (m : Int) * (b * (n / (m : Int))) := by
    have h := Int.emod_add_mul_ediv n (m : Int)
    have h2 : b * n = b * (n % (m : Int) + (m : Int) * (n / (m : Int))) := by rw [h]
    rw [h2, Int.mul_add, ← Int.mul_assoc b, Int.mul_comm b (m : Int), Int.mul_assoc]
    omega
  rw [e, Int.add_mul_emod_self_left]
theorem mod_toNat {n : Int} {m k : Nat} (hk : 0 < k) (hm : 0 < m) (h : k ∣ m) : (n % (m : Int)).toNat % k = (n % (k : Int)).toNat := by
  have a0 := Int.emod_nonneg n (show (m : Int) ≠ 0 by omega)
  have e : ((((n % (m : Int)).toNat % k : Nat) : Int)) = n % (k : Int) := by
    rw [Int.natCast_emod, Int.toNat_of_nonneg a0]
    exact Int.emod_emod_of_dvd n (Int.natCast_dvd_natCast.mpr h)
  omega
theorem sumP_len (f g : Parts) : (sumP f g).length = Nat.lcm f.length g.length := by unfold sumP; rw [List.length_map, List.length_range]
theorem cv_sum {f g : Parts} (hf : f ≠ []) (hg : g ≠ []) (n : Int) : cv (sumP f g) n = cv f n + cv g n := by
  have f0 := List.length_pos_iff.mpr hf
  have g0 := List.length_pos_iff.mpr hg
  have l0 : 0 < Nat.lcm f.length g.length := Nat.lcm_pos f0 g0
  unfold cv
  rw [sumP_len]
  have a0 := Int.emod_nonneg n (show ((Nat.lcm f.length g.length : Nat) : Int) ≠ 0 by omega)
  have a1 := Int.emod_lt_of_pos n (show (0 : Int) < ((Nat.lcm f.length g.length : Nat) : Int) by omega)
  have e : (sumP f g).getD (n % ((Nat.lcm f.length g.length : Nat) : Int)).toNat [] = psum (f.getD ((n % ((Nat.lcm f.length g.length : Nat) : Int)).toNat % f.length) []) (g.getD ((n % ((Nat.lcm f.length g.length : Nat) : Int)).toNat % g.length) []) := by
    unfold sumP
    rw [List.getD_eq_getElem?_getD, List.getElem?_map, List.getElem?_range (by omega)]
    rfl
  rw [e, ev_psum, mod_toNat f0 l0 (Nat.dvd_lcm_left _ _), mod_toNat g0 l0 (Nat.dvd_lcm_right _ _)]
theorem ledP_len (f : Parts) (b s : Int) : (ledP f b s).length = f.length := by unfold ledP; rw [List.length_map, List.length_range]
theorem cv_led {f : Parts} (hf : f ≠ []) (b s n : Int) : cv (ledP f b s) n = cv f (b * n + s) := by
  have f0 := List.length_pos_iff.mpr hf
  unfold cv
  rw [ledP_len]
  have a0 := Int.emod_nonneg n (show (f.length : Int) ≠ 0 by omega)
  have a1 := Int.emod_lt_of_pos n (show (0 : Int) < (f.length : Int) by omega)
  have e : (ledP f b s).getD (n % (f.length : Int)).toNat [] = putP (f.getD ((b * (((n % (f.length : Int)).toNat : Nat) : Int) + s) % (f.length : Int)).toNat []) (b : Rat) (s : Rat) := by
    unfold ledP
    rw [List.getD_eq_getElem?_getD, List.getElem?_map, List.getElem?_range (by omega)]
    rfl
  rw [e, ev_put, emod_in f0, Rat.intCast_add, Rat.intCast_mul]
theorem cv_scale {f : Parts} (c : Rat) (n : Int) : cv (f.map fun l => pscale l c) n = cv f n * c := by
  unfold cv
  rw [List.length_map]
  have e : (f.map fun l => pscale l c).getD (n % (f.length : Int)).toNat [] = pscale (f.getD (n % (f.length : Int)).toNat []) c := by
    rw [List.getD_eq_getElem?_getD, List.getElem?_map, List.getD_eq_getElem?_getD]
    cases f[(n % (f.length : Int)).toNat]? with
    | none => rfl
    | some l => rfl
  rw [e, ev_pscale]
theorem sum_ok {f g : Parts} {C C' : Nat} (kf : Kn C 4 f) (kg : Kn C' 4 g) (hc : C + C' ≤ 2 ^ 3500) : Kn (C + C') 16 (trS (sumP f g)) ∧ Nat.lcm f.length g.length ≤ 60 ∧ ∀ n, cv (trS (sumP f g)) n = cv f n + cv g n := by
  have f0 := List.length_pos_iff.mpr kf.pt.ne
  have g0 := List.length_pos_iff.mpr kg.pt.ne
  have l0 : 0 < Nat.lcm f.length g.length := Nat.lcm_pos f0 g0
  have l16 : Nat.lcm f.length g.length ≤ 16 := Nat.le_trans (Nat.le_of_dvd (Nat.mul_pos f0 g0) (Nat.lcm_dvd ⟨g.length, rfl⟩ ⟨f.length, Nat.mul_comm _ _⟩)) (Nat.mul_le_mul kf.l4 kg.l4)
  have ne : sumP f g ≠ [] := fun e => by
    have := sumP_len f g
    rw [e] at this
    have : 0 = Nat.lcm f.length g.length := this
    omega
  have cp : Cp D0 (C + C') (sumP f g) := fun l m => by
    obtain ⟨a, _, rfl⟩ := List.mem_map.mp m
    exact Cs.psum (getD_mem0 (Cs D0 C) kf.cp fun _ m => nomatch m) (getD_mem0 (Cs D0 C') kg.cp fun _ m => nomatch m)
  obtain ⟨p1, p2, p3, p4⟩ := trS_pt (n := 6) ne (by rw [sumP_len]; omega) (fun l m => by
    obtain ⟨a, _, rfl⟩ := List.mem_map.mp m
    rw [psum_len]
    exact Nat.max_le.mpr ⟨getD_mem0 (·.length ≤ 6) kf.ln (Nat.zero_le _), getD_mem0 (·.length ≤ 6) kg.ln (Nat.zero_le _)⟩) (by decide) cp (by decide) d0_big hc
  rw [sumP_len] at p2
  exact ⟨⟨p1, by omega, p3, p4⟩, by omega, fun n => by rw [cv_trS ne, cv_sum kf.pt.ne kg.pt.ne]⟩
theorem led_ok {f : Parts} {C : Nat} {b s : Int} (kf : Kn C 4 f) (hb : b.natAbs ≤ 3) (hs : s.natAbs ≤ 10) (hc : C * 14 ^ 6 ≤ 2 ^ 3500) : Kn (C * 14 ^ 6) 4 (trS (ledP f b s)) ∧ (∀ l ∈ f, PutOk (b : Rat) (s : Rat) l) ∧ ∀ n, cv (trS (ledP f b s)) n = cv f (b * n + s) := by
  have f0 := List.length_pos_iff.mpr kf.pt.ne
  have f4 := kf.l4
  have ne : ledP f b s ≠ [] := fun e => by
    have := ledP_len f b s
    rw [e] at this
    have : 0 = f.length := this
    omega
  have k14 : ∀ n, n ≤ 6 → (b.natAbs + s.natAbs + 1) ^ n ≤ 14 ^ 6 := fun n hn => Nat.le_trans (Nat.pow_le_pow_left (show _ ≤ 14 by omega) n) (Nat.pow_le_pow_right (by decide) hn)
  have hmod : ∀ a : Nat, ((b * (a : Int) + s) % (f.length : Int)).toNat < f.length := fun a => by
    have h1 := Int.emod_nonneg (b * (a : Int) + s) (show (f.length : Int) ≠ 0 by omega)
    have h2 := Int.emod_lt_of_pos (b * (a : Int) + s) (show (0 : Int) < (f.length : Int) by omega)
    omega
  have cp : Cp D0 (C * 14 ^ 6) (ledP f b s) := fun l m => by
    obtain ⟨a, _, rfl⟩ := List.mem_map.mp m
    have gm := getD_memP (hmod a)
    have z := put_cd (Cd.int b) (Cd.int s) _ (kf.cp _ gm)
    rw [Nat.one_pow, Nat.mul_one] at z
    exact z.le (Nat.mul_le_mul_left _ (k14 _ (kf.ln _ gm)))
  obtain ⟨p1, p2, p3, p4⟩ := trS_pt (n := 6) ne (by rw [ledP_len]; omega) (fun l m => by
    obtain ⟨a, _, rfl⟩ := List.mem_map.mp m
    rw [putP_len]
    exact kf.ln _ (getD_memP (hmod a))) (by decide) cp (by decide) d0_big hc
  rw [ledP_len] at p2
  refine ⟨⟨p1, by omega, p3, p4⟩, fun l m => putOk_of (D := D0) (C := C) (n := 6) (Cd.int b) (Cd.int s) (by decide) (by decide) (by rw [Nat.one_pow, Nat.mul_one]; exact d0_big) (Nat.le_trans (Nat.mul_le_mul_left _ (k14 6 (Nat.le_refl _))) hc) l (kf.cp l m) (kf.ln l m), fun n => by rw [cv_trS ne, cv_led kf.pt.ne]⟩
theorem scale_ok {f : Parts} {C : Nat} (c : Int) (kf : Kn C 4 f) (hc : C * c.natAbs ≤ 2 ^ 3500) : Kn (C * c.natAbs) 4 (trS (f.map fun l => pscale l (c : Rat))) ∧ ∀ n, cv (trS (f.map fun l => pscale l (c : Rat))) n = cv f n * (c : Rat) := by
  have f4 := kf.l4
  have ne : (f.map fun l => pscale l (c : Rat)) ≠ [] := fun e => kf.pt.ne (List.map_eq_nil_iff.mp e)
  have cp : Cp D0 (C * c.natAbs) (f.map fun l => pscale l (c : Rat)) := fun l m => by
    obtain ⟨k, hk, rfl⟩ := List.mem_map.mp m
    have z := Cs.pscale (kf.cp k hk) (Cd.int c)
    rw [Nat.mul_one] at z
    exact z
  obtain ⟨p1, p2, p3, p4⟩ := trS_pt (n := 6) ne (by rw [List.length_map]; omega) (fun l m => by
    obtain ⟨k, hk, rfl⟩ := List.mem_map.mp m
    rw [pscale_len]
    exact kf.ln k hk) (by decide) cp (by decide) d0_big hc
  rw [List.length_map] at p2
  exact ⟨⟨p1, by omega, p3, p4⟩, fun n => by rw [cv_trS ne, cv_scale]⟩
theorem Drawn.kn {br : Bool} {f : Parts} (h : Drawn br f) : Kn C0 4 f := ⟨h.1, h.2.1, h.2.2.1, h.2.2.2.1⟩
theorem kn_at {C m : Nat} {f : Parts} (h : Kn C m f) (hc : C ≤ 2 ^ 3500) : AtOk f := atOk_of (D := D0) (C := C) (fun l m => Nat.le_trans (h.ln l m) (by decide)) h.cp (by decide) (by decide) (big_lt hc)
theorem isw_t {f : Parts} (h : f ≠ []) (w : Whole (cv f)) : isw f = true := (isw_iff h).mpr w
theorem isw_f {f : Parts} (h : f ≠ []) (w : ¬ Whole (cv f)) : isw f = false := by
  cases q : isw f with
  | false => rfl
  | true => exact absurd ((isw_iff h).mp q) w
theorem wh_t {K : PySem.W.Frag} {C m : Nat} {f : Parts} (h : Kn C m f) (hc : C ≤ 2 ^ 3500) (w : Whole (cv f)) : C_is_whole_course K [pC K f] (pB true) := ⟨f, rfl, h.pt.ne, h.pt.ct, kn_at h hc, by rw [isw_t h.pt.ne w]⟩
theorem wh_f {K : PySem.W.Frag} {C m : Nat} {f : Parts} (h : Kn C m f) (hc : C ≤ 2 ^ 3500) (w : ¬ Whole (cv f)) : C_is_whole_course K [pC K f] (pB false) := ⟨f, rfl, h.pt.ne, h.pt.ct, kn_at h hc, by rw [isw_f h.pt.ne w]⟩
/-! grown -/
theorem ev_cd {D C X : Nat} {n : Int} (hn : n.natAbs ≤ X) : ∀ l : List Rat, Cs D C l → Cd D (C * (X + 1) ^ l.length) (ev l (n : Rat))
  | [], _ => Cd.zero
  | a :: l, h => by
    have ih := ev_cd hn l fun x m => h x (List.mem_cons_of_mem _ m)
    have ih2 := ih.muli ((Cd.int n).le hn)
    rw [Rat.mul_comm] at ih2
    refine ((h a List.mem_cons_self).add ih2).le ?_
    rw [List.length_cons, Nat.pow_succ]
    have k : 1 ≤ (X + 1) ^ l.length := Nat.pow_pos (Nat.succ_pos X)
    generalize (X + 1) ^ l.length = Y at k ⊢
    calc C + C * Y * X ≤ C * Y + C * Y * X := Nat.add_le_add_right (Nat.le_mul_of_pos_right _ k) _
      _ = C * (Y * (X + 1)) := by rw [Nat.mul_succ, Nat.mul_add, ← Nat.mul_assoc, Nat.add_comm]
theorem cd_whole {D C : Nat} {q : Rat} (hD : 0 < D) (h : Cd D C q) (w : IsZ q) : Cd 7 (C * 7) q := by
  obtain ⟨z, rfl⟩ := w
  exact ((Cd.int z).le (h.den hD).2).to (E := 7) rfl (Nat.le_refl _)
theorem every_cd {D N : Nat} {numbers : List Rat} (h : Cs D N numbers) (a p m : Nat) : Cs D N (every numbers a p m) := fun x hx => by
  obtain ⟨j, _, rfl⟩ := List.mem_map.mp hx
  exact cd_getD h _
theorem cbig {N T Y : Nat} (hN : N ≤ 2 ^ 3000) (hT : T * Y ≤ 2 ^ 60) : N * T * Y ≤ 2 ^ 3500 := by rw [Nat.mul_assoc]; exact le_big hN hT (Nat.le_refl _)
theorem k9 {a p m : Nat} (ha : a < p) (hp : p ≤ 4) (hm : m ≤ 5) : (1 + a + p) ^ m ≤ 9 ^ 5 := Nat.le_trans (Nat.pow_le_pow_left (show _ ≤ 9 by omega) m) (Nat.pow_le_pow_right (by decide) hm)
theorem cd_neg {p a : Nat} (hp : 0 < p) : Cd p a ((((-(a : Int) : Int)) : Rat) / (p : Rat)) := by
  have h := cd_frac hp (-(a : Int))
  rw [Int.natAbs_neg, Int.natAbs_natCast] at h
  exact h
theorem grOk_of {p m N : Nat} {numbers : List Rat} (hp : 1 ≤ p) (hp4 : p ≤ 4) (hm : 1 ≤ m) (hm5 : m ≤ 5) (hl : numbers.length = p * m) (h : Cs 7 N numbers) (hN : N ≤ 2 ^ 3000) : GrOk p m numbers := by
  refine ⟨hp, by omega, hm, hm5, hl, fun a ha => thOk_of (every_cd h a p m) (by rw [every_len]; exact hm5) hN, fun a ha => ?_⟩
  refine putOk_of (D := 840) (C := N * (18 ^ 5 * 120)) (n := 5) (Cd.one_over hp) (cd_neg hp) (by decide) hp ?_ ?_ _ (through_cd (every_cd h a p m) (by rw [every_len]; exact hm5)) (by rw [th_found_len, every_len]; exact hm5)
  · exact Nat.le_trans (Nat.mul_le_mul_left _ (Nat.pow_le_pow_left hp4 5)) (Nat.le_trans (show 840 * 4 ^ 5 ≤ 2 ^ 60 by decide) (pw2 (by decide)))
  · exact Nat.le_trans (Nat.mul_le_mul_left _ (k9 ha hp4 (Nat.le_refl _))) (cbig hN (by decide))
theorem growParts_len (p m : Nat) (numbers : List Rat) : (growParts p m numbers).length = p := by unfold growParts; rw [List.length_map, List.length_range]
theorem grown_ok {p m N : Nat} {numbers : List Rat} (hp : 1 ≤ p) (hp4 : p ≤ 4) (hm : 1 ≤ m) (hm5 : m ≤ 5) (h : Cs 7 N numbers) (hN : N ≤ 2 ^ 3000) : grP p m numbers ≠ [] ∧ (grP p m numbers).length ≤ 60 ∧ AtOk (grP p m numbers) ∧ ∀ n, cv (grP p m numbers) n = cv (growParts p m numbers) n := by
  have ne : growParts p m numbers ≠ [] := fun e => by
    have := growParts_len p m numbers
    rw [e] at this
    have : 0 = p := this
    omega
  have cb : N * (18 ^ 5 * 120) * 9 ^ 5 ≤ 2 ^ 3500 := cbig hN (by decide)
  have cp : Cp (840 * p ^ m) (N * (18 ^ 5 * 120) * 9 ^ 5) (growParts p m numbers) := fun l hl => by
    obtain ⟨a, ha, rfl⟩ := List.mem_map.mp hl
    have ha := List.mem_range.mp ha
    have z := put_cd (Cd.one_over hp) (cd_neg (a := a) hp) _ (through_cd (every_cd h a p m) (by rw [every_len]; exact hm5))
    rw [th_found_len, every_len] at z
    exact z.le (Nat.mul_le_mul_left _ (k9 ha hp4 hm5))
  have d0 : 0 < 840 * p ^ m := Nat.mul_pos (by decide) (Nat.pow_pos hp)
  have d1 : 840 * p ^ m ≤ 840 * 4 ^ 5 := Nat.mul_le_mul_left _ (Nat.le_trans (Nat.pow_le_pow_left hp4 m) (Nat.pow_le_pow_right (by decide) hm5))
  obtain ⟨p1, p2, p3, p4⟩ := trS_pt (n := 5) ne (by rw [growParts_len]; omega) (fun l hl => by
    obtain ⟨a, ha, rfl⟩ := List.mem_map.mp hl
    rw [putP_len, th_found_len, every_len]
    exact hm5) (by decide) cp d0 (Nat.le_trans d1 (Nat.le_trans (show 840 * 4 ^ 5 ≤ 2 ^ 60 by decide) (pw2 (by decide)))) cb
  exact ⟨p1.ne, p1.ct, atOk_of (fun l hl => Nat.le_trans (p3 l hl) (by decide)) p4 d0 (Nat.lt_of_le_of_lt d1 (by decide)) (big_lt cb), fun n => cv_trS ne n⟩
end W
set_option Elab.async false
set_option linter.all false
set_option maxRecDepth 100000
set_option maxHeartbeats 4000000
namespace Dn
open PySem L2
section
variable {Z : Zx} {ρ : Rho} {ms : List Mt} {te : TE} {tt : TT} {ts : TS} {r : RP} {rs : List RP} {P : Bool → Prop} {R : RP} {K : PySem.W.Frag}
/-- for an expression an own list may be taken as known, if what it says does not name it -/
theorem frz_ok {F H : Hp} {σ : L2.St} {i k : Nat} {p : Addr} (hi : ρ[i]? = some (some (pRef p))) (hk : ms[k]? = some ⟨p, rs⟩) (s : S8 Z F H σ ρ ms) : ∃ F2, EnvOk F2 σ (ρ.set i (some (pL rs))) ∧ Ok Z F2 H ∧ Same F F2 := by
  obtain ⟨v, h1, h2⟩ := s.env.at_ i _ hi
  have e2 : v = .ref p := h2
  subst e2
  have hm : (⟨p, rs⟩ : Mt) ∈ ms := List.mem_of_getElem? hk
  obtain ⟨fp, vs, hp, hv⟩ := s.mu _ hm
  have fp : F p = none := fp
  have hp : H p = some (.lst vs) := hp
  have sm : Same F (upd F p (.lst vs)) := fun b o e => by rw [upd_ne (fun z => by rw [z, fp] at e; cases e)]; exact e
  have nz : ¬ Z.T p := s.nz _ hm
  have en := (s.env.mono sm).set (v := .ref p) (r := pL rs) i ⟨p, vs, rfl, upd_same, hv.mono sm⟩
  have es : σ.set i (some (V.ref p)) = σ := by
    apply List.ext_getElem?
    intro j
    by_cases q : i = j
    · subst q
      by_cases hl : i < σ.length
      · rw [List.getElem?_set_self hl, h1]
      · rw [List.getElem?_eq_none (by rw [List.length_set]; omega), List.getElem?_eq_none (by omega)]
    · rw [List.getElem?_set_ne q]
  rw [es] at en
  refine ⟨_, en, ⟨fun b o e => ?_, fun b t => ?_, s.ok.j⟩, sm⟩
  · by_cases q : b = p
    · subst q; rw [upd_same] at e; rw [hp]; exact e
    · rw [upd_ne q] at e; exact s.ok.fh b o e
  · rw [upd_ne (fun z => nz (by rw [← z]; exact t))]
    exact s.ok.fr b t
theorem back_ok {F F2 H F1 H1 : Hp} (sm : Same F F2) (ok : Ok Z F H) (g : Go Z.T F2 H F1 H1) (k : Ok Z F1 H1) : Go Z.T F H F H1 ∧ Ok Z F H1 :=
  ⟨⟨fun _ _ e => e, g.hh, fun _ _ e => .inl e, g.dm⟩, ⟨fun b o e => k.fh b o (g.ff b o (sm b o e)), ok.fr, k.j⟩⟩
theorem denM_frz {i k : Nat} {p : Addr} (hi : ρ[i]? = some (some (pRef p))) (hk : ms[k]? = some ⟨p, rs⟩) (hr : ∀ F F' v, r.R F v → r.R F' v) (h : Den Z te (ρ.set i (some (pL rs))) r) : DenM Z te ρ ms r := fun F H σ s Q q => by
  obtain ⟨F2, en, ok, sm⟩ := frz_ok hi hk s
  refine h F2 H σ en ok Q fun v F1 H1 g k rv => ?_
  obtain ⟨g', k'⟩ := back_ok sm s.ok g k
  exact q v F H1 g' k' (hr F1 F v rv)
theorem dentM_frz {i k : Nat} {p : Addr} (hi : ρ[i]? = some (some (pRef p))) (hk : ms[k]? = some ⟨p, rs⟩) (h : DenT Z tt (ρ.set i (some (pL rs))) P) : DenTM Z tt ρ ms P := fun F H σ s Q q => by
  obtain ⟨F2, en, ok, sm⟩ := frz_ok hi hk s
  refine h F2 H σ en ok Q fun b F1 H1 g k pb => ?_
  obtain ⟨g', k'⟩ := back_ok sm s.ok g k
  exact q b F H1 g' k' pb
/-- a test that is not so -/
theorem tr_skipM (h : DenTM Z tt ρ ms (· = false)) : Tr Z (tIfS tt ts tNext) ρ ms (Is ρ ms) R := fun F H σ s D q w =>
  h F H σ s _ fun b F1 H1 g1 k1 e => by
    subst e
    rw [if_neg Bool.false_ne_true]
    exact q F1 H1 σ ρ ms ⟨rfl, rfl⟩ (go_t g1) (s.step g1 k1) Sub.refl
theorem cd_repr {d : PyData} (h : IsD K r d) (hr : ∀ F v, r.R F v → ∃ a, v = .ref a) (h1 : d.showable = true) (h2 : d.hasDict = false) (h3 : d.depth ≤ 64) (h4 : d.shown.length ≤ sizeLine) : CD (uRepr K) [r] (pV (.str d.shown)) := fun F H vs s hv Q q => by
  obtain ⟨v, rfl, rv⟩ := vrs_one hv
  obtain ⟨a, rfl⟩ := hr F v rv
  exact ⟨a, d, rfl, h F H _ s rv, h1, h2, h3, h4, q _ F H (Go.refl F H) s rfl⟩
theorem opd_isB {a b : Bool} : OpD rIsB (pB a) (pB b) (pB (decide (a = b))) := fun F H x y s hx hy Q q => ⟨a, b, hx, hy, q _ F H (Go.refl F H) s rfl⟩
end
end Dn
namespace W
open PySem L2 Dn HM PM
section
variable {K : PySem.W.Frag} {mg : Str → Option Value}
theorem cd_reprB {bs : List Bool} (h1 : (PyData.list (bs.map PyData.bool)).showable = true) (h2 : (PyData.list (bs.map PyData.bool)).hasDict = false) (h3 : (PyData.list (bs.map PyData.bool)).depth ≤ 64) (h4 : (PyData.list (bs.map PyData.bool)).shown.length ≤ sizeLine) : CD (uRepr K) [pLm pB bs] (pV (.str (PyData.list (bs.map PyData.bool)).shown)) :=
  cd_repr (isd_list (d := PyData.bool) fun _ => isd_bl) (fun F v ⟨a, vs, e, _⟩ => ⟨a, e⟩) h1 h2 h3 h4
/-- numbers at 0, 1, 2 .. -/
def numsOf (f : Parts) (n : Nat) : List Rat := (List.range n).map fun i : Nat => cv f (i : Int)
theorem numsOf_len (f : Parts) (n : Nat) : (numsOf f n).length = n := by unfold numsOf; rw [List.length_map, List.length_range]
theorem numsOf_get {f : Parts} {n i : Nat} (h : i < n) : (numsOf f n).getD i 0 = cv f (i : Int) := by
  unfold numsOf
  rw [List.getD_eq_getElem?_getD, List.getElem?_map, List.getElem?_range h]
  rfl
theorem c_one : C_is_whole_course K [pC K (trS [[]])] (pB true) := by
  have e : trS [[]] = [[]] := rfl
  rw [e]
  refine ⟨[[]], rfl, (fun e => nomatch e), by decide, fun l hl => ?_, ?_⟩
  · rw [List.mem_singleton.mp hl]
    refine ⟨by decide, fun i => ?_, fun x hx => nomatch hx⟩
    rw [List.take_nil]
    decide
  · have : isw [[]] = true := rfl
    rw [this]
theorem q_law_right (T : Txt K mg) (X : Fx K) (p : Addr) : Tr (Zpot p) (t_law_right K) (startR ["pot", "one", "other", "broken", "by", "shift", "period", "many", "numbers", "at", "whole"] [pRef p]) [] No (pB true) := by
  -- three courses
  have some_ : ∀ br, Den (Zpot p) (tCall (spSome K) [] E0 (tCons (tVar 0) (tCons (tC (.bl br)) tNil))) (startR ["pot", "one", "other", "broken", "by", "shift", "period", "many", "numbers", "at", "whole"] [pRef p]) (pX (Drawn br) (pC K)) := fun br => den_pot (C := C_law_some K) (i := 0) rfl (den_cons (den_v (v := .bl br)) den_nil) ⟨br, rfl, rfl⟩
  refine tr_seqI (tr_asgG (den_tup (den_cons (some_ false) (den_cons (some_ false) (den_cons (some_ true) den_nil))) (by show 3 ≤ sizeLine; decide)) (deng_tup3 (vs := [1, 2, 3]) (by decide) (by decide) (by decide))) ?_
  refine tr_open (i := 1) rfl fun f hf => ?_
  refine tr_open (i := 2) rfl fun g hg => ?_
  refine tr_open (i := 3) rfl fun h hh => ?_
  show Tr (Zpot p) _ [some (pRef p), some (pC K f), some (pC K g), some (pC K h), none, none, none, none, none, none, none] [] _ _
  have kf := hf.kn
  have kg := hg.kn
  have kh := hh.kn
  have wf : Whole (cv f) := hf.2.2.2.2.1 rfl
  have wg : Whole (cv g) := hg.2.2.2.2.1 rfl
  obtain ⟨bh, wh⟩ := hh.2.2.2.2.2 rfl
  have c1 : C0 ≤ 2 ^ 3500 := Nat.le_trans (Nat.le_of_eq (Nat.mul_one C0).symm) (c0_big (k := 1) (by decide))
  have c2 : C0 + C0 ≤ 2 ^ 3500 := Nat.le_trans (Nat.le_of_eq (Nat.mul_two C0).symm) (c0_big (k := 2) (by decide))
  -- one, other, broken
  refine tr_seqI (tr_skip (dent_imp (dent_test (den_op (den_callB (den_cons (den_lst (rs := [pB true, pB true, pB false]) (den_cons (den_call (den_cons (den_var (i := 1) rfl) den_nil) (wh_t kf c1 wf)) (den_cons (den_callN0 (ks := [pC K g]) (den_cons (den_var (i := 2) rfl) den_nil) rfl (fun F zs hz => hz) (wh_t kg c1 wg)) (den_cons (den_call (den_cons (den_var (i := 3) rfl) den_nil) (wh_f kh c1 bh)) den_nil))) (by show 3 ≤ sizeLine; decide)) den_nil) (cd_reprB (bs := [true, true, false]) (by decide +kernel) (by decide +kernel) (by decide +kernel) (by decide +kernel))) (den_callB (den_cons (den_lst (rs := [pB true, pB true, pB false]) (den_cons (den_v (v := .bl true)) (den_cons (den_v (v := .bl true)) (den_cons (den_v (v := .bl false)) den_nil))) (by show 3 ≤ sizeLine; decide)) den_nil) (cd_reprB (bs := [true, true, false]) (by decide +kernel) (by decide +kernel) (by decide +kernel) (by decide +kernel))) (opd_ne rfl))) fun b e => ?_)) ?_
  · rw [e, decide_eq_true rfl]
    rfl
  -- by, shift
  refine tr_seqI (tr_par (r1 := pX (fun r : Int => 0 ≤ r ∧ r < 7) fun r => pI (r - 3)) (r2 := pX (fun r : Int => 0 ≤ r ∧ r < 21) fun r => pI (r - 10)) (den_op (den_draw (i := 0) rfl (den_v (v := .int 7)) (by decide) (by decide)) (den_v (v := .int 3)) (opd_X1 fun x _ => opd_I0)) (den_op (den_draw (i := 0) rfl (den_v (v := .int 21)) (by decide) (by decide)) (den_v (v := .int 10)) (opd_X1 fun x _ => opd_I0))) ?_
  refine tr_open (i := 4) rfl fun x hx => ?_
  refine tr_open (i := 5) rfl fun y hy => ?_
  show Tr (Zpot p) _ [some (pRef p), some (pC K f), some (pC K g), some (pC K h), some (pI (x - 3)), some (pI (y - 10)), none, none, none, none, none] [] _ _
  have b3 : (x - 3).natAbs ≤ 3 := by omega
  have s10 : (y - 10).natAbs ≤ 10 := by omega
  generalize x - 3 = b at b3 ⊢
  generalize y - 10 = s at s10 ⊢
  -- sums
  have plus_ : ∀ {i j : Nat} {u v : Parts} {br bs : Bool}, Drawn br u → Drawn bs v → [some (pRef p), some (pC K f), some (pC K g), some (pC K h), some (pI b), some (pI s), none, none, none, none, none][i]? = some (some (pC K u)) → [some (pRef p), some (pC K f), some (pC K g), some (pC K h), some (pI b), some (pI s), none, none, none, none, none][j]? = some (some (pC K v)) → ∀ w : Bool, (w = true → Whole fun n => cv u n + cv v n) → (w = false → ¬ Whole fun n => cv u n + cv v n) →
      Den (Zpot p) (tCall (pureSp (C_is_whole_course K)) [] E0 (tCons (tCall (pureSp (C_plus K)) [] E0 (tCons (tVar i) (tCons (tVar j) tNil))) tNil)) [some (pRef p), some (pC K f), some (pC K g), some (pC K h), some (pI b), some (pI s), none, none, none, none, none] (pB w) := fun {i j u v br bs} hu hv hi hj w h1 h2 => by
    obtain ⟨k, l, e⟩ := sum_ok hu.kn hv.kn c2
    refine den_call (den_cons (den_call (den_cons (den_var hi) (den_cons (den_var hj) den_nil)) (show C_plus K [pC K u, pC K v] (pC K (trS (sumP u v))) from ⟨u, v, rfl, hu.1, hv.1, l, rfl⟩)) den_nil) ?_
    cases w with
    | true => exact wh_t k c2 fun n => by rw [e]; exact h1 rfl n
    | false => exact wh_f k c2 fun z => h2 rfl fun n => by show IsZ (cv u n + cv v n); rw [← e]; exact z n
  refine tr_seqI (tr_skip (dent_or (b := false) (c := false) (dent_not (dent_val (plus_ (i := 1) (j := 2) hf hg rfl rfl true (fun _ n => (wf n).add (wg n)) (fun e => nomatch e)))) fun _ => dent_or (b := false) (c := false) (dent_val (plus_ (i := 1) (j := 3) hf hh rfl rfl false (fun e => nomatch e) fun _ z => bh fun n => ?_)) fun _ => dent_val (plus_ (i := 3) (j := 2) hh hg rfl rfl false (fun e => nomatch e) fun _ z => bh fun n => ?_))) ?_
  · have := IsZ.sub (z n) (wf n)
    have e : cv f n + cv h n - cv f n = cv h n := by grind
    have this : IsZ (cv f n + cv h n - cv f n) := this
    rw [e] at this
    exact this
  · have this : IsZ (cv h n + cv g n - cv g n) := IsZ.sub (z n) (wg n)
    have e : cv h n + cv g n - cv g n = cv h n := by grind
    rw [e] at this
    exact this
  -- led, differences
  have l1 : C0 * 14 ^ 6 ≤ 2 ^ 3500 := c0_big (by decide)
  have led_ : ∀ {i : Nat} {u : Parts} {br : Bool} {tb : TE} {bb : Int}, Drawn br u → [some (pRef p), some (pC K f), some (pC K g), some (pC K h), some (pI b), some (pI s), none, none, none, none, none][i]? = some (some (pC K u)) → Den (Zpot p) tb [some (pRef p), some (pC K f), some (pC K g), some (pC K h), some (pI b), some (pI s), none, none, none, none, none] (pI bb) → bb.natAbs ≤ 3 → ∀ w : Bool, (w = true → Whole fun n => cv u (bb * n + s)) → (w = false → ¬ Whole fun n => cv u (bb * n + s)) →
      Den (Zpot p) (tCall (pureSp (C_is_whole_course K)) [] E0 (tCons (tCall (pureSp (C_led K)) [] E0 (tCons (tVar i) (tCons tb (tCons (tVar 5) tNil)))) tNil)) [some (pRef p), some (pC K f), some (pC K g), some (pC K h), some (pI b), some (pI s), none, none, none, none, none] (pB w) := fun {i u br tb bb} hu hi hb hb3 w h1 h2 => by
    obtain ⟨k, l, e⟩ := led_ok hu.kn hb3 s10 l1
    refine den_call (den_cons (den_call (den_cons (den_var hi) (den_cons hb (den_cons (den_var (i := 5) rfl) den_nil))) (show C_led K [pC K u, pI bb, pI s] (pC K (trS (ledP u bb s))) from ⟨u, bb, s, rfl, hu.1, by omega, by omega, l, rfl⟩)) den_nil) ?_
    cases w with
    | true => exact wh_t k l1 fun n => by rw [e]; exact h1 rfl n
    | false => exact wh_f k l1 fun z => h2 rfl fun n => by show IsZ (cv u (bb * n + s)); rw [← e]; exact z n
  refine tr_seqI (tr_skip (dent_or (b := false) (c := false) (dent_not (dent_val (led_ (i := 1) hf rfl (den_var (i := 4) rfl) b3 true (fun _ n => wf _) (fun e => nomatch e)))) fun _ => dent_not (dent_val (b := true) ?_))) ?_
  · obtain ⟨k1, l, e1⟩ := led_ok (b := 1) kf (by decide) s10 l1
    obtain ⟨k2, e2⟩ := scale_ok (-1) kf (c0_big (k := (-1 : Int).natAbs) (by decide))
    obtain ⟨k3, l3, e3⟩ := sum_ok k1 k2 (by rw [← Nat.mul_add]; exact c0_big (by decide))
    refine den_call (den_cons (den_call (den_cons (den_var (i := 1) rfl) (den_cons (den_var (i := 5) rfl) den_nil)) (show C_difference K [pC K f, pI s] (pC K (trS (sumP (trS (ledP f 1 s)) (trS (f.map fun l => pscale l (((-1 : Int)) : Rat)))))) from ⟨f, s, rfl, hf.1, by omega, l, k1.pt, k2.pt, l3, rfl⟩)) den_nil) (wh_t k3 (by rw [← Nat.mul_add]; exact c0_big (by decide)) fun n => ?_)
    rw [e3, e1, e2]
    exact (wf _).add ((wf n).mul (IsZ.int _))
  refine tr_seqI (tr_skip (dent_or (b := false) (c := false) (dent_val (led_ (i := 3) hh rfl (den_v (v := .int 1)) (by decide) false (fun e => nomatch e) fun _ z => bh fun n => ?_)) fun _ => dent_val (led_ (i := 3) hh rfl (den_un (den_v (v := .int 1)) und_neg) (by decide) false (fun e => nomatch e) fun _ z => bh fun n => ?_))) ?_
  · have := z (n - s)
    have this : IsZ (cv h (1 * (n - s) + s)) := this
    rw [show 1 * (n - s) + s = n by omega] at this
    exact this
  · have this : IsZ (cv h (-1 * (s - n) + s)) := z (s - n)
    rw [show -1 * (s - n) + s = n by omega] at this
    exact this
  -- times
  have t30 := scale_ok 30 kh (c0_big (by decide))
  have t60 := scale_ok 60 kh (c0_big (by decide))
  have times_ : ∀ c : Int, c.natAbs < 1000 → Den (Zpot p) (tCall (pureSp (C_times K)) [] E0 (tCons (tVar 3) (tCons (tC (.int c)) tNil))) [some (pRef p), some (pC K f), some (pC K g), some (pC K h), some (pI b), some (pI s), none, none, none, none, none] (pC K (trS (h.map fun l => pscale l (c : Rat)))) := fun c hc => den_call (den_cons (den_var (i := 3) rfl) (den_cons (den_v (v := .int c)) den_nil)) (show C_times K [pC K h, pI c] _ from ⟨h, (c : Rat), pI c, rfl, num_i c, hh.1, szi (small_pow (by omega) _ (by decide)), rfl⟩)
  refine tr_seqI (tr_skip (dent_or (b := false) (c := false) (dent_not (dent_val (den_call (den_cons (times_ 60 (by decide)) den_nil) (wh_t t60.1 (c0_big (by decide)) fun n => ?_)))) fun _ => dent_not (dent_val (b := true) ?_))) ?_
  · rw [t60.2, Rat.mul_comm]
    exact wh n
  · obtain ⟨k3, l3, e3⟩ := sum_ok t30.1 t30.1 (by rw [← Nat.mul_add]; exact c0_big (by decide))
    refine den_call (den_cons (den_call (den_cons (times_ 30 (by decide)) (den_cons (times_ 30 (by decide)) den_nil)) (show C_plus K [_, _] (pC K (trS (sumP (trS (h.map fun l => pscale l ((30 : Int) : Rat))) (trS (h.map fun l => pscale l ((30 : Int) : Rat)))))) from ⟨_, _, rfl, t30.1.pt, t30.1.pt, l3, rfl⟩)) den_nil) (wh_t k3 (by rw [← Nat.mul_add]; exact c0_big (by decide)) fun n => ?_)
    rw [e3, t30.2]
    have e : cv h n * ((30 : Int) : Rat) + cv h n * ((30 : Int) : Rat) = 60 * cv h n := by
      have : ((30 : Int) : Rat) = 30 := rfl
      rw [this]
      grind
    rw [e]
    exact wh n
  -- numbers
  have f0 := List.length_pos_iff.mpr hf.1.ne
  have f4 := hf.2.1
  refine tr_seqI (tr_par (r1 := pI (f.length : Int)) (r2 := pI ((mx f + 1 : Nat) : Int)) (den_period (i := 1) rfl) (den_re (den_op (den_prop (fs := [("own_parts", pPs K f)]) (den_var (i := 1) rfl) (show C_Course_degree K [pC K f] _ from ⟨f, rfl, hf.1.ne, hf.1.ct, rfl⟩)) (den_v (v := .int 2)) opd_I0) ?_)) ?_
  · show pI _ = pI _
    congr 2
    omega
  obtain ⟨m, em, hm⟩ : ∃ m : Nat, min 5 ((mx f + 1 : Nat) : Int) = (m : Int) ∧ m = min 5 (mx f + 1) := ⟨min 5 (mx f + 1), by omega, rfl⟩
  have m1 : 1 ≤ m := by omega
  have m5 : m ≤ 5 := by omega
  have pm : f.length * m ≤ 20 := Nat.mul_le_mul f4 m5
  have pm0 : 1 ≤ f.length * m := Nat.mul_pos f0 m1
  show Tr (Zpot p) _ [some (pRef p), some (pC K f), some (pC K g), some (pC K h), some (pI b), some (pI s), some (pI (f.length : Int)), some (pI ((mx f + 1 : Nat) : Int)), none, none, none] [] _ _
  refine tr_seq (tr_asgF (i := 8) (denf_map (List.range (f.length * m)) (fun n : Nat => pI (n : Int)) (fun n : Nat => pQ K (cv f (n : Int))) (deni_rngN (m := f.length * m) (den_cons (den_re (den_op (den_var (i := 6) rfl) (den_re (den_callB (den_cons (den_v (v := .int 5)) (den_cons (den_var (i := 7) rfl) den_nil)) cd_min) (by rw [em])) (opd_I (wide_mul (a := 20) (b := 20) (by omega) (by omega) (by decide) (by decide) (by decide)))) (by rw [Int.natCast_mul])) den_nil) (by omega)) (fun n hn => ⟨_, deng_name (by decide), den_meth (fs := [("own_parts", pPs K f)]) (den_var (i := 1) rfl) (by show ((["own_parts"] : List Str).contains "at") = false; decide) (den_cons (den_var (i := 10) rfl) den_nil) (show C_Course_at K [pC K f, pI (n : Int)] (pQ K (cv f (n : Int))) from ⟨f, _, rfl, hf.1.ne, hf.1.ct, kn_at kf c1, small_pow (by have := List.mem_range.mp hn; omega) _ (by decide), rfl⟩)⟩) (sz (by rw [List.length_range]; omega)))) ?_
  rintro _ _ ⟨q, rfl, rfl⟩
  have en : ((List.range (f.length * m)).map fun n : Nat => pQ K (cv f (n : Int))) = (numsOf f (f.length * m)).map (pQ K) := by
    unfold numsOf
    rw [List.map_map]
    rfl
  rw [en]
  have nl := numsOf_len f (f.length * m)
  have nv : ∀ n : Nat, n < f.length * m → (numsOf f (f.length * m)).getD n 0 = cv f (n : Int) := fun n hn => numsOf_get hn
  have nb : Cs 7 (C0 * (21 ^ 6 * 7)) (numsOf f (f.length * m)) := fun x hx => by
    obtain ⟨n, hn, rfl⟩ := List.mem_map.mp hx
    have hn := List.mem_range.mp hn
    have a0 := Int.emod_nonneg (n : Int) (show (f.length : Int) ≠ 0 by omega)
    have a1 := Int.emod_lt_of_pos (n : Int) (show (0 : Int) < (f.length : Int) by omega)
    have gm : f.getD ((n : Int) % (f.length : Int)).toNat [] ∈ f := getD_memP (by omega)
    have z := ev_cd (n := (n : Int)) (X := 20) (by omega) _ (kf.cp _ gm)
    have z2 : Cd D0 (C0 * 21 ^ 6) (cv f (n : Int)) := z.le (Nat.mul_le_mul_left _ (Nat.pow_le_pow_right (by decide) (kf.ln _ gm)))
    have z3 := cd_whole (by decide) z2 (wf n)
    rw [Nat.mul_assoc] at z3
    exact z3
  have nN : C0 * (21 ^ 6 * 7) + 1 ≤ 2 ^ 3000 := by
    refine Nat.le_trans (show C0 * (21 ^ 6 * 7) + 1 ≤ C0 * 2 ^ 60 by decide) ?_
    rw [← Nat.pow_add]
    exact pw2 (by decide)
  generalize C0 * (21 ^ 6 * 7) = N at nb nN
  generalize hnums : numsOf f (f.length * m) = nums at nl nv nb ⊢
  show Tr (Zpot p) _ [some (pRef p), some (pC K f), some (pC K g), some (pC K h), some (pI b), some (pI s), some (pI (f.length : Int)), some (pI ((mx f + 1 : Nat) : Int)), some (pRef q), none, none] [⟨q, nums.map (pQ K)⟩] _ _
  -- grown again
  refine tr_seqI (tr_skipM (dentM_frz (i := 8) (k := 0) rfl rfl (dent_imp (dent_and (b := decide (mx f + 1 ≤ 5)) (c := false) (dent_imp (dent_test (den_op (den_var (i := 7) rfl) (den_v (v := .int 5)) opd_I0)) fun b e => ?_) (fun hb => dent_imp (dent_test (den_op (den_call (den_cons (den_var (i := 6) rfl) (den_cons (den_var (i := 8) rfl) den_nil)) (show C_grown K [pI (f.length : Int), pQs K nums] (pC K (grP f.length m nums)) from ⟨f.length, m, nums, rfl, grOk_of f0 f4 m1 m5 nl nb (Nat.le_trans (Nat.le_succ _) nN), rfl⟩)) (den_var (i := 1) rfl) (opd_neO (show C_Course_eq K [pC K (grP f.length m nums), pC K f] (pB (decide (grP f.length m nums = f))) from ⟨_, _, rfl, rfl⟩)))) fun b e => ?_)) fun b e => ?_))) ?_
  · rw [e]
    exact decide_eq_decide.mpr (by omega)
  · have hb : mx f + 1 ≤ 5 := of_decide_eq_true hb
    have eg : grP f.length m nums = f := grow_same hf.1.ne hf.1.sd hf.1.np (by omega) nv
    rw [e, decide_eq_true eg]
    rfl
  · rw [e, Bool.and_false]
  -- one is broken
  refine tr_seqI (tr_asgM (i := 9) (r := pX (fun r : Int => 0 ≤ r ∧ r < (nums.length : Int)) pI) (denM_frz (i := 8) (k := 0) rfl rfl (fun F F' v ⟨x, px, e⟩ => ⟨x, px, e⟩) (den_draw (i := 0) rfl (den_re (den_callB (den_cons (den_var (i := 8) rfl) den_nil) cd_len) (by rw [List.length_map])) (by omega) (by omega)))) ?_
  refine tr_open (i := 9) rfl fun z hz => ?_
  obtain ⟨a, ha⟩ : ∃ a : Nat, z = (a : Int) := ⟨z.toNat, by omega⟩
  subst ha
  have al : a < nums.length := by omega
  have na : SzQ (nums.getD a 0) := (cd_getD nb a).sz (by decide) (small_pow (by decide) _ (by decide)) (big_lt (Nat.le_trans (Nat.le_trans (Nat.le_succ _) nN) (pw2 (by decide))))
  have c7 : Cd 7 1 (Rat.divInt 1 7) := by
    have e : Rat.divInt 1 7 = 1 / ((7 : Nat) : Rat) := by rw [Rat.divInt_eq_div]; rfl
    rw [e]
    exact Cd.one_over (by decide)
  show Tr (Zpot p) _ [some (pRef p), some (pC K f), some (pC K g), some (pC K h), some (pI b), some (pI s), some (pI (f.length : Int)), some (pI ((mx f + 1 : Nat) : Int)), some (pRef q), some (pI (a : Int)), none] [⟨q, nums.map (pQ K)⟩] _ _
  refine tr_seqI (tr_setAtM (i := 8) (k := 0) (p := q) (z := (a : Int)) (j := a) (r := pQ K (nums.getD a 0 + Rat.divInt 1 7)) rfl rfl (denM_op (denM_ix (i := 8) (k := 0) (n := a) rfl rfl (den_var (i := 9) rfl) (r := pQ K (nums.getD a 0)) (by rw [List.getElem?_map, get_getD al (d := 0)]; rfl)) (denM_of (den_mk2 (t := 1) (b := 7) (by decide) (small_pow (by decide) _ (by decide)) (den_v (v := .int 1)) (den_v (v := .int 7)))) (opd_ownO (show C_Ratio_add K [pQ K (nums.getD a 0), pQ K (Rat.divInt 1 7)] _ from ⟨_, _, _, rfl, num_q _, na, c7.sz (by decide) (small_pow (by decide) _ (by decide)) (small_pow (by decide) _ (by decide)), rfl⟩))) (den_var (i := 9) rfl) ?_) ?_
  · unfold ixN
    rw [List.length_map, if_pos (Int.natCast_nonneg a), if_pos (by omega), Int.toNat_natCast]
  show Tr (Zpot p) _ _ [⟨q, (nums.map (pQ K)).set a (pQ K (nums.getD a 0 + Rat.divInt 1 7))⟩] _ _
  rw [← List.map_set]
  have bl : (nums.set a (nums.getD a 0 + Rat.divInt 1 7)).length = f.length * m := by rw [List.length_set]; exact nl
  have bc : Cs 7 (N + 1) (nums.set a (nums.getD a 0 + Rat.divInt 1 7)) := fun x hx => by
    rcases List.mem_or_eq_of_mem_set hx with e | e
    · exact (nb x e).le (Nat.le_succ _)
    · rw [e]
      exact (cd_getD nb a).add c7
  have bv : (nums.set a (nums.getD a 0 + Rat.divInt 1 7)).getD a 0 = cv f (a : Int) + Rat.divInt 1 7 := by
    rw [List.getD_eq_getElem?_getD, List.getElem?_set_self al, ← nv a (by omega)]
    rfl
  generalize nums.set a (nums.getD a 0 + Rat.divInt 1 7) = nums' at bl bc bv ⊢
  refine tr_freeze (i := 8) (k := 0) rfl rfl ?_
  show Tr (Zpot p) _ [some (pRef p), some (pC K f), some (pC K g), some (pC K h), some (pI b), some (pI s), some (pI (f.length : Int)), some (pI ((mx f + 1 : Nat) : Int)), some (pQs K nums'), some (pI (a : Int)), none] [] _ _
  obtain ⟨g1, g2, g3, g4⟩ := grown_ok (p := f.length) (m := m) f0 f4 m1 m5 bc nN
  have nw : isw (grP f.length m nums') = false := isw_f g1 fun z => by
    have := z (a : Int)
    rw [g4] at this
    have ea : a = a % f.length + f.length * (a / f.length) := (Nat.mod_add_div a f.length).symm
    have ha2 : a / f.length < m := Nat.div_lt_of_lt_mul (by omega)
    have gg := grow_at (p := f.length) (m := m) f0 nums' (r := a % f.length) (j := a / f.length) (Nat.mod_lt _ f0) ha2
    rw [← ea, bv] at gg
    rw [gg] at this
    have t2 := IsZ.sub this (wf a)
    have e : cv f (a : Int) + Rat.divInt 1 7 - cv f (a : Int) = Rat.divInt 1 7 := by grind
    rw [e] at t2
    exact absurd (isZ_den.mp t2) (by decide)
  refine tr_ret (den_re (den_andV (b := true) (c := true) (den_re (den_op (den_call (den_cons (den_call (den_cons (den_var (i := 6) rfl) (den_cons (den_var (i := 8) rfl) den_nil)) (show C_grown K [pI (f.length : Int), pQs K nums'] (pC K (grP f.length m nums')) from ⟨f.length, m, nums', rfl, grOk_of f0 f4 m1 m5 bl bc nN, rfl⟩)) den_nil) (show C_is_whole_course K [pC K (grP f.length m nums')] (pB false) from ⟨_, rfl, g1, g2, g3, by rw [nw]⟩)) (den_v (v := .bl false)) opd_isB) rfl) fun _ => den_re (den_op (den_call (den_cons (den_make (rs := [pPs K [[]]]) (drs := []) (fs := [("own_parts", pPs K (trS [[]]))]) (den_cons (den_lst (rs := [pQs K []]) (den_cons (den_lst (rs := []) den_nil (Nat.zero_le _)) den_nil) (by show 1 ≤ sizeLine; decide)) den_nil) (fun _ => trivial) (show C_Course_init K [pPs K [[]]] _ from ⟨[[]], rfl, by decide, by decide, fun l hl => by rw [List.mem_singleton.mp hl]; exact Nat.zero_le _, rfl⟩)) den_nil) c_one) (den_v (v := .bl true)) opd_isB) rfl) rfl)
theorem p_law_right (T : Txt K mg) (X : Fx K) {vs : List V} {H : Hp} {Q : VK} {E : XK} (h : spRight26 K vs H Q E) : t_law_right K { nx := fun _ H' => Q .non H', rt := Q } (L2.start ["pot", "one", "other", "broken", "by", "shift", "period", "many", "numbers", "at", "whole"] vs) H := by
  obtain ⟨F, p, a, b, rfl, s, fp, hp, ha, hb, hb2, q⟩ := h
  refine q_law_right T X p F H _ ⟨start_ok (vs := [V.ref p]) (rs := [pRef p]) ⟨rfl, trivial⟩, ⟨s, fun c t => ?_, a, b, hp, ha, hb, hb2⟩, (fun _ h => nomatch h), (fun _ h => nomatch h), List.nodup_nil⟩ _ (fun _ _ _ _ _ z => z.elim) fun v F' H' g k rv => ?_
  · have t : c = p := t
    rw [t]; exact fp
  · have rv : v = .bl true := rv
    subst rv
    refine q F' H' (g.weak fun c t => ?_) k.fh (k.fr p rfl)
    rcases t with t | t
    · exact t
    · cases t
theorem p_law {vs : List V} {H : Hp} {Q : VK} {E : XK} (h : spLaw K vs H Q E) : t_law K { nx := fun _ H' => Q .non H', rt := Q } (L2.start ["script", "k"] vs) H := by
  obtain ⟨a, ns, rfl, hn, hS, q⟩ := h
  have hm : ∀ n : Nat, n ≤ 63 → ∃ m : Nat, max 1 (min 3 (n : Int)) = (m : Int) ∧ m ≤ 3 := fun n h => ⟨(max 1 (min 3 (n : Int))).toNat, by omega, by omega⟩
  obtain ⟨m, em, hm2⟩ := hm ns.length hn
  have body : Tr Z0 (t_law K) (startR ["script", "k"] [pSq K ns]) [] No (pB true) := by
    refine tr_ret (den_allT (List.range m) (fun k : Nat => pI (k : Int)) (deni_rngN (den_cons (den_re (den_callB (den_cons (den_v (v := .int 1)) (den_cons (den_callB (den_cons (den_v (v := .int 3)) (den_cons (den_callB (den_cons (den_var (i := 0) rfl) den_nil) cd_lenS) den_nil)) cd_min) den_nil)) cd_max) (by rw [em])) den_nil) (by omega)) (fun k hk => ⟨_, deng_name (by decide), ?_⟩) (sz (by rw [List.length_range]; omega)))
    have hk := List.mem_range.mp hk
    intro F H σ env ok Q q
    obtain ⟨v0, x0, y0⟩ := env.at_ 0 (pSq K ns) rfl
    obtain ⟨v1, x1, y1⟩ := env.at_ 1 (pI (k : Int)) rfl
    refine ⟨v0, x0, v1, x1, ?_⟩
    refine ⟨F, ns, k, ok.fh, ⟨y0, y1, trivial⟩, by omega, fun p F1 H1 a b hp g s fp hp1 ha hb hb2 => ?_⟩
    refine ⟨F1, p, a, b, rfl, s, fp, hp1, ha, hb, hb2, fun F2 H2 g2 s2 fp2 => ?_⟩
    have g3 : Go0 F H F2 H2 := by
      refine ⟨g.ff.trans g2.ff, fun c o _ e => g2.hh c o (fun z => ?_) (g.hh c o (fun z => z) e), fun c o e => ?_, fun c e => g2.dm c (g.dm c e)⟩
      · have z : c = p := z
        rw [z, hp] at e; cases e
      · rcases g2.gr c o e with z | z | z
        · exact g.gr c o z
        · exact .inr (.inl (none_back (g.dm c) z))
        · exact .inr (.inl (by have z : c = p := z; rw [z]; exact hp))
    obtain ⟨g4, k4⟩ := ok.step g3 s2
    exact q _ F2 H2 g4 k4 rfl
  refine body H H _ ⟨start_ok (vs := [V.ref a]) (rs := [pSq K ns]) ⟨⟨a, rfl, hS⟩, trivial⟩, Ok.z0 fun _ _ e => e, (fun _ h => nomatch h), (fun _ h => nomatch h), List.nodup_nil⟩ _ (fun _ _ _ _ _ z => z.elim) fun v F' H' g k rv => ?_
  have rv : v = .bl true := rv
  subst rv
  exact q H'
end
end W
set_option Elab.async false
set_option linter.all false
set_option maxRecDepth 100000
set_option maxHeartbeats 4000000
namespace W
open PySem L2 Dn HM
section
variable {P : Program} {w : World} {K : PySem.W.Frag} {mg : Str → Option Value} {base h : Heap}
theorem txt (X0 : K.In h) (G0 : h.Ns mainGlobals mg) (c : DnH.SaysX fa fnx K) : Txt K mg := ⟨DnH.blt_ok X0 G0 (x := "gcd") (c.fact 19 rfl),
  DnH.blt_ok X0 G0 (x := "lcm") (c.fact 20 rfl),
  He.free_ok X0 G0 (x := "abs") (c.fact 0 rfl),
  He.free_ok X0 G0 (x := "all") (c.fact 1 rfl),
  He.free_ok X0 G0 (x := "bool") (c.fact 2 rfl),
  He.free_ok X0 G0 (x := "divmod") (c.fact 3 rfl),
  He.free_ok X0 G0 (x := "enumerate") (c.fact 4 rfl),
  He.free_ok X0 G0 (x := "int") (c.fact 5 rfl),
  He.free_ok X0 G0 (x := "isinstance") (c.fact 6 rfl),
  He.free_ok X0 G0 (x := "len") (c.fact 7 rfl),
  He.free_ok X0 G0 (x := "list") (c.fact 8 rfl),
  He.free_ok X0 G0 (x := "max") (c.fact 9 rfl),
  He.free_ok X0 G0 (x := "min") (c.fact 10 rfl),
  He.free_ok X0 G0 (x := "range") (c.fact 11 rfl),
  He.free_ok X0 G0 (x := "repr") (c.fact 12 rfl),
  He.free_ok X0 G0 (x := "tuple") (c.fact 13 rfl),
  He.free_ok X0 G0 (x := "zip") (c.fact 14 rfl),
  He.glo_ok X0 G0 (x := "Course") (c.fact 24 rfl),
  He.glo_ok X0 G0 (x := "Ratio") (c.fact 21 rfl),
  He.int_ok X0 G0 (x := "MOST_GROWN") (c.fact 15 rfl),
  He.int_ok X0 G0 (x := "MOST_PART") (c.fact 16 rfl),
  He.int_ok X0 G0 (x := "MOST_PERIOD") (c.fact 17 rfl),
  He.int_ok X0 G0 (x := "MOST_SHARE") (c.fact 18 rfl),
  He.cls_ok (x := "Ratio") (c.fact 22 rfl),
  He.cls_ok (x := "Course") (c.fact 25 rfl),
  of_decide_eq_true (c.fact 83 rfl),
  He.eqO_ok (c.fact 84 rfl),
  He.noat_ok (x := "Ratio") (f := "own_top") (c.fact 27 rfl),
  He.noat_ok (x := "Ratio") (f := "own_bottom") (c.fact 28 rfl),
  He.noat_ok (x := "Course") (f := "own_parts") (c.fact 29 rfl)⟩
theorem fx (c : DnH.SaysX fa fnx K) : Fx K := ⟨of_decide_eq_true (c.fact 87 rfl), of_decide_eq_true (c.fact 88 rfl), of_decide_eq_true (c.fact 89 rfl), of_decide_eq_true (c.fact 90 rfl), of_decide_eq_true (c.fact 91 rfl), of_decide_eq_true (c.fact 92 rfl), (c.fact 93 rfl), of_decide_eq_true (c.fact 85 rfl), (c.fact 86 rfl)⟩
theorem vals_nil {ds : List Value} (r : Vals ([] : List V) ds) : ds = [] := by cases r; rfl
theorem ok_is_integer (X0 : K.In h) (G0 : h.Ns mainGlobals mg) (c : DnH.SaysX fa fnx K) : ∃ fd, FunD K "is_integer" "is_integer" (defArgs s_is_integer) (defBody s_is_integer) (defScope s_is_integer) [] [] (He.ga K "is_integer") fd ∧ FnOk P w K mg base CX0 1 (He.ga K "is_integer") fd ["value"] (pureSp (C_is_integer K)) := by
  obtain ⟨fd, F⟩ := c.dfn 0 (d := dx_is_integer) rfl
  exact ⟨fd, F, FunD.ok (dvs := []) F sc_is_integer (pureSp_len (by intro rs r h; first | (obtain ⟨_, rfl, _⟩ := h; rfl) | (obtain ⟨_, _, rfl, _⟩ := h; rfl) | (obtain ⟨_, _, _, rfl, _⟩ := h; rfl) | (obtain ⟨_, _, _, _, rfl, _⟩ := h; rfl) | (obtain ⟨_, _, _, _, _, rfl, _⟩ := h; rfl) | (rcases h with ⟨_, rfl, _⟩ | ⟨_, rfl, _⟩ <;> rfl))) fun cdv A outer s H vs Q E hr h => ⟨t_is_integer K, body_is_integer (txt X0 G0 c)  hr, pure_of (Nx := No) h fun rs r cc => ⟨d_is_integer  cc, fun _ _ z => z.elim⟩⟩⟩
theorem ok_is_list (X0 : K.In h) (G0 : h.Ns mainGlobals mg) (c : DnH.SaysX fa fnx K) : ∃ fd, FunD K "is_list" "is_list" (defArgs s_is_list) (defBody s_is_list) (defScope s_is_list) [] [] (He.ga K "is_list") fd ∧ FnOk P w K mg base CX0 1 (He.ga K "is_list") fd ["value"] (pureSp (C_is_list K)) := by
  obtain ⟨fd, F⟩ := c.dfn 1 (d := dx_is_list) rfl
  exact ⟨fd, F, FunD.ok (dvs := []) F sc_is_list (pureSp_len (by intro rs r h; first | (obtain ⟨_, rfl, _⟩ := h; rfl) | (obtain ⟨_, _, rfl, _⟩ := h; rfl) | (obtain ⟨_, _, _, rfl, _⟩ := h; rfl) | (obtain ⟨_, _, _, _, rfl, _⟩ := h; rfl) | (obtain ⟨_, _, _, _, _, rfl, _⟩ := h; rfl) | (rcases h with ⟨_, rfl, _⟩ | ⟨_, rfl, _⟩ <;> rfl))) fun cdv A outer s H vs Q E hr h => ⟨t_is_list K, body_is_list (txt X0 G0 c)  hr, pure_of (Nx := No) h fun rs r cc => ⟨d_is_list  cc, fun _ _ z => z.elim⟩⟩⟩
theorem ok_want_at_most (X0 : K.In h) (G0 : h.Ns mainGlobals mg) (c : DnH.SaysX fa fnx K) : ∃ fd, FunD K "want_at_most" "want_at_most" (defArgs s_want_at_most) (defBody s_want_at_most) (defScope s_want_at_most) [] [] (He.ga K "want_at_most") fd ∧ FnOk P w K mg base CX0 1 (He.ga K "want_at_most") fd ["what", "limit", "number"] (pureSp (C_want_at_most K)) := by
  obtain ⟨fd, F⟩ := c.dfn 2 (d := dx_want_at_most) rfl
  exact ⟨fd, F, FunD.ok (dvs := []) F sc_want_at_most (pureSp_len (by intro rs r h; first | (obtain ⟨_, rfl, _⟩ := h; rfl) | (obtain ⟨_, _, rfl, _⟩ := h; rfl) | (obtain ⟨_, _, _, rfl, _⟩ := h; rfl) | (obtain ⟨_, _, _, _, rfl, _⟩ := h; rfl) | (obtain ⟨_, _, _, _, _, rfl, _⟩ := h; rfl) | (rcases h with ⟨_, rfl, _⟩ | ⟨_, rfl, _⟩ <;> rfl))) fun cdv A outer s H vs Q E hr h => ⟨t_want_at_most K, body_want_at_most (txt X0 G0 c)  hr, pure_of (Nx := fun _ _ => True) h fun rs r cc => ⟨(d_want_at_most cc).1, fun _ _ _ F => (d_want_at_most cc).2 F⟩⟩⟩
theorem ok_divisor_of (X0 : K.In h) (G0 : h.Ns mainGlobals mg) (c : DnH.SaysX fa fnx K) : ∃ fd, FunD K "divisor_of" "divisor_of" (defArgs s_divisor_of) (defBody s_divisor_of) (defScope s_divisor_of) [] [] (He.ga K "divisor_of") fd ∧ FnOk P w K mg base CX0 1 (He.ga K "divisor_of") fd ["one", "other"] (pureSp (C_divisor_of K)) := by
  obtain ⟨fd, F⟩ := c.dfn 3 (d := dx_divisor_of) rfl
  exact ⟨fd, F, FunD.ok (dvs := []) F sc_divisor_of (pureSp_len (by intro rs r h; first | (obtain ⟨_, rfl, _⟩ := h; rfl) | (obtain ⟨_, _, rfl, _⟩ := h; rfl) | (obtain ⟨_, _, _, rfl, _⟩ := h; rfl) | (obtain ⟨_, _, _, _, rfl, _⟩ := h; rfl) | (obtain ⟨_, _, _, _, _, rfl, _⟩ := h; rfl) | (rcases h with ⟨_, rfl, _⟩ | ⟨_, rfl, _⟩ <;> rfl))) fun cdv A outer s H vs Q E hr h => ⟨t_divisor_of K, body_divisor_of (txt X0 G0 c)  hr, pure_of (Nx := No) h fun rs r cc => ⟨d_divisor_of  cc, fun _ _ z => z.elim⟩⟩⟩
theorem b_fn_is_integer (X0 : K.In h) (G0 : h.Ns mainGlobals mg) (c : DnH.SaysX fa fnx K) : Cal P w K mg base "is_integer" 1 ["value"] (pureSp (C_is_integer K)) := by
  obtain ⟨fd, F, O⟩ := ok_is_integer (P := P) (w := w) (base := base) X0 G0 c
  exact ⟨_, fd, O, He.glo_ok X0 G0 (x := "is_integer") (c.fact 30 rfl), F.kp, F.bindsN fun _ _ _ _ _ _ us hl => match us, hl with | [_], _ => rfl⟩
theorem b_fn_divisor_of (X0 : K.In h) (G0 : h.Ns mainGlobals mg) (c : DnH.SaysX fa fnx K) : Cal P w K mg base "divisor_of" 1 ["one", "other"] (pureSp (C_divisor_of K)) := by
  obtain ⟨fd, F, O⟩ := ok_divisor_of (P := P) (w := w) (base := base) X0 G0 c
  exact ⟨_, fd, O, He.glo_ok X0 G0 (x := "divisor_of") (c.fact 33 rfl), F.kp, F.bindsN fun _ _ _ _ _ _ us hl => match us, hl with | [_, _], _ => rfl⟩
theorem ok_Ratio_init (X0 : K.In h) (G0 : h.Ns mainGlobals mg) (c : DnH.SaysX fa fnx K) : ∃ fd, FunD K "__init__" "Ratio.__init__" (defArgs s_Ratio_init) (defBody s_Ratio_init) (defScope s_Ratio_init) [.int 1] [] (He.ma K (He.ga K "Ratio") "__init__") fd ∧ FnOk P w K mg base CX0 2 (He.ma K (He.ga K "Ratio") "__init__") fd ["self", "top", "bottom"] (initSp (He.ga K "Ratio") (C_Ratio_init K)) := by
  obtain ⟨fd, F⟩ := c.dfn 4 (d := dx_Ratio_init) rfl
  exact ⟨fd, F, FunD.ok (dvs := [.int 1]) F sc_Ratio_init (initSp_len (n := 2) (by intro rs r h; first | (obtain ⟨_, rfl, _⟩ := h; rfl) | (obtain ⟨_, _, rfl, _⟩ := h; rfl) | (obtain ⟨_, _, _, rfl, _⟩ := h; rfl) | (obtain ⟨_, _, _, _, rfl, _⟩ := h; rfl) | (obtain ⟨_, _, _, _, _, rfl, _⟩ := h; rfl) | (rcases h with ⟨_, rfl, _⟩ | ⟨_, rfl, _⟩ <;> rfl))) fun cdv A outer s H vs Q E hr h => ⟨t_Ratio_init K, body_Ratio_init (txt X0 G0 c) (b_fn_is_integer (w := w) (base := base) X0 G0 c) (b_fn_divisor_of (w := w) (base := base) X0 G0 c) hr, init_of h fun x dx rs fs cc => d_Ratio_init (txt X0 G0 c) (fx c) x dx rs fs cc⟩⟩
theorem ok_Ratio_sign (X0 : K.In h) (G0 : h.Ns mainGlobals mg) (c : DnH.SaysX fa fnx K) : ∃ fd, FunD K "sign" "Ratio.sign" (defArgs s_Ratio_sign) (defBody s_Ratio_sign) (defScope s_Ratio_sign) [] [] (DnH.getr K (He.ga K "Ratio") "sign") fd ∧ FnOk P w K mg base CX0 1 (DnH.getr K (He.ga K "Ratio") "sign") fd ["self"] (pureSp (C_Ratio_sign K)) := by
  obtain ⟨fd, F⟩ := c.dfn 5 (d := dx_Ratio_sign) rfl
  exact ⟨fd, F, FunD.ok (dvs := []) F sc_Ratio_sign (pureSp_len (by intro rs r h; first | (obtain ⟨_, rfl, _⟩ := h; rfl) | (obtain ⟨_, _, rfl, _⟩ := h; rfl) | (obtain ⟨_, _, _, rfl, _⟩ := h; rfl) | (obtain ⟨_, _, _, _, rfl, _⟩ := h; rfl) | (obtain ⟨_, _, _, _, _, rfl, _⟩ := h; rfl) | (rcases h with ⟨_, rfl, _⟩ | ⟨_, rfl, _⟩ <;> rfl))) fun cdv A outer s H vs Q E hr h => ⟨t_Ratio_sign K, body_Ratio_sign (txt X0 G0 c)  hr, pure_of (Nx := No) h fun rs r cc => ⟨d_Ratio_sign (txt X0 G0 c) cc, fun _ _ z => z.elim⟩⟩⟩
theorem ok_Ratio_is_whole (X0 : K.In h) (G0 : h.Ns mainGlobals mg) (c : DnH.SaysX fa fnx K) : ∃ fd, FunD K "is_whole" "Ratio.is_whole" (defArgs s_Ratio_is_whole) (defBody s_Ratio_is_whole) (defScope s_Ratio_is_whole) [] [] (DnH.getr K (He.ga K "Ratio") "is_whole") fd ∧ FnOk P w K mg base CX0 1 (DnH.getr K (He.ga K "Ratio") "is_whole") fd ["self"] (pureSp (C_Ratio_is_whole K)) := by
  obtain ⟨fd, F⟩ := c.dfn 6 (d := dx_Ratio_is_whole) rfl
  exact ⟨fd, F, FunD.ok (dvs := []) F sc_Ratio_is_whole (pureSp_len (by intro rs r h; first | (obtain ⟨_, rfl, _⟩ := h; rfl) | (obtain ⟨_, _, rfl, _⟩ := h; rfl) | (obtain ⟨_, _, _, rfl, _⟩ := h; rfl) | (obtain ⟨_, _, _, _, rfl, _⟩ := h; rfl) | (obtain ⟨_, _, _, _, _, rfl, _⟩ := h; rfl) | (rcases h with ⟨_, rfl, _⟩ | ⟨_, rfl, _⟩ <;> rfl))) fun cdv A outer s H vs Q E hr h => ⟨t_Ratio_is_whole K, body_Ratio_is_whole (txt X0 G0 c)  hr, pure_of (Nx := No) h fun rs r cc => ⟨d_Ratio_is_whole (txt X0 G0 c) cc, fun _ _ z => z.elim⟩⟩⟩
theorem ok_told_pair (X0 : K.In h) (G0 : h.Ns mainGlobals mg) (c : DnH.SaysX fa fnx K) : ∃ fd, FunD K "told_pair" "told_pair" (defArgs s_told_pair) (defBody s_told_pair) (defScope s_told_pair) [] [] (He.ga K "told_pair") fd ∧ FnOk P w K mg base CX0 2 (He.ga K "told_pair") fd ["value"] (pureSp (C_told_pair K)) := by
  obtain ⟨fd, F⟩ := c.dfn 7 (d := dx_told_pair) rfl
  exact ⟨fd, F, FunD.ok (dvs := []) F sc_told_pair (pureSp_len (by intro rs r h; rcases h with ⟨_, rfl, _⟩ | ⟨_, rfl, _⟩ <;> rfl)) fun cdv A outer s H vs Q E hr h => ⟨t_told_pair K, body_told_pair (txt X0 G0 c) (b_fn_is_integer (w := w) (base := base) X0 G0 c) hr, pure_of (Nx := No) h fun rs r cc => ⟨d_told_pair (txt X0 G0 c) (fx c) cc, fun _ _ z => z.elim⟩⟩⟩
theorem b_fn_told_pair (X0 : K.In h) (G0 : h.Ns mainGlobals mg) (c : DnH.SaysX fa fnx K) : Cal P w K mg base "told_pair" 2 ["value"] (pureSp (C_told_pair K)) := by
  obtain ⟨fd, F, O⟩ := ok_told_pair (P := P) (w := w) (base := base) X0 G0 c
  exact ⟨_, fd, O, He.glo_ok X0 G0 (x := "told_pair") (c.fact 36 rfl), F.kp, F.bindsN fun _ _ _ _ _ _ us hl => match us, hl with | [_], _ => rfl⟩
theorem b_mk0_Ratio_init (X0 : K.In h) (G0 : h.Ns mainGlobals mg) (c : DnH.SaysX fa fnx K) : MkC P w K mg base "Ratio" (He.ga K "Ratio") 2 ["self", "top", "bottom"] (initSp (He.ga K "Ratio") (C_Ratio_init K)) [] := by
  obtain ⟨fd, F, O⟩ := ok_Ratio_init (P := P) (w := w) (base := base) X0 G0 c
  obtain ⟨ds, rv, B⟩ := F.binds1 (ps := ["self", "top", "bottom"]) 3 1 (fun e => nomatch e) rfl fun T kV doc pm an cdv ct us its h1 h2 => by
    match us, h1, its, h2 with
    | [_, _, _], _, [_], _ => exact ⟨_, rfl, by kernel_rfl⟩
  exact ⟨_, fd, ds, He.mkr_ok (x := "Ratio") (c.fact 23 rfl), O, B, rv, He.glo_ok X0 G0 (x := "Ratio") (c.fact 21 rfl)⟩
theorem ok_Ratio_add (X0 : K.In h) (G0 : h.Ns mainGlobals mg) (c : DnH.SaysX fa fnx K) : ∃ fd, FunD K "__add__" "Ratio.__add__" (defArgs s_Ratio_add) (defBody s_Ratio_add) (defScope s_Ratio_add) [] [] (He.ma K (He.ga K "Ratio") "__add__") fd ∧ FnOk P w K mg base CX0 4 (He.ma K (He.ga K "Ratio") "__add__") fd ["self", "other"] (pureSp (C_Ratio_add K)) := by
  obtain ⟨fd, F⟩ := c.dfn 8 (d := dx_Ratio_add) rfl
  exact ⟨fd, F, FunD.ok (dvs := []) F sc_Ratio_add (pureSp_len (by intro rs r h; first | (obtain ⟨_, rfl, _⟩ := h; rfl) | (obtain ⟨_, _, rfl, _⟩ := h; rfl) | (obtain ⟨_, _, _, rfl, _⟩ := h; rfl) | (obtain ⟨_, _, _, _, rfl, _⟩ := h; rfl) | (obtain ⟨_, _, _, _, _, rfl, _⟩ := h; rfl) | (rcases h with ⟨_, rfl, _⟩ | ⟨_, rfl, _⟩ <;> rfl))) fun cdv A outer s H vs Q E hr h => ⟨t_Ratio_add K, body_Ratio_add (txt X0 G0 c) (b_fn_told_pair (w := w) (base := base) X0 G0 c) (b_mk0_Ratio_init (w := w) (base := base) X0 G0 c) hr, pure_of (Nx := No) h fun rs r cc => ⟨d_Ratio_add (txt X0 G0 c) cc, fun _ _ z => z.elim⟩⟩⟩
theorem ok_Ratio_mul (X0 : K.In h) (G0 : h.Ns mainGlobals mg) (c : DnH.SaysX fa fnx K) : ∃ fd, FunD K "__mul__" "Ratio.__mul__" (defArgs s_Ratio_mul) (defBody s_Ratio_mul) (defScope s_Ratio_mul) [] [] (He.ma K (He.ga K "Ratio") "__mul__") fd ∧ FnOk P w K mg base CX0 4 (He.ma K (He.ga K "Ratio") "__mul__") fd ["self", "other"] (pureSp (C_Ratio_mul K)) := by
  obtain ⟨fd, F⟩ := c.dfn 9 (d := dx_Ratio_mul) rfl
  exact ⟨fd, F, FunD.ok (dvs := []) F sc_Ratio_mul (pureSp_len (by intro rs r h; first | (obtain ⟨_, rfl, _⟩ := h; rfl) | (obtain ⟨_, _, rfl, _⟩ := h; rfl) | (obtain ⟨_, _, _, rfl, _⟩ := h; rfl) | (obtain ⟨_, _, _, _, rfl, _⟩ := h; rfl) | (obtain ⟨_, _, _, _, _, rfl, _⟩ := h; rfl) | (rcases h with ⟨_, rfl, _⟩ | ⟨_, rfl, _⟩ <;> rfl))) fun cdv A outer s H vs Q E hr h => ⟨t_Ratio_mul K, body_Ratio_mul (txt X0 G0 c) (b_fn_told_pair (w := w) (base := base) X0 G0 c) (b_mk0_Ratio_init (w := w) (base := base) X0 G0 c) hr, pure_of (Nx := No) h fun rs r cc => ⟨d_Ratio_mul (txt X0 G0 c) cc, fun _ _ z => z.elim⟩⟩⟩
theorem ok_Ratio_sub (X0 : K.In h) (G0 : h.Ns mainGlobals mg) (c : DnH.SaysX fa fnx K) : ∃ fd, FunD K "__sub__" "Ratio.__sub__" (defArgs s_Ratio_sub) (defBody s_Ratio_sub) (defScope s_Ratio_sub) [] [] (He.ma K (He.ga K "Ratio") "__sub__") fd ∧ FnOk P w K mg base CX0 4 (He.ma K (He.ga K "Ratio") "__sub__") fd ["self", "other"] (pureSp (C_Ratio_sub K)) := by
  obtain ⟨fd, F⟩ := c.dfn 10 (d := dx_Ratio_sub) rfl
  exact ⟨fd, F, FunD.ok (dvs := []) F sc_Ratio_sub (pureSp_len (by intro rs r h; first | (obtain ⟨_, rfl, _⟩ := h; rfl) | (obtain ⟨_, _, rfl, _⟩ := h; rfl) | (obtain ⟨_, _, _, rfl, _⟩ := h; rfl) | (obtain ⟨_, _, _, _, rfl, _⟩ := h; rfl) | (obtain ⟨_, _, _, _, _, rfl, _⟩ := h; rfl) | (rcases h with ⟨_, rfl, _⟩ | ⟨_, rfl, _⟩ <;> rfl))) fun cdv A outer s H vs Q E hr h => ⟨t_Ratio_sub K, body_Ratio_sub (txt X0 G0 c) (b_fn_told_pair (w := w) (base := base) X0 G0 c) (b_mk0_Ratio_init (w := w) (base := base) X0 G0 c) hr, pure_of (Nx := No) h fun rs r cc => ⟨d_Ratio_sub (txt X0 G0 c) cc, fun _ _ z => z.elim⟩⟩⟩
theorem ok_Ratio_eq (X0 : K.In h) (G0 : h.Ns mainGlobals mg) (c : DnH.SaysX fa fnx K) : ∃ fd, FunD K "__eq__" "Ratio.__eq__" (defArgs s_Ratio_eq) (defBody s_Ratio_eq) (defScope s_Ratio_eq) [] [] (He.ma K (He.ga K "Ratio") "__eq__") fd ∧ FnOk P w K mg base CX0 1 (He.ma K (He.ga K "Ratio") "__eq__") fd ["self", "other"] (pureSp (C_Ratio_eq K)) := by
  obtain ⟨fd, F⟩ := c.dfn 11 (d := dx_Ratio_eq) rfl
  exact ⟨fd, F, FunD.ok (dvs := []) F sc_Ratio_eq (pureSp_len (by intro rs r h; first | (obtain ⟨_, rfl, _⟩ := h; rfl) | (obtain ⟨_, _, rfl, _⟩ := h; rfl) | (obtain ⟨_, _, _, rfl, _⟩ := h; rfl) | (obtain ⟨_, _, _, _, rfl, _⟩ := h; rfl) | (obtain ⟨_, _, _, _, _, rfl, _⟩ := h; rfl) | (rcases h with ⟨_, rfl, _⟩ | ⟨_, rfl, _⟩ <;> rfl))) fun cdv A outer s H vs Q E hr h => ⟨t_Ratio_eq K, body_Ratio_eq (txt X0 G0 c)  hr, pure_of (Nx := No) h fun rs r cc => ⟨d_Ratio_eq (txt X0 G0 c) (fx c) cc, fun _ _ z => z.elim⟩⟩⟩
theorem ok_is_number (X0 : K.In h) (G0 : h.Ns mainGlobals mg) (c : DnH.SaysX fa fnx K) : ∃ fd, FunD K "is_number" "is_number" (defArgs s_is_number) (defBody s_is_number) (defScope s_is_number) [] [] (He.ga K "is_number") fd ∧ FnOk P w K mg base CX0 2 (He.ga K "is_number") fd ["value"] (pureSp (C_is_number K)) := by
  obtain ⟨fd, F⟩ := c.dfn 12 (d := dx_is_number) rfl
  exact ⟨fd, F, FunD.ok (dvs := []) F sc_is_number (pureSp_len (by intro rs r h; first | (obtain ⟨_, rfl, _⟩ := h; rfl) | (obtain ⟨_, _, rfl, _⟩ := h; rfl) | (obtain ⟨_, _, _, rfl, _⟩ := h; rfl) | (obtain ⟨_, _, _, _, rfl, _⟩ := h; rfl) | (obtain ⟨_, _, _, _, _, rfl, _⟩ := h; rfl) | (rcases h with ⟨_, rfl, _⟩ | ⟨_, rfl, _⟩ <;> rfl))) fun cdv A outer s H vs Q E hr h => ⟨t_is_number K, body_is_number (txt X0 G0 c) (b_fn_is_integer (w := w) (base := base) X0 G0 c) hr, pure_of (Nx := No) h fun rs r cc => ⟨d_is_number (txt X0 G0 c) (fx c) cc, fun _ _ z => z.elim⟩⟩⟩
theorem b_mk1_Ratio_init (X0 : K.In h) (G0 : h.Ns mainGlobals mg) (c : DnH.SaysX fa fnx K) : MkC P w K mg base "Ratio" (He.ga K "Ratio") 2 ["self", "top", "bottom"] (initSp (He.ga K "Ratio") (C_Ratio_init K)) [.int 1] := by
  obtain ⟨fd, F, O⟩ := ok_Ratio_init (P := P) (w := w) (base := base) X0 G0 c
  obtain ⟨ds, rv, B⟩ := F.binds1 (ps := ["self", "top", "bottom"]) 2 0 (fun e => nomatch e) rfl fun T kV doc pm an cdv ct us its h1 h2 => by
    match us, h1, its, h2 with
    | [_, _], _, [_], _ => exact ⟨_, rfl, by kernel_rfl⟩
  exact ⟨_, fd, ds, He.mkr_ok (x := "Ratio") (c.fact 23 rfl), O, B, rv, He.glo_ok X0 G0 (x := "Ratio") (c.fact 21 rfl)⟩
theorem ok_ratio_of (X0 : K.In h) (G0 : h.Ns mainGlobals mg) (c : DnH.SaysX fa fnx K) : ∃ fd, FunD K "ratio_of" "ratio_of" (defArgs s_ratio_of) (defBody s_ratio_of) (defScope s_ratio_of) [] [] (He.ga K "ratio_of") fd ∧ FnOk P w K mg base CX0 4 (He.ga K "ratio_of") fd ["number"] (pureSp (C_ratio_of K)) := by
  obtain ⟨fd, F⟩ := c.dfn 13 (d := dx_ratio_of) rfl
  exact ⟨fd, F, FunD.ok (dvs := []) F sc_ratio_of (pureSp_len (by intro rs r h; first | (obtain ⟨_, rfl, _⟩ := h; rfl) | (obtain ⟨_, _, rfl, _⟩ := h; rfl) | (obtain ⟨_, _, _, rfl, _⟩ := h; rfl) | (obtain ⟨_, _, _, _, rfl, _⟩ := h; rfl) | (obtain ⟨_, _, _, _, _, rfl, _⟩ := h; rfl) | (rcases h with ⟨_, rfl, _⟩ | ⟨_, rfl, _⟩ <;> rfl))) fun cdv A outer s H vs Q E hr h => ⟨t_ratio_of K, body_ratio_of (txt X0 G0 c) (b_mk1_Ratio_init (w := w) (base := base) X0 G0 c) hr, pure_of (Nx := No) h fun rs r cc => ⟨d_ratio_of (txt X0 G0 c) (fx c) cc, fun _ _ z => z.elim⟩⟩⟩
theorem b_fn_is_number (X0 : K.In h) (G0 : h.Ns mainGlobals mg) (c : DnH.SaysX fa fnx K) : Cal P w K mg base "is_number" 2 ["value"] (pureSp (C_is_number K)) := by
  obtain ⟨fd, F, O⟩ := ok_is_number (P := P) (w := w) (base := base) X0 G0 c
  exact ⟨_, fd, O, He.glo_ok X0 G0 (x := "is_number") (c.fact 41 rfl), F.kp, F.bindsN fun _ _ _ _ _ _ us hl => match us, hl with | [_], _ => rfl⟩
theorem b_fn_ratio_of (X0 : K.In h) (G0 : h.Ns mainGlobals mg) (c : DnH.SaysX fa fnx K) : Cal P w K mg base "ratio_of" 4 ["number"] (pureSp (C_ratio_of K)) := by
  obtain ⟨fd, F, O⟩ := ok_ratio_of (P := P) (w := w) (base := base) X0 G0 c
  exact ⟨_, fd, O, He.glo_ok X0 G0 (x := "ratio_of") (c.fact 42 rfl), F.kp, F.bindsN fun _ _ _ _ _ _ us hl => match us, hl with | [_], _ => rfl⟩
theorem ok_want_number (X0 : K.In h) (G0 : h.Ns mainGlobals mg) (c : DnH.SaysX fa fnx K) : ∃ fd, FunD K "want_number" "want_number" (defArgs s_want_number) (defBody s_want_number) (defScope s_want_number) [] [] (He.ga K "want_number") fd ∧ FnOk P w K mg base CX0 5 (He.ga K "want_number") fd ["value"] (pureSp (C_want_number K)) := by
  obtain ⟨fd, F⟩ := c.dfn 14 (d := dx_want_number) rfl
  exact ⟨fd, F, FunD.ok (dvs := []) F sc_want_number (pureSp_len (by intro rs r h; first | (obtain ⟨_, rfl, _⟩ := h; rfl) | (obtain ⟨_, _, rfl, _⟩ := h; rfl) | (obtain ⟨_, _, _, rfl, _⟩ := h; rfl) | (obtain ⟨_, _, _, _, rfl, _⟩ := h; rfl) | (obtain ⟨_, _, _, _, _, rfl, _⟩ := h; rfl) | (rcases h with ⟨_, rfl, _⟩ | ⟨_, rfl, _⟩ <;> rfl))) fun cdv A outer s H vs Q E hr h => ⟨t_want_number K, body_want_number (txt X0 G0 c) (b_fn_is_number (w := w) (base := base) X0 G0 c) (b_fn_ratio_of (w := w) (base := base) X0 G0 c) hr, pure_of (Nx := No) h fun rs r cc => ⟨d_want_number  cc, fun _ _ z => z.elim⟩⟩⟩
theorem ok_wholes (X0 : K.In h) (G0 : h.Ns mainGlobals mg) (c : DnH.SaysX fa fnx K) : ∃ fd, FunD K "wholes" "wholes" (defArgs s_wholes) (defBody s_wholes) (defScope s_wholes) [] [] (He.ga K "wholes") fd ∧ FnOk P w K mg base CX0 1 (He.ga K "wholes") fd ["ratios"] (pureSp (C_wholes K)) := by
  obtain ⟨fd, F⟩ := c.dfn 15 (d := dx_wholes) rfl
  exact ⟨fd, F, FunD.ok (dvs := []) F sc_wholes (pureSp_len (by intro rs r h; first | (obtain ⟨_, rfl, _⟩ := h; rfl) | (obtain ⟨_, _, rfl, _⟩ := h; rfl) | (obtain ⟨_, _, _, rfl, _⟩ := h; rfl) | (obtain ⟨_, _, _, _, rfl, _⟩ := h; rfl) | (obtain ⟨_, _, _, _, _, rfl, _⟩ := h; rfl) | (rcases h with ⟨_, rfl, _⟩ | ⟨_, rfl, _⟩ <;> rfl))) fun cdv A outer s H vs Q E hr h => ⟨t_wholes K, body_wholes (txt X0 G0 c)  hr, pure_of (Nx := No) h fun rs r cc => ⟨d_wholes (txt X0 G0 c) cc, fun _ _ z => z.elim⟩⟩⟩
theorem b_prop_Ratio_sign (X0 : K.In h) (G0 : h.Ns mainGlobals mg) (c : DnH.SaysX fa fnx K) : PrC P w K mg base (He.ga K "Ratio") "sign" 1 ["self"] (pureSp (C_Ratio_sign K)) := by
  obtain ⟨fd, F, O⟩ := ok_Ratio_sign (P := P) (w := w) (base := base) X0 G0 c
  exact ⟨_, _, fd, DnH.prop_ok (x := "Ratio") (f := "sign") (c.fact 34 rfl), O, F.bindsN fun _ _ _ _ _ _ us hl => match us, hl with | [_], _ => rfl⟩
theorem ok_stripped (X0 : K.In h) (G0 : h.Ns mainGlobals mg) (c : DnH.SaysX fa fnx K) : ∃ fd, FunD K "stripped" "stripped" (defArgs s_stripped) (defBody s_stripped) (defScope s_stripped) [] [] (He.ga K "stripped") fd ∧ FnOk P w K mg base CX0 3 (He.ga K "stripped") fd ["part"] (pureSp (C_stripped K)) := by
  obtain ⟨fd, F⟩ := c.dfn 16 (d := dx_stripped) rfl
  exact ⟨fd, F, FunD.ok (dvs := []) F sc_stripped (pureSp_len (by intro rs r h; first | (obtain ⟨_, rfl, _⟩ := h; rfl) | (obtain ⟨_, _, rfl, _⟩ := h; rfl) | (obtain ⟨_, _, _, rfl, _⟩ := h; rfl) | (obtain ⟨_, _, _, _, rfl, _⟩ := h; rfl) | (obtain ⟨_, _, _, _, _, rfl, _⟩ := h; rfl) | (rcases h with ⟨_, rfl, _⟩ | ⟨_, rfl, _⟩ <;> rfl))) fun cdv A outer s H vs Q E hr h => ⟨t_stripped K, body_stripped (txt X0 G0 c) (b_prop_Ratio_sign (w := w) (base := base) X0 G0 c) hr, pure_of (Nx := No) h fun rs r cc => ⟨d_stripped  cc, fun _ _ z => z.elim⟩⟩⟩
theorem b_fn_stripped (X0 : K.In h) (G0 : h.Ns mainGlobals mg) (c : DnH.SaysX fa fnx K) : Cal P w K mg base "stripped" 3 ["part"] (pureSp (C_stripped K)) := by
  obtain ⟨fd, F, O⟩ := ok_stripped (P := P) (w := w) (base := base) X0 G0 c
  exact ⟨_, fd, O, He.glo_ok X0 G0 (x := "stripped") (c.fact 45 rfl), F.kp, F.bindsN fun _ _ _ _ _ _ us hl => match us, hl with | [_], _ => rfl⟩
theorem b_owneq_Ratio_eq (X0 : K.In h) (G0 : h.Ns mainGlobals mg) (c : DnH.SaysX fa fnx K) : EqC P w K mg base (He.ga K "Ratio") 1 ["self", "other"] (pureSp (C_Ratio_eq K)) := by
  obtain ⟨fd, F, O⟩ := ok_Ratio_eq (P := P) (w := w) (base := base) X0 G0 c
  have M := He.meth_ok (x := "Ratio") (m := "__eq__") (c.fact 40 rfl)
  exact ⟨_, fd, M.at_, M.fn, O, F.bindsN fun _ _ _ _ _ _ us hl => match us, hl with | [_, _], _ => rfl⟩
theorem ok_trimmed (X0 : K.In h) (G0 : h.Ns mainGlobals mg) (c : DnH.SaysX fa fnx K) : ∃ fd, FunD K "trimmed" "trimmed" (defArgs s_trimmed) (defBody s_trimmed) (defScope s_trimmed) [] [] (He.ga K "trimmed") fd ∧ FnOk P w K mg base CX0 4 (He.ga K "trimmed") fd ["parts"] (pureSp (C_trimmed K)) := by
  obtain ⟨fd, F⟩ := c.dfn 17 (d := dx_trimmed) rfl
  exact ⟨fd, F, FunD.ok (dvs := []) F sc_trimmed (pureSp_len (by intro rs r h; first | (obtain ⟨_, rfl, _⟩ := h; rfl) | (obtain ⟨_, _, rfl, _⟩ := h; rfl) | (obtain ⟨_, _, _, rfl, _⟩ := h; rfl) | (obtain ⟨_, _, _, _, rfl, _⟩ := h; rfl) | (obtain ⟨_, _, _, _, _, rfl, _⟩ := h; rfl) | (rcases h with ⟨_, rfl, _⟩ | ⟨_, rfl, _⟩ <;> rfl))) fun cdv A outer s H vs Q E hr h => ⟨t_trimmed K, body_trimmed (txt X0 G0 c) (b_fn_stripped (w := w) (base := base) X0 G0 c) (b_owneq_Ratio_eq (w := w) (base := base) X0 G0 c) hr, pure_of (Nx := No) h fun rs r cc => ⟨d_trimmed  cc, fun _ _ z => z.elim⟩⟩⟩
theorem b_op_Ratio_add (X0 : K.In h) (G0 : h.Ns mainGlobals mg) (c : DnH.SaysX fa fnx K) : OpC P w K mg base (He.ga K "Ratio") "__add__" "__radd__" 4 ["self", "other"] (pureSp (C_Ratio_add K)) := by
  obtain ⟨fd, F, O⟩ := ok_Ratio_add (P := P) (w := w) (base := base) X0 G0 c
  obtain ⟨o1, o2, o3, o4, ⟨fo, o5⟩, ⟨ro, o6⟩, o7⟩ := DnH.oper_ok (x := "Ratio") (m := "__add__") (rm := "__radd__") (c.fact 37 rfl)
  exact ⟨_, fd, fo, ro, _, o1, o2, o3, o4, .inr ⟨_, rfl⟩, o5, o6, o7, O, F.bindsN fun _ _ _ _ _ _ us hl => match us, hl with | [_, _], _ => rfl⟩
theorem ok_part_sum (X0 : K.In h) (G0 : h.Ns mainGlobals mg) (c : DnH.SaysX fa fnx K) : ∃ fd, FunD K "part_sum" "part_sum" (defArgs s_part_sum) (defBody s_part_sum) (defScope s_part_sum) [] [] (He.ga K "part_sum") fd ∧ FnOk P w K mg base CX0 5 (He.ga K "part_sum") fd ["one", "other"] (pureSp (C_part_sum K)) := by
  obtain ⟨fd, F⟩ := c.dfn 18 (d := dx_part_sum) rfl
  exact ⟨fd, F, FunD.ok (dvs := []) F sc_part_sum (pureSp_len (by intro rs r h; first | (obtain ⟨_, rfl, _⟩ := h; rfl) | (obtain ⟨_, _, rfl, _⟩ := h; rfl) | (obtain ⟨_, _, _, rfl, _⟩ := h; rfl) | (obtain ⟨_, _, _, _, rfl, _⟩ := h; rfl) | (obtain ⟨_, _, _, _, _, rfl, _⟩ := h; rfl) | (rcases h with ⟨_, rfl, _⟩ | ⟨_, rfl, _⟩ <;> rfl))) fun cdv A outer s H vs Q E hr h => ⟨t_part_sum K, body_part_sum (txt X0 G0 c) (b_mk1_Ratio_init (w := w) (base := base) X0 G0 c) (b_op_Ratio_add (w := w) (base := base) X0 G0 c) hr, pure_of (Nx := No) h fun rs r cc => ⟨d_part_sum  cc, fun _ _ z => z.elim⟩⟩⟩
theorem b_op_Ratio_mul (X0 : K.In h) (G0 : h.Ns mainGlobals mg) (c : DnH.SaysX fa fnx K) : OpC P w K mg base (He.ga K "Ratio") "__mul__" "__rmul__" 4 ["self", "other"] (pureSp (C_Ratio_mul K)) := by
  obtain ⟨fd, F, O⟩ := ok_Ratio_mul (P := P) (w := w) (base := base) X0 G0 c
  obtain ⟨o1, o2, o3, o4, ⟨fo, o5⟩, ⟨ro, o6⟩, o7⟩ := DnH.oper_ok (x := "Ratio") (m := "__mul__") (rm := "__rmul__") (c.fact 38 rfl)
  exact ⟨_, fd, fo, ro, _, o1, o2, o3, o4, .inr ⟨_, rfl⟩, o5, o6, o7, O, F.bindsN fun _ _ _ _ _ _ us hl => match us, hl with | [_, _], _ => rfl⟩
theorem ok_part_times (X0 : K.In h) (G0 : h.Ns mainGlobals mg) (c : DnH.SaysX fa fnx K) : ∃ fd, FunD K "part_times" "part_times" (defArgs s_part_times) (defBody s_part_times) (defScope s_part_times) [] [] (He.ga K "part_times") fd ∧ FnOk P w K mg base CX0 5 (He.ga K "part_times") fd ["part", "number"] (pureSp (C_part_times K)) := by
  obtain ⟨fd, F⟩ := c.dfn 19 (d := dx_part_times) rfl
  exact ⟨fd, F, FunD.ok (dvs := []) F sc_part_times (pureSp_len (by intro rs r h; first | (obtain ⟨_, rfl, _⟩ := h; rfl) | (obtain ⟨_, _, rfl, _⟩ := h; rfl) | (obtain ⟨_, _, _, rfl, _⟩ := h; rfl) | (obtain ⟨_, _, _, _, rfl, _⟩ := h; rfl) | (obtain ⟨_, _, _, _, _, rfl, _⟩ := h; rfl) | (rcases h with ⟨_, rfl, _⟩ | ⟨_, rfl, _⟩ <;> rfl))) fun cdv A outer s H vs Q E hr h => ⟨t_part_times K, body_part_times (txt X0 G0 c) (b_op_Ratio_mul (w := w) (base := base) X0 G0 c) hr, pure_of (Nx := No) h fun rs r cc => ⟨d_part_times  cc, fun _ _ z => z.elim⟩⟩⟩
theorem b_fn_part_times (X0 : K.In h) (G0 : h.Ns mainGlobals mg) (c : DnH.SaysX fa fnx K) : Cal P w K mg base "part_times" 5 ["part", "number"] (pureSp (C_part_times K)) := by
  obtain ⟨fd, F, O⟩ := ok_part_times (P := P) (w := w) (base := base) X0 G0 c
  exact ⟨_, fd, O, He.glo_ok X0 G0 (x := "part_times") (c.fact 48 rfl), F.kp, F.bindsN fun _ _ _ _ _ _ us hl => match us, hl with | [_, _], _ => rfl⟩
theorem b_fn_part_sum (X0 : K.In h) (G0 : h.Ns mainGlobals mg) (c : DnH.SaysX fa fnx K) : Cal P w K mg base "part_sum" 5 ["one", "other"] (pureSp (C_part_sum K)) := by
  obtain ⟨fd, F, O⟩ := ok_part_sum (P := P) (w := w) (base := base) X0 G0 c
  exact ⟨_, fd, O, He.glo_ok X0 G0 (x := "part_sum") (c.fact 47 rfl), F.kp, F.bindsN fun _ _ _ _ _ _ us hl => match us, hl with | [_, _], _ => rfl⟩
theorem ok_put_part (X0 : K.In h) (G0 : h.Ns mainGlobals mg) (c : DnH.SaysX fa fnx K) : ∃ fd, FunD K "put_part" "put_part" (defArgs s_put_part) (defBody s_put_part) (defScope s_put_part) [] [] (He.ga K "put_part") fd ∧ FnOk P w K mg base CX0 6 (He.ga K "put_part") fd ["part", "by", "shift"] (pureSp (C_put_part K)) := by
  obtain ⟨fd, F⟩ := c.dfn 20 (d := dx_put_part) rfl
  exact ⟨fd, F, FunD.ok (dvs := []) F sc_put_part (pureSp_len (by intro rs r h; first | (obtain ⟨_, rfl, _⟩ := h; rfl) | (obtain ⟨_, _, rfl, _⟩ := h; rfl) | (obtain ⟨_, _, _, rfl, _⟩ := h; rfl) | (obtain ⟨_, _, _, _, rfl, _⟩ := h; rfl) | (obtain ⟨_, _, _, _, _, rfl, _⟩ := h; rfl) | (rcases h with ⟨_, rfl, _⟩ | ⟨_, rfl, _⟩ <;> rfl))) fun cdv A outer s H vs Q E hr h => ⟨t_put_part K, body_put_part (txt X0 G0 c) (b_fn_part_times (w := w) (base := base) X0 G0 c) (b_mk1_Ratio_init (w := w) (base := base) X0 G0 c) (b_fn_part_sum (w := w) (base := base) X0 G0 c) hr, pure_of (Nx := No) h fun rs r cc => ⟨d_put_part  cc, fun _ _ z => z.elim⟩⟩⟩
theorem b_fn_wholes (X0 : K.In h) (G0 : h.Ns mainGlobals mg) (c : DnH.SaysX fa fnx K) : Cal P w K mg base "wholes" 1 ["ratios"] (pureSp (C_wholes K)) := by
  obtain ⟨fd, F, O⟩ := ok_wholes (P := P) (w := w) (base := base) X0 G0 c
  exact ⟨_, fd, O, He.glo_ok X0 G0 (x := "wholes") (c.fact 44 rfl), F.kp, F.bindsN fun _ _ _ _ _ _ us hl => match us, hl with | [_], _ => rfl⟩
theorem ok_worth_of (X0 : K.In h) (G0 : h.Ns mainGlobals mg) (c : DnH.SaysX fa fnx K) : ∃ fd, FunD K "worth_of" "worth_of" (defArgs s_worth_of) (defBody s_worth_of) (defScope s_worth_of) [] [] (He.ga K "worth_of") fd ∧ FnOk P w K mg base CX0 4 (He.ga K "worth_of") fd ["part", "whole"] (pureSp (C_worth_of K)) := by
  obtain ⟨fd, F⟩ := c.dfn 21 (d := dx_worth_of) rfl
  exact ⟨fd, F, FunD.ok (dvs := []) F sc_worth_of (pureSp_len (by intro rs r h; first | (obtain ⟨_, rfl, _⟩ := h; rfl) | (obtain ⟨_, _, rfl, _⟩ := h; rfl) | (obtain ⟨_, _, _, rfl, _⟩ := h; rfl) | (obtain ⟨_, _, _, _, rfl, _⟩ := h; rfl) | (obtain ⟨_, _, _, _, _, rfl, _⟩ := h; rfl) | (rcases h with ⟨_, rfl, _⟩ | ⟨_, rfl, _⟩ <;> rfl))) fun cdv A outer s H vs Q E hr h => ⟨t_worth_of K, body_worth_of (txt X0 G0 c) (b_fn_wholes (w := w) (base := base) X0 G0 c) (b_mk0_Ratio_init (w := w) (base := base) X0 G0 c) hr, pure_of (Nx := No) h fun rs r cc => ⟨d_worth_of  cc, fun _ _ z => z.elim⟩⟩⟩
theorem b_fn_is_list (X0 : K.In h) (G0 : h.Ns mainGlobals mg) (c : DnH.SaysX fa fnx K) : Cal P w K mg base "is_list" 1 ["value"] (pureSp (C_is_list K)) := by
  obtain ⟨fd, F, O⟩ := ok_is_list (P := P) (w := w) (base := base) X0 G0 c
  exact ⟨_, fd, O, He.glo_ok X0 G0 (x := "is_list") (c.fact 31 rfl), F.kp, F.bindsN fun _ _ _ _ _ _ us hl => match us, hl with | [_], _ => rfl⟩
theorem ok_are_parts (X0 : K.In h) (G0 : h.Ns mainGlobals mg) (c : DnH.SaysX fa fnx K) : ∃ fd, FunD K "are_parts" "are_parts" (defArgs s_are_parts) (defBody s_are_parts) (defScope s_are_parts) [] [] (He.ga K "are_parts") fd ∧ FnOk P w K mg base CX0 3 (He.ga K "are_parts") fd ["value"] (pureSp (C_are_parts K)) := by
  obtain ⟨fd, F⟩ := c.dfn 22 (d := dx_are_parts) rfl
  exact ⟨fd, F, FunD.ok (dvs := []) F sc_are_parts (pureSp_len (by intro rs r h; first | (obtain ⟨_, rfl, _⟩ := h; rfl) | (obtain ⟨_, _, rfl, _⟩ := h; rfl) | (obtain ⟨_, _, _, rfl, _⟩ := h; rfl) | (obtain ⟨_, _, _, _, rfl, _⟩ := h; rfl) | (obtain ⟨_, _, _, _, _, rfl, _⟩ := h; rfl) | (rcases h with ⟨_, rfl, _⟩ | ⟨_, rfl, _⟩ <;> rfl))) fun cdv A outer s H vs Q E hr h => ⟨t_are_parts K, body_are_parts (txt X0 G0 c) (b_fn_is_list (w := w) (base := base) X0 G0 c) (b_fn_is_number (w := w) (base := base) X0 G0 c) hr, pure_of (Nx := No) h fun rs r cc => ⟨d_are_parts (fx c) cc, fun _ _ z => z.elim⟩⟩⟩
theorem b_fn_are_parts (X0 : K.In h) (G0 : h.Ns mainGlobals mg) (c : DnH.SaysX fa fnx K) : Cal P w K mg base "are_parts" 3 ["value"] (pureSp (C_are_parts K)) := by
  obtain ⟨fd, F, O⟩ := ok_are_parts (P := P) (w := w) (base := base) X0 G0 c
  exact ⟨_, fd, O, He.glo_ok X0 G0 (x := "are_parts") (c.fact 51 rfl), F.kp, F.bindsN fun _ _ _ _ _ _ us hl => match us, hl with | [_], _ => rfl⟩
theorem b_fn_trimmed (X0 : K.In h) (G0 : h.Ns mainGlobals mg) (c : DnH.SaysX fa fnx K) : Cal P w K mg base "trimmed" 4 ["parts"] (pureSp (C_trimmed K)) := by
  obtain ⟨fd, F, O⟩ := ok_trimmed (P := P) (w := w) (base := base) X0 G0 c
  exact ⟨_, fd, O, He.glo_ok X0 G0 (x := "trimmed") (c.fact 46 rfl), F.kp, F.bindsN fun _ _ _ _ _ _ us hl => match us, hl with | [_], _ => rfl⟩
theorem ok_Course_init (X0 : K.In h) (G0 : h.Ns mainGlobals mg) (c : DnH.SaysX fa fnx K) : ∃ fd, FunD K "__init__" "Course.__init__" (defArgs s_Course_init) (defBody s_Course_init) (defScope s_Course_init) [] [] (He.ma K (He.ga K "Course") "__init__") fd ∧ FnOk P w K mg base CX0 5 (He.ma K (He.ga K "Course") "__init__") fd ["self", "parts"] (initSp (He.ga K "Course") (C_Course_init K)) := by
  obtain ⟨fd, F⟩ := c.dfn 23 (d := dx_Course_init) rfl
  exact ⟨fd, F, FunD.ok (dvs := []) F sc_Course_init (initSp_len (n := 1) (by intro rs r h; first | (obtain ⟨_, rfl, _⟩ := h; rfl) | (obtain ⟨_, _, rfl, _⟩ := h; rfl) | (obtain ⟨_, _, _, rfl, _⟩ := h; rfl) | (obtain ⟨_, _, _, _, rfl, _⟩ := h; rfl) | (obtain ⟨_, _, _, _, _, rfl, _⟩ := h; rfl) | (rcases h with ⟨_, rfl, _⟩ | ⟨_, rfl, _⟩ <;> rfl))) fun cdv A outer s H vs Q E hr h => ⟨t_Course_init K, body_Course_init (txt X0 G0 c) (b_fn_are_parts (w := w) (base := base) X0 G0 c) (b_fn_ratio_of (w := w) (base := base) X0 G0 c) (b_fn_trimmed (w := w) (base := base) X0 G0 c) hr, init_of h fun x dx rs fs cc => d_Course_init (txt X0 G0 c) x dx rs fs cc⟩⟩
theorem ok_Course_period (X0 : K.In h) (G0 : h.Ns mainGlobals mg) (c : DnH.SaysX fa fnx K) : ∃ fd, FunD K "period" "Course.period" (defArgs s_Course_period) (defBody s_Course_period) (defScope s_Course_period) [] [] (DnH.getr K (He.ga K "Course") "period") fd ∧ FnOk P w K mg base CX0 1 (DnH.getr K (He.ga K "Course") "period") fd ["self"] (pureSp (C_Course_period K)) := by
  obtain ⟨fd, F⟩ := c.dfn 24 (d := dx_Course_period) rfl
  exact ⟨fd, F, FunD.ok (dvs := []) F sc_Course_period (pureSp_len (by intro rs r h; first | (obtain ⟨_, rfl, _⟩ := h; rfl) | (obtain ⟨_, _, rfl, _⟩ := h; rfl) | (obtain ⟨_, _, _, rfl, _⟩ := h; rfl) | (obtain ⟨_, _, _, _, rfl, _⟩ := h; rfl) | (obtain ⟨_, _, _, _, _, rfl, _⟩ := h; rfl) | (rcases h with ⟨_, rfl, _⟩ | ⟨_, rfl, _⟩ <;> rfl))) fun cdv A outer s H vs Q E hr h => ⟨t_Course_period K, body_Course_period (txt X0 G0 c)  hr, pure_of (Nx := No) h fun rs r cc => ⟨d_Course_period (txt X0 G0 c) cc, fun _ _ z => z.elim⟩⟩⟩
theorem ok_Course_degree (X0 : K.In h) (G0 : h.Ns mainGlobals mg) (c : DnH.SaysX fa fnx K) : ∃ fd, FunD K "degree" "Course.degree" (defArgs s_Course_degree) (defBody s_Course_degree) (defScope s_Course_degree) [] [] (DnH.getr K (He.ga K "Course") "degree") fd ∧ FnOk P w K mg base CX0 1 (DnH.getr K (He.ga K "Course") "degree") fd ["self"] (pureSp (C_Course_degree K)) := by
  obtain ⟨fd, F⟩ := c.dfn 25 (d := dx_Course_degree) rfl
  exact ⟨fd, F, FunD.ok (dvs := []) F sc_Course_degree (pureSp_len (by intro rs r h; first | (obtain ⟨_, rfl, _⟩ := h; rfl) | (obtain ⟨_, _, rfl, _⟩ := h; rfl) | (obtain ⟨_, _, _, rfl, _⟩ := h; rfl) | (obtain ⟨_, _, _, _, rfl, _⟩ := h; rfl) | (obtain ⟨_, _, _, _, _, rfl, _⟩ := h; rfl) | (rcases h with ⟨_, rfl, _⟩ | ⟨_, rfl, _⟩ <;> rfl))) fun cdv A outer s H vs Q E hr h => ⟨t_Course_degree K, body_Course_degree (txt X0 G0 c)  hr, pure_of (Nx := No) h fun rs r cc => ⟨d_Course_degree (txt X0 G0 c) cc, fun _ _ z => z.elim⟩⟩⟩
theorem b_fn_worth_of (X0 : K.In h) (G0 : h.Ns mainGlobals mg) (c : DnH.SaysX fa fnx K) : Cal P w K mg base "worth_of" 4 ["part", "whole"] (pureSp (C_worth_of K)) := by
  obtain ⟨fd, F, O⟩ := ok_worth_of (P := P) (w := w) (base := base) X0 G0 c
  exact ⟨_, fd, O, He.glo_ok X0 G0 (x := "worth_of") (c.fact 50 rfl), F.kp, F.bindsN fun _ _ _ _ _ _ us hl => match us, hl with | [_, _], _ => rfl⟩
theorem ok_Course_at (X0 : K.In h) (G0 : h.Ns mainGlobals mg) (c : DnH.SaysX fa fnx K) : ∃ fd, FunD K "at" "Course.at" (defArgs s_Course_at) (defBody s_Course_at) (defScope s_Course_at) [] [] (He.ma K (He.ga K "Course") "at") fd ∧ FnOk P w K mg base CX0 5 (He.ma K (He.ga K "Course") "at") fd ["self", "whole"] (pureSp (C_Course_at K)) := by
  obtain ⟨fd, F⟩ := c.dfn 26 (d := dx_Course_at) rfl
  exact ⟨fd, F, FunD.ok (dvs := []) F sc_Course_at (pureSp_len (by intro rs r h; first | (obtain ⟨_, rfl, _⟩ := h; rfl) | (obtain ⟨_, _, rfl, _⟩ := h; rfl) | (obtain ⟨_, _, _, rfl, _⟩ := h; rfl) | (obtain ⟨_, _, _, _, rfl, _⟩ := h; rfl) | (obtain ⟨_, _, _, _, _, rfl, _⟩ := h; rfl) | (rcases h with ⟨_, rfl, _⟩ | ⟨_, rfl, _⟩ <;> rfl))) fun cdv A outer s H vs Q E hr h => ⟨t_Course_at K, body_Course_at (txt X0 G0 c) (b_fn_is_integer (w := w) (base := base) X0 G0 c) (b_fn_worth_of (w := w) (base := base) X0 G0 c) hr, pure_of (Nx := No) h fun rs r cc => ⟨d_Course_at (txt X0 G0 c) (fx c) cc, fun _ _ z => z.elim⟩⟩⟩
theorem ok_Course_eq (X0 : K.In h) (G0 : h.Ns mainGlobals mg) (c : DnH.SaysX fa fnx K) : ∃ fd, FunD K "__eq__" "Course.__eq__" (defArgs s_Course_eq) (defBody s_Course_eq) (defScope s_Course_eq) [] [] (He.ma K (He.ga K "Course") "__eq__") fd ∧ FnOk P w K mg base CX0 4 (He.ma K (He.ga K "Course") "__eq__") fd ["self", "other"] (pureSp (C_Course_eq K)) := by
  obtain ⟨fd, F⟩ := c.dfn 27 (d := dx_Course_eq) rfl
  exact ⟨fd, F, FunD.ok (dvs := []) F sc_Course_eq (pureSp_len (by intro rs r h; first | (obtain ⟨_, rfl, _⟩ := h; rfl) | (obtain ⟨_, _, rfl, _⟩ := h; rfl) | (obtain ⟨_, _, _, rfl, _⟩ := h; rfl) | (obtain ⟨_, _, _, _, rfl, _⟩ := h; rfl) | (obtain ⟨_, _, _, _, _, rfl, _⟩ := h; rfl) | (rcases h with ⟨_, rfl, _⟩ | ⟨_, rfl, _⟩ <;> rfl))) fun cdv A outer s H vs Q E hr h => ⟨t_Course_eq K, body_Course_eq (txt X0 G0 c) (b_owneq_Ratio_eq (w := w) (base := base) X0 G0 c) hr, pure_of (Nx := No) h fun rs r cc => ⟨d_Course_eq (txt X0 G0 c) (fx c) cc, fun _ _ z => z.elim⟩⟩⟩
theorem ok_want_course (X0 : K.In h) (G0 : h.Ns mainGlobals mg) (c : DnH.SaysX fa fnx K) : ∃ fd, FunD K "want_course" "want_course" (defArgs s_want_course) (defBody s_want_course) (defScope s_want_course) [] [] (He.ga K "want_course") fd ∧ FnOk P w K mg base CX0 1 (He.ga K "want_course") fd ["value"] (pureSp (C_want_course K)) := by
  obtain ⟨fd, F⟩ := c.dfn 28 (d := dx_want_course) rfl
  exact ⟨fd, F, FunD.ok (dvs := []) F sc_want_course (pureSp_len (by intro rs r h; first | (obtain ⟨_, rfl, _⟩ := h; rfl) | (obtain ⟨_, _, rfl, _⟩ := h; rfl) | (obtain ⟨_, _, _, rfl, _⟩ := h; rfl) | (obtain ⟨_, _, _, _, rfl, _⟩ := h; rfl) | (obtain ⟨_, _, _, _, _, rfl, _⟩ := h; rfl) | (rcases h with ⟨_, rfl, _⟩ | ⟨_, rfl, _⟩ <;> rfl))) fun cdv A outer s H vs Q E hr h => ⟨t_want_course K, body_want_course (txt X0 G0 c)  hr, pure_of (Nx := No) h fun rs r cc => ⟨d_want_course (txt X0 G0 c) (fx c) cc, fun _ _ z => z.elim⟩⟩⟩
theorem ok_want_whole (X0 : K.In h) (G0 : h.Ns mainGlobals mg) (c : DnH.SaysX fa fnx K) : ∃ fd, FunD K "want_whole" "want_whole" (defArgs s_want_whole) (defBody s_want_whole) (defScope s_want_whole) [] [] (He.ga K "want_whole") fd ∧ FnOk P w K mg base CX0 2 (He.ga K "want_whole") fd ["value"] (pureSp (C_want_whole K)) := by
  obtain ⟨fd, F⟩ := c.dfn 29 (d := dx_want_whole) rfl
  exact ⟨fd, F, FunD.ok (dvs := []) F sc_want_whole (pureSp_len (by intro rs r h; first | (obtain ⟨_, rfl, _⟩ := h; rfl) | (obtain ⟨_, _, rfl, _⟩ := h; rfl) | (obtain ⟨_, _, _, rfl, _⟩ := h; rfl) | (obtain ⟨_, _, _, _, rfl, _⟩ := h; rfl) | (obtain ⟨_, _, _, _, _, rfl, _⟩ := h; rfl) | (rcases h with ⟨_, rfl, _⟩ | ⟨_, rfl, _⟩ <;> rfl))) fun cdv A outer s H vs Q E hr h => ⟨t_want_whole K, body_want_whole (txt X0 G0 c) (b_fn_is_integer (w := w) (base := base) X0 G0 c) hr, pure_of (Nx := No) h fun rs r cc => ⟨d_want_whole (fx c) cc, fun _ _ z => z.elim⟩⟩⟩
theorem b_mk0_Course_init (X0 : K.In h) (G0 : h.Ns mainGlobals mg) (c : DnH.SaysX fa fnx K) : MkC P w K mg base "Course" (He.ga K "Course") 5 ["self", "parts"] (initSp (He.ga K "Course") (C_Course_init K)) [] := by
  obtain ⟨fd, F, O⟩ := ok_Course_init (P := P) (w := w) (base := base) X0 G0 c
  exact ⟨_, fd, [], He.mkr_ok (x := "Course") (c.fact 26 rfl), O, (F.bindsN fun _ _ _ _ _ _ us hl => match us, hl with | [_, _], _ => rfl), .nil, He.glo_ok X0 G0 (x := "Course") (c.fact 24 rfl)⟩
theorem ok_course_of (X0 : K.In h) (G0 : h.Ns mainGlobals mg) (c : DnH.SaysX fa fnx K) : ∃ fd, FunD K "course_of" "course_of" (defArgs s_course_of) (defBody s_course_of) (defScope s_course_of) [] [] (He.ga K "course_of") fd ∧ FnOk P w K mg base CX0 7 (He.ga K "course_of") fd ["parts"] (spCourseOf K) := by
  obtain ⟨fd, F⟩ := c.dfn 30 (d := dx_course_of) rfl
  exact ⟨fd, F, FunD.ok (dvs := []) F sc_course_of (fun vs H Q E h => pureSp_len (n := 1) (by intro rs r h; first | (obtain ⟨_, rfl, _⟩ := h; rfl) | (obtain ⟨_, _, rfl, _⟩ := h; rfl) | (obtain ⟨_, _, _, rfl, _⟩ := h; rfl) | (obtain ⟨_, _, _, _, rfl, _⟩ := h; rfl) | (obtain ⟨_, _, _, _, _, rfl, _⟩ := h; rfl) | (rcases h with ⟨_, rfl, _⟩ | ⟨_, rfl, _⟩ <;> rfl)) vs H Q E h) fun cdv A outer s H vs Q E hr h => ⟨t_course_of K, body_course_of (txt X0 G0 c) (b_mk0_Course_init (w := w) (base := base) X0 G0 c) (b_fn_trimmed (w := w) (base := base) X0 G0 c) hr, p_course_of (txt X0 G0 c) h⟩⟩
theorem b_prop_Course_period (X0 : K.In h) (G0 : h.Ns mainGlobals mg) (c : DnH.SaysX fa fnx K) : PrC P w K mg base (He.ga K "Course") "period" 1 ["self"] (pureSp (C_Course_period K)) := by
  obtain ⟨fd, F, O⟩ := ok_Course_period (P := P) (w := w) (base := base) X0 G0 c
  exact ⟨_, _, fd, DnH.prop_ok (x := "Course") (f := "period") (c.fact 52 rfl), O, F.bindsN fun _ _ _ _ _ _ us hl => match us, hl with | [_], _ => rfl⟩
theorem b_fn_course_of (X0 : K.In h) (G0 : h.Ns mainGlobals mg) (c : DnH.SaysX fa fnx K) : Cal P w K mg base "course_of" 7 ["parts"] (spCourseOf K) := by
  obtain ⟨fd, F, O⟩ := ok_course_of (P := P) (w := w) (base := base) X0 G0 c
  exact ⟨_, fd, O, He.glo_ok X0 G0 (x := "course_of") (c.fact 58 rfl), F.kp, F.bindsN fun _ _ _ _ _ _ us hl => match us, hl with | [_], _ => rfl⟩
theorem ok_sum_of (X0 : K.In h) (G0 : h.Ns mainGlobals mg) (c : DnH.SaysX fa fnx K) : ∃ fd, FunD K "sum_of" "sum_of" (defArgs s_sum_of) (defBody s_sum_of) (defScope s_sum_of) [] [] (He.ga K "sum_of") fd ∧ FnOk P w K mg base CX0 8 (He.ga K "sum_of") fd ["one", "other"] (pureSp (C_sum_of K)) := by
  obtain ⟨fd, F⟩ := c.dfn 31 (d := dx_sum_of) rfl
  exact ⟨fd, F, FunD.ok (dvs := []) F sc_sum_of (pureSp_len (by intro rs r h; first | (obtain ⟨_, rfl, _⟩ := h; rfl) | (obtain ⟨_, _, rfl, _⟩ := h; rfl) | (obtain ⟨_, _, _, rfl, _⟩ := h; rfl) | (obtain ⟨_, _, _, _, rfl, _⟩ := h; rfl) | (obtain ⟨_, _, _, _, _, rfl, _⟩ := h; rfl) | (rcases h with ⟨_, rfl, _⟩ | ⟨_, rfl, _⟩ <;> rfl))) fun cdv A outer s H vs Q E hr h => ⟨t_sum_of K, body_sum_of (txt X0 G0 c) (b_prop_Course_period (w := w) (base := base) X0 G0 c) (b_fn_part_sum (w := w) (base := base) X0 G0 c) (b_fn_course_of (w := w) (base := base) X0 G0 c) hr, pure_of (Nx := No) h fun rs r cc => ⟨d_sum_of (txt X0 G0 c) cc, fun _ _ z => z.elim⟩⟩⟩
theorem b_fn_put_part (X0 : K.In h) (G0 : h.Ns mainGlobals mg) (c : DnH.SaysX fa fnx K) : Cal P w K mg base "put_part" 6 ["part", "by", "shift"] (pureSp (C_put_part K)) := by
  obtain ⟨fd, F, O⟩ := ok_put_part (P := P) (w := w) (base := base) X0 G0 c
  exact ⟨_, fd, O, He.glo_ok X0 G0 (x := "put_part") (c.fact 49 rfl), F.kp, F.bindsN fun _ _ _ _ _ _ us hl => match us, hl with | [_, _, _], _ => rfl⟩
theorem ok_led_by (X0 : K.In h) (G0 : h.Ns mainGlobals mg) (c : DnH.SaysX fa fnx K) : ∃ fd, FunD K "led_by" "led_by" (defArgs s_led_by) (defBody s_led_by) (defScope s_led_by) [] [] (He.ga K "led_by") fd ∧ FnOk P w K mg base CX0 8 (He.ga K "led_by") fd ["course", "by", "shift"] (pureSp (C_led_by K)) := by
  obtain ⟨fd, F⟩ := c.dfn 32 (d := dx_led_by) rfl
  exact ⟨fd, F, FunD.ok (dvs := []) F sc_led_by (pureSp_len (by intro rs r h; first | (obtain ⟨_, rfl, _⟩ := h; rfl) | (obtain ⟨_, _, rfl, _⟩ := h; rfl) | (obtain ⟨_, _, _, rfl, _⟩ := h; rfl) | (obtain ⟨_, _, _, _, rfl, _⟩ := h; rfl) | (obtain ⟨_, _, _, _, _, rfl, _⟩ := h; rfl) | (rcases h with ⟨_, rfl, _⟩ | ⟨_, rfl, _⟩ <;> rfl))) fun cdv A outer s H vs Q E hr h => ⟨t_led_by K, body_led_by (txt X0 G0 c) (b_fn_put_part (w := w) (base := base) X0 G0 c) (b_fn_course_of (w := w) (base := base) X0 G0 c) hr, pure_of (Nx := No) h fun rs r cc => ⟨d_led_by (txt X0 G0 c) cc, fun _ _ z => z.elim⟩⟩⟩
theorem b_op_Ratio_sub (X0 : K.In h) (G0 : h.Ns mainGlobals mg) (c : DnH.SaysX fa fnx K) : OpC P w K mg base (He.ga K "Ratio") "__sub__" "__rsub__" 4 ["self", "other"] (pureSp (C_Ratio_sub K)) := by
  obtain ⟨fd, F, O⟩ := ok_Ratio_sub (P := P) (w := w) (base := base) X0 G0 c
  obtain ⟨o1, o2, o3, o4, ⟨fo, o5⟩, ⟨ro, o6⟩, o7⟩ := DnH.oper_ok (x := "Ratio") (m := "__sub__") (rm := "__rsub__") (c.fact 39 rfl)
  exact ⟨_, fd, fo, ro, _, o1, o2, o3, o4, .inr ⟨_, rfl⟩, o5, o6, o7, O, F.bindsN fun _ _ _ _ _ _ us hl => match us, hl with | [_, _], _ => rfl⟩
theorem ok_part_through (X0 : K.In h) (G0 : h.Ns mainGlobals mg) (c : DnH.SaysX fa fnx K) : ∃ fd, FunD K "part_through" "part_through" (defArgs s_part_through) (defBody s_part_through) (defScope s_part_through) [] [] (He.ga K "part_through") fd ∧ FnOk P w K mg base CX0 6 (He.ga K "part_through") fd ["numbers"] (pureSp (C_part_through K)) := by
  obtain ⟨fd, F⟩ := c.dfn 33 (d := dx_part_through) rfl
  exact ⟨fd, F, FunD.ok (dvs := []) F sc_part_through (pureSp_len (by intro rs r h; first | (obtain ⟨_, rfl, _⟩ := h; rfl) | (obtain ⟨_, _, rfl, _⟩ := h; rfl) | (obtain ⟨_, _, _, rfl, _⟩ := h; rfl) | (obtain ⟨_, _, _, _, rfl, _⟩ := h; rfl) | (obtain ⟨_, _, _, _, _, rfl, _⟩ := h; rfl) | (rcases h with ⟨_, rfl, _⟩ | ⟨_, rfl, _⟩ <;> rfl))) fun cdv A outer s H vs Q E hr h => ⟨t_part_through K, body_part_through (txt X0 G0 c) (b_mk1_Ratio_init (w := w) (base := base) X0 G0 c) (b_fn_part_times (w := w) (base := base) X0 G0 c) (b_fn_part_sum (w := w) (base := base) X0 G0 c) (b_mk0_Ratio_init (w := w) (base := base) X0 G0 c) (b_op_Ratio_sub (w := w) (base := base) X0 G0 c) hr, pure_of (Nx := No) h fun rs r cc => ⟨d_part_through  cc, fun _ _ z => z.elim⟩⟩⟩
theorem b_fn_part_through (X0 : K.In h) (G0 : h.Ns mainGlobals mg) (c : DnH.SaysX fa fnx K) : Cal P w K mg base "part_through" 6 ["numbers"] (pureSp (C_part_through K)) := by
  obtain ⟨fd, F, O⟩ := ok_part_through (P := P) (w := w) (base := base) X0 G0 c
  exact ⟨_, fd, O, He.glo_ok X0 G0 (x := "part_through") (c.fact 61 rfl), F.kp, F.bindsN fun _ _ _ _ _ _ us hl => match us, hl with | [_], _ => rfl⟩
theorem ok_grown_of (X0 : K.In h) (G0 : h.Ns mainGlobals mg) (c : DnH.SaysX fa fnx K) : ∃ fd, FunD K "grown_of" "grown_of" (defArgs s_grown_of) (defBody s_grown_of) (defScope s_grown_of) [] [] (He.ga K "grown_of") fd ∧ FnOk P w K mg base CX0 8 (He.ga K "grown_of") fd ["period", "numbers"] (pureSp (C_grown_of K)) := by
  obtain ⟨fd, F⟩ := c.dfn 34 (d := dx_grown_of) rfl
  exact ⟨fd, F, FunD.ok (dvs := []) F sc_grown_of (pureSp_len (by intro rs r h; first | (obtain ⟨_, rfl, _⟩ := h; rfl) | (obtain ⟨_, _, rfl, _⟩ := h; rfl) | (obtain ⟨_, _, _, rfl, _⟩ := h; rfl) | (obtain ⟨_, _, _, _, rfl, _⟩ := h; rfl) | (obtain ⟨_, _, _, _, _, rfl, _⟩ := h; rfl) | (rcases h with ⟨_, rfl, _⟩ | ⟨_, rfl, _⟩ <;> rfl))) fun cdv A outer s H vs Q E hr h => ⟨t_grown_of K, body_grown_of (txt X0 G0 c) (b_mk0_Ratio_init (w := w) (base := base) X0 G0 c) (b_fn_part_through (w := w) (base := base) X0 G0 c) (b_fn_put_part (w := w) (base := base) X0 G0 c) (b_fn_course_of (w := w) (base := base) X0 G0 c) hr, pure_of (Nx := No) h fun rs r cc => ⟨d_grown_of  cc, fun _ _ z => z.elim⟩⟩⟩
theorem b_fn_want_course (X0 : K.In h) (G0 : h.Ns mainGlobals mg) (c : DnH.SaysX fa fnx K) : Cal P w K mg base "want_course" 1 ["value"] (pureSp (C_want_course K)) := by
  obtain ⟨fd, F, O⟩ := ok_want_course (P := P) (w := w) (base := base) X0 G0 c
  exact ⟨_, fd, O, He.glo_ok X0 G0 (x := "want_course") (c.fact 56 rfl), F.kp, F.bindsN fun _ _ _ _ _ _ us hl => match us, hl with | [_], _ => rfl⟩
theorem b_fn_want_at_most (X0 : K.In h) (G0 : h.Ns mainGlobals mg) (c : DnH.SaysX fa fnx K) : Cal P w K mg base "want_at_most" 1 ["what", "limit", "number"] (pureSp (C_want_at_most K)) := by
  obtain ⟨fd, F, O⟩ := ok_want_at_most (P := P) (w := w) (base := base) X0 G0 c
  exact ⟨_, fd, O, He.glo_ok X0 G0 (x := "want_at_most") (c.fact 32 rfl), F.kp, F.bindsN fun _ _ _ _ _ _ us hl => match us, hl with | [_, _, _], _ => rfl⟩
theorem b_fn_sum_of (X0 : K.In h) (G0 : h.Ns mainGlobals mg) (c : DnH.SaysX fa fnx K) : Cal P w K mg base "sum_of" 8 ["one", "other"] (pureSp (C_sum_of K)) := by
  obtain ⟨fd, F, O⟩ := ok_sum_of (P := P) (w := w) (base := base) X0 G0 c
  exact ⟨_, fd, O, He.glo_ok X0 G0 (x := "sum_of") (c.fact 59 rfl), F.kp, F.bindsN fun _ _ _ _ _ _ us hl => match us, hl with | [_, _], _ => rfl⟩
theorem ok_plus (X0 : K.In h) (G0 : h.Ns mainGlobals mg) (c : DnH.SaysX fa fnx K) : ∃ fd, FunD K "plus" "plus" (defArgs s_plus) (defBody s_plus) (defScope s_plus) [] [] (He.ga K "plus") fd ∧ FnOk P w K mg base CX0 9 (He.ga K "plus") fd ["course", "other"] (pureSp (C_plus K)) := by
  obtain ⟨fd, F⟩ := c.dfn 35 (d := dx_plus) rfl
  exact ⟨fd, F, FunD.ok (dvs := []) F sc_plus (pureSp_len (by intro rs r h; first | (obtain ⟨_, rfl, _⟩ := h; rfl) | (obtain ⟨_, _, rfl, _⟩ := h; rfl) | (obtain ⟨_, _, _, rfl, _⟩ := h; rfl) | (obtain ⟨_, _, _, _, rfl, _⟩ := h; rfl) | (obtain ⟨_, _, _, _, _, rfl, _⟩ := h; rfl) | (rcases h with ⟨_, rfl, _⟩ | ⟨_, rfl, _⟩ <;> rfl))) fun cdv A outer s H vs Q E hr h => ⟨t_plus K, body_plus (txt X0 G0 c) (b_fn_want_course (w := w) (base := base) X0 G0 c) (b_prop_Course_period (w := w) (base := base) X0 G0 c) (b_fn_want_at_most (w := w) (base := base) X0 G0 c) (b_fn_sum_of (w := w) (base := base) X0 G0 c) hr, pure_of (Nx := No) h fun rs r cc => ⟨d_plus (txt X0 G0 c) cc, fun _ _ z => z.elim⟩⟩⟩
theorem b_fn_want_number (X0 : K.In h) (G0 : h.Ns mainGlobals mg) (c : DnH.SaysX fa fnx K) : Cal P w K mg base "want_number" 5 ["value"] (pureSp (C_want_number K)) := by
  obtain ⟨fd, F, O⟩ := ok_want_number (P := P) (w := w) (base := base) X0 G0 c
  exact ⟨_, fd, O, He.glo_ok X0 G0 (x := "want_number") (c.fact 43 rfl), F.kp, F.bindsN fun _ _ _ _ _ _ us hl => match us, hl with | [_], _ => rfl⟩
theorem ok_times (X0 : K.In h) (G0 : h.Ns mainGlobals mg) (c : DnH.SaysX fa fnx K) : ∃ fd, FunD K "times" "times" (defArgs s_times) (defBody s_times) (defScope s_times) [] [] (He.ga K "times") fd ∧ FnOk P w K mg base CX0 8 (He.ga K "times") fd ["course", "number"] (pureSp (C_times K)) := by
  obtain ⟨fd, F⟩ := c.dfn 36 (d := dx_times) rfl
  exact ⟨fd, F, FunD.ok (dvs := []) F sc_times (pureSp_len (by intro rs r h; first | (obtain ⟨_, rfl, _⟩ := h; rfl) | (obtain ⟨_, _, rfl, _⟩ := h; rfl) | (obtain ⟨_, _, _, rfl, _⟩ := h; rfl) | (obtain ⟨_, _, _, _, rfl, _⟩ := h; rfl) | (obtain ⟨_, _, _, _, _, rfl, _⟩ := h; rfl) | (rcases h with ⟨_, rfl, _⟩ | ⟨_, rfl, _⟩ <;> rfl))) fun cdv A outer s H vs Q E hr h => ⟨t_times K, body_times (txt X0 G0 c) (b_fn_want_course (w := w) (base := base) X0 G0 c) (b_fn_want_number (w := w) (base := base) X0 G0 c) (b_fn_part_times (w := w) (base := base) X0 G0 c) (b_fn_course_of (w := w) (base := base) X0 G0 c) hr, pure_of (Nx := No) h fun rs r cc => ⟨d_times (txt X0 G0 c) cc, fun _ _ z => z.elim⟩⟩⟩
theorem b_fn_want_whole (X0 : K.In h) (G0 : h.Ns mainGlobals mg) (c : DnH.SaysX fa fnx K) : Cal P w K mg base "want_whole" 2 ["value"] (pureSp (C_want_whole K)) := by
  obtain ⟨fd, F, O⟩ := ok_want_whole (P := P) (w := w) (base := base) X0 G0 c
  exact ⟨_, fd, O, He.glo_ok X0 G0 (x := "want_whole") (c.fact 57 rfl), F.kp, F.bindsN fun _ _ _ _ _ _ us hl => match us, hl with | [_], _ => rfl⟩
theorem b_fn_led_by (X0 : K.In h) (G0 : h.Ns mainGlobals mg) (c : DnH.SaysX fa fnx K) : Cal P w K mg base "led_by" 8 ["course", "by", "shift"] (pureSp (C_led_by K)) := by
  obtain ⟨fd, F, O⟩ := ok_led_by (P := P) (w := w) (base := base) X0 G0 c
  exact ⟨_, fd, O, He.glo_ok X0 G0 (x := "led_by") (c.fact 60 rfl), F.kp, F.bindsN fun _ _ _ _ _ _ us hl => match us, hl with | [_, _, _], _ => rfl⟩
theorem ok_led (X0 : K.In h) (G0 : h.Ns mainGlobals mg) (c : DnH.SaysX fa fnx K) : ∃ fd, FunD K "led" "led" (defArgs s_led) (defBody s_led) (defScope s_led) [] [] (He.ga K "led") fd ∧ FnOk P w K mg base CX0 9 (He.ga K "led") fd ["course", "by", "shift"] (pureSp (C_led K)) := by
  obtain ⟨fd, F⟩ := c.dfn 37 (d := dx_led) rfl
  exact ⟨fd, F, FunD.ok (dvs := []) F sc_led (pureSp_len (by intro rs r h; first | (obtain ⟨_, rfl, _⟩ := h; rfl) | (obtain ⟨_, _, rfl, _⟩ := h; rfl) | (obtain ⟨_, _, _, rfl, _⟩ := h; rfl) | (obtain ⟨_, _, _, _, rfl, _⟩ := h; rfl) | (obtain ⟨_, _, _, _, _, rfl, _⟩ := h; rfl) | (rcases h with ⟨_, rfl, _⟩ | ⟨_, rfl, _⟩ <;> rfl))) fun cdv A outer s H vs Q E hr h => ⟨t_led K, body_led (txt X0 G0 c) (b_fn_want_course (w := w) (base := base) X0 G0 c) (b_fn_want_whole (w := w) (base := base) X0 G0 c) (b_fn_led_by (w := w) (base := base) X0 G0 c) hr, pure_of (Nx := No) h fun rs r cc => ⟨d_led  cc, fun _ _ z => z.elim⟩⟩⟩
theorem ok_difference (X0 : K.In h) (G0 : h.Ns mainGlobals mg) (c : DnH.SaysX fa fnx K) : ∃ fd, FunD K "difference" "difference" (defArgs s_difference) (defBody s_difference) (defScope s_difference) [] [] (He.ga K "difference") fd ∧ FnOk P w K mg base CX0 9 (He.ga K "difference") fd ["course", "step"] (pureSp (C_difference K)) := by
  obtain ⟨fd, F⟩ := c.dfn 38 (d := dx_difference) rfl
  exact ⟨fd, F, FunD.ok (dvs := []) F sc_difference (pureSp_len (by intro rs r h; first | (obtain ⟨_, rfl, _⟩ := h; rfl) | (obtain ⟨_, _, rfl, _⟩ := h; rfl) | (obtain ⟨_, _, _, rfl, _⟩ := h; rfl) | (obtain ⟨_, _, _, _, rfl, _⟩ := h; rfl) | (obtain ⟨_, _, _, _, _, rfl, _⟩ := h; rfl) | (rcases h with ⟨_, rfl, _⟩ | ⟨_, rfl, _⟩ <;> rfl))) fun cdv A outer s H vs Q E hr h => ⟨t_difference K, body_difference (txt X0 G0 c) (b_fn_want_course (w := w) (base := base) X0 G0 c) (b_fn_part_times (w := w) (base := base) X0 G0 c) (b_fn_course_of (w := w) (base := base) X0 G0 c) (b_fn_want_whole (w := w) (base := base) X0 G0 c) (b_fn_led_by (w := w) (base := base) X0 G0 c) (b_fn_sum_of (w := w) (base := base) X0 G0 c) hr, pure_of (Nx := No) h fun rs r cc => ⟨d_difference (txt X0 G0 c) cc, fun _ _ z => z.elim⟩⟩⟩
theorem ok_are_grown (X0 : K.In h) (G0 : h.Ns mainGlobals mg) (c : DnH.SaysX fa fnx K) : ∃ fd, FunD K "are_grown" "are_grown" (defArgs s_are_grown) (defBody s_are_grown) (defScope s_are_grown) [] [] (He.ga K "are_grown") fd ∧ FnOk P w K mg base CX0 3 (He.ga K "are_grown") fd ["period", "value"] (pureSp (C_are_grown K)) := by
  obtain ⟨fd, F⟩ := c.dfn 39 (d := dx_are_grown) rfl
  exact ⟨fd, F, FunD.ok (dvs := []) F sc_are_grown (pureSp_len (by intro rs r h; first | (obtain ⟨_, rfl, _⟩ := h; rfl) | (obtain ⟨_, _, rfl, _⟩ := h; rfl) | (obtain ⟨_, _, _, rfl, _⟩ := h; rfl) | (obtain ⟨_, _, _, _, rfl, _⟩ := h; rfl) | (obtain ⟨_, _, _, _, _, rfl, _⟩ := h; rfl) | (rcases h with ⟨_, rfl, _⟩ | ⟨_, rfl, _⟩ <;> rfl))) fun cdv A outer s H vs Q E hr h => ⟨t_are_grown K, body_are_grown (txt X0 G0 c) (b_fn_is_list (w := w) (base := base) X0 G0 c) (b_fn_is_number (w := w) (base := base) X0 G0 c) hr, pure_of (Nx := No) h fun rs r cc => ⟨d_are_grown (fx c) cc, fun _ _ z => z.elim⟩⟩⟩
theorem b_fn_are_grown (X0 : K.In h) (G0 : h.Ns mainGlobals mg) (c : DnH.SaysX fa fnx K) : Cal P w K mg base "are_grown" 3 ["period", "value"] (pureSp (C_are_grown K)) := by
  obtain ⟨fd, F, O⟩ := ok_are_grown (P := P) (w := w) (base := base) X0 G0 c
  exact ⟨_, fd, O, He.glo_ok X0 G0 (x := "are_grown") (c.fact 67 rfl), F.kp, F.bindsN fun _ _ _ _ _ _ us hl => match us, hl with | [_, _], _ => rfl⟩
theorem b_fn_grown_of (X0 : K.In h) (G0 : h.Ns mainGlobals mg) (c : DnH.SaysX fa fnx K) : Cal P w K mg base "grown_of" 8 ["period", "numbers"] (pureSp (C_grown_of K)) := by
  obtain ⟨fd, F, O⟩ := ok_grown_of (P := P) (w := w) (base := base) X0 G0 c
  exact ⟨_, fd, O, He.glo_ok X0 G0 (x := "grown_of") (c.fact 62 rfl), F.kp, F.bindsN fun _ _ _ _ _ _ us hl => match us, hl with | [_, _], _ => rfl⟩
theorem ok_grown (X0 : K.In h) (G0 : h.Ns mainGlobals mg) (c : DnH.SaysX fa fnx K) : ∃ fd, FunD K "grown" "grown" (defArgs s_grown) (defBody s_grown) (defScope s_grown) [] [] (He.ga K "grown") fd ∧ FnOk P w K mg base CX0 9 (He.ga K "grown") fd ["period", "numbers"] (pureSp (C_grown K)) := by
  obtain ⟨fd, F⟩ := c.dfn 40 (d := dx_grown) rfl
  exact ⟨fd, F, FunD.ok (dvs := []) F sc_grown (pureSp_len (by intro rs r h; first | (obtain ⟨_, rfl, _⟩ := h; rfl) | (obtain ⟨_, _, rfl, _⟩ := h; rfl) | (obtain ⟨_, _, _, rfl, _⟩ := h; rfl) | (obtain ⟨_, _, _, _, rfl, _⟩ := h; rfl) | (obtain ⟨_, _, _, _, _, rfl, _⟩ := h; rfl) | (rcases h with ⟨_, rfl, _⟩ | ⟨_, rfl, _⟩ <;> rfl))) fun cdv A outer s H vs Q E hr h => ⟨t_grown K, body_grown (txt X0 G0 c) (b_fn_is_integer (w := w) (base := base) X0 G0 c) (b_fn_are_grown (w := w) (base := base) X0 G0 c) (b_fn_ratio_of (w := w) (base := base) X0 G0 c) (b_fn_grown_of (w := w) (base := base) X0 G0 c) hr, pure_of (Nx := No) h fun rs r cc => ⟨d_grown (fx c) cc, fun _ _ z => z.elim⟩⟩⟩
theorem b_prop_Course_degree (X0 : K.In h) (G0 : h.Ns mainGlobals mg) (c : DnH.SaysX fa fnx K) : PrC P w K mg base (He.ga K "Course") "degree" 1 ["self"] (pureSp (C_Course_degree K)) := by
  obtain ⟨fd, F, O⟩ := ok_Course_degree (P := P) (w := w) (base := base) X0 G0 c
  exact ⟨_, _, fd, DnH.prop_ok (x := "Course") (f := "degree") (c.fact 53 rfl), O, F.bindsN fun _ _ _ _ _ _ us hl => match us, hl with | [_], _ => rfl⟩
theorem b_meth_Course_at (X0 : K.In h) (G0 : h.Ns mainGlobals mg) (c : DnH.SaysX fa fnx K) : MetC P w K mg base (He.ga K "Course") "at" 5 ["self", "whole"] (pureSp (C_Course_at K)) := by
  obtain ⟨fd, F, O⟩ := ok_Course_at (P := P) (w := w) (base := base) X0 G0 c
  exact ⟨_, fd, He.meth_ok (x := "Course") (m := "at") (c.fact 54 rfl), O, F.bindsN fun _ _ _ _ _ _ us hl => match us, hl with | [_, _], _ => rfl⟩
theorem b_prop_Ratio_is_whole (X0 : K.In h) (G0 : h.Ns mainGlobals mg) (c : DnH.SaysX fa fnx K) : PrC P w K mg base (He.ga K "Ratio") "is_whole" 1 ["self"] (pureSp (C_Ratio_is_whole K)) := by
  obtain ⟨fd, F, O⟩ := ok_Ratio_is_whole (P := P) (w := w) (base := base) X0 G0 c
  exact ⟨_, _, fd, DnH.prop_ok (x := "Ratio") (f := "is_whole") (c.fact 35 rfl), O, F.bindsN fun _ _ _ _ _ _ us hl => match us, hl with | [_], _ => rfl⟩
theorem ok_is_whole_of (X0 : K.In h) (G0 : h.Ns mainGlobals mg) (c : DnH.SaysX fa fnx K) : ∃ fd, FunD K "is_whole_of" "is_whole_of" (defArgs s_is_whole_of) (defBody s_is_whole_of) (defScope s_is_whole_of) [] [] (He.ga K "is_whole_of") fd ∧ FnOk P w K mg base CX0 6 (He.ga K "is_whole_of") fd ["course"] (pureSp (C_is_whole_of K)) := by
  obtain ⟨fd, F⟩ := c.dfn 41 (d := dx_is_whole_of) rfl
  exact ⟨fd, F, FunD.ok (dvs := []) F sc_is_whole_of (pureSp_len (by intro rs r h; first | (obtain ⟨_, rfl, _⟩ := h; rfl) | (obtain ⟨_, _, rfl, _⟩ := h; rfl) | (obtain ⟨_, _, _, rfl, _⟩ := h; rfl) | (obtain ⟨_, _, _, _, rfl, _⟩ := h; rfl) | (obtain ⟨_, _, _, _, _, rfl, _⟩ := h; rfl) | (rcases h with ⟨_, rfl, _⟩ | ⟨_, rfl, _⟩ <;> rfl))) fun cdv A outer s H vs Q E hr h => ⟨t_is_whole_of K, body_is_whole_of (txt X0 G0 c) (b_prop_Course_period (w := w) (base := base) X0 G0 c) (b_prop_Course_degree (w := w) (base := base) X0 G0 c) (b_meth_Course_at (w := w) (base := base) X0 G0 c) (b_prop_Ratio_is_whole (w := w) (base := base) X0 G0 c) hr, pure_of (Nx := No) h fun rs r cc => ⟨d_is_whole_of  cc, fun _ _ z => z.elim⟩⟩⟩
theorem b_fn_is_whole_of (X0 : K.In h) (G0 : h.Ns mainGlobals mg) (c : DnH.SaysX fa fnx K) : Cal P w K mg base "is_whole_of" 6 ["course"] (pureSp (C_is_whole_of K)) := by
  obtain ⟨fd, F, O⟩ := ok_is_whole_of (P := P) (w := w) (base := base) X0 G0 c
  exact ⟨_, fd, O, He.glo_ok X0 G0 (x := "is_whole_of") (c.fact 69 rfl), F.kp, F.bindsN fun _ _ _ _ _ _ us hl => match us, hl with | [_], _ => rfl⟩
theorem ok_is_whole_course (X0 : K.In h) (G0 : h.Ns mainGlobals mg) (c : DnH.SaysX fa fnx K) : ∃ fd, FunD K "is_whole_course" "is_whole_course" (defArgs s_is_whole_course) (defBody s_is_whole_course) (defScope s_is_whole_course) [] [] (He.ga K "is_whole_course") fd ∧ FnOk P w K mg base CX0 7 (He.ga K "is_whole_course") fd ["course"] (pureSp (C_is_whole_course K)) := by
  obtain ⟨fd, F⟩ := c.dfn 42 (d := dx_is_whole_course) rfl
  exact ⟨fd, F, FunD.ok (dvs := []) F sc_is_whole_course (pureSp_len (by intro rs r h; first | (obtain ⟨_, rfl, _⟩ := h; rfl) | (obtain ⟨_, _, rfl, _⟩ := h; rfl) | (obtain ⟨_, _, _, rfl, _⟩ := h; rfl) | (obtain ⟨_, _, _, _, rfl, _⟩ := h; rfl) | (obtain ⟨_, _, _, _, _, rfl, _⟩ := h; rfl) | (rcases h with ⟨_, rfl, _⟩ | ⟨_, rfl, _⟩ <;> rfl))) fun cdv A outer s H vs Q E hr h => ⟨t_is_whole_course K, body_is_whole_course (txt X0 G0 c) (b_fn_want_course (w := w) (base := base) X0 G0 c) (b_fn_is_whole_of (w := w) (base := base) X0 G0 c) hr, pure_of (Nx := No) h fun rs r cc => ⟨d_is_whole_course  cc, fun _ _ z => z.elim⟩⟩⟩
theorem ok_law_pot (X0 : K.In h) (G0 : h.Ns mainGlobals mg) (c : DnH.SaysX fa fnx K) : ∃ fd, FunD K "_law_pot" "_law_pot" (defArgs s_law_pot) (defBody s_law_pot) (defScope s_law_pot) [] [] (He.ga K "_law_pot") fd ∧ FnOk P w K mg base CX0 1 (He.ga K "_law_pot") fd ["script", "k"] (spPot K) := by
  obtain ⟨fd, F⟩ := c.dfn 43 (d := dx_law_pot) rfl
  exact ⟨fd, F, FunD.ok (dvs := []) F sc_law_pot (fun vs H Q E h => by obtain ⟨F, sc, k, _, hv, _⟩ := h; exact hv.len) fun cdv A outer s H vs Q E hr h => ⟨t_law_pot K, body_law_pot (txt X0 G0 c)  hr, p_law_pot  h⟩⟩
theorem ok_law_draw (X0 : K.In h) (G0 : h.Ns mainGlobals mg) (c : DnH.SaysX fa fnx K) : ∃ fd, FunD K "_law_draw" "_law_draw" (defArgs s_law_draw) (defBody s_law_draw) (defScope s_law_draw) [] [] (He.ga K "_law_draw") fd ∧ FnOk P w K mg base CX0 1 (He.ga K "_law_draw") fd ["pot", "many"] spDraw := by
  obtain ⟨fd, F⟩ := c.dfn 44 (d := dx_law_draw) rfl
  exact ⟨fd, F, FunD.ok (dvs := []) F sc_law_draw (fun vs H Q E h => by obtain ⟨_, _, _, _, rfl, _⟩ := h; rfl) fun cdv A outer s H vs Q E hr h => ⟨t_law_draw K, body_law_draw (txt X0 G0 c)  hr, p_law_draw  h⟩⟩
theorem b_fn_law_draw (X0 : K.In h) (G0 : h.Ns mainGlobals mg) (c : DnH.SaysX fa fnx K) : Cal P w K mg base "_law_draw" 1 ["pot", "many"] spDraw := by
  obtain ⟨fd, F, O⟩ := ok_law_draw (P := P) (w := w) (base := base) X0 G0 c
  exact ⟨_, fd, O, He.glo_ok X0 G0 (x := "_law_draw") (c.fact 72 rfl), F.kp, F.bindsN fun _ _ _ _ _ _ us hl => match us, hl with | [_, _], _ => rfl⟩
theorem ok_law_pick (X0 : K.In h) (G0 : h.Ns mainGlobals mg) (c : DnH.SaysX fa fnx K) : ∃ fd, FunD K "_law_pick" "_law_pick" (defArgs s_law_pick) (defBody s_law_pick) (defScope s_law_pick) [] [] (He.ga K "_law_pick") fd ∧ FnOk P w K mg base CX0 2 (He.ga K "_law_pick") fd ["pot", "some"] (spPick K) := by
  obtain ⟨fd, F⟩ := c.dfn 45 (d := dx_law_pick) rfl
  exact ⟨fd, F, FunD.ok (dvs := []) F sc_law_pick (fun vs H Q E h => potSp_len (n := 1) (by intro rs r h; obtain ⟨_, _, _, rfl, _⟩ := h; rfl) vs H Q E h) fun cdv A outer s H vs Q E hr h => ⟨t_law_pick K, body_law_pick (txt X0 G0 c) (b_fn_law_draw (w := w) (base := base) X0 G0 c) hr, p_law_pick  h⟩⟩
theorem ok_law_made (X0 : K.In h) (G0 : h.Ns mainGlobals mg) (c : DnH.SaysX fa fnx K) : ∃ fd, FunD K "_law_made" "_law_made" (defArgs s_law_made) (defBody s_law_made) (defScope s_law_made) [] [] (He.ga K "_law_made") fd ∧ FnOk P w K mg base CX0 1 (He.ga K "_law_made") fd ["above", "below"] (pureSp (C_law_made K)) := by
  obtain ⟨fd, F⟩ := c.dfn 46 (d := dx_law_made) rfl
  exact ⟨fd, F, FunD.ok (dvs := []) F sc_law_made (pureSp_len (by intro rs r h; first | (obtain ⟨_, rfl, _⟩ := h; rfl) | (obtain ⟨_, _, rfl, _⟩ := h; rfl) | (obtain ⟨_, _, _, rfl, _⟩ := h; rfl) | (obtain ⟨_, _, _, _, rfl, _⟩ := h; rfl) | (obtain ⟨_, _, _, _, _, rfl, _⟩ := h; rfl) | (rcases h with ⟨_, rfl, _⟩ | ⟨_, rfl, _⟩ <;> rfl))) fun cdv A outer s H vs Q E hr h => ⟨t_law_made K, body_law_made (txt X0 G0 c)  hr, pure_of (Nx := No) h fun rs r cc => ⟨d_law_made  cc, fun _ _ z => z.elim⟩⟩⟩
theorem b_fn_law_made (X0 : K.In h) (G0 : h.Ns mainGlobals mg) (c : DnH.SaysX fa fnx K) : Cal P w K mg base "_law_made" 1 ["above", "below"] (pureSp (C_law_made K)) := by
  obtain ⟨fd, F, O⟩ := ok_law_made (P := P) (w := w) (base := base) X0 G0 c
  exact ⟨_, fd, O, He.glo_ok X0 G0 (x := "_law_made") (c.fact 74 rfl), F.kp, F.bindsN fun _ _ _ _ _ _ us hl => match us, hl with | [_, _], _ => rfl⟩
theorem ok_law_plus (X0 : K.In h) (G0 : h.Ns mainGlobals mg) (c : DnH.SaysX fa fnx K) : ∃ fd, FunD K "_law_plus" "_law_plus" (defArgs s_law_plus) (defBody s_law_plus) (defScope s_law_plus) [] [] (He.ga K "_law_plus") fd ∧ FnOk P w K mg base CX0 2 (He.ga K "_law_plus") fd ["a", "b"] (pureSp (C_law_plus K)) := by
  obtain ⟨fd, F⟩ := c.dfn 47 (d := dx_law_plus) rfl
  exact ⟨fd, F, FunD.ok (dvs := []) F sc_law_plus (pureSp_len (by intro rs r h; first | (obtain ⟨_, rfl, _⟩ := h; rfl) | (obtain ⟨_, _, rfl, _⟩ := h; rfl) | (obtain ⟨_, _, _, rfl, _⟩ := h; rfl) | (obtain ⟨_, _, _, _, rfl, _⟩ := h; rfl) | (obtain ⟨_, _, _, _, _, rfl, _⟩ := h; rfl) | (rcases h with ⟨_, rfl, _⟩ | ⟨_, rfl, _⟩ <;> rfl))) fun cdv A outer s H vs Q E hr h => ⟨t_law_plus K, body_law_plus (txt X0 G0 c) (b_fn_law_made (w := w) (base := base) X0 G0 c) hr, pure_of (Nx := No) h fun rs r cc => ⟨d_law_plus  cc, fun _ _ z => z.elim⟩⟩⟩
theorem ok_law_times (X0 : K.In h) (G0 : h.Ns mainGlobals mg) (c : DnH.SaysX fa fnx K) : ∃ fd, FunD K "_law_times" "_law_times" (defArgs s_law_times) (defBody s_law_times) (defScope s_law_times) [] [] (He.ga K "_law_times") fd ∧ FnOk P w K mg base CX0 2 (He.ga K "_law_times") fd ["a", "b"] (pureSp (C_law_times K)) := by
  obtain ⟨fd, F⟩ := c.dfn 48 (d := dx_law_times) rfl
  exact ⟨fd, F, FunD.ok (dvs := []) F sc_law_times (pureSp_len (by intro rs r h; first | (obtain ⟨_, rfl, _⟩ := h; rfl) | (obtain ⟨_, _, rfl, _⟩ := h; rfl) | (obtain ⟨_, _, _, rfl, _⟩ := h; rfl) | (obtain ⟨_, _, _, _, rfl, _⟩ := h; rfl) | (obtain ⟨_, _, _, _, _, rfl, _⟩ := h; rfl) | (rcases h with ⟨_, rfl, _⟩ | ⟨_, rfl, _⟩ <;> rfl))) fun cdv A outer s H vs Q E hr h => ⟨t_law_times K, body_law_times (txt X0 G0 c) (b_fn_law_made (w := w) (base := base) X0 G0 c) hr, pure_of (Nx := No) h fun rs r cc => ⟨d_law_times  cc, fun _ _ z => z.elim⟩⟩⟩
theorem ok_law_ratio (X0 : K.In h) (G0 : h.Ns mainGlobals mg) (c : DnH.SaysX fa fnx K) : ∃ fd, FunD K "_law_ratio" "_law_ratio" (defArgs s_law_ratio) (defBody s_law_ratio) (defScope s_law_ratio) [] [] (He.ga K "_law_ratio") fd ∧ FnOk P w K mg base CX0 4 (He.ga K "_law_ratio") fd ["a"] (pureSp (C_law_ratio K)) := by
  obtain ⟨fd, F⟩ := c.dfn 49 (d := dx_law_ratio) rfl
  exact ⟨fd, F, FunD.ok (dvs := []) F sc_law_ratio (pureSp_len (by intro rs r h; first | (obtain ⟨_, rfl, _⟩ := h; rfl) | (obtain ⟨_, _, rfl, _⟩ := h; rfl) | (obtain ⟨_, _, _, rfl, _⟩ := h; rfl) | (obtain ⟨_, _, _, _, rfl, _⟩ := h; rfl) | (obtain ⟨_, _, _, _, _, rfl, _⟩ := h; rfl) | (rcases h with ⟨_, rfl, _⟩ | ⟨_, rfl, _⟩ <;> rfl))) fun cdv A outer s H vs Q E hr h => ⟨t_law_ratio K, body_law_ratio (txt X0 G0 c) (b_mk0_Ratio_init (w := w) (base := base) X0 G0 c) hr, pure_of (Nx := No) h fun rs r cc => ⟨d_law_ratio  cc, fun _ _ z => z.elim⟩⟩⟩
theorem b_fn_law_times (X0 : K.In h) (G0 : h.Ns mainGlobals mg) (c : DnH.SaysX fa fnx K) : Cal P w K mg base "_law_times" 2 ["a", "b"] (pureSp (C_law_times K)) := by
  obtain ⟨fd, F, O⟩ := ok_law_times (P := P) (w := w) (base := base) X0 G0 c
  exact ⟨_, fd, O, He.glo_ok X0 G0 (x := "_law_times") (c.fact 76 rfl), F.kp, F.bindsN fun _ _ _ _ _ _ us hl => match us, hl with | [_, _], _ => rfl⟩
theorem b_fn_law_plus (X0 : K.In h) (G0 : h.Ns mainGlobals mg) (c : DnH.SaysX fa fnx K) : Cal P w K mg base "_law_plus" 2 ["a", "b"] (pureSp (C_law_plus K)) := by
  obtain ⟨fd, F, O⟩ := ok_law_plus (P := P) (w := w) (base := base) X0 G0 c
  exact ⟨_, fd, O, He.glo_ok X0 G0 (x := "_law_plus") (c.fact 75 rfl), F.kp, F.bindsN fun _ _ _ _ _ _ us hl => match us, hl with | [_, _], _ => rfl⟩
theorem ok_law_raised (X0 : K.In h) (G0 : h.Ns mainGlobals mg) (c : DnH.SaysX fa fnx K) : ∃ fd, FunD K "_law_raised" "_law_raised" (defArgs s_law_raised) (defBody s_law_raised) (defScope s_law_raised) [] [] (He.ga K "_law_raised") fd ∧ FnOk P w K mg base CX0 3 (He.ga K "_law_raised") fd ["numbers", "start", "by"] (pureSp (C_law_raised K)) := by
  obtain ⟨fd, F⟩ := c.dfn 50 (d := dx_law_raised) rfl
  exact ⟨fd, F, FunD.ok (dvs := []) F sc_law_raised (pureSp_len (by intro rs r h; first | (obtain ⟨_, rfl, _⟩ := h; rfl) | (obtain ⟨_, _, rfl, _⟩ := h; rfl) | (obtain ⟨_, _, _, rfl, _⟩ := h; rfl) | (obtain ⟨_, _, _, _, rfl, _⟩ := h; rfl) | (obtain ⟨_, _, _, _, _, rfl, _⟩ := h; rfl) | (rcases h with ⟨_, rfl, _⟩ | ⟨_, rfl, _⟩ <;> rfl))) fun cdv A outer s H vs Q E hr h => ⟨t_law_raised K, body_law_raised (txt X0 G0 c) (b_fn_law_times (w := w) (base := base) X0 G0 c) (b_fn_law_plus (w := w) (base := base) X0 G0 c) hr, pure_of (Nx := No) h fun rs r cc => ⟨d_law_raised  cc, fun _ _ z => z.elim⟩⟩⟩
theorem b_fn_law_raised (X0 : K.In h) (G0 : h.Ns mainGlobals mg) (c : DnH.SaysX fa fnx K) : Cal P w K mg base "_law_raised" 3 ["numbers", "start", "by"] (pureSp (C_law_raised K)) := by
  obtain ⟨fd, F, O⟩ := ok_law_raised (P := P) (w := w) (base := base) X0 G0 c
  exact ⟨_, fd, O, He.glo_ok X0 G0 (x := "_law_raised") (c.fact 78 rfl), F.kp, F.bindsN fun _ _ _ _ _ _ us hl => match us, hl with | [_, _, _], _ => rfl⟩
theorem ok_law_part (X0 : K.In h) (G0 : h.Ns mainGlobals mg) (c : DnH.SaysX fa fnx K) : ∃ fd, FunD K "_law_part" "_law_part" (defArgs s_law_part) (defBody s_law_part) (defScope s_law_part) [] [] (He.ga K "_law_part") fd ∧ FnOk P w K mg base CX0 4 (He.ga K "_law_part") fd ["rest", "period", "numbers"] (pureSp (C_law_part K)) := by
  obtain ⟨fd, F⟩ := c.dfn 51 (d := dx_law_part) rfl
  exact ⟨fd, F, FunD.ok (dvs := []) F sc_law_part (pureSp_len (by intro rs r h; first | (obtain ⟨_, rfl, _⟩ := h; rfl) | (obtain ⟨_, _, rfl, _⟩ := h; rfl) | (obtain ⟨_, _, _, rfl, _⟩ := h; rfl) | (obtain ⟨_, _, _, _, rfl, _⟩ := h; rfl) | (obtain ⟨_, _, _, _, _, rfl, _⟩ := h; rfl) | (rcases h with ⟨_, rfl, _⟩ | ⟨_, rfl, _⟩ <;> rfl))) fun cdv A outer s H vs Q E hr h => ⟨t_law_part K, body_law_part (txt X0 G0 c) (b_fn_law_times (w := w) (base := base) X0 G0 c) (b_fn_law_plus (w := w) (base := base) X0 G0 c) (b_fn_law_raised (w := w) (base := base) X0 G0 c) hr, pure_of (Nx := No) h fun rs r cc => ⟨d_law_part  cc, fun _ _ z => z.elim⟩⟩⟩
theorem b_fn_law_pick (X0 : K.In h) (G0 : h.Ns mainGlobals mg) (c : DnH.SaysX fa fnx K) : Cal P w K mg base "_law_pick" 2 ["pot", "some"] (spPick K) := by
  obtain ⟨fd, F, O⟩ := ok_law_pick (P := P) (w := w) (base := base) X0 G0 c
  exact ⟨_, fd, O, He.glo_ok X0 G0 (x := "_law_pick") (c.fact 73 rfl), F.kp, F.bindsN fun _ _ _ _ _ _ us hl => match us, hl with | [_, _], _ => rfl⟩
theorem b_fn_law_part (X0 : K.In h) (G0 : h.Ns mainGlobals mg) (c : DnH.SaysX fa fnx K) : Cal P w K mg base "_law_part" 4 ["rest", "period", "numbers"] (pureSp (C_law_part K)) := by
  obtain ⟨fd, F, O⟩ := ok_law_part (P := P) (w := w) (base := base) X0 G0 c
  exact ⟨_, fd, O, He.glo_ok X0 G0 (x := "_law_part") (c.fact 79 rfl), F.kp, F.bindsN fun _ _ _ _ _ _ us hl => match us, hl with | [_, _, _], _ => rfl⟩
theorem b_fn_law_ratio (X0 : K.In h) (G0 : h.Ns mainGlobals mg) (c : DnH.SaysX fa fnx K) : Cal P w K mg base "_law_ratio" 4 ["a"] (pureSp (C_law_ratio K)) := by
  obtain ⟨fd, F, O⟩ := ok_law_ratio (P := P) (w := w) (base := base) X0 G0 c
  exact ⟨_, fd, O, He.glo_ok X0 G0 (x := "_law_ratio") (c.fact 77 rfl), F.kp, F.bindsN fun _ _ _ _ _ _ us hl => match us, hl with | [_], _ => rfl⟩
theorem ok_law_some (X0 : K.In h) (G0 : h.Ns mainGlobals mg) (c : DnH.SaysX fa fnx K) : ∃ fd, FunD K "_law_some" "_law_some" (defArgs s_law_some) (defBody s_law_some) (defScope s_law_some) [] [] (He.ga K "_law_some") fd ∧ FnOk P w K mg base CX0 7 (He.ga K "_law_some") fd ["pot", "is_broken"] (spSome K) := by
  obtain ⟨fd, F⟩ := c.dfn 52 (d := dx_law_some) rfl
  exact ⟨fd, F, FunD.ok (dvs := []) F sc_law_some (fun vs H Q E h => potSp_len (n := 1) (by intro rs r h; obtain ⟨_, rfl, _⟩ := h; rfl) vs H Q E h) fun cdv A outer s H vs Q E hr h => ⟨t_law_some K, body_law_some (txt X0 G0 c) (b_fn_law_pick (w := w) (base := base) X0 G0 c) (b_fn_law_draw (w := w) (base := base) X0 G0 c) (b_fn_law_plus (w := w) (base := base) X0 G0 c) (b_fn_law_part (w := w) (base := base) X0 G0 c) (b_mk0_Course_init (w := w) (base := base) X0 G0 c) (b_fn_law_ratio (w := w) (base := base) X0 G0 c) hr, p_law_some  h⟩⟩
theorem b_fn_law_some (X0 : K.In h) (G0 : h.Ns mainGlobals mg) (c : DnH.SaysX fa fnx K) : Cal P w K mg base "_law_some" 7 ["pot", "is_broken"] (spSome K) := by
  obtain ⟨fd, F, O⟩ := ok_law_some (P := P) (w := w) (base := base) X0 G0 c
  exact ⟨_, fd, O, He.glo_ok X0 G0 (x := "_law_some") (c.fact 80 rfl), F.kp, F.bindsN fun _ _ _ _ _ _ us hl => match us, hl with | [_, _], _ => rfl⟩
theorem b_fn_is_whole_course (X0 : K.In h) (G0 : h.Ns mainGlobals mg) (c : DnH.SaysX fa fnx K) : Cal P w K mg base "is_whole_course" 7 ["course"] (pureSp (C_is_whole_course K)) := by
  obtain ⟨fd, F, O⟩ := ok_is_whole_course (P := P) (w := w) (base := base) X0 G0 c
  exact ⟨_, fd, O, He.glo_ok X0 G0 (x := "is_whole_course") (c.fact 70 rfl), F.kp, F.bindsN fun _ _ _ _ _ _ us hl => match us, hl with | [_], _ => rfl⟩
theorem b_kwcourse_is_whole_course (X0 : K.In h) (G0 : h.Ns mainGlobals mg) (c : DnH.SaysX fa fnx K) : CalN P w K mg base "is_whole_course" 7 ["course"] (pureSp (C_is_whole_course K)) ["course"] (fun _ zs => zs) := by
  obtain ⟨fd, F, O⟩ := ok_is_whole_course (P := P) (w := w) (base := base) X0 G0 c
  refine ⟨_, fd, (fun _ zs => zs), O, He.glo_ok X0 G0 (x := "is_whole_course") (c.fact 70 rfl), F.kp, ⟨?_, fun _ r => r⟩⟩
  obtain ⟨oc, od, dV, kV, doc, pm, an, cdv, ct, osl, rfl, lk, hcd, hD, hK⟩ := F.ex
  rcases hD with ⟨_, rfl⟩ | ⟨e, _⟩
  · intro s us ws _ h1 h2
    match us, h1, ws, h2 with
    | [], _, [a], _ => exact .of_eq rfl
  · exact absurd rfl e
theorem b_fn_plus (X0 : K.In h) (G0 : h.Ns mainGlobals mg) (c : DnH.SaysX fa fnx K) : Cal P w K mg base "plus" 9 ["course", "other"] (pureSp (C_plus K)) := by
  obtain ⟨fd, F, O⟩ := ok_plus (P := P) (w := w) (base := base) X0 G0 c
  exact ⟨_, fd, O, He.glo_ok X0 G0 (x := "plus") (c.fact 63 rfl), F.kp, F.bindsN fun _ _ _ _ _ _ us hl => match us, hl with | [_, _], _ => rfl⟩
theorem b_fn_led (X0 : K.In h) (G0 : h.Ns mainGlobals mg) (c : DnH.SaysX fa fnx K) : Cal P w K mg base "led" 9 ["course", "by", "shift"] (pureSp (C_led K)) := by
  obtain ⟨fd, F, O⟩ := ok_led (P := P) (w := w) (base := base) X0 G0 c
  exact ⟨_, fd, O, He.glo_ok X0 G0 (x := "led") (c.fact 65 rfl), F.kp, F.bindsN fun _ _ _ _ _ _ us hl => match us, hl with | [_, _, _], _ => rfl⟩
theorem b_fn_difference (X0 : K.In h) (G0 : h.Ns mainGlobals mg) (c : DnH.SaysX fa fnx K) : Cal P w K mg base "difference" 9 ["course", "step"] (pureSp (C_difference K)) := by
  obtain ⟨fd, F, O⟩ := ok_difference (P := P) (w := w) (base := base) X0 G0 c
  exact ⟨_, fd, O, He.glo_ok X0 G0 (x := "difference") (c.fact 66 rfl), F.kp, F.bindsN fun _ _ _ _ _ _ us hl => match us, hl with | [_, _], _ => rfl⟩
theorem b_fn_times (X0 : K.In h) (G0 : h.Ns mainGlobals mg) (c : DnH.SaysX fa fnx K) : Cal P w K mg base "times" 8 ["course", "number"] (pureSp (C_times K)) := by
  obtain ⟨fd, F, O⟩ := ok_times (P := P) (w := w) (base := base) X0 G0 c
  exact ⟨_, fd, O, He.glo_ok X0 G0 (x := "times") (c.fact 64 rfl), F.kp, F.bindsN fun _ _ _ _ _ _ us hl => match us, hl with | [_, _], _ => rfl⟩
theorem b_owneq_Course_eq (X0 : K.In h) (G0 : h.Ns mainGlobals mg) (c : DnH.SaysX fa fnx K) : EqC P w K mg base (He.ga K "Course") 4 ["self", "other"] (pureSp (C_Course_eq K)) := by
  obtain ⟨fd, F, O⟩ := ok_Course_eq (P := P) (w := w) (base := base) X0 G0 c
  have M := He.meth_ok (x := "Course") (m := "__eq__") (c.fact 55 rfl)
  exact ⟨_, fd, M.at_, M.fn, O, F.bindsN fun _ _ _ _ _ _ us hl => match us, hl with | [_, _], _ => rfl⟩
theorem b_fn_grown (X0 : K.In h) (G0 : h.Ns mainGlobals mg) (c : DnH.SaysX fa fnx K) : Cal P w K mg base "grown" 9 ["period", "numbers"] (pureSp (C_grown K)) := by
  obtain ⟨fd, F, O⟩ := ok_grown (P := P) (w := w) (base := base) X0 G0 c
  exact ⟨_, fd, O, He.glo_ok X0 G0 (x := "grown") (c.fact 68 rfl), F.kp, F.bindsN fun _ _ _ _ _ _ us hl => match us, hl with | [_, _], _ => rfl⟩
theorem ok_law_right (X0 : K.In h) (G0 : h.Ns mainGlobals mg) (c : DnH.SaysX fa fnx K) : ∃ fd, FunD K "_law_right" "_law_right" (defArgs s_law_right) (defBody s_law_right) (defScope s_law_right) [] [] (He.ga K "_law_right") fd ∧ FnG P w K mg base CX0 10 (He.ga K "_law_right") fd ["pot"] (spRight26 K) := by
  obtain ⟨fd, F⟩ := c.dfn 53 (d := dx_law_right) rfl
  exact ⟨fd, F, FnG.of (dvs := []) F sc_law_right (fun vs H Q E h => by obtain ⟨_, _, _, _, rfl, _⟩ := h; rfl) fun cdv A outer s H vs Q E gd hr h => ⟨t_law_right K, body_law_right (txt X0 G0 c) (b_fn_law_some (w := w) (base := base) X0 G0 c) (b_fn_is_whole_course (w := w) (base := base) X0 G0 c) (b_kwcourse_is_whole_course (w := w) (base := base) X0 G0 c) (b_fn_law_draw (w := w) (base := base) X0 G0 c) (b_fn_plus (w := w) (base := base) X0 G0 c) (b_fn_led (w := w) (base := base) X0 G0 c) (b_fn_difference (w := w) (base := base) X0 G0 c) (b_fn_times (w := w) (base := base) X0 G0 c) (b_prop_Course_degree (w := w) (base := base) X0 G0 c) (b_prop_Course_period (w := w) (base := base) X0 G0 c) (b_meth_Course_at (w := w) (base := base) X0 G0 c) (b_owneq_Course_eq (w := w) (base := base) X0 G0 c) (b_fn_grown (w := w) (base := base) X0 G0 c) (b_mk0_Ratio_init (w := w) (base := base) X0 G0 c) (b_op_Ratio_add (w := w) (base := base) X0 G0 c) (b_mk0_Course_init (w := w) (base := base) X0 G0 c) gd hr, p_law_right (txt X0 G0 c) (fx c) h⟩⟩
theorem b_fn_law_pot (X0 : K.In h) (G0 : h.Ns mainGlobals mg) (c : DnH.SaysX fa fnx K) : Cal P w K mg base "_law_pot" 1 ["script", "k"] (spPot K) := by
  obtain ⟨fd, F, O⟩ := ok_law_pot (P := P) (w := w) (base := base) X0 G0 c
  exact ⟨_, fd, O, He.glo_ok X0 G0 (x := "_law_pot") (c.fact 71 rfl), F.kp, F.bindsN fun _ _ _ _ _ _ us hl => match us, hl with | [_, _], _ => rfl⟩
theorem b_fn_law_right (X0 : K.In h) (G0 : h.Ns mainGlobals mg) (c : DnH.SaysX fa fnx K) : CalG P w K mg base "_law_right" 10 ["pot"] (spRight26 K) := by
  obtain ⟨fd, F, O⟩ := ok_law_right (P := P) (w := w) (base := base) X0 G0 c
  exact ⟨_, fd, O, He.glo_ok X0 G0 (x := "_law_right") (c.fact 81 rfl), F.kp, F.bindsN fun _ _ _ _ _ _ us hl => match us, hl with | [_], _ => rfl⟩
theorem ok_law (X0 : K.In h) (G0 : h.Ns mainGlobals mg) (c : DnH.SaysX fa fnx K) : ∃ fd, FunD K "law" "law" (defArgs s_law) (defBody s_law) (defScope s_law) [] [] (He.ga K "law") fd ∧ FnG P w K mg base CX0 11 (He.ga K "law") fd ["script"] (spLaw K) := by
  obtain ⟨fd, F⟩ := c.dfn 54 (d := dx_law) rfl
  exact ⟨fd, F, FnG.of (dvs := []) F sc_law (fun vs H Q E h => by obtain ⟨_, _, rfl, _⟩ := h; rfl) fun cdv A outer s H vs Q E gd hr h => ⟨t_law K, body_law (txt X0 G0 c) (b_fn_law_pot (w := w) (base := base) X0 G0 c) (b_fn_law_right (w := w) (base := base) X0 G0 c) gd hr, p_law  h⟩⟩
theorem facts (X0 : K.In h) (G0 : h.Ns mainGlobals mg) (c : DnH.SaysX fa fnx K) {f : Addr} (hfa : mg ("law" : Str) = some (.ref f)) :
    ∃ fd : FuncData, (∀ (s : Shared) (v : Value), BindsTo s fd ⟨[v], []⟩ [("script", v)]) ∧ ∀ base : Heap, K.In base → base.Ns mainGlobals mg → FnG P w K mg base CX0 11 f fd ["script"] (spLaw K) := by
  obtain ⟨fd, F⟩ := c.dfn 54 (d := dx_law) rfl
  have e := hfa.symm.trans (He.glo_ok X0 G0 (x := "law") (c.fact 82 rfl))
  cases e
  have b := FunD.bindsA (ps := ["script"]) F fun _ _ _ _ _ _ us hl => match us, hl with | [_], _ => rfl
  refine ⟨fd, fun s v => b s [v] rfl, fun base _ _ => ?_⟩
  obtain ⟨fd2, F2, O⟩ := ok_law (P := P) (w := w) (base := base) X0 G0 c
  have e2 : fd = fd2 := by
    obtain ⟨oc, od, dV, kV, doc, pm, an, cdv, ct, osl, e1, l1, _⟩ := F.ex
    obtain ⟨oc', od', dV', kV', doc', pm', an', cdv', ct', osl', e1', l1', _⟩ := F2.ex
    have l1 : K.lookup (He.ga K "law") = _ := l1
    rw [l1] at l1'
    injection l1' with l2
    injection l2 with _ _ l3 _
    injection l3
  rw [e2]
  exact O
end
end W
open PySem PySem.W PySem.Calls PyProof.Rows
theorem PySem.Challenge.cw_wholefillrows_k26_whole_courses_reckoned_holds : PySem.Challenge.rw_wholefillrows_k26_whole_courses_reckoned.Holds := by
  w_on; o_law
  refine HandSHeadRun.head_imp (r := OpenLaw.row PySem.Challenge.rw_wholefillrows_k26_whole_courses_reckoned) (q := HX.qv) (H := HX.hk) (ob := HX.ob) (M := 14000) (loose := HX.names) (d := HandSHeadRun.topDef (OpenLaw.row PySem.Challenge.rw_wholefillrows_k26_whole_courses_reckoned).prog 70) (kwd := []) HX.ob_eq HX.run
    (by kernel_rfl) (by kernel_rfl) (by kernel_rfl) (by rfl) (by first | assumption | decide +kernel) (by decide +kernel) ⟨rfl, rfl, rfl, rfl, rfl, by decide +kernel⟩ ?hw ?hc
  case hw => w_witness2
  case hc =>
    refine Dn.walk_ofG (l := PySem.Challenge.rw_wholefillrows_k26_whole_courses_reckoned) (n := 63) (k := 11) (x := "script") (CX := L2.CX0) rfl (by decide) (by kernel_rfl) ⟨rfl, by decide, by decide⟩ ?F (fun _ _ _ _ z => z)
    intro w mg fa h Y G hmg0
    obtain ⟨K, KX, c⟩ := Y
    have hmg : mg ("law" : PySem.Str) = some (.ref fa) := by
      have e : (HandSHeadRun.topDef (OpenLaw.row PySem.Challenge.rw_wholefillrows_k26_whole_courses_reckoned).prog 70).name = ("law" : PySem.Str) := by kernel_rfl
      rw [← e]
      exact hmg0
    obtain ⟨fd, hb, hF⟩ := W.facts (P := (PySem.Challenge.rw_wholefillrows_k26_whole_courses_reckoned).prog) (w := w) KX G c hmg
    exact ⟨K, fd, W.spLaw K, KX, hb, fun H a ns hl _ hS => ⟨a, ns, rfl, hl, hS, fun _ => rfl⟩, hF⟩
