import PyProof.Rows.All
import Wide.All
import OpenK.AllK
import Wide.FinOn
import HandS.ForMost
import HandS.ForExc
import HandS.IsInst
import HandS.Defaults
import HandS.CallSlots
import HandS.Star
import HandS.Wide
import HandS.TupLe
import HandS.SortInts
import HandS.EndBits
import HandS.MakeKw
import HandS.Style
import HandS.Conv
import HandS.Codes
import HandS.Zip
import PySem.Challenge.RW_buildhall_k12_states_step_by_step
set_option Elab.async false
set_option linter.all false
set_option maxRecDepth 100000
set_option maxHeartbeats 4000000
namespace S
open PySem L2

/-! ### symbolic heaps: a list of parts that stand apart -/
abbrev SH := List Hp
def Sub (h H : Hp) : Prop := ∀ a o, h a = some o → H a = some o
def Dj (h g : Hp) : Prop := ∀ a o u, h a = some o → g a = some u → False
def Has (H : Hp) (A : SH) : Prop := (∀ h ∈ A, Sub h H) ∧ A.Pairwise Dj
def sg (p : Addr) (o : HO) : Hp := fun a => if a = p then some o else none
def emp : Hp := fun _ => none
/-- what stands in A' stands in A, too -/
def Le (A A' : SH) : Prop := ∀ H, Has H A' → Has H A
inductive Pull : SH → Hp → SH → Prop
  | head {h : Hp} {A : SH} : Pull (h :: A) h A
  | tail {h g : Hp} {A B : SH} : Pull A h B → Pull (g :: A) h (g :: B)

theorem sg_same {p : Addr} {o : HO} : sg p o p = some o := by unfold sg; rw [if_pos rfl]
theorem sg_some {p a : Addr} {o u : HO} (h : sg p o a = some u) : a = p ∧ u = o := by
  unfold sg at h
  by_cases e : a = p
  · rw [if_pos e] at h
    exact ⟨e, (Option.some.inj h).symm⟩
  · rw [if_neg e] at h
    cases h
theorem Dj.symm {h g : Hp} (d : Dj h g) : Dj g h := fun a o u x y => d a u o y x
theorem Has.nil {H : Hp} : Has H [] := ⟨fun _ h => (nomatch h), .nil⟩
theorem Has.tail {H h : Hp} {A : SH} (x : Has H (h :: A)) : Has H A := ⟨fun g hg => x.1 g (List.mem_cons_of_mem _ hg), (List.pairwise_cons.mp x.2).2⟩
theorem Has.head {H h : Hp} {A : SH} (x : Has H (h :: A)) : Sub h H := x.1 h List.mem_cons_self
theorem Has.dj {H h g : Hp} {A : SH} (x : Has H (h :: A)) (hg : g ∈ A) : Dj h g := (List.pairwise_cons.mp x.2).1 g hg
theorem Has.cons {H h : Hp} {A : SH} (x : Has H A) (s : Sub h H) (d : ∀ g ∈ A, Dj h g) : Has H (h :: A) :=
  ⟨fun g hg => by
    rcases List.mem_cons.mp hg with e | hg
    · rw [e]; exact s
    · exact x.1 g hg, List.pairwise_cons.mpr ⟨d, x.2⟩⟩
theorem Pull.mem {A B : SH} {h : Hp} (p : Pull A h B) : h ∈ A := by
  induction p with
  | head => exact List.mem_cons_self
  | tail _ ih => exact List.mem_cons_of_mem _ ih
theorem Pull.sub {A B : SH} {h : Hp} (p : Pull A h B) : ∀ g ∈ B, g ∈ A := by
  induction p with
  | head => exact fun g hg => List.mem_cons_of_mem _ hg
  | tail _ ih =>
    intro g hg
    rcases List.mem_cons.mp hg with e | hg
    · rw [e]; exact List.mem_cons_self
    · exact List.mem_cons_of_mem _ (ih g hg)
theorem Pull.has {A B : SH} {h : Hp} (p : Pull A h B) : ∀ {H : Hp}, Has H A → Has H (h :: B) := by
  induction p with
  | head => exact fun x => x
  | @tail h g A B p ih =>
    intro H x
    have y := ih x.tail
    refine (Has.cons (Has.cons y.tail x.head fun u hu => x.dj (p.sub u hu)) y.head fun u hu => ?_)
    rcases List.mem_cons.mp hu with e | hu
    · rw [e]; exact (x.dj p.mem).symm
    · exact y.dj hu
theorem Le.refl {A : SH} : Le A A := fun _ h => h
theorem Le.trans {A B C : SH} (a : Le A B) (b : Le B C) : Le A C := fun H h => a H (b H h)
theorem Le.drop {A A' : SH} {g : Hp} (a : Le A A') : Le A (g :: A') := fun H h => a H h.tail
theorem Le.nil {A : SH} : Le [] A := fun _ _ => Has.nil
theorem Le.keep {A B : SH} {g : Hp} (a : Le A B) (d : ∀ H, Has H (g :: B) → ∀ u ∈ A, Dj g u) : Le (g :: A) (g :: B) := fun H h => Has.cons (a H h.tail) h.head (d H h)
/-- A is B with some left out, in any order -/
inductive Sl : SH → SH → Prop
  | refl {A : SH} : Sl A A
  | nil {A : SH} : Sl [] A
  | drop {A B : SH} {g : Hp} : Sl A B → Sl A (g :: B)
  | pull {A B C : SH} {g : Hp} : Pull B g C → Sl A C → Sl (g :: A) B
theorem Sl.mem {A B : SH} (s : Sl A B) : ∀ g ∈ A, g ∈ B := by
  induction s with
  | refl => exact fun _ h => h
  | nil => exact fun _ h => nomatch h
  | drop _ ih => exact fun g h => List.mem_cons_of_mem _ (ih g h)
  | pull p _ ih =>
    intro g h
    rcases List.mem_cons.mp h with e | h
    · rw [e]; exact p.mem
    · exact p.sub g (ih g h)
theorem Sl.le {A B : SH} (s : Sl A B) : Le A B := by
  induction s with
  | refl => exact Le.refl
  | nil => exact Le.nil
  | drop _ ih => exact Le.drop ih
  | @pull A B C g p s ih =>
    intro H h
    have y := p.has h
    exact Has.cons (ih H y.tail) y.head fun u hu => y.dj (s.mem u hu)
theorem Has.new {H : Hp} {A : SH} {p : Addr} {o : HO} (x : Has H A) (hp : H p = none) : Has (upd H p o) (sg p o :: A) := by
  refine Has.cons ⟨fun h hh a u e => ?_, x.2⟩ (fun a u e => ?_) fun g hg a u v e e' => ?_
  · rw [upd_ne (ne_of_none (x.1 h hh a u e) hp)]
    exact x.1 h hh a u e
  · obtain ⟨rfl, rfl⟩ := sg_some e
    exact upd_same
  · obtain ⟨rfl, rfl⟩ := sg_some e
    have := x.1 g hg a v e'
    rw [hp] at this
    cases this
theorem Has.at {H : Hp} {A : SH} {p : Addr} {o : HO} (x : Has H (sg p o :: A)) : H p = some o := x.head p o sg_same
theorem Has.set {H : Hp} {A : SH} {p : Addr} {o u : HO} (x : Has H (sg p o :: A)) : Has (upd H p u) (sg p u :: A) := by
  have far : ∀ g ∈ A, ∀ a v, g a = some v → a ≠ p := fun g hg a v e z => by
    subst z
    exact x.dj hg a o v sg_same e
  refine Has.cons ⟨fun h hh a v e => ?_, x.tail.2⟩ (fun a v e => ?_) fun g hg a v v' e e' => ?_
  · rw [upd_ne (far h hh a v e)]
    exact x.tail.1 h hh a v e
  · obtain ⟨rfl, rfl⟩ := sg_some e
    exact upd_same
  · exact far g hg a v' e' (sg_some e).1

/-! ### what is wanted behind -/
def Post (Φ : V → SH → Prop) (Q : VK) : Prop := ∀ v A H, Has H A → Φ v A → Q v H
def XPost (Ψ : Value → Option Addr → SH → Prop) (E : XK) : Prop := ∀ c d A H, Has H A → Ψ c d A → E c d H
def WPost (Ψ : Value → Option Addr → St → SH → Prop) (W : WX) : Prop := ∀ c d σ A H, Has H A → Ψ c d σ A → W c d σ H
/-- P holds of a part that the state leads to -/
def Cl {α : Type} (P : α → SH → Prop) : α → SH → Prop := fun x A => ∀ H, Has H A → ∃ B, Has H B ∧ P x B
theorem Cl.le {α : Type} {P : α → SH → Prop} {x : α} {A B : SH} (l : Le B A) (p : P x B) : Cl P x A := fun H h => ⟨B, l H h, p⟩
theorem Cl.of {α : Type} {P : α → SH → Prop} {x : α} {A : SH} (p : P x A) : Cl P x A := fun H h => ⟨A, h, p⟩
theorem Post.cl {Φ : V → SH → Prop} {Q : VK} (h : Post Φ Q) : Post (Cl Φ) Q := fun v A H x q => by
  obtain ⟨B, y, q⟩ := q H x
  exact h v B H y q
structure AE where
  nx : St → SH → Prop
  rt : V → SH → Prop
  bk : St → SH → Prop := fun _ _ => False
  ct : St → SH → Prop := fun _ _ => False
structure EIm (D : AE) (E : Ends) : Prop where
  nx : ∀ σ A H, Has H A → D.nx σ A → E.nx σ H
  rt : Post D.rt E.rt
  bk : ∀ σ A H, Has H A → D.bk σ A → E.bk σ H
  ct : ∀ σ A H, Has H A → D.ct σ A → E.ct σ H

/-! ### the goals -/
def GE (t : TE) (σ : St) (A : SH) (Φ : V → SH → Prop) : Prop := ∀ H Q, Has H A → Post Φ Q → t σ H Q
def GT (t : TT) (σ : St) (A : SH) (Φ : Bool → SH → Prop) : Prop := ∀ H (Q : Bool → Hp → Prop), Has H A → (∀ b A' H', Has H' A' → Φ b A' → Q b H') → t σ H Q
def GA (t : TA) (σ : St) (A : SH) (Φ : List V → SH → Prop) : Prop := ∀ H (Q : List V → Hp → Prop), Has H A → (∀ b A' H', Has H' A' → Φ b A' → Q b H') → t σ H Q
def GS (t : TS) (D : AE) (σ : St) (A : SH) : Prop := ∀ H E, Has H A → EIm D E → t E σ H
def GG (t : TG) (v : V) (σ : St) (A : SH) (Φ : St → SH → Prop) : Prop := ∀ H (Q : St → Hp → Prop), Has H A → (∀ σ' A' H', Has H' A' → Φ σ' A' → Q σ' H') → t v σ H Q
def GI (t : TI) (σ : St) (A : SH) (Φ : It → SH → Prop) : Prop := ∀ H (Q : It → Hp → Prop), Has H A → (∀ J A' H', Has H' A' → Φ J A' → Q J H') → t σ H Q
def GR (r : R2) (x y : V) (A : SH) (Φ : V → SH → Prop) : Prop := ∀ H Q, Has H A → Post Φ Q → r x y H Q
def GU (r : V → Hp → VK → Prop) (x : V) (A : SH) (Φ : V → SH → Prop) : Prop := ∀ H Q, Has H A → Post Φ Q → r x H Q
def GC (r : List V → Hp → VK → Prop) (vs : List V) (A : SH) (Φ : V → SH → Prop) : Prop := ∀ H Q, Has H A → Post Φ Q → r vs H Q
def GM (r : V → List V → Hp → VK → Prop) (x : V) (vs : List V) (A : SH) (Φ : V → SH → Prop) : Prop := ∀ H Q, Has H A → Post Φ Q → r x vs H Q
def GF (J : It) (g : TG) (tb : TS) (D : AE) (σ : St) (A : SH) : Prop := ∀ H E, Has H A → EIm D E → ∃ W : Nat → Nat → St → Hp → Prop, (∃ m, W 0 m σ H) ∧ ∀ i m σ H, W i m σ H →
  (J.stop i H ∧ E.nx σ H) ∨ (J.go i H ∧ ∃ N : St → Hp → Prop, (∀ σ' H', N σ' H' → ∃ m', m' < m ∧ W (i + 1) m' σ' H') ∧ ∀ x H', J.yld i H x H' → g x σ H' fun σ2 H2 => tb { E with nx := N, ct := N, bk := E.nx } σ2 H2)

/-! ### reading -/
def RL (K : PySem.W.Frag) (A : SH) (a : Addr) (xs : List V) : Prop := ∀ H, Has H A → SqL K H a xs
def RT (K : PySem.W.Frag) (A : SH) (a : Addr) (xs : List V) : Prop := ∀ H, Has H A → SqT K H a xs
/-- an object that stands -/
def RO (A : SH) (a : Addr) (o : HO) : Prop := ∀ H, Has H A → H a = some o
theorem RL.tail {K : PySem.W.Frag} {A : SH} {g : Hp} {a : Addr} {xs : List V} (h : RL K A a xs) : RL K (g :: A) a xs := fun H x => h H x.tail
theorem RT.tail {K : PySem.W.Frag} {A : SH} {g : Hp} {a : Addr} {xs : List V} (h : RT K A a xs) : RT K (g :: A) a xs := fun H x => h H x.tail
theorem RO.tail {A : SH} {g : Hp} {a : Addr} {o : HO} (h : RO A a o) : RO (g :: A) a o := fun H x => h H x.tail
theorem RO.head {A : SH} {a : Addr} {o : HO} : RO (sg a o :: A) a o := fun _ x => x.at
theorem RO.blk {A : SH} {g : Hp} {a : Addr} {o : HO} (h : g a = some o) : RO (g :: A) a o := fun _ x => x.head a o h
theorem RO.mem {A : SH} {g : Hp} {a : Addr} {o : HO} (hg : g ∈ A) (h : g a = some o) : RO A a o := fun _ x => x.1 g hg a o h
theorem RO.pull {A B : SH} {a : Addr} {o : HO} (p : Pull A (sg a o) B) : RO A a o := fun _ x => (p.has x).at
theorem RO.le {A B : SH} {a : Addr} {o : HO} (l : Le A B) (h : RO A a o) : RO B a o := fun H x => h H (l H x)
theorem RL.le {K : PySem.W.Frag} {A B : SH} {a : Addr} {xs : List V} (l : Le A B) (h : RL K A a xs) : RL K B a xs := fun H x => h H (l H x)
theorem RT.le {K : PySem.W.Frag} {A B : SH} {a : Addr} {xs : List V} (l : Le A B) (h : RT K A a xs) : RT K B a xs := fun H x => h H (l H x)
theorem RL.ro {K : PySem.W.Frag} {A : SH} {a : Addr} {xs : List V} (h : RO A a (.lst xs)) : RL K A a xs := fun H x => .inl (.inl (h H x))
theorem RT.ro {K : PySem.W.Frag} {A : SH} {a : Addr} {xs : List V} (h : RO A a (.tup xs)) : RT K A a xs := fun H x => .inl (.inl (h H x))
theorem RL.head {K : PySem.W.Frag} {A : SH} {a : Addr} {xs : List V} : RL K (sg a (.lst xs) :: A) a xs := .ro .head
theorem RT.head {K : PySem.W.Frag} {A : SH} {a : Addr} {xs : List V} : RT K (sg a (.tup xs) :: A) a xs := .ro .head
theorem RL.blk {K : PySem.W.Frag} {A : SH} {g : Hp} {a : Addr} {xs : List V} (h : g a = some (.lst xs)) : RL K (g :: A) a xs := .ro (.blk h)
theorem RT.blk {K : PySem.W.Frag} {A : SH} {g : Hp} {a : Addr} {xs : List V} (h : g a = some (.tup xs)) : RT K (g :: A) a xs := .ro (.blk h)

/-! ### slots -/
def Set1 (σ : St) (i : Nat) (o : Option V) (σ' : St) : Prop := σ.set i o = σ'
def Get1 (σ : St) (i : Nat) (v : V) : Prop := σ[i]? = some (some v)
theorem set0 {x o : Option V} {r : St} : Set1 (x :: r) 0 o (o :: r) := rfl
theorem setS {x o : Option V} {r r' : St} {n : Nat} (h : Set1 r n o r') : Set1 (x :: r) (n + 1) o (x :: r') := by
  show (x :: r).set (n + 1) o = x :: r'
  rw [List.set_cons_succ, h]
theorem get0 {v : V} {r : St} : Get1 (some v :: r) 0 v := rfl
theorem getS {x : Option V} {v : V} {r : St} {n : Nat} (h : Get1 r n v) : Get1 (x :: r) (n + 1) v := by
  show (x :: r)[n + 1]? = some (some v)
  rw [List.getElem?_cons_succ]; exact h
def Wi (σ : St) (vs : List Nat) (σ' : St) : Prop := wipe σ vs = σ'
theorem wi0 {σ : St} : Wi σ [] σ := rfl
theorem wi1 {σ σ1 σ2 : St} {v : Nat} {vs : List Nat} (h : Wi σ vs σ1) (s : Set1 σ1 v none σ2) : Wi σ (v :: vs) σ2 := by
  show (wipe σ vs).set v none = σ2
  rw [h]; exact s

section
variable {K : PySem.W.Frag} {σ σ' : St} {A B : SH} {Φ : V → SH → Prop} {v x y : V} {ta tb te tc : TE} {t u : TT} {r : R2} {i j : Int}
/-! ### expressions -/
theorem ge_var {n : Nat} (h : Get1 σ n v) (k : Φ v A) : GE (tVar n) σ A Φ := fun H Q a p => ⟨v, h, p v A H a k⟩
theorem ge_c (k : Φ v A) : GE (tC v) σ A Φ := fun H Q a p => p v A H a k
theorem ge_op (h : GE ta σ A fun x A1 => GE tb σ A1 fun y A2 => GR r x y A2 Φ) : GE (tOp r ta tb) σ A Φ := fun H Q a p =>
  h H _ a fun x A1 H1 a1 h1 => h1 H1 _ a1 fun y A2 H2 a2 h2 => h2 H2 Q a2 p
theorem ge_un {r : V → Hp → VK → Prop} (h : GE ta σ A fun x A1 => GU r x A1 Φ) : GE (tUn r ta) σ A Φ := fun H Q a p => h H _ a fun x A1 H1 a1 h1 => h1 H1 Q a1 p
/-- either reading -/
def tAlt (t u : TE) : TE := fun σ H Q => t σ H Q ∨ u σ H Q
theorem ge_altL (h : GE ta σ A Φ) : GE (tAlt ta tb) σ A Φ := fun H Q a p => .inl (h H Q a p)
theorem ge_altR (h : GE tb σ A Φ) : GE (tAlt ta tb) σ A Φ := fun H Q a p => .inr (h H Q a p)
theorem pe_alt {X : Cx} {e : Expr} (h1 : PE X e ta) (h2 : PE X e tb) : PE X e (tAlt ta tb) := ⟨fun pins s σ H Q I h => by
  rcases h with h | h
  · exact h1.run pins s σ H Q I h
  · exact h2.run pins s σ H Q I h⟩
theorem ga_nil {Φ : List V → SH → Prop} (k : Φ [] A) : GA tNil σ A Φ := fun H Q a p => p [] A H a k
theorem ga_cons {Φ : List V → SH → Prop} {tr : TA} (h : GE ta σ A fun x A1 => GA tr σ A1 fun xs A2 => Φ (x :: xs) A2) : GA (tCons ta tr) σ A Φ := fun H Q a p =>
  h H _ a fun x A1 H1 a1 h1 => h1 H1 _ a1 fun xs A2 H2 a2 h2 => p _ A2 H2 a2 h2
theorem ge_tup {tr : TA} (h : GA tr σ A fun xs A1 => xs.length ≤ sizeLine ∧ ∀ p, Φ (.ref p) (sg p (.tup xs) :: A1)) : GE (tTup tr) σ A Φ := fun H Q a p =>
  h H _ a fun xs A1 H1 a1 h1 => ⟨h1.1, fun q hq => p _ _ _ (a1.new hq) (h1.2 q)⟩
theorem ge_lst {tr : TA} (h : GA tr σ A fun xs A1 => xs.length ≤ sizeLine ∧ ∀ p, Φ (.ref p) (sg p (.lst xs) :: A1)) : GE (tLst tr) σ A Φ := fun H Q a p =>
  h H _ a fun xs A1 H1 a1 h1 => ⟨h1.1, fun q hq => p _ _ _ (a1.new hq) (h1.2 q)⟩
theorem ge_dnew (h : ∀ p, Φ (.ref p) (sg p (.dK []) :: A)) : GE tDNewK σ A Φ := fun H Q a p q hq => p _ _ _ (a.new hq) (h q)
theorem ge_if (h : GT t σ A fun c A1 => (c = true → GE ta σ A1 Φ) ∧ (c = false → GE tb σ A1 Φ)) : GE (tIf t ta tb) σ A Φ := fun H Q a p =>
  h H _ a fun c A1 H1 a1 h1 => by
    cases c with
    | true => rw [if_pos rfl]; exact h1.1 rfl H1 Q a1 p
    | false => rw [if_neg Bool.false_ne_true]; exact h1.2 rfl H1 Q a1 p
theorem ge_andV (h : GE ta σ A fun x A1 => ∃ c, x = .bl c ∧ (c = true → GE tb σ A1 Φ) ∧ (c = false → Φ (.bl false) A1)) : GE (tAndV ta tb) σ A Φ := fun H Q a p =>
  h H _ a fun x A1 H1 a1 ⟨c, e, h1, h2⟩ => ⟨c, e, by
    cases c with
    | true => rw [if_pos rfl]; exact h1 rfl H1 Q a1 p
    | false => rw [if_neg Bool.false_ne_true]; exact p _ _ _ a1 (h2 rfl)⟩
theorem ge_orV (h : GE ta σ A fun x A1 => ∃ c, x = .bl c ∧ (c = true → Φ (.bl true) A1) ∧ (c = false → GE tb σ A1 Φ)) : GE (tOrV ta tb) σ A Φ := fun H Q a p =>
  h H _ a fun x A1 H1 a1 ⟨c, e, h1, h2⟩ => ⟨c, e, by
    cases c with
    | true => rw [if_pos rfl]; exact p _ _ _ a1 (h1 rfl)
    | false => rw [if_neg Bool.false_ne_true]; exact h2 rfl H1 Q a1 p⟩
theorem ge_notV (h : GE ta σ A fun x A1 => ∃ c, x = .bl c ∧ Φ (.bl (!c)) A1) : GE (tNotV ta) σ A Φ := fun H Q a p =>
  h H _ a fun x A1 H1 a1 ⟨c, e, h1⟩ => ⟨c, e, p _ _ _ a1 h1⟩
theorem ge_chain {r' : R2} (h : GE ta σ A fun x A1 => GE tb σ A1 fun y A2 => GR r x y A2 fun z A3 => ∃ c, z = .bl c ∧ (c = true → GE tc σ A3 fun w A4 => GR r' y w A4 Φ) ∧ (c = false → Φ (.bl false) A3)) : GE (tChain r r' ta tb tc) σ A Φ := fun H Q a p =>
  h H _ a fun x A1 H1 a1 h1 => h1 H1 _ a1 fun y A2 H2 a2 h2 => h2 H2 _ a2 fun z A3 H3 a3 ⟨c, e, h3, h4⟩ => ⟨c, e, by
    cases c with
    | true => rw [if_pos rfl]; exact h3 rfl H3 _ a3 fun w A4 H4 a4 h5 => h5 H4 Q a4 p
    | false => rw [if_neg Bool.false_ne_true]; exact p _ _ _ a3 (h4 rfl)⟩
/-! ### tests -/
section
variable {Ψ : Bool → SH → Prop}
theorem gt_test (h : GE te σ A fun x A' => ∃ k, x = .bl k ∧ Ψ k A') : GT (tTest te) σ A Ψ := fun H Q a p => h H _ a fun x A1 H1 a1 ⟨k, e, h1⟩ => ⟨k, e, p k A1 H1 a1 h1⟩
theorem gt_B (h : GE te σ A fun x A' => ∃ k, x = .bl k ∧ Ψ k A') : GT (tB te) σ A Ψ := fun H Q a p => h H _ a fun x A1 H1 a1 ⟨k, e, h1⟩ => ⟨k, e, p k A1 H1 a1 h1⟩
theorem gt_and (h : GT t σ A fun c A1 => (c = true → GT u σ A1 Ψ) ∧ (c = false → Ψ false A1)) : GT (tAnd t u) σ A Ψ := fun H Q a p =>
  h H _ a fun c A1 H1 a1 h1 => by
    cases c with
    | true => rw [if_pos rfl]; exact h1.1 rfl H1 Q a1 p
    | false => rw [if_neg Bool.false_ne_true]; exact p _ _ _ a1 (h1.2 rfl)
theorem gt_or (h : GT t σ A fun c A1 => (c = true → Ψ true A1) ∧ (c = false → GT u σ A1 Ψ)) : GT (tOr t u) σ A Ψ := fun H Q a p =>
  h H _ a fun c A1 H1 a1 h1 => by
    cases c with
    | true => rw [if_pos rfl]; exact p _ _ _ a1 (h1.1 rfl)
    | false => rw [if_neg Bool.false_ne_true]; exact h1.2 rfl H1 Q a1 p
theorem gt_not (h : GT t σ A fun c A1 => Ψ (!c) A1) : GT (tNot t) σ A Ψ := fun H Q a p => h H _ a fun c A1 H1 a1 h1 => p _ A1 H1 a1 h1
end
/-- a test's outcome -/
theorem br_dec {p P Q : Prop} [Decidable p] (h1 : p → P) (h2 : ¬ p → Q) : (decide p = true → P) ∧ (decide p = false → Q) := ⟨fun h => h1 (of_decide_eq_true h), fun h => h2 (of_decide_eq_false h)⟩
theorem br_ndec {p P Q : Prop} [Decidable p] (h1 : ¬ p → P) (h2 : p → Q) : ((!decide p) = true → P) ∧ ((!decide p) = false → Q) :=
  ⟨fun h => h1 (by simpa using h), fun h => h2 (by simpa using h)⟩
theorem br_t {P Q : Prop} (h : P) : (true = true → P) ∧ (true = false → Q) := ⟨fun _ => h, fun z => nomatch z⟩
theorem br_f {P Q : Prop} (h : Q) : (false = true → P) ∧ (false = false → Q) := ⟨fun z => (nomatch z), fun _ => h⟩
theorem br_nt {P Q : Prop} (h : Q) : ((!true) = true → P) ∧ ((!true) = false → Q) := ⟨fun z => (nomatch z), fun _ => h⟩
theorem br_nf {P Q : Prop} (h : P) : ((!false) = true → P) ∧ ((!false) = false → Q) := ⟨fun _ => h, fun z => nomatch z⟩
theorem br_not {b : Bool} {P Q : Prop} (h : (b = true → Q) ∧ (b = false → P)) : ((!b) = true → P) ∧ ((!b) = false → Q) := ⟨fun z => h.2 (by simpa using z), fun z => h.1 (by simpa using z)⟩
theorem br_b {b : Bool} {P Q : Prop} (h1 : b = true → P) (h2 : b = false → Q) : (b = true → P) ∧ (b = false → Q) := ⟨h1, h2⟩
/-- a test whose outcome the facts tell -/
theorem br_yes {p P Q : Prop} [Decidable p] (hp : p) (h1 : P) : (decide p = true → P) ∧ (decide p = false → Q) := ⟨fun _ => h1, fun h => absurd hp (of_decide_eq_false h)⟩
theorem br_no {p P Q : Prop} [Decidable p] (hp : ¬ p) (h1 : Q) : (decide p = true → P) ∧ (decide p = false → Q) := ⟨fun h => absurd (of_decide_eq_true h) hp, fun _ => h1⟩
theorem br_nyes {p P Q : Prop} [Decidable p] (hp : ¬ p) (h1 : P) : ((!decide p) = true → P) ∧ ((!decide p) = false → Q) := br_not (br_no hp h1)
theorem br_nno {p P Q : Prop} [Decidable p] (hp : p) (h1 : Q) : ((!decide p) = true → P) ∧ ((!decide p) = false → Q) := br_not (br_yes hp h1)

/-! ### operators by values -/
theorem gr_I0 {g : Int → Int → V} (k : Φ (g i j) A) : GR (rI0 g) (.int i) (.int j) A Φ := fun H Q a p => ⟨i, j, rfl, rfl, p _ A H a k⟩
theorem gr_I {C : Int → Int → Prop} {g : Int → Int → V} (c : C i j) (k : Φ (g i j) A) : GR (rI C g) (.int i) (.int j) A Φ := fun H Q a p => ⟨i, j, rfl, rfl, c, p _ A H a k⟩
end

/-! ### statements -/
section
variable {K : PySem.W.Frag} {σ σ' : St} {A B : SH} {nx : St → SH → Prop} {rt : V → SH → Prop} {bk ct : St → SH → Prop} {t u : TS} {c : TT} {te : TE} {v : V}
theorem gs_seq (h : GS t ⟨fun σ A => GS u ⟨nx, rt, bk, ct⟩ σ A, rt, bk, ct⟩ σ A) : GS (tSeq t u) ⟨nx, rt, bk, ct⟩ σ A := fun H E a im =>
  h H { E with nx := u E } a ⟨fun σ A H a k => k H E a im, im.rt, im.bk, im.ct⟩
theorem gs_next (h : nx σ A) : GS tNext ⟨nx, rt, bk, ct⟩ σ A := fun H E a im => im.nx σ A H a h
theorem gs_break (h : bk σ A) : GS tBreak ⟨nx, rt, bk, ct⟩ σ A := fun H E a im => im.bk σ A H a h
theorem gs_cont (h : ct σ A) : GS tCont ⟨nx, rt, bk, ct⟩ σ A := fun H E a im => im.ct σ A H a h
theorem gs_asg {g : TG} (h : GE te σ A fun v A' => GG g v σ A' nx) : GS (tAsg te g) ⟨nx, rt, bk, ct⟩ σ A := fun H E a im => h H _ a fun v A' H' a' h' => h' H' _ a' im.nx
theorem gs_drop (h : GE te σ A fun _ A' => nx σ A') : GS (tDrop te) ⟨nx, rt, bk, ct⟩ σ A := fun H E a im => h H _ a fun _ A' H' a' h' => im.nx σ A' H' a' h'
theorem gs_ret (h : GE te σ A rt) : GS (tRet te) ⟨nx, rt, bk, ct⟩ σ A := fun H E a im => h H _ a im.rt
theorem gs_retN (h : rt .non A) : GS tRetN ⟨nx, rt, bk, ct⟩ σ A := fun H E a im => im.rt .non A H a h
theorem gs_if (h : GT c σ A fun b A' => (b = true → GS t ⟨nx, rt, bk, ct⟩ σ A') ∧ (b = false → GS u ⟨nx, rt, bk, ct⟩ σ A')) : GS (tIfS c t u) ⟨nx, rt, bk, ct⟩ σ A := fun H E a im =>
  h H _ a fun b A' H' a' h' => by
    cases b with
    | true => rw [if_pos rfl]; exact h'.1 rfl H' E a' im
    | false => rw [if_neg Bool.false_ne_true]; exact h'.2 rfl H' E a' im
theorem gg_name {n : Nat} {Φ : St → SH → Prop} (s : Set1 σ n (some v) σ') (k : Φ σ' A) : GG (gName n) v σ A Φ := fun H Q a p => by
  have e : σ.set n (some v) = σ' := s
  show Q (σ.set n (some v)) H
  rw [e]
  exact p σ' A H a k
theorem gg_nil {Φ : St → SH → Prop} (k : Φ σ A) : ∀ H (Q : St → Hp → Prop), Has H A → (∀ σ' A' H', Has H' A' → Φ σ' A' → Q σ' H') → gNil [] σ H Q := fun H Q a p => ⟨rfl, p σ A H a k⟩
def GGs (t : TGs) (vs : List V) (σ : St) (A : SH) (Φ : St → SH → Prop) : Prop := ∀ H (Q : St → Hp → Prop), Has H A → (∀ σ' A' H', Has H' A' → Φ σ' A' → Q σ' H') → t vs σ H Q
theorem ggs_nil {Φ : St → SH → Prop} (k : Φ σ A) : GGs gNil [] σ A Φ := fun H Q a p => ⟨rfl, p σ A H a k⟩
theorem ggs_cons {Φ : St → SH → Prop} {g : TG} {gs : TGs} {vs : List V} (h : GG g v σ A fun σ1 A1 => GGs gs vs σ1 A1 Φ) : GGs (gCons g gs) (v :: vs) σ A Φ := fun H Q a p =>
  ⟨v, vs, rfl, h H _ a fun σ1 A1 H1 a1 h1 => h1 H1 Q a1 p⟩
theorem gg_tup {Φ : St → SH → Prop} {n : Nat} {gs : TGs} {a : Addr} {xs : List V} (rd : RT K A a xs) (hl : xs.length = n) (h : GGs gs xs σ A Φ) : GG (gTup K n gs) (.ref a) σ A Φ := fun H Q x p =>
  ⟨a, xs, rfl, rd H x, hl, h H Q x p⟩
theorem gs_for {wi : TI} {g : TG} (h : GI wi σ A fun J A1 => GF J g t ⟨nx, rt, bk, ct⟩ σ A1) : GS (tFor wi g t) ⟨nx, rt, bk, ct⟩ σ A := fun H E a im => h H _ a fun J A1 H1 a1 h1 => h1 H1 E a1 im
theorem gf_list {a : Addr} {xs : List V} {g : TG} (Pv : Nat → St → SH → Prop) (h0 : Cl (Pv 0) σ A) (hl : ∀ i σ A, i ≤ xs.length → Pv i σ A → RL K A a xs)
    (hs : ∀ i x σ A, xs[i]? = some x → Pv i σ A → GG g x σ A fun σ' A' => GS t ⟨Cl (Pv (i + 1)), rt, nx, Cl (Pv (i + 1))⟩ σ' A')
    (hd : ∀ σ A, Pv xs.length σ A → nx σ A) : GF (Itl K a) g t ⟨nx, rt, bk, ct⟩ σ A := fun H E x im =>
  for_list (K := K) (a := a) (xs := xs) (D := E) (fun i σ H => ∃ A, Has H A ∧ Pv i σ A) (h0 H x) (fun i σ H hi ⟨A, x, p⟩ => hl i σ A hi p H x)
    (fun i y σ H hy ⟨A, x, p⟩ => hs i y σ A hy p H _ x fun σ' A' H' x' k => k H' _ x' ⟨fun σ A H x p => p H x, im.rt, im.nx, fun σ A H x p => p H x⟩)
    fun σ H ⟨A, x, p⟩ => im.nx σ A H x (hd σ A p)
theorem gf_tup {a : Addr} {xs : List V} {g : TG} (Pv : Nat → St → SH → Prop) (h0 : Cl (Pv 0) σ A) (hl : ∀ i σ A, i ≤ xs.length → Pv i σ A → RT K A a xs)
    (hs : ∀ i x σ A, xs[i]? = some x → Pv i σ A → GG g x σ A fun σ' A' => GS t ⟨Cl (Pv (i + 1)), rt, nx, Cl (Pv (i + 1))⟩ σ' A')
    (hd : ∀ σ A, Pv xs.length σ A → nx σ A) : GF (Itt K a) g t ⟨nx, rt, bk, ct⟩ σ A := fun H E x im =>
  for_tup (K := K) (a := a) (xs := xs) (D := E) (fun i σ H => ∃ A, Has H A ∧ Pv i σ A) (h0 H x) (fun i σ H hi ⟨A, x, p⟩ => hl i σ A hi p H x)
    (fun i y σ H hy ⟨A, x, p⟩ => hs i y σ A hy p H _ x fun σ' A' H' x' k => k H' _ x' ⟨fun σ A H x p => p H x, im.rt, im.nx, fun σ A H x p => p H x⟩)
    fun σ H ⟨A, x, p⟩ => im.nx σ A H x (hd σ A p)
theorem gf_range {lo : Int} {n : Nat} {g : TG} (Pv : Nat → St → SH → Prop) (h0 : Cl (Pv 0) σ A)
    (hs : ∀ i σ A, i < n → Pv i σ A → GG g (.int (lo + i)) σ A fun σ' A' => GS t ⟨Cl (Pv (i + 1)), rt, nx, Cl (Pv (i + 1))⟩ σ' A')
    (hd : ∀ σ A, Pv n σ A → nx σ A) : GF (Itr lo n) g t ⟨nx, rt, bk, ct⟩ σ A := fun H E x im =>
  for_range (lo := lo) (n := n) (D := E) (fun i σ H => ∃ A, Has H A ∧ Pv i σ A) (h0 H x)
    (fun i σ H hi ⟨A, x, p⟩ => hs i σ A hi p H _ x fun σ' A' H' x' k => k H' _ x' ⟨fun σ A H x p => p H x, im.rt, im.nx, fun σ A H x p => p H x⟩)
    fun σ H ⟨A, x, p⟩ => im.nx σ A H x (hd σ A p)
theorem gi_list {Φ : It → SH → Prop} (h : GE te σ A fun x A' => ∃ a xs, x = .ref a ∧ RL K A' a xs ∧ Φ (Itl K a) A') : GI (iList K te) σ A Φ := fun H Q x p =>
  h H _ x fun v A' H' x' ⟨a, xs, e, r, k⟩ => ⟨a, e, ⟨xs, r H' x'⟩, p _ A' H' x' k⟩
theorem gi_tup {Φ : It → SH → Prop} (h : GE te σ A fun x A' => ∃ a xs, x = .ref a ∧ RT K A' a xs ∧ Φ (Itt K a) A') : GI (iTup K te) σ A Φ := fun H Q x p =>
  h H _ x fun v A' H' x' ⟨a, xs, e, r, k⟩ => ⟨a, e, ⟨xs, r H' x'⟩, p _ A' H' x' k⟩
theorem gi_rng1 {Φ : It → SH → Prop} {ta : TA} (h : GA ta σ A fun vs A' => ∃ j : Int, vs = [.int j] ∧ -(2 ^ 62) ≤ j ∧ j < 2 ^ 62 ∧ Φ (Itr 0 j.toNat) A') : GI (iRng1 ta) σ A Φ := fun H Q x p =>
  h H _ x fun vs A' H' x' ⟨j, e, h1, h2, k⟩ => ⟨j, e, h1, h2, p _ A' H' x' k⟩
theorem gi_rng2 {Φ : It → SH → Prop} {ta : TA} (h : GA ta σ A fun vs A' => ∃ i j : Int, vs = [.int i, .int j] ∧ (-(2 ^ 62) ≤ i ∧ i < 2 ^ 62 ∧ -(2 ^ 62) ≤ j ∧ j < 2 ^ 62) ∧ Φ (Itr i (j - i).toNat) A') : GI (iRng2 ta) σ A Φ := fun H Q x p =>
  h H _ x fun vs A' H' x' ⟨i, j, e, h1, k⟩ => ⟨i, j, e, h1, p _ A' H' x' k⟩
theorem gi_enum {Φ : It → SH → Prop} {ta : TA} (h : GA ta σ A fun vs A' => ∃ a xs, vs = [.ref a] ∧ RL K A' a xs ∧ Φ (Ite K a) A') : GI (iEnum K ta) σ A Φ := fun H Q x p =>
  h H _ x fun vs A' H' x' ⟨a, xs, e, r, k⟩ => ⟨a, xs, e, r H' x', p _ A' H' x' k⟩
def iAlt (w u : TI) : TI := fun σ H R => w σ H R ∨ u σ H R
theorem pi_alt {X : Cx} {tg iter : Expr} {w u : TI} (h1 : PI X tg iter w) (h2 : PI X tg iter u) : PI X tg iter (iAlt w u) := ⟨fun pins s σ H R I h => by
  rcases h with h | h
  · exact h1.run pins s σ H R I h
  · exact h2.run pins s σ H R I h⟩
theorem gi_altL {w u : TI} {Φ : It → SH → Prop} (h : GI w σ A Φ) : GI (iAlt w u) σ A Φ := fun H Q a p => .inl (h H Q a p)
theorem gi_altR {w u : TI} {Φ : It → SH → Prop} (h : GI u σ A Φ) : GI (iAlt w u) σ A Φ := fun H Q a p => .inr (h H Q a p)
/-- for i, x in enumerate(xs): the pair is a new tuple -/
theorem gf_enum {a : Addr} {xs : List V} {g : TG} (Pv : Nat → St → SH → Prop) (h0 : Cl (Pv 0) σ A) (hl : ∀ i σ A, i ≤ xs.length → Pv i σ A → RL K A a xs)
    (hs : ∀ i x σ A p, xs[i]? = some x → Pv i σ A → GG g (.ref p) σ (sg p (.tup [.int (i : Nat), x]) :: A) fun σ' A' => GS t ⟨Cl (Pv (i + 1)), rt, nx, Cl (Pv (i + 1))⟩ σ' A')
    (hd : ∀ σ A, Pv xs.length σ A → nx σ A) : GF (Ite K a) g t ⟨nx, rt, bk, ct⟩ σ A := fun H E x im => by
  refine ⟨fun i m σ H => m = xs.length - i ∧ i ≤ xs.length ∧ ∃ A, Has H A ∧ Pv i σ A, ⟨xs.length, by simp, Nat.zero_le _, h0 H x⟩, ?_⟩
  rintro i m σ H ⟨rfl, hi, A, x, p⟩
  have q := hl i σ A hi p H x
  by_cases hlt : i < xs.length
  · refine .inr ⟨⟨xs, xs[i], q, by simp [hlt]⟩, fun σ' H' => ∃ A, Has H' A ∧ Pv (i + 1) σ' A, fun σ' H' p' => ⟨xs.length - (i + 1), by omega, rfl, hlt, p'⟩, fun y H' yl => ?_⟩
    obtain ⟨T, z, rfl, hT, rfl, hz⟩ := yl
    exact hs i z σ A T (hz xs q) p _ _ (x.new hT) fun σ' A' H' x' k => k H' _ x' ⟨fun σ A H x p => p H x, im.rt, im.nx, fun σ A H x p => p H x⟩
  · have e : i = xs.length := by omega
    subst e
    exact .inl ⟨⟨xs, q, Nat.le_refl _⟩, im.nx σ A H x (hd σ A p)⟩
/-- while: an invariant and what falls -/
theorem gs_while (Pv : Nat → St → SH → Prop) (m : Nat) (h0 : Cl (Pv m) σ A)
    (hs : ∀ m σ A, Pv m σ A → GT c σ A fun b A' => (b = true → GS t ⟨fun σ A => ∃ m', m' < m ∧ Cl (Pv m') σ A, rt, nx, fun σ A => ∃ m', m' < m ∧ Cl (Pv m') σ A⟩ σ A') ∧ (b = false → nx σ A')) : GS (tWhile c t) ⟨nx, rt, bk, ct⟩ σ A := fun H E x im =>
  ⟨fun m σ H => ∃ A, Has H A ∧ Pv m σ A, ⟨m, h0 H x⟩, fun m σ H ⟨A, x, p⟩ => hs m σ A p H _ x fun b A' H' x' k => by
    cases b with
    | true =>
      rw [if_pos rfl]
      refine ⟨fun σ H => ∃ m', m' < m ∧ ∃ A, Has H A ∧ Pv m' σ A, fun σ' H' h => h, k.1 rfl H' _ x' ⟨?_, im.rt, im.nx, ?_⟩⟩
      · exact fun σ A H x ⟨m', l, p⟩ => ⟨m', l, p H x⟩
      · exact fun σ A H x ⟨m', l, p⟩ => ⟨m', l, p H x⟩
    | false =>
      rw [if_neg Bool.false_ne_true]
      exact im.nx σ A' H' x' (k.2 rfl)⟩
end
/-! ### parts joined -/
/-- several parts become one -/
theorem blk {H : Hp} {A : SH} : ∀ {xs : SH}, Has H (xs ++ A) → ∃ h, Has H (h :: A) ∧ (∀ x ∈ xs, Sub x h) ∧ ∀ a o, h a = some o → ∃ x ∈ xs, x a = some o
  | [], x => ⟨emp, Has.cons x (fun a o e => nomatch e) fun g _ a o u e _ => (nomatch e), fun x h => (nomatch h), fun a o e => nomatch e⟩
  | y :: xs, x => by
    obtain ⟨h, hh, hs, hb⟩ := blk (xs := xs) (x : Has H (y :: (xs ++ A))).tail
    have x : Has H (y :: (xs ++ A)) := x
    have dj : Dj y h := fun a o u e1 e2 => by
      obtain ⟨z, hz, e3⟩ := hb a u e2
      exact x.dj (List.mem_append_left _ hz) a o u e1 e3
    refine ⟨fun a => (y a).or (h a), Has.cons hh.tail (fun a o e => ?_) (fun g hg a o u e1 e2 => ?_), fun z hz a o e => ?_, fun a o e => ?_⟩
    all_goals try (have e : (y a).or (h a) = some o := e)
    all_goals try (have e1 : (y a).or (h a) = some o := e1)
    · cases e1 : y a with
      | some v =>
        rw [e1] at e
        exact e ▸ x.head a v e1
      | none =>
        rw [e1] at e
        exact hh.head a o e
    · cases e3 : y a with
      | some v => exact x.dj (List.mem_append_right _ hg) a v u e3 e2
      | none =>
        rw [e3] at e1
        exact hh.dj hg a o u e1 e2
    · rcases List.mem_cons.mp hz with q | hz
      · subst q
        show (z a).or (h a) = some o
        rw [e]; rfl
      · have e2 := hs z hz a o e
        show (y a).or (h a) = some o
        cases e3 : y a with
        | some v => exact (dj a v o e3 e2).elim
        | none => exact e2
    · cases e1 : y a with
      | some v =>
        rw [e1] at e
        exact ⟨y, List.mem_cons_self, e1.trans e⟩
      | none =>
        rw [e1] at e
        obtain ⟨z, hz, e2⟩ := hb a o e
        exact ⟨z, List.mem_cons_of_mem _ hz, e2⟩
/-- the parts xs of the state become one, the parts ys stay -/
theorem Cl.blk {α : Type} {P : α → SH → Prop} {x : α} {A B xs : SH} (l : Le (xs ++ A) B) (p : ∀ h, (∀ y ∈ xs, Sub y h) → P x (h :: A)) : Cl P x B := fun H hB => by
  obtain ⟨h, a, s, _⟩ := S.blk (l H hB)
  exact ⟨_, a, p h s⟩
theorem RO.sub {A : SH} {g h : Hp} {a : Addr} {o : HO} (s : Sub g h) (e : g a = some o) : RO (h :: A) a o := .blk (s a o e)
/-- the state seen otherwise -/
theorem ge_as {t : TE} {σ : St} {A : SH} {Φ : V → SH → Prop} (h : Cl (fun σ A => GE t σ A Φ) σ A) : GE t σ A Φ := fun H Q x p => by
  obtain ⟨B, y, k⟩ := h H x
  exact k H Q y p
theorem gs_as {t : TS} {D : AE} {σ : St} {A : SH} (h : Cl (fun σ A => GS t D σ A) σ A) : GS t D σ A := fun H E x im => by
  obtain ⟨B, y, k⟩ := h H x
  exact k H E y im
end S

namespace S
open PySem L2

/-! ### calls -/
abbrev Spec := List V → SH → (V → SH → Prop) → (Value → Option Addr → SH → Prop) → Prop
def lift (sp : Spec) : Sp := fun vs H Q E => ∃ A Φ Ψ, Has H A ∧ Post Φ Q ∧ XPost Ψ E ∧ sp vs A Φ Ψ
/-- the def of that name keeps its promise -/
def DefR (P : Program) (w : World) (K : PySem.W.Frag) (mg : Str → Option Value) (base : Heap) (k : Nat) (x : Str) (sp : Sp) : Prop :=
  ∃ f, FnR P w K mg base (L2.CX P w) k f sp ∧ mg x = some (.ref f) ∧ PySem.W.keepIn K (.ref f) = true
def MethR (P : Program) (w : World) (K : PySem.W.Frag) (mg : Str → Option Value) (base : Heap) (k : Nat) (C : Addr) (m : Str) (sp : Sp) : Prop :=
  Cls K C ∧ ∃ f, Meth K C m f ∧ FnR P w K mg base (L2.CX P w) k f sp
def MakR (P : Program) (w : World) (K : PySem.W.Frag) (mg : Str → Option Value) (base : Heap) (k : Nat) (x : Str) (C : Addr) (sp : Sp) : Prop :=
  ∃ f, Mk K C f ∧ FnR P w K mg base (L2.CX P w) k f sp ∧ mg x = some (.ref C)
def tCal (sp : Sp) (W : WX) (t : TA) : TE := fun σ H Q => t σ H fun vs H1 => sp vs H1 Q (WE W σ)
def tMet (MT : Addr → Spec → Prop) (m : Str) (W : WX) (ta : TE) (t : TA) : TE := fun σ H Q => ta σ H fun x H1 => ∃ a C dx fs sp, x = .ref a ∧ H1 a = some (.ins C dx fs) ∧ MT C sp ∧ fs.lookup m = none ∧
  t σ H1 fun vs H2 => lift sp (x :: vs) H2 Q (WE W σ)
def tMak (C : Addr) (sp : Sp) (W : WX) (t : TA) : TE := fun σ H Q => t σ H fun vs H1 => ∀ x dx, H1 x = Option.none → H1 dx = Option.none → dx ≠ x →
  sp (V.ref x :: vs) (upd (upd H1 dx (.own x)) x (.ins C dx [])) (fun v H2 => v = .non ∧ Q (.ref x) H2) (WE W σ)
section
variable {X : Cx} {k : Nat} {f C : Addr} {sp : Sp} {W : WX} {x m : Str} {p pos apos : Pos} {e o : Expr} {es : List Expr} {ta : TE} {t : TA} {σ : L2.St}
theorem run_at {E : XK} {pins : List (Addr × Obj)} {H : Hp} {s : Shared} {Q : VK} {us : List Value} {vs : List V} (F : FnR X.prog X.w X.K X.mg X.base (L2.CX X.prog X.w) k f sp) (hr : Room k X.A) (hx : PassesAt (L2.CX X.prog X.w) X σ E)
    (I : Inv X pins σ H s) (r : Vals vs us) (h : sp vs H Q E) : wpAny (model X.prog X.w) X.A (call (.ref f) us) (EP X pins σ Q) X.xe s := by
  refine wpAny_call (codeAny_mono (F X.A X.stack s H us vs Q E hr I.env0 r h) ?_)
  intro res s' got
  match res, got with
  | .error e, got => exact hx pins H s e s' I got
  | .ok (.ret u), got => exact I.after got
  | .ok .next, got => exact False.elim got
  | .ok .brk, got => exact False.elim got
  | .ok .cont, got => exact False.elim got
theorem pe_own (G : DefR X.prog X.w X.K X.mg X.base k x sp) (hr : Room k X.A) (hg : Gl X x) (tk : Takes X W) (ha : PA X (e :: es) t) (hdb : (x == ("__debug__" : Str)) = false := by decide)
    (he : starEach (e :: es) X.env = (false, eval e X.env) :: starEach es X.env := by rfl) (hpl : (backTo pos (starEach es X.env)).any (·.1) = false := by rfl) : PE X (.Call (.Name x p) (e :: es) [] pos) (tCal sp W t) := by
  obtain ⟨f, F, hm, hk⟩ := G
  constructor
  intro pins s σ H Q I h
  refine wpAny_Call_Name_kw (ld_glob I hg hm ?_ hdb)
  refine PySem.W.callWith_K (h₀ := X.base) I.ok.mod.kin hk (thn (ha.run pos pins s σ H _ I h) ?_) he hpl
  rintro us s1 ⟨vs, H1, I1, r, q⟩
  exact ⟨I1.kIn, run_at F hr (passAt tk σ) I1 r q⟩
theorem pe_own0 (G : DefR X.prog X.w X.K X.mg X.base k x sp) (hr : Room k X.A) (hg : Gl X x) (tk : Takes X W) (hdb : (x == ("__debug__" : Str)) = false := by decide) : PE X (.Call (.Name x p) [] [] pos) (tCal sp W tNil) := by
  obtain ⟨f, F, hm, hk⟩ := G
  constructor
  intro pins s σ H Q I h
  refine wpAny_Call_Name_kw (ld_glob I hg hm ?_ hdb)
  exact PySem.W.callWith_K0 I.kIn hk (run_at F hr (passAt tk σ) I .nil h)
theorem pe_met {pl : Sem Bool} {MT : Addr → Spec → Prop} (he : PE X o ta) (G : ∀ C sp, MT C sp → MethR X.prog X.w X.K X.mg X.base k C m (lift sp)) (hr : Room k X.A) (tk : Takes X W) (ha : PA X (e :: es) t)
    (hst : starEach (e :: es) X.env = (false, eval e X.env) :: starEach es X.env := by rfl) (hpl : (backTo pos (starEach es X.env)).any (·.1) = false := by rfl)
    (ht : eval (.Call (.Attribute o m apos) (e :: es) [] pos) X.env = (do let ov ← eval o X.env; standAt apos.atName; let (f, first) ← holding [ov] (getMethod ov m pl); callWith pos f first (backTo pos (starEach (e :: es) X.env)) (backToKw pos (keywordEach [] X.env))) := by rfl) :
    PE X (.Call (.Attribute o m apos) (e :: es) [] pos) (tMet MT m W ta t) := by
  constructor
  intro pins s σ H Q I h
  refine PySem.W.methodCall_KW (pl := pl) (thn (he.run pins s σ H _ I h) ?_) ht
  rintro u s1 ⟨x, H1, I1, rx, a, C, dx, fs, sp, rfl, ea, mt, l, q⟩
  obtain ⟨c, f, hm, F⟩ := G C sp mt
  cases (show u = Value.ref a from rx)
  refine getmeth_ok I1 ea c hm l ?_
  refine PySem.W.callWith_K (first := [.ref a]) (h₀ := X.base) I.ok.mod.kin hm.kp (thn (ha.run pos pins s1 σ H1 _ I1 q) ?_) hst hpl
  rintro us s2 ⟨vs, H2, I2, r, q2⟩
  exact ⟨I2.kIn, run_at (us := .ref a :: us) (vs := .ref a :: vs) F hr (passAt tk σ) I2 (.cons rfl r) q2⟩
theorem pe_met0 {pl : Sem Bool} {MT : Addr → Spec → Prop} (he : PE X o ta) (G : ∀ C sp, MT C sp → MethR X.prog X.w X.K X.mg X.base k C m (lift sp)) (hr : Room k X.A) (tk : Takes X W)
    (ht : eval (.Call (.Attribute o m apos) [] [] pos) X.env = (do let ov ← eval o X.env; standAt apos.atName; let (f, first) ← holding [ov] (getMethod ov m pl); callWith pos f first (backTo pos (starEach [] X.env)) (backToKw pos (keywordEach [] X.env))) := by rfl) :
    PE X (.Call (.Attribute o m apos) [] [] pos) (tMet MT m W ta tNil) := by
  constructor
  intro pins s σ H Q I h
  refine PySem.W.methodCall_KW (pl := pl) (thn (he.run pins s σ H _ I h) ?_) ht
  rintro u s1 ⟨x, H1, I1, rx, a, C, dx, fs, sp, rfl, ea, mt, l, q⟩
  obtain ⟨c, f, hm, F⟩ := G C sp mt
  cases (show u = Value.ref a from rx)
  refine getmeth_ok I1 ea c hm l ?_
  exact PySem.W.callWith_K0 (first := [.ref a]) I1.kIn hm.kp (run_at (us := [.ref a]) (vs := [.ref a]) F hr (passAt tk σ) I1 (.cons rfl .nil) q)
theorem run_mak {E : XK} {pins : List (Addr × Obj)} {H : Hp} {s : Shared} {Q : VK} {us : List Value} {vs : List V} (M : Mk X.K C f) (F : FnR X.prog X.w X.K X.mg X.base (L2.CX X.prog X.w) k f sp) (hr : Room (k + 1) X.A) (hx : PassesAt (L2.CX X.prog X.w) X σ E)
    (I : Inv X pins σ H s) (r : Vals vs us)
    (h : ∀ x dx, H x = Option.none → H dx = Option.none → dx ≠ x → sp (V.ref x :: vs) (upd (upd H dx (.own x)) x (.ins C dx [])) (fun v H2 => v = .non ∧ Q (.ref x) H2) E) :
    wpAny (model X.prog X.w) X.A (call (.ref C) us) (EP X pins σ Q) X.xe s := by
  have hq := h (s.heap.objs.size + 1) s.heap.objs.size (I.hok.fresh (Nat.le_succ _)) (I.hok.fresh (Nat.le_refl _)) (Nat.ne_of_lt (Nat.lt_succ_self _))
  have J := Inv.made (C := C) I
  have rr : Vals (V.ref (s.heap.objs.size + 1) :: vs) (Value.ref (s.heap.objs.size + 1) :: us) := .cons rfl r
  refine wpAny_call (make_map (f := f) I.kIn M.makes M.init (beq_iff_eq.mp M.fn) (codeAny_mono (F _ X.stack _ _ (Value.ref (s.heap.objs.size + 1) :: us) _ _ E (hr.make C us []) (J.env0.make C us []) rr hq) ?_))
  intro res s' got
  match res, got with
  | .error e, got => exact hx pins _ _ e s' J got
  | .ok (.ret u), got =>
    obtain ⟨v, H', I3, rv, ev, q3⟩ := J.after got
    subst ev
    exact ⟨rv, ⟨V.ref (s.heap.objs.size + 1), H', I3, rfl, q3⟩⟩
  | .ok .next, got => exact False.elim got
  | .ok .brk, got => exact False.elim got
  | .ok .cont, got => exact False.elim got
theorem pe_mak (G : MakR X.prog X.w X.K X.mg X.base k x C sp) (hr : Room (k + 1) X.A) (hg : Gl X x) (tk : Takes X W) (ha : PA X (e :: es) t) (hdb : (x == ("__debug__" : Str)) = false := by decide)
    (he : starEach (e :: es) X.env = (false, eval e X.env) :: starEach es X.env := by rfl) (hpl : (backTo pos (starEach es X.env)).any (·.1) = false := by rfl) : PE X (.Call (.Name x p) (e :: es) [] pos) (tMak C sp W t) := by
  obtain ⟨f, M, F, hm⟩ := G
  constructor
  intro pins s σ H Q I h
  refine wpAny_Call_Name_kw (ld_glob I hg hm ?_ hdb)
  refine PySem.W.callWith_K (h₀ := X.base) I.ok.mod.kin M.kp (thn (ha.run pos pins s σ H _ I h) ?_) he hpl
  rintro us s1 ⟨vs, H1, I1, r, q⟩
  exact ⟨I1.kIn, run_mak M F hr (passAt tk σ) I1 r q⟩
theorem pe_mak0 (G : MakR X.prog X.w X.K X.mg X.base k x C sp) (hr : Room (k + 1) X.A) (hg : Gl X x) (tk : Takes X W) (hdb : (x == ("__debug__" : Str)) = false := by decide) : PE X (.Call (.Name x p) [] [] pos) (tMak C sp W tNil) := by
  obtain ⟨f, M, F, hm⟩ := G
  constructor
  intro pins s σ H Q I h
  refine wpAny_Call_Name_kw (ld_glob I hg hm ?_ hdb)
  exact PySem.W.callWith_K0 I.kIn M.kp (run_mak M F hr (passAt tk σ) I .nil h)
end
section
variable {σ : L2.St} {A B : SH} {Φ : V → SH → Prop} {Ψ : Value → Option Addr → L2.St → SH → Prop} {W : WX} {ta : TE} {t : TA} {sp : Spec} {m : Str} {C : Addr}
theorem ge_cal (hx : WPost Ψ W) (h : GA t σ A fun vs A1 => sp vs A1 Φ fun c d A2 => Ψ c d σ A2) : GE (tCal (lift sp) W t) σ A Φ := fun H Q a p =>
  h H _ a fun vs A1 H1 a1 h1 => ⟨A1, Φ, _, a1, p, fun c d A2 H2 a2 k => hx c d σ A2 H2 a2 k, h1⟩
theorem ge_met {MT : Addr → Spec → Prop} (hx : WPost Ψ W)
    (h : GE ta σ A fun x A1 => ∃ a C dx fs sp, x = .ref a ∧ RO A1 a (.ins C dx fs) ∧ MT C sp ∧ fs.lookup m = none ∧ GA t σ A1 fun vs A2 => sp (x :: vs) A2 Φ fun c d A3 => Ψ c d σ A3) : GE (tMet MT m W ta t) σ A Φ := fun H Q a p =>
  h H _ a fun x A1 H1 a1 ⟨b, C, dx, fs, sp, e, ro, mt, l, h1⟩ => ⟨b, C, dx, fs, sp, e, ro H1 a1, mt, l, h1 H1 _ a1 fun vs A2 H2 a2 h2 => ⟨A2, Φ, _, a2, p, fun c d A3 H3 a3 k => hx c d σ A3 H3 a3 k, h2⟩⟩
theorem ge_mak (hx : WPost Ψ W) (h : GA t σ A fun vs A1 => ∀ x dx, sp (V.ref x :: vs) (sg x (.ins C dx []) :: A1) (fun v A2 => v = .non ∧ Φ (.ref x) A2) fun c d A2 => Ψ c d σ A2) : GE (tMak C (lift sp) W t) σ A Φ := fun H Q a p =>
  h H _ a fun vs A1 H1 a1 h1 x dx nx nd ne => ⟨_, _, _, (a1.new nd).tail.new (by rw [upd_ne (Ne.symm ne)]; exact nx), fun v A2 H2 a2 ⟨e, k⟩ => ⟨e, p _ A2 H2 a2 k⟩, fun c d A2 H2 a2 k => hx c d σ A2 H2 a2 k, h1 x dx⟩
end
/-- where a def's body leads -/
abbrev AEf (Φ : V → SH → Prop) : AE := ⟨fun _ A => Cl Φ .non A, Cl Φ, fun _ _ => False, fun _ _ => False⟩
/-- a def keeps its promise: its body, and the goal of it -/
theorem mk_fn {P : Program} {w : World} {K : PySem.W.Frag} {mg : Str → Option Value} {base : Heap} {x qual : Str} {params : Arguments} {body : List Stmt} {scope : Scope} {dvs : List V} {kws : List (Str × V)} {f : Addr} {fd : FuncData} {N ps : List Str} {k : Nat} {sp : Spec} {t : XK → TS} {σ0 : List V → L2.St}
    (F : FunD K x qual params body scope dvs kws f fd) (sc : FnScope N ps scope) (len : ∀ vs A Φ Ψ, sp vs A Φ Ψ → vs.length = ps.length)
    (dv : ∀ (cdv : Value) (A : Around) (outer : List Env) (s : Shared) (H : Hp) (E : XK), Room k (A.deeper (PyProof.Rows.envOfC qual scope s.heap.objs.size f cdv)) → PSs (cxOf (L2.CX P w) P w K mg base N qual scope f cdv A outer s H E) body (t E))
    (hs : ∀ vs A Φ Ψ E, WPost (fun c d _ A => Cl (fun (_ : Unit) A => Ψ c d A) () A) (fun c d _ H => E c d H) → sp vs A Φ Ψ → GS (t E) (AEf Φ) (L2.start N vs) A) :
    FnOk P w K mg base (L2.CX P w) (k + 1) f fd ps (lift sp) := by
  refine FunD.ok F sc (fun vs H Q E ⟨A, Φ, Ψ, _, _, _, h⟩ => len vs A Φ Ψ h) ?_
  rintro cdv A outer s H vs Q E hr ⟨B, Φ, Ψ, hB, hq, hx, h⟩
  refine ⟨t E, dv cdv A outer s H E hr, hs vs B Φ Ψ E ?_ h H _ hB ⟨?_, ?_, fun _ _ _ _ z => z, fun _ _ _ _ z => z⟩⟩
  · intro c d σ A H a q
    obtain ⟨B, b, q⟩ := q H a
    exact hx c d B H b q
  · intro σ A H a q
    exact hq.cl .non A H a q
  · exact hq.cl

end S

namespace S
open PySem L2

/-! ### operators that ask what they are given -/
def rAddS : R2 := fun x y H Q => ∃ i j, x = V.str i ∧ y = V.str j ∧ i.length + j.length ≤ sizeLine ∧ Q (V.str (i ++ j)) H
def dAdd (K : PySem.W.Frag) : R2 := fun x y H Q => rI0 (fun i j => .int (i + j)) x y H Q ∨ rAddS x y H Q ∨ rCat x y H Q ∨ rCatT K x y H Q
theorem op_dAdd {X : Cx} : OpR X (binaryOp .Add) (dAdd X.K) := OpR.or op_add (OpR.or op_add_str (OpR.or op_cat op_catT))
def dSub : R2 := rI0 fun i j => .int (i - j)
theorem op_dSub {X : Cx} : OpR X (binaryOp .Sub) dSub := op_sub
def dMul : R2 := rI CMul fun i j => .int (i * j)
theorem op_dMul {X : Cx} : OpR X (binaryOp .Mult) dMul := op_mul
def dMod : R2 := rI (fun _ j => 0 < j) fun i j => .int (i % j)
theorem op_dMod {X : Cx} : OpR X (binaryOp .Mod) dMod := op_mod
def dDiv : R2 := rI CDiv fun i j => .int (i / j)
theorem op_dDiv {X : Cx} : OpR X (binaryOp .FloorDiv) dDiv := op_fdiv
def dEq (K : PySem.W.Frag) : R2 := fun x y H Q => rEq x y H Q ∨ rEqD K x y H Q
theorem op_dEq {X : Cx} {k : Nat} (hr : Room k X.A) : OpR X (compareOp .Eq) (dEq X.K) := OpR.or op_eq (op_eqD hr.units)
def dNe (K : PySem.W.Frag) : R2 := fun x y H Q => rNe x y H Q ∨ rNeD K x y H Q
theorem op_dNe {X : Cx} {k : Nat} (hr : Room k X.A) : OpR X (compareOp .NotEq) (dNe X.K) := OpR.or op_ne (op_neD hr.units)
def rLtI : R2 := rI0 fun i j => .bl (decide (i < j))
def dLt (K : PySem.W.Frag) : R2 := fun x y H Q => rLtI x y H Q ∨ rLtT K x y H Q
theorem op_dLt {X : Cx} {k : Nat} (hr : Room k X.A) : OpR X (compareOp .Lt) (dLt X.K) := OpR.or op_lt (op_ltT hr.units0)
def dLe : R2 := rI0 fun i j => .bl (decide (i ≤ j))
theorem op_dLe {X : Cx} : OpR X (compareOp .LtE) dLe := op_le
def dGt : R2 := rI0 fun i j => .bl (decide (j < i))
theorem op_dGt {X : Cx} : OpR X (compareOp .Gt) dGt := op_gt
def dGe : R2 := rI0 fun i j => .bl (decide (j ≤ i))
theorem op_dGe {X : Cx} : OpR X (compareOp .GtE) dGe := op_ge
def rSgn (neg : Bool) : R2 := fun x y H Q => ∃ (c : Nat) (z : Str), x = .str ⟨#[c]⟩ ∧ y = .str z ∧ Q (.bl (if neg then !decide (c ∈ z.cps.toList) else decide (c ∈ z.cps.toList))) H
def dIn (K : PySem.W.Frag) (neg : Bool) : R2 := fun x y H Q => rIn K neg x y H Q ∨ rSgn neg x y H Q
theorem op_dIn {X : Cx} : OpR X (compareOp .In) (dIn X.K false) := OpR.or op_in_seq fun pins s σ H x y v u Q I rx ry ⟨c, z, e1, e2, q⟩ => op_in_sign pins s σ H x y v u Q I rx ry ⟨c, z, e1, e2, q⟩
theorem op_dNotIn {X : Cx} : OpR X (compareOp .NotIn) (dIn X.K true) := OpR.or op_notIn_seq fun pins s σ H x y v u Q I rx ry ⟨c, z, e1, e2, q⟩ => op_notIn_sign pins s σ H x y v u Q I rx ry ⟨c, z, e1, e2, q⟩
def dIs (neg : Bool) : R2 := fun x y H Q => y = V.non ∧ Q (V.bl (if neg then !decide (x = V.non) else decide (x = V.non))) H
theorem op_dIs {X : Cx} : OpR X (compareOp .Is) (dIs false) := op_isN
theorem op_dIsNot {X : Cx} : OpR X (compareOp .IsNot) (dIs true) := op_notN

section
variable {K : PySem.W.Frag} {σ σ' : L2.St} {A B C : SH} {Φ : V → SH → Prop} {v x y : V} {i j : Int} {p q : Addr} {xs ys : List V}
theorem gr_addI (k : Φ (.int (i + j)) A) : GR (dAdd K) (.int i) (.int j) A Φ := fun H Q a p => .inl (gr_I0 (A := A) k H Q a p)
theorem gr_addS {z w : Str} (h : z.length + w.length ≤ sizeLine) (k : Φ (.str (z ++ w)) A) : GR (dAdd K) (.str z) (.str w) A Φ := fun H Q a p => .inr (.inl ⟨z, w, rfl, rfl, h, p _ A H a k⟩)
theorem gr_addL (h1 : RO A p (.lst xs)) (h2 : RO A q (.lst ys)) (h : xs.length + ys.length ≤ sizeLine) (k : ∀ r, Φ (.ref r) (sg r (.lst (xs ++ ys)) :: A)) : GR (dAdd K) (.ref p) (.ref q) A Φ := fun H Q a ps =>
  .inr (.inr (.inl ⟨p, q, xs, ys, rfl, rfl, h1 H a, h2 H a, h, fun r hr => ps _ _ _ (a.new hr) (k r)⟩))
theorem gr_subI (k : Φ (.int (i - j)) A) : GR dSub (.int i) (.int j) A Φ := gr_I0 k
theorem gr_mulI (c : CMul i j) (k : Φ (.int (i * j)) A) : GR dMul (.int i) (.int j) A Φ := gr_I c k
theorem gr_modI (c : 0 < j) (k : Φ (.int (i % j)) A) : GR dMod (.int i) (.int j) A Φ := gr_I c k
theorem gr_divI (c : CDiv i j) (k : Φ (.int (i / j)) A) : GR dDiv (.int i) (.int j) A Φ := gr_I c k
theorem gr_ltI (k : Φ (.bl (decide (i < j))) A) : GR (dLt K) (.int i) (.int j) A Φ := fun H Q a p => .inl (gr_I0 (g := fun i j => .bl (decide (i < j))) k H Q a p)
theorem gr_ltT {ns ms : List Int} (h1 : RT K A p (ns.map V.int)) (h2 : RT K A q (ms.map V.int)) (k : Φ (.bl (HT.lexLt ns ms)) A) : GR (dLt K) (.ref p) (.ref q) A Φ := fun H Q a ps =>
  .inr ⟨p, q, ns, ms, rfl, rfl, h1 H a, h2 H a, ps _ A H a k⟩
theorem gr_leI (k : Φ (.bl (decide (i ≤ j))) A) : GR dLe (.int i) (.int j) A Φ := gr_I0 (g := fun i j => .bl (decide (i ≤ j))) k
theorem gr_gtI (k : Φ (.bl (decide (j < i))) A) : GR dGt (.int i) (.int j) A Φ := gr_I0 (g := fun i j => .bl (decide (j < i))) k
theorem gr_geI (k : Φ (.bl (decide (j ≤ i))) A) : GR dGe (.int i) (.int j) A Φ := gr_I0 (g := fun i j => .bl (decide (j ≤ i))) k
theorem dec_int (i j : Int) : decide (V.int i = V.int j) = decide (i = j) := by
  by_cases h : i = j
  · subst h; simp
  · rw [decide_eq_false h, decide_eq_false fun e => h (V.int.inj e)]
theorem dec_str (i j : Str) : decide (V.str i = V.str j) = decide (i = j) := by
  by_cases h : i = j
  · subst h; simp
  · rw [decide_eq_false h, decide_eq_false fun e => h (V.str.inj e)]
theorem dec_bl (i j : Bool) : decide (V.bl i = V.bl j) = decide (i = j) := by
  by_cases h : i = j
  · subst h; simp
  · rw [decide_eq_false h, decide_eq_false fun e => h (V.bl.inj e)]
theorem gr_eqI (k : Φ (.bl (decide (i = j))) A) : GR (dEq K) (.int i) (.int j) A Φ := fun H Q a p => .inl ⟨rfl, by rw [dec_int]; exact p _ A H a k⟩
theorem gr_eqS {z w : Str} (k : Φ (.bl (decide (z = w))) A) : GR (dEq K) (.str z) (.str w) A Φ := fun H Q a p => .inl ⟨rfl, by rw [dec_str]; exact p _ A H a k⟩
theorem gr_eqB {b c : Bool} (k : Φ (.bl (decide (b = c))) A) : GR (dEq K) (.bl b) (.bl c) A Φ := fun H Q a p => .inl ⟨rfl, by rw [dec_bl]; exact p _ A H a k⟩
theorem gr_eq_scal (hs : scal x y = true) (k : Φ (.bl (decide (x = y))) A) : GR (dEq K) x y A Φ := fun H Q a p => .inl ⟨hs, p _ A H a k⟩
theorem gr_neI (k : Φ (.bl (!decide (i = j))) A) : GR (dNe K) (.int i) (.int j) A Φ := fun H Q a p => .inl ⟨rfl, by rw [dec_int]; exact p _ A H a k⟩
theorem gr_neS {z w : Str} (k : Φ (.bl (!decide (z = w))) A) : GR (dNe K) (.str z) (.str w) A Φ := fun H Q a p => .inl ⟨rfl, by rw [dec_str]; exact p _ A H a k⟩
theorem gr_ne_scal (hs : scal x y = true) (k : Φ (.bl (!decide (x = y))) A) : GR (dNe K) x y A Φ := fun H Q a p => .inl ⟨hs, p _ A H a k⟩
/-- data at any depth -/
def DP (K : PySem.W.Frag) (A : SH) (v : V) (d : PyData) : Prop := ∀ H, Has H A → Dp K H v d
def DPs (K : PySem.W.Frag) (A : SH) (v : List V) (d : List PyData) : Prop := ∀ H, Has H A → DpAll K H v d
theorem DP.le {d : PyData} (l : Le A B) (h : DP K A v d) : DP K B v d := fun H x => h H (l H x)
theorem DP.tail {g : Hp} {d : PyData} (h : DP K A v d) : DP K (g :: A) v d := fun H x => h H x.tail
theorem DPs.tail {g : Hp} {vs : List V} {ds : List PyData} (h : DPs K A vs ds) : DPs K (g :: A) vs ds := fun H x => h H x.tail
theorem dp_non : DP K A .non .none := fun _ _ => .non
theorem dp_bl {b : Bool} : DP K A (.bl b) (.bool b) := fun _ _ => .bl b
theorem dp_int : DP K A (.int i) (.int i) := fun _ _ => .int i
theorem dp_str {z : Str} : DP K A (.str z) (.str z) := fun _ _ => .str z
theorem dp_lst {ds : List PyData} (r : RL K A p xs) (h : DPs K A xs ds) : DP K A (.ref p) (.list ds) := fun H x => .lst (r H x) (h H x)
theorem dp_tup {ds : List PyData} (r : RT K A p xs) (h : DPs K A xs ds) : DP K A (.ref p) (.tuple ds) := fun H x => .tup (r H x) (h H x)
theorem dps_nil : DPs K A [] [] := fun _ _ => .nil
theorem dps_cons {vs : List V} {d : PyData} {ds : List PyData} (h : DP K A v d) (t : DPs K A vs ds) : DPs K A (v :: vs) (d :: ds) := fun H x => .cons (h H x) (t H x)
theorem dps_map {α : Type} {f : α → V} {g : α → PyData} : ∀ {l : List α}, (∀ a ∈ l, DP K A (f a) (g a)) → DPs K A (l.map f) (l.map g)
  | [], _ => dps_nil
  | a :: l, h => dps_cons (h a List.mem_cons_self) (dps_map fun b hb => h b (List.mem_cons_of_mem _ hb))
theorem dps_ints {l : List Int} : DPs K A (l.map V.int) (l.map PyData.int) := dps_map fun _ _ => dp_int
theorem dps_strs {l : List Str} : DPs K A (l.map V.str) (l.map PyData.str) := dps_map fun _ _ => dp_str
theorem gr_eqD {d e : PyData} (h1 : DP K A x d) (h2 : DP K A y e) (s1 : SeqAt.shaped d = true) (s2 : SeqAt.shaped e = true) (k : Φ (.bl (PyData.eqv d e)) A) : GR (dEq K) x y A Φ := fun H Q a p =>
  .inr ⟨d, e, h1 H a, h2 H a, s1, s2, p _ A H a k⟩
theorem gr_neD {d e : PyData} (h1 : DP K A x d) (h2 : DP K A y e) (s1 : SeqAt.shaped d = true) (s2 : SeqAt.shaped e = true) (k : Φ (.bl (!PyData.eqv d e)) A) : GR (dNe K) x y A Φ := fun H Q a p =>
  .inr ⟨d, e, h1 H a, h2 H a, s1, s2, p _ A H a k⟩
theorem gr_inL {neg : Bool} (r : RL K A p xs) (f : flatV x = true) (fs : xs.all flatV = true) (k : Φ (.bl (if neg then !inV x xs else inV x xs)) A) : GR (dIn K neg) x (.ref p) A Φ := fun H Q a ps =>
  .inl ⟨p, xs, rfl, .inl (r H a), f, fs, ps _ A H a k⟩
theorem gr_inT {neg : Bool} (r : RT K A p xs) (f : flatV x = true) (fs : xs.all flatV = true) (k : Φ (.bl (if neg then !inV x xs else inV x xs)) A) : GR (dIn K neg) x (.ref p) A Φ := fun H Q a ps =>
  .inl ⟨p, xs, rfl, .inr (r H a), f, fs, ps _ A H a k⟩
theorem gr_inS {neg : Bool} {c : Nat} {z : Str} (k : Φ (.bl (if neg then !decide (c ∈ z.cps.toList) else decide (c ∈ z.cps.toList))) A) : GR (dIn K neg) (.str ⟨#[c]⟩) (.str z) A Φ := fun H Q a ps =>
  .inr ⟨c, z, rfl, rfl, ps _ A H a k⟩
theorem gr_isN {neg : Bool} (k : Φ (.bl (if neg then !decide (x = V.non) else decide (x = V.non))) A) : GR (dIs neg) x .non A Φ := fun H Q a p => ⟨rfl, p _ A H a k⟩
/-! ### subscripts, slices -/
theorem gr_ixL (r : RL K A p xs) (h : atI xs i = some v) (k : Φ v A) : GR (rIx K) (.ref p) (.int i) A Φ := fun H Q a ps => .inl ⟨p, xs, i, v, rfl, rfl, r H a, h, ps _ A H a k⟩
theorem gr_ixT (r : RT K A p xs) (h : atI xs i = some v) (k : Φ v A) : GR (rIx K) (.ref p) (.int i) A Φ := fun H Q a ps => .inr (.inl ⟨p, xs, i, v, rfl, rfl, r H a, h, ps _ A H a k⟩)
theorem gr_ixS {z : Str} {c : Nat} (l : z.length ≤ sizeLine) (h : atI z.cps.toList i = some c) (k : Φ (.str ⟨#[c]⟩) A) : GR (rIx K) (.str z) (.int i) A Φ := fun H Q a ps => .inr (.inr ⟨z, i, c, rfl, rfl, l, h, ps _ A H a k⟩)
theorem atI_lt {α : Type} {l : List α} {i : Int} (h0 : 0 ≤ i) (h1 : i < l.length) : atI l i = some (l[i.toNat]'(by omega)) := by
  unfold atI ixN
  rw [if_pos h0, if_pos h1]
  simp
def GO (t : TO) (σ : L2.St) (A : SH) (Φ : Option Int → SH → Prop) : Prop := ∀ H (Q : Option Int → Hp → Prop), Has H A → (∀ b A' H', Has H' A' → Φ b A' → Q b H') → t σ H Q
theorem go_no {Φ : Option Int → SH → Prop} (k : Φ none A) : GO tNoPart σ A Φ := fun H Q a p => p _ A H a k
theorem go_some {Φ : Option Int → SH → Prop} {te : TE} (h : GE te σ A fun x A' => ∃ i, x = .int i ∧ Φ (some i) A') : GO (tPart te) σ A Φ := fun H Q a p => h H _ a fun x A1 H1 a1 ⟨i, e, k⟩ => ⟨i, e, p _ A1 H1 a1 k⟩
def rSl (K : PySem.W.Frag) : V → Option Int → Option Int → Hp → VK → Prop := fun x lo hi H Q => rSlL K x lo hi H Q ∨ rSlS x lo hi H Q ∨ rSlT K x lo hi H Q
theorem sl_any {X : Cx} : SlR X (rSl X.K) := by
  intro pins s σ H x v vl vu lo hi sl Q I rx hs pl pu h
  rcases h with h | h | h
  · exact sl_list pins s σ H x v vl vu lo hi sl Q I rx hs pl pu h
  · exact sl_str pins s σ H x v vl vu lo hi sl Q I rx hs pl pu h
  · exact sl_tup pins s σ H x v vl vu lo hi sl Q I rx hs pl pu h
def GSl (r : V → Option Int → Option Int → Hp → VK → Prop) (x : V) (lo hi : Option Int) (A : SH) (Φ : V → SH → Prop) : Prop := ∀ H Q, Has H A → Post Φ Q → r x lo hi H Q
theorem ge_sl {r : V → Option Int → Option Int → Hp → VK → Prop} {te : TE} {tl th : TO} (h : GE te σ A fun x A1 => GO tl σ A1 fun l A2 => GO th σ A2 fun u A3 => GSl r x l u A3 Φ) : GE (tSl r te tl th) σ A Φ := fun H Q a p =>
  h H _ a fun x A1 H1 a1 h1 => h1 H1 _ a1 fun l A2 H2 a2 h2 => h2 H2 _ a2 fun u A3 H3 a3 h3 => h3 H3 Q a3 p
theorem gsl_list {lo hi : Option Int} (r : RL K A p xs) (k : ∀ q, Φ (.ref q) (sg q (.lst (cutV xs lo hi)) :: A)) : GSl (rSl K) (.ref p) lo hi A Φ := fun H Q a ps => .inl ⟨p, xs, rfl, r H a, fun q hq => ps _ _ _ (a.new hq) (k q)⟩
theorem gsl_str {z : Str} {lo hi : Option Int} (l : z.length ≤ sizeLine) (k : Φ (.str (cutS z lo hi)) A) : GSl (rSl K) (.str z) lo hi A Φ := fun H Q a ps => .inr (.inl ⟨z, rfl, l, ps _ A H a k⟩)

/-! ### dicts -/
def RD (A : SH) (a : Addr) (kvs : List (L2.Key × V)) : Prop := ∀ H, Has H A → Rd H a (.dK kvs)
theorem RD.tail {g : Hp} {a : Addr} {kvs : List (L2.Key × V)} (h : RD A a kvs) : RD (g :: A) a kvs := fun H x => h H x.tail
theorem RD.ro {a : Addr} {kvs : List (L2.Key × V)} (h : RO A a (.dK kvs)) : RD A a kvs := fun H x => .inl (h H x)
theorem RD.head {a : Addr} {kvs : List (L2.Key × V)} : RD (sg a (.dK kvs) :: A) a kvs := .ro .head
def KV1 (y : V) (k : L2.Key) : Prop := y = kV k
theorem kv_int : KV1 (.int i) (.inl i) := rfl
theorem kv_str {z : Str} : KV1 (.str z) (.inr z) := rfl
section
variable {td ty tv : TE} {a : Addr} {kvs : List (L2.Key × V)} {k : L2.Key} {nx : L2.St → SH → Prop} {rt : V → SH → Prop} {bk ct : L2.St → SH → Prop}
theorem ge_dget (h : GE td σ A fun x A1 => GE ty σ A1 fun y A2 => ∃ a kvs k v, x = .ref a ∧ RD A2 a kvs ∧ KV1 y k ∧ valV kvs k = some v ∧ Φ v A2) : GE (tDGet td ty) σ A Φ := fun H Q a p =>
  h H _ a fun x A1 H1 a1 h1 => h1 H1 _ a1 fun y A2 H2 a2 ⟨d, kvs, k, v, e, r, ky, hv, c⟩ => ⟨d, v, e, .inl ⟨kvs, k, r H2 a2, ky, hv.symm⟩, p _ A2 H2 a2 c⟩
theorem ge_din (h : GE ty σ A fun y A1 => GE td σ A1 fun x A2 => ∃ a kvs k, x = .ref a ∧ RD A2 a kvs ∧ KV1 y k ∧ Φ (.bl (valV kvs k).isSome) A2) : GE (tDIn ty td) σ A Φ := fun H Q a p =>
  h H _ a fun y A1 H1 a1 h1 => h1 H1 _ a1 fun x A2 H2 a2 ⟨d, kvs, k, e, r, ky, c⟩ => ⟨d, _, e, .inl ⟨kvs, k, r H2 a2, ky, rfl⟩, p _ A2 H2 a2 c⟩
theorem ge_dnotin (h : GE ty σ A fun y A1 => GE td σ A1 fun x A2 => ∃ a kvs k, x = .ref a ∧ RD A2 a kvs ∧ KV1 y k ∧ Φ (.bl (!(valV kvs k).isSome)) A2) : GE (tDNotIn ty td) σ A Φ := fun H Q a p =>
  h H _ a fun y A1 H1 a1 h1 => h1 H1 _ a1 fun x A2 H2 a2 ⟨d, kvs, k, e, r, ky, c⟩ => ⟨d, _, e, .inl ⟨kvs, k, r H2 a2, ky, rfl⟩, p _ A2 H2 a2 c⟩
theorem gs_dput (h : GE tv σ A fun v A1 => GE td σ A1 fun x A2 => GE ty σ A2 fun y A3 => ∃ a kvs k B, x = .ref a ∧ Pull A3 (sg a (.dK kvs)) B ∧ KV1 y k ∧ kvs.length < sizeLine ∧ nx σ (sg a (.dK (putK kvs k v)) :: B)) : GS (sDPut td ty tv) ⟨nx, rt, bk, ct⟩ σ A := fun H E a im =>
  h H _ a fun v A1 H1 a1 h1 => h1 H1 _ a1 fun x A2 H2 a2 h2 => h2 H2 _ a2 fun y A3 H3 a3 ⟨d, kvs, k, B, e, pl, ky, hl, c⟩ =>
    ⟨d, upd H3 d (.dK (putK kvs k v)), e, .inl ⟨kvs, k, (pl.has a3).at, ky, hl, rfl⟩, im.nx _ _ _ (pl.has a3).set c⟩
theorem ge_dpop1 (h : GE td σ A fun x A1 => ∃ a kvs, x = .ref a ∧ RO A1 a (.dK kvs) ∧ GE ty σ A1 fun y A2 => ∃ kvs k v B, Pull A2 (sg a (.dK kvs)) B ∧ KV1 y k ∧ valV kvs k = some v ∧ Φ v (sg a (.dK (dropK kvs k)) :: B)) : GE (tDPop1 td ty) σ A Φ := fun H Q a p =>
  h H _ a fun x A1 H1 a1 ⟨d, kv0, e, ro, h1⟩ => ⟨d, e, .inl ⟨kv0, .inl (ro H1 a1)⟩, h1 H1 _ a1 fun y A2 H2 a2 ⟨kvs, k, v, B, pl, ky, hv, c⟩ => ⟨kvs, k, v, (pl.has a2).at, ky, hv, p _ _ _ (pl.has a2).set c⟩⟩
end

/-! ### methods of lists -/
section
variable {to : TE} {t : TA} {r : V → List V → Hp → VK → Prop} {T : String}
def TyA (K : PySem.W.Frag) (T : String) (x : V) (A : SH) : Prop := ∀ H, Has H A → tyV K T x H
theorem ty_list (h : RL K A p xs) : TyA K "list" (.ref p) A := fun H a => .inl ⟨rfl, xs, h H a⟩
theorem ty_str {z : Str} : TyA K "str" (.str z) A := fun H a => rfl
theorem ty_dict {kvs : List (L2.Key × V)} (h : RO A p (.dK kvs)) : TyA K "dict" (.ref p) A := fun H a => .inr (.inr (.inl ⟨rfl, .inl ⟨kvs, h H a⟩⟩))
theorem ge_bm (h : GE to σ A fun x A1 => TyA K T x A1 ∧ GA t σ A1 fun vs A2 => GM r x vs A2 Φ) : GE (tBM K T r to t) σ A Φ := fun H Q a p =>
  h H _ a fun x A1 H1 a1 ⟨ty, h1⟩ => ⟨ty H1 a1, h1 H1 _ a1 fun vs A2 H2 a2 h2 => h2 H2 Q a2 p⟩
theorem ge_bm0 (h : GE to σ A fun x A1 => TyA K T x A1 ∧ GM r x [] A1 Φ) : GE (tBM0 K T r to) σ A Φ := fun H Q a p =>
  h H _ a fun x A1 H1 a1 ⟨ty, h1⟩ => ⟨ty H1 a1, h1 H1 Q a1 p⟩
theorem gm_append (pl : Pull A (sg p (.lst xs)) B) (hl : xs.length < sizeLine) (k : Φ .non (sg p (.lst (xs ++ [y])) :: B)) : GM rAppend (.ref p) [y] A Φ := fun H Q a ps =>
  ⟨p, xs, y, rfl, rfl, (pl.has a).at, hl, ps _ _ _ (pl.has a).set k⟩
theorem gm_pop (pl : Pull A (sg p (.lst xs)) B) (hy : xs[xs.length - 1]? = some y) (k : Φ y (sg p (.lst xs.dropLast) :: B)) : GM rPop (.ref p) [] A Φ := fun H Q a ps =>
  ⟨p, xs, y, rfl, rfl, (pl.has a).at, hy, ps _ _ _ (pl.has a).set k⟩
theorem gm_popAt {n : Nat} (pl : Pull A (sg p (.lst xs)) B) (h1 : -(2 ^ 63) ≤ i) (h2 : i < 2 ^ 63) (hi : seqIndex? i xs.length = some n) (hy : xs[n]? = some y) (k : Φ y (sg p (.lst (xs.eraseIdx n)) :: B)) : GM rPopAt (.ref p) [.int i] A Φ := fun H Q a ps =>
  ⟨p, xs, i, n, y, rfl, rfl, (pl.has a).at, h1, h2, hi, hy, ps _ _ _ (pl.has a).set k⟩
theorem gm_clear (pl : Pull A (sg p (.lst xs)) B) (k : Φ .non (sg p (.lst []) :: B)) : GM rClear (.ref p) [] A Φ := fun H Q a ps => ⟨p, xs, rfl, rfl, (pl.has a).at, ps _ _ _ (pl.has a).set k⟩
theorem gm_reverse (pl : Pull A (sg p (.lst xs)) B) (k : Φ .non (sg p (.lst xs.reverse) :: B)) : GM rReverse (.ref p) [] A Φ := fun H Q a ps => ⟨p, xs, rfl, rfl, (pl.has a).at, ps _ _ _ (pl.has a).set k⟩
theorem gm_extend (pl : Pull A (sg p (.lst xs)) B) (r : RO A q (.lst ys)) (hl : xs.length + ys.length ≤ sizeLine) (k : Φ .non (sg p (.lst (xs ++ ys)) :: B)) : GM rExtend (.ref p) [.ref q] A Φ := fun H Q a ps =>
  ⟨p, q, xs, ys, rfl, rfl, (pl.has a).at, r H a, hl, ps _ _ _ (pl.has a).set k⟩
theorem gm_index {n : Nat} {z : V} (r : RL K A p ys) (f : flatV y = true) (fs : ys.all flatV = true) (hz : ys[n]? = some z) (he : eqV z y = true) (hn : ∀ (m : Nat) (z' : V), m < n → ys[m]? = some z' → eqV z' y = false) (k : Φ (.int (n : Nat)) A) : GM (rIndex K) (.ref p) [y] A Φ := fun H Q a ps =>
  ⟨p, ys, y, n, z, rfl, rfl, r H a, f, fs, hz, he, hn, ps _ A H a k⟩
def rInsert : V → List V → Hp → VK → Prop := fun x vs H Q => ∃ (l : Addr) (xs : List V) (i : Int) (y : V), x = .ref l ∧ vs = [.int i, y] ∧ H l = some (.lst xs) ∧ xs.length < sizeLine ∧ 0 ≤ i ∧ i < 2 ^ 63 ∧ Q .non (upd H l (.lst (xs.take i.toNat ++ [y] ++ xs.drop i.toNat)))
theorem gm_insert (pl : Pull A (sg p (.lst xs)) B) (hl : xs.length < sizeLine) (h0 : 0 ≤ i) (h1 : i < 2 ^ 63) (k : Φ .non (sg p (.lst (xs.take i.toNat ++ [y] ++ xs.drop i.toNat)) :: B)) : GM rInsert (.ref p) [.int i, y] A Φ := fun H Q a ps =>
  ⟨p, xs, i, y, rfl, rfl, (pl.has a).at, hl, h0, h1, ps _ _ _ (pl.has a).set k⟩
end

/-! ### built-in functions -/
theorem ge_cb {r : List V → Hp → VK → Prop} {t : TA} (h : GA t σ A fun vs A1 => GC r vs A1 Φ) : GE (tCB r t) σ A Φ := fun H Q a p => h H _ a fun vs A1 H1 a1 h1 => h1 H1 Q a1 p
def cLen (K : PySem.W.Frag) : List V → Hp → VK → Prop := fun xs H Q => (∃ x n, xs = [x] ∧ LenV K x H n ∧ Q (.int n) H) ∨ ∃ a kvs, xs = [V.ref a] ∧ H a = some (.dK kvs) ∧ Q (.int kvs.length) H
theorem call_cLen {X : Cx} : CallR X (.builtin "len") (cLen X.K) := CallR.or call_len call_lenD
theorem gc_lenL (r : RL K A p xs) (k : Φ (.int (xs.length : Nat)) A) : GC (cLen K) [.ref p] A Φ := fun H Q a ps => .inl ⟨_, _, rfl, .inl ⟨xs, r H a, rfl⟩, ps _ A H a k⟩
theorem gc_lenT (r : RT K A p xs) (k : Φ (.int (xs.length : Nat)) A) : GC (cLen K) [.ref p] A Φ := fun H Q a ps => .inl ⟨_, _, rfl, .inr ⟨xs, r H a, rfl⟩, ps _ A H a k⟩
theorem gc_lenS {z : Str} (l : z.length ≤ sizeLine) (k : Φ (.int (z.length : Nat)) A) : GC (cLen K) [.str z] A Φ := fun H Q a ps => .inl ⟨_, _, rfl, ⟨l, rfl⟩, ps _ A H a k⟩
theorem gc_lenD {kvs : List (L2.Key × V)} (r : RO A p (.dK kvs)) (k : Φ (.int (kvs.length : Nat)) A) : GC (cLen K) [.ref p] A Φ := fun H Q a ps => .inr ⟨p, kvs, rfl, r H a, ps _ A H a k⟩
def cMin2 : List V → Hp → VK → Prop := fun xs H Q => ∃ i j, xs = [.int i, .int j] ∧ Q (.int (if j < i then j else i)) H
def cMax2 : List V → Hp → VK → Prop := fun xs H Q => ∃ i j, xs = [.int i, .int j] ∧ Q (.int (if j > i then j else i)) H
theorem call_cMin2 {X : Cx} (hc : X.calm = true) : CallR X (.builtin "min") cMin2 := call_min2 hc
theorem call_cMax2 {X : Cx} (hc : X.calm = true) : CallR X (.builtin "max") cMax2 := call_max2 hc
theorem gc_min2 (k : Φ (.int (min i j)) A) : GC cMin2 [.int i, .int j] A Φ := fun H Q a ps => ⟨i, j, rfl, by
  have e : (if j < i then j else i) = min i j := by omega
  rw [e]; exact ps _ A H a k⟩
theorem gc_max2 (k : Φ (.int (max i j)) A) : GC cMax2 [.int i, .int j] A Φ := fun H Q a ps => ⟨i, j, rfl, by
  have e : (if j > i then j else i) = max i j := by omega
  rw [e]; exact ps _ A H a k⟩
def cList (K : PySem.W.Frag) : List V → Hp → VK → Prop := fun xs H Q => (∃ p ys, xs = [.ref p] ∧ (SqL K H p ys ∨ SqT K H p ys) ∧ ∀ l, H l = none → Q (.ref l) (upd H l (.lst ys))) ∨
  ∃ (a : Addr) (kvs : List (L2.Key × V)), xs = [.ref a] ∧ Rd H a (.dK kvs) ∧ ∀ p, H p = none → Q (.ref p) (upd H p (.lst (kvs.map fun kv => kV kv.1)))
theorem call_cList {X : Cx} (hc : X.calm = true) : CallR X (.type "list") (cList X.K) := CallR.or call_list_of (call_listD hc)
theorem gc_listL (r : RL K A p xs) (k : ∀ q, Φ (.ref q) (sg q (.lst xs) :: A)) : GC (cList K) [.ref p] A Φ := fun H Q a ps => .inl ⟨p, xs, rfl, .inl (r H a), fun l hl => ps _ _ _ (a.new hl) (k l)⟩
theorem gc_listT (r : RT K A p xs) (k : ∀ q, Φ (.ref q) (sg q (.lst xs) :: A)) : GC (cList K) [.ref p] A Φ := fun H Q a ps => .inl ⟨p, xs, rfl, .inr (r H a), fun l hl => ps _ _ _ (a.new hl) (k l)⟩
theorem gc_listD {kvs : List (L2.Key × V)} (r : RD A p kvs) (k : ∀ q, Φ (.ref q) (sg q (.lst (kvs.map fun kv => kV kv.1)) :: A)) : GC (cList K) [.ref p] A Φ := fun H Q a ps => .inr ⟨p, kvs, rfl, r H a, fun l hl => ps _ _ _ (a.new hl) (k l)⟩
theorem gc_sum {ns : List Int} (r : RL K A p (ns.map V.int)) (k : Φ (.int ns.sum) A) : GC (rSum K) [.ref p] A Φ := fun H Q a ps => ⟨p, ns, rfl, r H a, ps _ A H a k⟩
theorem gc_all {bs : List Bool} (r : RL K A p (bs.map V.bl)) (k : Φ (.bl (bs.all id)) A) : GC (rAll K) [.ref p] A Φ := fun H Q a ps => ⟨p, bs, rfl, r H a, ps _ A H a k⟩
/-! ### isinstance -/
def TyG (K : PySem.W.Frag) (A : SH) (x : V) (t : Value) : Prop := ∀ H, Has H A → TyX K H x t
theorem gc_isi {c : V} {t u : Value} {b : Bool} (hc : ClsV c u) (ty : TyG K A x t) (e : PySem.W.kitOne K t u = some b) (k : Φ (.bl b) A) : GC (rIsi K) [x, c] A Φ := fun H Q a ps => ⟨x, c, t, u, b, rfl, hc, ty H a, e, ps _ A H a k⟩
theorem gc_isiT {tp : Addr} {cs : List V} {t : Value} {us : List Value} {b : Bool} (r : RO A tp (.tup cs)) (hc : Paired ClsV cs us) (ty : TyG K A x t) (e : PySem.W.kitAny K t us = some b) (k : Φ (.bl b) A) : GC (rIsiT K) [x, .ref tp] A Φ := fun H Q a ps =>
  ⟨x, tp, cs, t, us, b, rfl, r H a, hc, ty H a, e, ps _ A H a k⟩
theorem ty_non : TyG K A .non (.type "NoneType") := fun _ _ => .base .non
theorem ty_bl {b : Bool} : TyG K A (.bl b) (.type "bool") := fun _ _ => .base (.bl b)
theorem ty_int : TyG K A (.int i) (.type "int") := fun _ _ => .base (.int i)
theorem ty_strT {z : Str} : TyG K A (.str z) (.type "str") := fun _ _ => .base (.str z)
theorem ty_lst (r : RO A p (.lst xs)) : TyG K A (.ref p) (.type "list") := fun H a => .base (.lst (r H a))
theorem ty_tup (r : RO A p (.tup xs)) : TyG K A (.ref p) (.type "tuple") := fun H a => .base (.tup (r H a))
theorem ty_dK {kvs : List (L2.Key × V)} (r : RO A p (.dK kvs)) : TyG K A (.ref p) (.type "dict") := fun H a => .base (.dK (r H a))
/-- what isinstance asks of an own class -/
structure InsO (K : PySem.W.Frag) (C : Addr) : Prop where
  c : Cls K C
  a : PySem.W.findIn K (Value.ref C) (Str.ofString "__class__") = some (some (Value.builtin "object.__class__"))
  n : PySem.W.specialIn K (Value.builtin "object.__class__") (Str.ofString "__get__") = some (some (Value.builtin "getset_descriptor.__get__"))
  t : PySem.W.takesIn K (Value.builtin "object.__class__") = some true
  m : PySem.W.mroIn K C (Value.type "object") = some true
theorem ty_ins {C dx : Addr} {fs : List (Str × V)} (o : InsO K C) (r : RO A p (.ins C dx fs)) : TyG K A (.ref p) (.ref C) := fun H a => .base (.ins (r H a) o.c o.a o.n o.t o.m)
/-! ### fields -/
def FOk (K : PySem.W.Frag) (C : Addr) (f : Str) : Prop := Cls K C ∧ NoAttr K C f
theorem ge_fld {te : TE} {f : Str} (h : GE te σ A fun x A1 => ∃ a C dx fs v, x = .ref a ∧ RO A1 a (.ins C dx fs) ∧ FOk K C f ∧ fs.lookup f = some v ∧ Φ v A1) : GE (tFld K te f) σ A Φ := fun H Q a p =>
  h H _ a fun x A1 H1 a1 ⟨b, C, dx, fs, v, e, r, c, l, k⟩ => ⟨b, C, dx, fs, v, e, r H1 a1, c.1, c.2, l, p _ A1 H1 a1 k⟩
theorem gs_fld {ta tv : TE} {f : Str} {nx : L2.St → SH → Prop} {rt : V → SH → Prop} {bk ct : L2.St → SH → Prop} (h : GE tv σ A fun y A1 => GE ta σ A1 fun x A2 => ∃ a C dx fs B, x = .ref a ∧ Pull A2 (sg a (.ins C dx fs)) B ∧ FOk K C f ∧ fs.length < 1000 ∧ nx σ (sg a (.ins C dx (putF f y fs)) :: B)) : GS (sFld K ta tv f) ⟨nx, rt, bk, ct⟩ σ A := fun H E a im =>
  h H _ a fun y A1 H1 a1 h1 => h1 H1 _ a1 fun x A2 H2 a2 ⟨b, C, dx, fs, B, e, pl, c, l, k⟩ => ⟨b, C, dx, fs, e, (pl.has a2).at, c.1, c.2, l, im.nx _ _ _ (pl.has a2).set k⟩
theorem gs_fldaug {ta tv : TE} {f : Str} {nx : L2.St → SH → Prop} {rt : V → SH → Prop} {bk ct : L2.St → SH → Prop} {rd : V → V → Hp → VK → Prop} (h : GE ta σ A fun x A1 => ∃ a C dx fs v, x = .ref a ∧ RO A1 a (.ins C dx fs) ∧ FOk K C f ∧ fs.lookup f = some v ∧ GE tv σ A1 fun y A2 => GR rd v y A2 fun z A3 =>
    ∃ dx fs B, Pull A3 (sg a (.ins C dx fs)) B ∧ fs.length < 1000 ∧ nx σ (sg a (.ins C dx (putF f z fs)) :: B)) : GS (sFldAug K ta tv rd f) ⟨nx, rt, bk, ct⟩ σ A := fun H E a im =>
  h H _ a fun x A1 H1 a1 ⟨b, C, dx, fs, v, e, r, c, l, h1⟩ => ⟨b, C, dx, fs, v, e, r H1 a1, c.1, c.2, l, h1 H1 _ a1 fun y A2 H2 a2 h2 => h2 H2 _ a2 fun z A3 H3 a3 ⟨dx', fs', B, pl, l', k⟩ =>
    ⟨dx', fs', (pl.has a3).at, l', im.nx _ _ _ (pl.has a3).set k⟩⟩
theorem gs_aug {nx : L2.St → SH → Prop} {rt : V → SH → Prop} {bk ct : L2.St → SH → Prop} {n : Nat} {te : TE} {ti : TIp} (hg : Get1 σ n x) (h : GE te σ A fun y A1 => GR ti x y A1 fun z A2 => GG (gName n) z σ A2 nx) : GS (tAug n te ti) ⟨nx, rt, bk, ct⟩ σ A := fun H E a im =>
  ⟨x, hg, h H _ a fun y A1 H1 a1 h1 => h1 H1 _ a1 fun z A2 H2 a2 h2 => h2 H2 _ a2 im.nx⟩
theorem gr_ipI {f : Int → Int → Int} (k : Φ (.int (f i j)) A) : GR (ipI f) (.int i) (.int j) A Φ := fun H Q a p => ⟨i, j, rfl, rfl, p _ A H a k⟩
/-- the truth of a value as a test -/
def tTru (K : PySem.W.Frag) (ta : TE) : TT := fun σ H Q => ta σ H fun x H' => ∃ k, TruV K x H' k ∧ Q k H'
theorem gs_never {nx : L2.St → SH → Prop} {rt : V → SH → Prop} {bk ct : L2.St → SH → Prop} (h : False) : GS tNever ⟨nx, rt, bk, ct⟩ σ A := h.elim

/-! ### comprehensions -/
def GLC (J : It) (g : TG) (tt : TT) (te : TE) (vs : List Nat) (σ : L2.St) (A : SH) (Φ : V → SH → Prop) : Prop := ∀ H1 Q, Has H1 A → Post Φ Q → ∀ D, H1 D = none → ∃ W : Nat → Nat → Hp → Prop, (∃ m, W 0 m (upd H1 D (.lst []))) ∧ ∀ i m H, W i m H →
  (J.stop i H ∧ Q (.ref D) H) ∨ (J.go i H ∧ ∃ Nx : Hp → Prop, (∀ H', Nx H' → ∃ m', m' < m ∧ W (i + 1) m' H') ∧ ∀ x H', J.yld i H x H' → g x (wipe σ vs) H' fun σ2 H2 => wipe σ2 vs = wipe σ vs ∧ tt σ2 H2 fun b H3 =>
    if b = true then te σ2 H3 fun y H4 => ∃ acc, H4 D = some (.lst acc) ∧ acc.length < sizeLine ∧ Nx (upd H4 D (.lst (acc ++ [y]))) else Nx H3)
theorem ge_lc {wi : TI} {g : TG} {tt : TT} {te : TE} {vs : List Nat} (h : GI wi σ A fun J A1 => GLC J g tt te vs σ A1 Φ) : GE (tLc wi g tt te vs) σ A Φ := fun H Q a p => h H _ a fun J A1 H1 a1 h1 => h1 H1 Q a1 p
theorem gt_yes {Ψ : Bool → SH → Prop} (k : Ψ true A) : GT tYes σ A Ψ := fun H Q a p => p true A H a k
/-- behind a turn: the new list still holds acc, the rest is as wanted for acc' -/
def CT (N : List V → SH → Prop) (D : Addr) (acc acc' : List V) : SH → Prop := fun A => ∀ H, Has H A → ∃ B, Has H (sg D (.lst acc) :: B) ∧ N acc' B
theorem CT.pull {N : List V → SH → Prop} {D : Addr} {acc acc' : List V} (p : Pull A (sg D (.lst acc)) B) (n : N acc' B) : CT N D acc acc' A := fun H h => ⟨B, p.has h, n⟩
theorem CT.le {N : List V → SH → Prop} {D : Addr} {acc acc' : List V} (l : Le (sg D (.lst acc) :: B) A) (n : N acc' B) : CT N D acc acc' A := fun H h => ⟨B, l H h, n⟩
theorem CT.blk {N : List V → SH → Prop} {D : Addr} {acc acc' : List V} {xs : SH} (l : Le (xs ++ sg D (.lst acc) :: B) A) (n : ∀ h, (∀ y ∈ xs, Sub y h) → N acc' (h :: B)) : CT N D acc acc' A := fun H hA => by
  obtain ⟨h, a, s, _⟩ := S.blk (l H hA)
  exact ⟨h :: B, Pull.has (.tail .head) a, n h s⟩
/-- one turn -/
def Turn1 (g : TG) (tt : TT) (te : TE) (vs : List Nat) (σw : L2.St) (D : Addr) (acc : List V) (x : V) (A : SH) (N : List V → SH → Prop) : Prop :=
  GG g x σw (sg D (.lst acc) :: A) fun σ2 A2 => Wi σ2 vs σw ∧ GT tt σ2 A2 fun b A3 => (b = true → GE te σ2 A3 fun y => CT N D acc (acc ++ [y])) ∧ (b = false → CT N D acc acc A3)
theorem turn1_run {g : TG} {tt : TT} {te : TE} {vs : List Nat} {σw : L2.St} {D : Addr} {acc : List V} {x : V} {N : List V → SH → Prop} {Nx : Hp → Prop} {H : Hp} (hz : acc.length < sizeLine) (h : Turn1 g tt te vs σw D acc x A N) (a : Has H (sg D (.lst acc) :: A))
    (hN : ∀ acc' A' H', acc'.length ≤ acc.length + 1 → Has H' (sg D (.lst acc') :: A') → N acc' A' → Nx H') : g x σw H fun σ2 H2 => wipe σ2 vs = σw ∧ tt σ2 H2 fun b H3 =>
      if b = true then te σ2 H3 fun y H4 => ∃ acc, H4 D = some (.lst acc) ∧ acc.length < sizeLine ∧ Nx (upd H4 D (.lst (acc ++ [y]))) else Nx H3 := by
  refine h H _ a fun σ2 A2 H2 a2 ⟨hw, h2⟩ => ⟨hw, h2 H2 _ a2 fun b A3 H3 a3 h3 => ?_⟩
  cases b with
  | true =>
    rw [if_pos rfl]
    exact h3.1 rfl H3 _ a3 fun y A4 H4 a4 c => by
      obtain ⟨A5, b, n⟩ := c H4 a4
      exact ⟨acc, b.at, hz, hN _ A5 _ (by simp) b.set n⟩
  | false =>
    rw [if_neg Bool.false_ne_true]
    obtain ⟨A5, b, n⟩ := h3.2 rfl H3 a3
    exact hN _ A5 H3 (Nat.le_succ _) b n
theorem glc_list {g : TG} {tt : TT} {te : TE} {vs : List Nat} {σw : L2.St} (Pv : Nat → List V → SH → Prop) (hw : Wi σ vs σw) (h0 : Pv 0 [] A) (hz : xs.length < sizeLine) (hl : ∀ i acc A, i ≤ xs.length → Pv i acc A → RL K A p xs)
    (hs : ∀ i x acc A D, xs[i]? = some x → acc.length ≤ i → Pv i acc A → Turn1 g tt te vs σw D acc x A (Pv (i + 1))) (hd : ∀ acc A D, acc.length ≤ xs.length → Pv xs.length acc A → Φ (.ref D) (sg D (.lst acc) :: A)) : GLC (Itl K p) g tt te vs σ A Φ := by
  intro H1 Q a ps D hD
  have e : wipe σ vs = σw := hw
  refine lc_list (K := K) (a := p) (xs := xs) (Qd := fun H => Q (.ref D) H) (fun i H => ∃ acc A, Has H (sg D (.lst acc) :: A) ∧ acc.length ≤ i ∧ Pv i acc A) ⟨[], A, a.new hD, Nat.le_refl _, h0⟩ (fun i H hi ⟨acc, A, x, _, q⟩ => hl i acc A hi q H x.tail) ?_ ?_
  · rintro i x H hx ⟨acc, A, hA, hk, q⟩
    have hi := (List.getElem?_eq_some_iff.mp hx).1
    rw [e]
    exact turn1_run (by omega) (hs i x acc A D hx hk q) hA fun acc' A' H' hk' a' n => ⟨acc', A', a', by omega, n⟩
  · rintro H ⟨acc, A, hA, hk, q⟩
    exact ps _ _ _ hA (hd acc A D hk q)
theorem glc_tup {g : TG} {tt : TT} {te : TE} {vs : List Nat} {σw : L2.St} (Pv : Nat → List V → SH → Prop) (hw : Wi σ vs σw) (h0 : Pv 0 [] A) (hz : xs.length < sizeLine) (hl : ∀ i acc A, i ≤ xs.length → Pv i acc A → RT K A p xs)
    (hs : ∀ i x acc A D, xs[i]? = some x → acc.length ≤ i → Pv i acc A → Turn1 g tt te vs σw D acc x A (Pv (i + 1))) (hd : ∀ acc A D, acc.length ≤ xs.length → Pv xs.length acc A → Φ (.ref D) (sg D (.lst acc) :: A)) : GLC (Itt K p) g tt te vs σ A Φ := by
  intro H1 Q a ps D hD
  have e : wipe σ vs = σw := hw
  refine lc_tup (K := K) (a := p) (xs := xs) (Qd := fun H => Q (.ref D) H) (fun i H => ∃ acc A, Has H (sg D (.lst acc) :: A) ∧ acc.length ≤ i ∧ Pv i acc A) ⟨[], A, a.new hD, Nat.le_refl _, h0⟩ (fun i H hi ⟨acc, A, x, _, q⟩ => hl i acc A hi q H x.tail) ?_ ?_
  · rintro i x H hx ⟨acc, A, hA, hk, q⟩
    have hi := (List.getElem?_eq_some_iff.mp hx).1
    rw [e]
    exact turn1_run (by omega) (hs i x acc A D hx hk q) hA fun acc' A' H' hk' a' n => ⟨acc', A', a', by omega, n⟩
  · rintro H ⟨acc, A, hA, hk, q⟩
    exact ps _ _ _ hA (hd acc A D hk q)
theorem glc_range {lo : Int} {n : Nat} {g : TG} {tt : TT} {te : TE} {vs : List Nat} {σw : L2.St} (Pv : Nat → List V → SH → Prop) (hw : Wi σ vs σw) (h0 : Pv 0 [] A) (hz : n < sizeLine)
    (hs : ∀ i acc A D, i < n → acc.length ≤ i → Pv i acc A → Turn1 g tt te vs σw D acc (.int (lo + i)) A (Pv (i + 1))) (hd : ∀ acc A D, acc.length ≤ n → Pv n acc A → Φ (.ref D) (sg D (.lst acc) :: A)) : GLC (Itr lo n) g tt te vs σ A Φ := by
  intro H1 Q a ps D hD
  have e : wipe σ vs = σw := hw
  refine lc_range (lo := lo) (n := n) (Qd := fun H => Q (.ref D) H) (fun i H => ∃ acc A, Has H (sg D (.lst acc) :: A) ∧ acc.length ≤ i ∧ Pv i acc A) ⟨[], A, a.new hD, Nat.le_refl _, h0⟩ ?_ ?_
  · rintro i H hi ⟨acc, A, hA, hk, q⟩
    rw [e]
    exact turn1_run (by omega) (hs i acc A D hi hk q) hA fun acc' A' H' hk' a' n => ⟨acc', A', a', by omega, n⟩
  · rintro H ⟨acc, A, hA, hk, q⟩
    exact ps _ _ _ hA (hd acc A D hk q)
end
end S

namespace S
open PySem L2
section
variable {X : Cx}
/-- a constant of the module -/
theorem pe_gl {x : Str} {v : V} {pos : Pos} (h : ∃ u, X.mg x = some u ∧ RelV v u) (hg : Gl X x := by rfl) (hd : (x == ("__debug__" : Str)) = false := by decide) : PE X (.Name x pos) (tC v) := by
  obtain ⟨u, h1, h2⟩ := h
  exact pe_glob hg h1 h2 hd
/-- what the top has written of an own exception class without an __init__ -/
structure XOk (K : PySem.W.Frag) (mg : Str → Option Value) (x : Str) (C : Addr) : Prop where
  g : mg x = some (.ref C)
  x : PySem.W.excIn K C [.type "ValueError", .type "Exception", .type "BaseException", .type "object"] "ValueError.__new__" = true
  k : PySem.W.keepIn K (.ref C) = true
  b : PySem.W.subIn K (.ref C) (.type "BaseException") = some true
  t : PySem.W.typeIn K (.ref C) = some (.type "type")
def tRais (C : Addr) (W : WX) : TS := fun _ σ H => W (.ref C) none σ H
theorem ps_rais {C : Addr} {W : WX} {x m : Str} {j : Nat} {p p2 pos pos2 : Pos} (hc : X.calm = true) (tk : Takes X W) (x0 : XOk X.K X.mg x C) (hg : Gl X x) (hd : (x == ("__debug__" : Str)) = false := by decide) :
    PS X (.Raise (some (.Call (.Name x p) [.Constant (.str m) j p2] [] pos)) none pos2) (tRais C W) :=
  ps_raise hc tk (pmk_own PySem.F.excBase_ValueError x0.x x0.g x0.k (raises_own x0.b x0.t) hg hd)
end
theorem gs_rais {C : Addr} {W : WX} {Ψ : Value → Option Addr → L2.St → SH → Prop} {nx : L2.St → SH → Prop} {rt : V → SH → Prop} {bk ct : L2.St → SH → Prop} {σ : L2.St} {A : SH} (hx : WPost Ψ W) (k : Ψ (.ref C) none σ A) : GS (tRais C W) ⟨nx, rt, bk, ct⟩ σ A := fun H E a im => hx _ _ σ A H a k
/-! ### for over a text -/
theorem gi_str {σ : L2.St} {A : SH} {te : TE} {Φ : It → SH → Prop} (h : GE te σ A fun v A' => ∃ x, v = .str x ∧ Φ (Its x) A') : GI (iStr te) σ A Φ := fun H Q x p =>
  h H _ x fun v A' H' x' ⟨z, e, k⟩ => ⟨z, e, p _ A' H' x' k⟩
theorem gf_str {z : Str} {g : TG} {t : TS} {nx : L2.St → SH → Prop} {rt : V → SH → Prop} {bk ct : L2.St → SH → Prop} {σ : L2.St} {A : SH} (Pv : Nat → L2.St → SH → Prop) (h0 : Cl (Pv 0) σ A)
    (hs : ∀ i c σ A, z.cps[i]? = some c → Pv i σ A → GG g (.str ⟨#[c]⟩) σ A fun σ' A' => GS t ⟨Cl (Pv (i + 1)), rt, nx, Cl (Pv (i + 1))⟩ σ' A')
    (hd : ∀ σ A, Pv z.cps.size σ A → nx σ A) : GF (Its z) g t ⟨nx, rt, bk, ct⟩ σ A := fun H E x im => by
  refine ⟨fun i m σ H => m = z.cps.size - i ∧ i ≤ z.cps.size ∧ ∃ A, Has H A ∧ Pv i σ A, ⟨z.cps.size, by simp, Nat.zero_le _, h0 H x⟩, ?_⟩
  rintro i m σ H ⟨rfl, hi, A, x, p⟩
  by_cases hlt : i < z.cps.size
  · refine .inr ⟨hlt, fun σ' H' => ∃ A, Has H' A ∧ Pv (i + 1) σ' A, fun σ' H' p' => ⟨z.cps.size - (i + 1), by omega, rfl, hlt, p'⟩, fun y H' yl => ?_⟩
    obtain ⟨rfl, c, hc, rfl⟩ := yl
    exact hs i c σ A hc p _ _ x fun σ' A' H' x' k => k H' _ x' ⟨fun σ A H x p => p H x, im.rt, im.nx, fun σ A H x p => p H x⟩
  · have e : i = z.cps.size := by omega
    subst e
    exact .inl ⟨Nat.le_refl _, im.nx σ A H x (hd σ A p)⟩
end S

namespace S
open PySem L2
/-! ### slots by their numbers -/
theorem gx0 {v : V} {r : L2.St} : Get1 (some v :: r) 0 v := rfl
theorem sx0 {x o : Option V} {r : L2.St} : Set1 (x :: r) 0 o (o :: r) := rfl
theorem gx1 {x0 : Option V} {v : V} {r : L2.St} : Get1 (x0 :: some v :: r) 1 v := rfl
theorem sx1 {x0 : Option V} {x o : Option V} {r : L2.St} : Set1 (x0 :: x :: r) 1 o (x0 :: o :: r) := rfl
theorem gx2 {x0 x1 : Option V} {v : V} {r : L2.St} : Get1 (x0 :: x1 :: some v :: r) 2 v := rfl
theorem sx2 {x0 x1 : Option V} {x o : Option V} {r : L2.St} : Set1 (x0 :: x1 :: x :: r) 2 o (x0 :: x1 :: o :: r) := rfl
theorem gx3 {x0 x1 x2 : Option V} {v : V} {r : L2.St} : Get1 (x0 :: x1 :: x2 :: some v :: r) 3 v := rfl
theorem sx3 {x0 x1 x2 : Option V} {x o : Option V} {r : L2.St} : Set1 (x0 :: x1 :: x2 :: x :: r) 3 o (x0 :: x1 :: x2 :: o :: r) := rfl
theorem gx4 {x0 x1 x2 x3 : Option V} {v : V} {r : L2.St} : Get1 (x0 :: x1 :: x2 :: x3 :: some v :: r) 4 v := rfl
theorem sx4 {x0 x1 x2 x3 : Option V} {x o : Option V} {r : L2.St} : Set1 (x0 :: x1 :: x2 :: x3 :: x :: r) 4 o (x0 :: x1 :: x2 :: x3 :: o :: r) := rfl
theorem gx5 {x0 x1 x2 x3 x4 : Option V} {v : V} {r : L2.St} : Get1 (x0 :: x1 :: x2 :: x3 :: x4 :: some v :: r) 5 v := rfl
theorem sx5 {x0 x1 x2 x3 x4 : Option V} {x o : Option V} {r : L2.St} : Set1 (x0 :: x1 :: x2 :: x3 :: x4 :: x :: r) 5 o (x0 :: x1 :: x2 :: x3 :: x4 :: o :: r) := rfl
theorem gx6 {x0 x1 x2 x3 x4 x5 : Option V} {v : V} {r : L2.St} : Get1 (x0 :: x1 :: x2 :: x3 :: x4 :: x5 :: some v :: r) 6 v := rfl
theorem sx6 {x0 x1 x2 x3 x4 x5 : Option V} {x o : Option V} {r : L2.St} : Set1 (x0 :: x1 :: x2 :: x3 :: x4 :: x5 :: x :: r) 6 o (x0 :: x1 :: x2 :: x3 :: x4 :: x5 :: o :: r) := rfl
theorem gx7 {x0 x1 x2 x3 x4 x5 x6 : Option V} {v : V} {r : L2.St} : Get1 (x0 :: x1 :: x2 :: x3 :: x4 :: x5 :: x6 :: some v :: r) 7 v := rfl
theorem sx7 {x0 x1 x2 x3 x4 x5 x6 : Option V} {x o : Option V} {r : L2.St} : Set1 (x0 :: x1 :: x2 :: x3 :: x4 :: x5 :: x6 :: x :: r) 7 o (x0 :: x1 :: x2 :: x3 :: x4 :: x5 :: x6 :: o :: r) := rfl
theorem gx8 {x0 x1 x2 x3 x4 x5 x6 x7 : Option V} {v : V} {r : L2.St} : Get1 (x0 :: x1 :: x2 :: x3 :: x4 :: x5 :: x6 :: x7 :: some v :: r) 8 v := rfl
theorem sx8 {x0 x1 x2 x3 x4 x5 x6 x7 : Option V} {x o : Option V} {r : L2.St} : Set1 (x0 :: x1 :: x2 :: x3 :: x4 :: x5 :: x6 :: x7 :: x :: r) 8 o (x0 :: x1 :: x2 :: x3 :: x4 :: x5 :: x6 :: x7 :: o :: r) := rfl
theorem gx9 {x0 x1 x2 x3 x4 x5 x6 x7 x8 : Option V} {v : V} {r : L2.St} : Get1 (x0 :: x1 :: x2 :: x3 :: x4 :: x5 :: x6 :: x7 :: x8 :: some v :: r) 9 v := rfl
theorem sx9 {x0 x1 x2 x3 x4 x5 x6 x7 x8 : Option V} {x o : Option V} {r : L2.St} : Set1 (x0 :: x1 :: x2 :: x3 :: x4 :: x5 :: x6 :: x7 :: x8 :: x :: r) 9 o (x0 :: x1 :: x2 :: x3 :: x4 :: x5 :: x6 :: x7 :: x8 :: o :: r) := rfl
theorem gx10 {x0 x1 x2 x3 x4 x5 x6 x7 x8 x9 : Option V} {v : V} {r : L2.St} : Get1 (x0 :: x1 :: x2 :: x3 :: x4 :: x5 :: x6 :: x7 :: x8 :: x9 :: some v :: r) 10 v := rfl
theorem sx10 {x0 x1 x2 x3 x4 x5 x6 x7 x8 x9 : Option V} {x o : Option V} {r : L2.St} : Set1 (x0 :: x1 :: x2 :: x3 :: x4 :: x5 :: x6 :: x7 :: x8 :: x9 :: x :: r) 10 o (x0 :: x1 :: x2 :: x3 :: x4 :: x5 :: x6 :: x7 :: x8 :: x9 :: o :: r) := rfl
theorem gx11 {x0 x1 x2 x3 x4 x5 x6 x7 x8 x9 x10 : Option V} {v : V} {r : L2.St} : Get1 (x0 :: x1 :: x2 :: x3 :: x4 :: x5 :: x6 :: x7 :: x8 :: x9 :: x10 :: some v :: r) 11 v := rfl
theorem sx11 {x0 x1 x2 x3 x4 x5 x6 x7 x8 x9 x10 : Option V} {x o : Option V} {r : L2.St} : Set1 (x0 :: x1 :: x2 :: x3 :: x4 :: x5 :: x6 :: x7 :: x8 :: x9 :: x10 :: x :: r) 11 o (x0 :: x1 :: x2 :: x3 :: x4 :: x5 :: x6 :: x7 :: x8 :: x9 :: x10 :: o :: r) := rfl
theorem gx12 {x0 x1 x2 x3 x4 x5 x6 x7 x8 x9 x10 x11 : Option V} {v : V} {r : L2.St} : Get1 (x0 :: x1 :: x2 :: x3 :: x4 :: x5 :: x6 :: x7 :: x8 :: x9 :: x10 :: x11 :: some v :: r) 12 v := rfl
theorem sx12 {x0 x1 x2 x3 x4 x5 x6 x7 x8 x9 x10 x11 : Option V} {x o : Option V} {r : L2.St} : Set1 (x0 :: x1 :: x2 :: x3 :: x4 :: x5 :: x6 :: x7 :: x8 :: x9 :: x10 :: x11 :: x :: r) 12 o (x0 :: x1 :: x2 :: x3 :: x4 :: x5 :: x6 :: x7 :: x8 :: x9 :: x10 :: x11 :: o :: r) := rfl
theorem gx13 {x0 x1 x2 x3 x4 x5 x6 x7 x8 x9 x10 x11 x12 : Option V} {v : V} {r : L2.St} : Get1 (x0 :: x1 :: x2 :: x3 :: x4 :: x5 :: x6 :: x7 :: x8 :: x9 :: x10 :: x11 :: x12 :: some v :: r) 13 v := rfl
theorem sx13 {x0 x1 x2 x3 x4 x5 x6 x7 x8 x9 x10 x11 x12 : Option V} {x o : Option V} {r : L2.St} : Set1 (x0 :: x1 :: x2 :: x3 :: x4 :: x5 :: x6 :: x7 :: x8 :: x9 :: x10 :: x11 :: x12 :: x :: r) 13 o (x0 :: x1 :: x2 :: x3 :: x4 :: x5 :: x6 :: x7 :: x8 :: x9 :: x10 :: x11 :: x12 :: o :: r) := rfl
theorem gx14 {x0 x1 x2 x3 x4 x5 x6 x7 x8 x9 x10 x11 x12 x13 : Option V} {v : V} {r : L2.St} : Get1 (x0 :: x1 :: x2 :: x3 :: x4 :: x5 :: x6 :: x7 :: x8 :: x9 :: x10 :: x11 :: x12 :: x13 :: some v :: r) 14 v := rfl
theorem sx14 {x0 x1 x2 x3 x4 x5 x6 x7 x8 x9 x10 x11 x12 x13 : Option V} {x o : Option V} {r : L2.St} : Set1 (x0 :: x1 :: x2 :: x3 :: x4 :: x5 :: x6 :: x7 :: x8 :: x9 :: x10 :: x11 :: x12 :: x13 :: x :: r) 14 o (x0 :: x1 :: x2 :: x3 :: x4 :: x5 :: x6 :: x7 :: x8 :: x9 :: x10 :: x11 :: x12 :: x13 :: o :: r) := rfl
theorem gx15 {x0 x1 x2 x3 x4 x5 x6 x7 x8 x9 x10 x11 x12 x13 x14 : Option V} {v : V} {r : L2.St} : Get1 (x0 :: x1 :: x2 :: x3 :: x4 :: x5 :: x6 :: x7 :: x8 :: x9 :: x10 :: x11 :: x12 :: x13 :: x14 :: some v :: r) 15 v := rfl
theorem sx15 {x0 x1 x2 x3 x4 x5 x6 x7 x8 x9 x10 x11 x12 x13 x14 : Option V} {x o : Option V} {r : L2.St} : Set1 (x0 :: x1 :: x2 :: x3 :: x4 :: x5 :: x6 :: x7 :: x8 :: x9 :: x10 :: x11 :: x12 :: x13 :: x14 :: x :: r) 15 o (x0 :: x1 :: x2 :: x3 :: x4 :: x5 :: x6 :: x7 :: x8 :: x9 :: x10 :: x11 :: x12 :: x13 :: x14 :: o :: r) := rfl
theorem gx16 {x0 x1 x2 x3 x4 x5 x6 x7 x8 x9 x10 x11 x12 x13 x14 x15 : Option V} {v : V} {r : L2.St} : Get1 (x0 :: x1 :: x2 :: x3 :: x4 :: x5 :: x6 :: x7 :: x8 :: x9 :: x10 :: x11 :: x12 :: x13 :: x14 :: x15 :: some v :: r) 16 v := rfl
theorem sx16 {x0 x1 x2 x3 x4 x5 x6 x7 x8 x9 x10 x11 x12 x13 x14 x15 : Option V} {x o : Option V} {r : L2.St} : Set1 (x0 :: x1 :: x2 :: x3 :: x4 :: x5 :: x6 :: x7 :: x8 :: x9 :: x10 :: x11 :: x12 :: x13 :: x14 :: x15 :: x :: r) 16 o (x0 :: x1 :: x2 :: x3 :: x4 :: x5 :: x6 :: x7 :: x8 :: x9 :: x10 :: x11 :: x12 :: x13 :: x14 :: x15 :: o :: r) := rfl
theorem gx17 {x0 x1 x2 x3 x4 x5 x6 x7 x8 x9 x10 x11 x12 x13 x14 x15 x16 : Option V} {v : V} {r : L2.St} : Get1 (x0 :: x1 :: x2 :: x3 :: x4 :: x5 :: x6 :: x7 :: x8 :: x9 :: x10 :: x11 :: x12 :: x13 :: x14 :: x15 :: x16 :: some v :: r) 17 v := rfl
theorem sx17 {x0 x1 x2 x3 x4 x5 x6 x7 x8 x9 x10 x11 x12 x13 x14 x15 x16 : Option V} {x o : Option V} {r : L2.St} : Set1 (x0 :: x1 :: x2 :: x3 :: x4 :: x5 :: x6 :: x7 :: x8 :: x9 :: x10 :: x11 :: x12 :: x13 :: x14 :: x15 :: x16 :: x :: r) 17 o (x0 :: x1 :: x2 :: x3 :: x4 :: x5 :: x6 :: x7 :: x8 :: x9 :: x10 :: x11 :: x12 :: x13 :: x14 :: x15 :: x16 :: o :: r) := rfl
theorem gx18 {x0 x1 x2 x3 x4 x5 x6 x7 x8 x9 x10 x11 x12 x13 x14 x15 x16 x17 : Option V} {v : V} {r : L2.St} : Get1 (x0 :: x1 :: x2 :: x3 :: x4 :: x5 :: x6 :: x7 :: x8 :: x9 :: x10 :: x11 :: x12 :: x13 :: x14 :: x15 :: x16 :: x17 :: some v :: r) 18 v := rfl
theorem sx18 {x0 x1 x2 x3 x4 x5 x6 x7 x8 x9 x10 x11 x12 x13 x14 x15 x16 x17 : Option V} {x o : Option V} {r : L2.St} : Set1 (x0 :: x1 :: x2 :: x3 :: x4 :: x5 :: x6 :: x7 :: x8 :: x9 :: x10 :: x11 :: x12 :: x13 :: x14 :: x15 :: x16 :: x17 :: x :: r) 18 o (x0 :: x1 :: x2 :: x3 :: x4 :: x5 :: x6 :: x7 :: x8 :: x9 :: x10 :: x11 :: x12 :: x13 :: x14 :: x15 :: x16 :: x17 :: o :: r) := rfl
theorem gx19 {x0 x1 x2 x3 x4 x5 x6 x7 x8 x9 x10 x11 x12 x13 x14 x15 x16 x17 x18 : Option V} {v : V} {r : L2.St} : Get1 (x0 :: x1 :: x2 :: x3 :: x4 :: x5 :: x6 :: x7 :: x8 :: x9 :: x10 :: x11 :: x12 :: x13 :: x14 :: x15 :: x16 :: x17 :: x18 :: some v :: r) 19 v := rfl
theorem sx19 {x0 x1 x2 x3 x4 x5 x6 x7 x8 x9 x10 x11 x12 x13 x14 x15 x16 x17 x18 : Option V} {x o : Option V} {r : L2.St} : Set1 (x0 :: x1 :: x2 :: x3 :: x4 :: x5 :: x6 :: x7 :: x8 :: x9 :: x10 :: x11 :: x12 :: x13 :: x14 :: x15 :: x16 :: x17 :: x18 :: x :: r) 19 o (x0 :: x1 :: x2 :: x3 :: x4 :: x5 :: x6 :: x7 :: x8 :: x9 :: x10 :: x11 :: x12 :: x13 :: x14 :: x15 :: x16 :: x17 :: x18 :: o :: r) := rfl
theorem gx20 {x0 x1 x2 x3 x4 x5 x6 x7 x8 x9 x10 x11 x12 x13 x14 x15 x16 x17 x18 x19 : Option V} {v : V} {r : L2.St} : Get1 (x0 :: x1 :: x2 :: x3 :: x4 :: x5 :: x6 :: x7 :: x8 :: x9 :: x10 :: x11 :: x12 :: x13 :: x14 :: x15 :: x16 :: x17 :: x18 :: x19 :: some v :: r) 20 v := rfl
theorem sx20 {x0 x1 x2 x3 x4 x5 x6 x7 x8 x9 x10 x11 x12 x13 x14 x15 x16 x17 x18 x19 : Option V} {x o : Option V} {r : L2.St} : Set1 (x0 :: x1 :: x2 :: x3 :: x4 :: x5 :: x6 :: x7 :: x8 :: x9 :: x10 :: x11 :: x12 :: x13 :: x14 :: x15 :: x16 :: x17 :: x18 :: x19 :: x :: r) 20 o (x0 :: x1 :: x2 :: x3 :: x4 :: x5 :: x6 :: x7 :: x8 :: x9 :: x10 :: x11 :: x12 :: x13 :: x14 :: x15 :: x16 :: x17 :: x18 :: x19 :: o :: r) := rfl
theorem gx21 {x0 x1 x2 x3 x4 x5 x6 x7 x8 x9 x10 x11 x12 x13 x14 x15 x16 x17 x18 x19 x20 : Option V} {v : V} {r : L2.St} : Get1 (x0 :: x1 :: x2 :: x3 :: x4 :: x5 :: x6 :: x7 :: x8 :: x9 :: x10 :: x11 :: x12 :: x13 :: x14 :: x15 :: x16 :: x17 :: x18 :: x19 :: x20 :: some v :: r) 21 v := rfl
theorem sx21 {x0 x1 x2 x3 x4 x5 x6 x7 x8 x9 x10 x11 x12 x13 x14 x15 x16 x17 x18 x19 x20 : Option V} {x o : Option V} {r : L2.St} : Set1 (x0 :: x1 :: x2 :: x3 :: x4 :: x5 :: x6 :: x7 :: x8 :: x9 :: x10 :: x11 :: x12 :: x13 :: x14 :: x15 :: x16 :: x17 :: x18 :: x19 :: x20 :: x :: r) 21 o (x0 :: x1 :: x2 :: x3 :: x4 :: x5 :: x6 :: x7 :: x8 :: x9 :: x10 :: x11 :: x12 :: x13 :: x14 :: x15 :: x16 :: x17 :: x18 :: x19 :: x20 :: o :: r) := rfl
theorem gx22 {x0 x1 x2 x3 x4 x5 x6 x7 x8 x9 x10 x11 x12 x13 x14 x15 x16 x17 x18 x19 x20 x21 : Option V} {v : V} {r : L2.St} : Get1 (x0 :: x1 :: x2 :: x3 :: x4 :: x5 :: x6 :: x7 :: x8 :: x9 :: x10 :: x11 :: x12 :: x13 :: x14 :: x15 :: x16 :: x17 :: x18 :: x19 :: x20 :: x21 :: some v :: r) 22 v := rfl
theorem sx22 {x0 x1 x2 x3 x4 x5 x6 x7 x8 x9 x10 x11 x12 x13 x14 x15 x16 x17 x18 x19 x20 x21 : Option V} {x o : Option V} {r : L2.St} : Set1 (x0 :: x1 :: x2 :: x3 :: x4 :: x5 :: x6 :: x7 :: x8 :: x9 :: x10 :: x11 :: x12 :: x13 :: x14 :: x15 :: x16 :: x17 :: x18 :: x19 :: x20 :: x21 :: x :: r) 22 o (x0 :: x1 :: x2 :: x3 :: x4 :: x5 :: x6 :: x7 :: x8 :: x9 :: x10 :: x11 :: x12 :: x13 :: x14 :: x15 :: x16 :: x17 :: x18 :: x19 :: x20 :: x21 :: o :: r) := rfl
theorem gx23 {x0 x1 x2 x3 x4 x5 x6 x7 x8 x9 x10 x11 x12 x13 x14 x15 x16 x17 x18 x19 x20 x21 x22 : Option V} {v : V} {r : L2.St} : Get1 (x0 :: x1 :: x2 :: x3 :: x4 :: x5 :: x6 :: x7 :: x8 :: x9 :: x10 :: x11 :: x12 :: x13 :: x14 :: x15 :: x16 :: x17 :: x18 :: x19 :: x20 :: x21 :: x22 :: some v :: r) 23 v := rfl
theorem sx23 {x0 x1 x2 x3 x4 x5 x6 x7 x8 x9 x10 x11 x12 x13 x14 x15 x16 x17 x18 x19 x20 x21 x22 : Option V} {x o : Option V} {r : L2.St} : Set1 (x0 :: x1 :: x2 :: x3 :: x4 :: x5 :: x6 :: x7 :: x8 :: x9 :: x10 :: x11 :: x12 :: x13 :: x14 :: x15 :: x16 :: x17 :: x18 :: x19 :: x20 :: x21 :: x22 :: x :: r) 23 o (x0 :: x1 :: x2 :: x3 :: x4 :: x5 :: x6 :: x7 :: x8 :: x9 :: x10 :: x11 :: x12 :: x13 :: x14 :: x15 :: x16 :: x17 :: x18 :: x19 :: x20 :: x21 :: x22 :: o :: r) := rfl
theorem gx24 {x0 x1 x2 x3 x4 x5 x6 x7 x8 x9 x10 x11 x12 x13 x14 x15 x16 x17 x18 x19 x20 x21 x22 x23 : Option V} {v : V} {r : L2.St} : Get1 (x0 :: x1 :: x2 :: x3 :: x4 :: x5 :: x6 :: x7 :: x8 :: x9 :: x10 :: x11 :: x12 :: x13 :: x14 :: x15 :: x16 :: x17 :: x18 :: x19 :: x20 :: x21 :: x22 :: x23 :: some v :: r) 24 v := rfl
theorem sx24 {x0 x1 x2 x3 x4 x5 x6 x7 x8 x9 x10 x11 x12 x13 x14 x15 x16 x17 x18 x19 x20 x21 x22 x23 : Option V} {x o : Option V} {r : L2.St} : Set1 (x0 :: x1 :: x2 :: x3 :: x4 :: x5 :: x6 :: x7 :: x8 :: x9 :: x10 :: x11 :: x12 :: x13 :: x14 :: x15 :: x16 :: x17 :: x18 :: x19 :: x20 :: x21 :: x22 :: x23 :: x :: r) 24 o (x0 :: x1 :: x2 :: x3 :: x4 :: x5 :: x6 :: x7 :: x8 :: x9 :: x10 :: x11 :: x12 :: x13 :: x14 :: x15 :: x16 :: x17 :: x18 :: x19 :: x20 :: x21 :: x22 :: x23 :: o :: r) := rfl
theorem gx25 {x0 x1 x2 x3 x4 x5 x6 x7 x8 x9 x10 x11 x12 x13 x14 x15 x16 x17 x18 x19 x20 x21 x22 x23 x24 : Option V} {v : V} {r : L2.St} : Get1 (x0 :: x1 :: x2 :: x3 :: x4 :: x5 :: x6 :: x7 :: x8 :: x9 :: x10 :: x11 :: x12 :: x13 :: x14 :: x15 :: x16 :: x17 :: x18 :: x19 :: x20 :: x21 :: x22 :: x23 :: x24 :: some v :: r) 25 v := rfl
theorem sx25 {x0 x1 x2 x3 x4 x5 x6 x7 x8 x9 x10 x11 x12 x13 x14 x15 x16 x17 x18 x19 x20 x21 x22 x23 x24 : Option V} {x o : Option V} {r : L2.St} : Set1 (x0 :: x1 :: x2 :: x3 :: x4 :: x5 :: x6 :: x7 :: x8 :: x9 :: x10 :: x11 :: x12 :: x13 :: x14 :: x15 :: x16 :: x17 :: x18 :: x19 :: x20 :: x21 :: x22 :: x23 :: x24 :: x :: r) 25 o (x0 :: x1 :: x2 :: x3 :: x4 :: x5 :: x6 :: x7 :: x8 :: x9 :: x10 :: x11 :: x12 :: x13 :: x14 :: x15 :: x16 :: x17 :: x18 :: x19 :: x20 :: x21 :: x22 :: x23 :: x24 :: o :: r) := rfl
theorem gx26 {x0 x1 x2 x3 x4 x5 x6 x7 x8 x9 x10 x11 x12 x13 x14 x15 x16 x17 x18 x19 x20 x21 x22 x23 x24 x25 : Option V} {v : V} {r : L2.St} : Get1 (x0 :: x1 :: x2 :: x3 :: x4 :: x5 :: x6 :: x7 :: x8 :: x9 :: x10 :: x11 :: x12 :: x13 :: x14 :: x15 :: x16 :: x17 :: x18 :: x19 :: x20 :: x21 :: x22 :: x23 :: x24 :: x25 :: some v :: r) 26 v := rfl
theorem sx26 {x0 x1 x2 x3 x4 x5 x6 x7 x8 x9 x10 x11 x12 x13 x14 x15 x16 x17 x18 x19 x20 x21 x22 x23 x24 x25 : Option V} {x o : Option V} {r : L2.St} : Set1 (x0 :: x1 :: x2 :: x3 :: x4 :: x5 :: x6 :: x7 :: x8 :: x9 :: x10 :: x11 :: x12 :: x13 :: x14 :: x15 :: x16 :: x17 :: x18 :: x19 :: x20 :: x21 :: x22 :: x23 :: x24 :: x25 :: x :: r) 26 o (x0 :: x1 :: x2 :: x3 :: x4 :: x5 :: x6 :: x7 :: x8 :: x9 :: x10 :: x11 :: x12 :: x13 :: x14 :: x15 :: x16 :: x17 :: x18 :: x19 :: x20 :: x21 :: x22 :: x23 :: x24 :: x25 :: o :: r) := rfl
theorem gx27 {x0 x1 x2 x3 x4 x5 x6 x7 x8 x9 x10 x11 x12 x13 x14 x15 x16 x17 x18 x19 x20 x21 x22 x23 x24 x25 x26 : Option V} {v : V} {r : L2.St} : Get1 (x0 :: x1 :: x2 :: x3 :: x4 :: x5 :: x6 :: x7 :: x8 :: x9 :: x10 :: x11 :: x12 :: x13 :: x14 :: x15 :: x16 :: x17 :: x18 :: x19 :: x20 :: x21 :: x22 :: x23 :: x24 :: x25 :: x26 :: some v :: r) 27 v := rfl
theorem sx27 {x0 x1 x2 x3 x4 x5 x6 x7 x8 x9 x10 x11 x12 x13 x14 x15 x16 x17 x18 x19 x20 x21 x22 x23 x24 x25 x26 : Option V} {x o : Option V} {r : L2.St} : Set1 (x0 :: x1 :: x2 :: x3 :: x4 :: x5 :: x6 :: x7 :: x8 :: x9 :: x10 :: x11 :: x12 :: x13 :: x14 :: x15 :: x16 :: x17 :: x18 :: x19 :: x20 :: x21 :: x22 :: x23 :: x24 :: x25 :: x26 :: x :: r) 27 o (x0 :: x1 :: x2 :: x3 :: x4 :: x5 :: x6 :: x7 :: x8 :: x9 :: x10 :: x11 :: x12 :: x13 :: x14 :: x15 :: x16 :: x17 :: x18 :: x19 :: x20 :: x21 :: x22 :: x23 :: x24 :: x25 :: x26 :: o :: r) := rfl
theorem gx28 {x0 x1 x2 x3 x4 x5 x6 x7 x8 x9 x10 x11 x12 x13 x14 x15 x16 x17 x18 x19 x20 x21 x22 x23 x24 x25 x26 x27 : Option V} {v : V} {r : L2.St} : Get1 (x0 :: x1 :: x2 :: x3 :: x4 :: x5 :: x6 :: x7 :: x8 :: x9 :: x10 :: x11 :: x12 :: x13 :: x14 :: x15 :: x16 :: x17 :: x18 :: x19 :: x20 :: x21 :: x22 :: x23 :: x24 :: x25 :: x26 :: x27 :: some v :: r) 28 v := rfl
theorem sx28 {x0 x1 x2 x3 x4 x5 x6 x7 x8 x9 x10 x11 x12 x13 x14 x15 x16 x17 x18 x19 x20 x21 x22 x23 x24 x25 x26 x27 : Option V} {x o : Option V} {r : L2.St} : Set1 (x0 :: x1 :: x2 :: x3 :: x4 :: x5 :: x6 :: x7 :: x8 :: x9 :: x10 :: x11 :: x12 :: x13 :: x14 :: x15 :: x16 :: x17 :: x18 :: x19 :: x20 :: x21 :: x22 :: x23 :: x24 :: x25 :: x26 :: x27 :: x :: r) 28 o (x0 :: x1 :: x2 :: x3 :: x4 :: x5 :: x6 :: x7 :: x8 :: x9 :: x10 :: x11 :: x12 :: x13 :: x14 :: x15 :: x16 :: x17 :: x18 :: x19 :: x20 :: x21 :: x22 :: x23 :: x24 :: x25 :: x26 :: x27 :: o :: r) := rfl
theorem gx29 {x0 x1 x2 x3 x4 x5 x6 x7 x8 x9 x10 x11 x12 x13 x14 x15 x16 x17 x18 x19 x20 x21 x22 x23 x24 x25 x26 x27 x28 : Option V} {v : V} {r : L2.St} : Get1 (x0 :: x1 :: x2 :: x3 :: x4 :: x5 :: x6 :: x7 :: x8 :: x9 :: x10 :: x11 :: x12 :: x13 :: x14 :: x15 :: x16 :: x17 :: x18 :: x19 :: x20 :: x21 :: x22 :: x23 :: x24 :: x25 :: x26 :: x27 :: x28 :: some v :: r) 29 v := rfl
theorem sx29 {x0 x1 x2 x3 x4 x5 x6 x7 x8 x9 x10 x11 x12 x13 x14 x15 x16 x17 x18 x19 x20 x21 x22 x23 x24 x25 x26 x27 x28 : Option V} {x o : Option V} {r : L2.St} : Set1 (x0 :: x1 :: x2 :: x3 :: x4 :: x5 :: x6 :: x7 :: x8 :: x9 :: x10 :: x11 :: x12 :: x13 :: x14 :: x15 :: x16 :: x17 :: x18 :: x19 :: x20 :: x21 :: x22 :: x23 :: x24 :: x25 :: x26 :: x27 :: x28 :: x :: r) 29 o (x0 :: x1 :: x2 :: x3 :: x4 :: x5 :: x6 :: x7 :: x8 :: x9 :: x10 :: x11 :: x12 :: x13 :: x14 :: x15 :: x16 :: x17 :: x18 :: x19 :: x20 :: x21 :: x22 :: x23 :: x24 :: x25 :: x26 :: x27 :: x28 :: o :: r) := rfl
/-! ### named leaves: one head a question -/
section
variable {K : PySem.W.Frag} {σ σ' : L2.St} {A B C : SH} {Φ : V → SH → Prop} {v x y : V} {i j : Int} {p q : Addr} {xs ys : List V} {ta tb te : TE} {t u : TA} {nx : L2.St → SH → Prop} {rt : V → SH → Prop} {bk ct : L2.St → SH → Prop}
def NB (Ψ : Bool → SH → Prop) : V → SH → Prop := fun x A => ∃ k, x = .bl k ∧ Ψ k A
theorem nb {Ψ : Bool → SH → Prop} {b : Bool} (k : Ψ b A) : NB Ψ (.bl b) A := ⟨b, rfl, k⟩
theorem gt_test' {Ψ : Bool → SH → Prop} (h : GE te σ A (NB Ψ)) : GT (tTest te) σ A Ψ := gt_test h
theorem gt_B' {Ψ : Bool → SH → Prop} (h : GE te σ A (NB Ψ)) : GT (tB te) σ A Ψ := gt_B h
theorem ge_andV' (h : GE ta σ A (NB fun c A1 => (c = true → GE tb σ A1 Φ) ∧ (c = false → Φ (.bl false) A1))) : GE (tAndV ta tb) σ A Φ := ge_andV h
theorem ge_orV' (h : GE ta σ A (NB fun c A1 => (c = true → Φ (.bl true) A1) ∧ (c = false → GE tb σ A1 Φ))) : GE (tOrV ta tb) σ A Φ := ge_orV h
theorem ge_notV' (h : GE ta σ A (NB fun c A1 => Φ (.bl (!c)) A1)) : GE (tNotV ta) σ A Φ := ge_notV h
theorem ge_chain' {r r' : R2} {tc : TE} (h : GE ta σ A fun x A1 => GE tb σ A1 fun y A2 => GR r x y A2 (NB fun c A3 => (c = true → GE tc σ A3 fun w A4 => GR r' y w A4 Φ) ∧ (c = false → Φ (.bl false) A3))) : GE (tChain r r' ta tb tc) σ A Φ := ge_chain h
def NNew (o : List V → HO) (Φ : V → SH → Prop) : List V → SH → Prop := fun xs A1 => xs.length ≤ sizeLine ∧ ∀ p, Φ (.ref p) (sg p (o xs) :: A1)
theorem nnew {o : List V → HO} (h : xs.length ≤ 1000) (k : ∀ p, Φ (.ref p) (sg p (o xs) :: A)) : NNew o Φ xs A := ⟨Nat.le_trans h (by decide), k⟩
theorem ge_tup' (h : GA t σ A (NNew .tup Φ)) : GE (tTup t) σ A Φ := ge_tup h
theorem ge_lst' (h : GA t σ A (NNew .lst Φ)) : GE (tLst t) σ A Φ := ge_lst h
def NFld (K : PySem.W.Frag) (f : Str) (Φ : V → SH → Prop) : V → SH → Prop := fun x A1 => ∃ a C dx fs v, x = .ref a ∧ RO A1 a (.ins C dx fs) ∧ FOk K C f ∧ fs.lookup f = some v ∧ Φ v A1
theorem nfld {f : Str} {C dx : Addr} {fs : List (Str × V)} (r : RO A p (.ins C dx fs)) (o : FOk K C f) (l : fs.lookup f = some v) (k : Φ v A) : NFld K f Φ (.ref p) A := ⟨p, C, dx, fs, v, rfl, r, o, l, k⟩
theorem ge_fld' {f : Str} (h : GE te σ A (NFld K f Φ)) : GE (tFld K te f) σ A Φ := ge_fld h
def NFst (K : PySem.W.Frag) (f : Str) (y : V) (k : SH → Prop) : V → SH → Prop := fun x A2 => ∃ a C dx fs B, x = .ref a ∧ Pull A2 (sg a (.ins C dx fs)) B ∧ FOk K C f ∧ fs.length < 1000 ∧ k (sg a (.ins C dx (putF f y fs)) :: B)
theorem nfst {f : Str} {C dx : Addr} {fs fs' : List (Str × V)} {kk : SH → Prop} (pl : Pull A (sg p (.ins C dx fs)) B) (o : FOk K C f) (l : fs.length < 1000) (e : putF f y fs = fs') (k : kk (sg p (.ins C dx fs') :: B)) : NFst K f y kk (.ref p) A := ⟨p, C, dx, fs, B, rfl, pl, o, l, e ▸ k⟩
theorem gs_fld' {f : Str} (h : GE tb σ A fun y A1 => GE ta σ A1 (NFst K f y (nx σ))) : GS (sFld K ta tb f) ⟨nx, rt, bk, ct⟩ σ A := gs_fld h
def NDget (Φ : V → SH → Prop) (y : V) (x : V) : SH → Prop := fun A2 => ∃ a kvs k v, x = .ref a ∧ RD A2 a kvs ∧ KV1 y k ∧ valV kvs k = some v ∧ Φ v A2
theorem ndget {kvs : List (L2.Key × V)} {k : L2.Key} (r : RD A p kvs) (ky : KV1 y k) (hv : valV kvs k = some v) (c : Φ v A) : NDget Φ y (.ref p) A := ⟨p, kvs, k, v, rfl, r, ky, hv, c⟩
theorem ge_dget' (h : GE ta σ A fun x A1 => GE tb σ A1 fun y => NDget Φ y x) : GE (tDGet ta tb) σ A Φ := ge_dget h
def NDin (neg : Bool) (Φ : V → SH → Prop) (y x : V) : SH → Prop := fun A2 => ∃ a kvs k, x = .ref a ∧ RD A2 a kvs ∧ KV1 y k ∧ Φ (.bl (if neg then !(valV kvs k).isSome else (valV kvs k).isSome)) A2
theorem ndin {neg : Bool} {kvs : List (L2.Key × V)} {k : L2.Key} (r : RD A p kvs) (ky : KV1 y k) (c : Φ (.bl (if neg then !(valV kvs k).isSome else (valV kvs k).isSome)) A) : NDin neg Φ y (.ref p) A := ⟨p, kvs, k, rfl, r, ky, c⟩
theorem ge_din' (h : GE ta σ A fun y A1 => GE tb σ A1 fun x => NDin false Φ y x) : GE (tDIn ta tb) σ A Φ := ge_din h
theorem ge_dnotin' (h : GE ta σ A fun y A1 => GE tb σ A1 fun x => NDin true Φ y x) : GE (tDNotIn ta tb) σ A Φ := ge_dnotin h
def NDput (kk : SH → Prop) (v x y : V) : SH → Prop := fun A3 => ∃ a kvs k B, x = .ref a ∧ Pull A3 (sg a (.dK kvs)) B ∧ KV1 y k ∧ kvs.length < sizeLine ∧ kk (sg a (.dK (putK kvs k v)) :: B)
theorem ndput {kk : SH → Prop} {kvs : List (L2.Key × V)} {k : L2.Key} (pl : Pull A (sg p (.dK kvs)) B) (ky : KV1 y k) (l : kvs.length ≤ 1000) (c : kk (sg p (.dK (putK kvs k v)) :: B)) : NDput kk v (.ref p) y A := ⟨p, kvs, k, B, rfl, pl, ky, Nat.lt_of_le_of_lt l (by decide), c⟩
theorem gs_dput' {tv td ty : TE} (h : GE tv σ A fun v A1 => GE td σ A1 fun x A2 => GE ty σ A2 fun y => NDput (nx σ) v x y) : GS (sDPut td ty tv) ⟨nx, rt, bk, ct⟩ σ A := gs_dput h
def NList (K : PySem.W.Frag) (Φ : It → SH → Prop) : V → SH → Prop := fun x A' => ∃ a xs, x = .ref a ∧ RL K A' a xs ∧ Φ (Itl K a) A'
theorem nlist {Φ : It → SH → Prop} (r : RL K A p xs) (k : Φ (Itl K p) A) : NList K Φ (.ref p) A := ⟨p, xs, rfl, r, k⟩
theorem gi_list' {Φ : It → SH → Prop} (h : GE te σ A (NList K Φ)) : GI (iList K te) σ A Φ := gi_list h
def NTup (K : PySem.W.Frag) (Φ : It → SH → Prop) : V → SH → Prop := fun x A' => ∃ a xs, x = .ref a ∧ RT K A' a xs ∧ Φ (Itt K a) A'
theorem ntup {Φ : It → SH → Prop} (r : RT K A p xs) (k : Φ (Itt K p) A) : NTup K Φ (.ref p) A := ⟨p, xs, rfl, r, k⟩
theorem gi_tup' {Φ : It → SH → Prop} (h : GE te σ A (NTup K Φ)) : GI (iTup K te) σ A Φ := gi_tup h
def NRng1 (Φ : It → SH → Prop) : List V → SH → Prop := fun vs A' => ∃ j : Int, vs = [.int j] ∧ -(2 ^ 62) ≤ j ∧ j < 2 ^ 62 ∧ Φ (Itr 0 j.toNat) A'
theorem nrng1 {Φ : It → SH → Prop} (h1 : -(2 ^ 62) ≤ j) (h2 : j < 2 ^ 62) (k : Φ (Itr 0 j.toNat) A) : NRng1 Φ [.int j] A := ⟨j, rfl, h1, h2, k⟩
theorem gi_rng1' {Φ : It → SH → Prop} (h : GA t σ A (NRng1 Φ)) : GI (iRng1 t) σ A Φ := gi_rng1 h
def NRng2 (Φ : It → SH → Prop) : List V → SH → Prop := fun vs A' => ∃ i j : Int, vs = [.int i, .int j] ∧ (-(2 ^ 62) ≤ i ∧ i < 2 ^ 62 ∧ -(2 ^ 62) ≤ j ∧ j < 2 ^ 62) ∧ Φ (Itr i (j - i).toNat) A'
theorem nrng2 {Φ : It → SH → Prop} (h : -(2 ^ 62) ≤ i ∧ i < 2 ^ 62 ∧ -(2 ^ 62) ≤ j ∧ j < 2 ^ 62) (k : Φ (Itr i (j - i).toNat) A) : NRng2 Φ [.int i, .int j] A := ⟨i, j, rfl, h, k⟩
theorem gi_rng2' {Φ : It → SH → Prop} (h : GA t σ A (NRng2 Φ)) : GI (iRng2 t) σ A Φ := gi_rng2 h
def NEnum (K : PySem.W.Frag) (Φ : It → SH → Prop) : List V → SH → Prop := fun vs A' => ∃ a xs, vs = [.ref a] ∧ RL K A' a xs ∧ Φ (Ite K a) A'
theorem nenum {Φ : It → SH → Prop} (r : RL K A p xs) (k : Φ (Ite K p) A) : NEnum K Φ [.ref p] A := ⟨p, xs, rfl, r, k⟩
theorem gi_enum' {Φ : It → SH → Prop} (h : GA t σ A (NEnum K Φ)) : GI (iEnum K t) σ A Φ := gi_enum h
def NStr (Φ : It → SH → Prop) : V → SH → Prop := fun v A' => ∃ x, v = .str x ∧ Φ (Its x) A'
theorem nstr {Φ : It → SH → Prop} {z : Str} (k : Φ (Its z) A) : NStr Φ (.str z) A := ⟨z, rfl, k⟩
theorem gi_str' {Φ : It → SH → Prop} (h : GE te σ A (NStr Φ)) : GI (iStr te) σ A Φ := gi_str h
def NPart (Φ : Option Int → SH → Prop) : V → SH → Prop := fun x A' => ∃ i, x = .int i ∧ Φ (some i) A'
theorem npart {Φ : Option Int → SH → Prop} (k : Φ (some i) A) : NPart Φ (.int i) A := ⟨i, rfl, k⟩
theorem go_some' {Φ : Option Int → SH → Prop} (h : GE te σ A (NPart Φ)) : GO (tPart te) σ A Φ := go_some h
def NBm (K : PySem.W.Frag) (T : String) (t : TA) (σ : L2.St) (r : V → List V → Hp → VK → Prop) (Φ : V → SH → Prop) : V → SH → Prop := fun x A1 => TyA K T x A1 ∧ GA t σ A1 fun vs A2 => GM r x vs A2 Φ
theorem nbm {T : String} {r : V → List V → Hp → VK → Prop} (ty : TyA K T x A) (k : GA t σ A fun vs A2 => GM r x vs A2 Φ) : NBm K T t σ r Φ x A := ⟨ty, k⟩
theorem ge_bm' {T : String} {r : V → List V → Hp → VK → Prop} (h : GE te σ A (NBm K T t σ r Φ)) : GE (tBM K T r te t) σ A Φ := ge_bm h
def NBm0 (K : PySem.W.Frag) (T : String) (r : V → List V → Hp → VK → Prop) (Φ : V → SH → Prop) : V → SH → Prop := fun x A1 => TyA K T x A1 ∧ GM r x [] A1 Φ
theorem nbm0 {T : String} {r : V → List V → Hp → VK → Prop} (ty : TyA K T x A) (k : GM r x [] A Φ) : NBm0 K T r Φ x A := ⟨ty, k⟩
theorem ge_bm0' {T : String} {r : V → List V → Hp → VK → Prop} (h : GE te σ A (NBm0 K T r Φ)) : GE (tBM0 K T r te) σ A Φ := ge_bm0 h
def NMet (MT : Addr → Spec → Prop) (m : Str) (Ψ : Value → Option Addr → L2.St → SH → Prop) (t : TA) (σ : L2.St) (Φ : V → SH → Prop) : V → SH → Prop := fun x A1 => ∃ a C dx fs sp, x = .ref a ∧ RO A1 a (.ins C dx fs) ∧ MT C sp ∧ fs.lookup m = none ∧ GA t σ A1 fun vs A2 => sp (x :: vs) A2 Φ fun c d A3 => Ψ c d σ A3
theorem nmet {MT : Addr → Spec → Prop} {m : Str} {Ψ : Value → Option Addr → L2.St → SH → Prop} {C dx : Addr} {fs : List (Str × V)} {sp : Spec} (r : RO A p (.ins C dx fs)) (mt : MT C sp) (l : fs.lookup m = none)
    (k : GA t σ A fun vs A2 => sp (.ref p :: vs) A2 Φ fun c d A3 => Ψ c d σ A3) : NMet MT m Ψ t σ Φ (.ref p) A := ⟨p, C, dx, fs, sp, rfl, r, mt, l, k⟩
theorem ge_met' {MT : Addr → Spec → Prop} {m : Str} {Ψ : Value → Option Addr → L2.St → SH → Prop} {W : WX} (hx : WPost Ψ W) (h : GE ta σ A (NMet MT m Ψ t σ Φ)) : GE (tMet MT m W ta t) σ A Φ := ge_met hx h
def NMak (C : Addr) (sp : Spec) (Φ : V → SH → Prop) (Ψ : Value → Option Addr → L2.St → SH → Prop) (σ : L2.St) : List V → SH → Prop := fun vs A1 => ∀ x dx, sp (V.ref x :: vs) (sg x (.ins C dx []) :: A1) (fun v A2 => v = .non ∧ Φ (.ref x) A2) fun c d A2 => Ψ c d σ A2
theorem ge_mak' {C : Addr} {sp : Spec} {W : WX} {Ψ : Value → Option Addr → L2.St → SH → Prop} (hx : WPost Ψ W) (h : GA t σ A (NMak C sp Φ Ψ σ)) : GE (tMak C (lift sp) W t) σ A Φ := ge_mak hx h
/-! ### short bounds -/
def IntL (xs : List V) (ns : List Int) : Prop := xs = ns.map V.int
theorem il_nil : IntL [] [] := rfl
theorem il_cons {ns : List Int} (h : IntL xs ns) : IntL (.int i :: xs) (i :: ns) := by
  show V.int i :: xs = V.int i :: ns.map V.int
  rw [h]
theorem il_map {ns : List Int} : IntL (ns.map V.int) ns := rfl
theorem getD_at {ns : List Int} {k : Nat} (h : k < ns.length) : ns[k]? = some (ns.getD k 0) := by
  rw [List.getD_eq_getElem?_getD, List.getElem?_eq_getElem h]
  rfl
theorem at_ints {ns : List Int} (hx : IntL xs ns) (h0 : 0 ≤ i) (h1 : i < (ns.length : Int)) : atI xs i = some (.int (ns.getD i.toNat 0)) := by
  have e : xs = ns.map V.int := hx
  subst e
  have hl : i < ((ns.map V.int).length : Int) := by rw [List.length_map]; exact h1
  rw [atI_lt h0 hl]
  congr 1
  rw [List.getElem_map]
  congr 1
  have := getD_at (ns := ns) (k := i.toNat) (by omega)
  rw [List.getElem?_eq_getElem (by omega)] at this
  exact Option.some.inj this
theorem gr_ixI {ns : List Int} (r : RL K A p xs) (hx : IntL xs ns) (h0 : 0 ≤ i) (h1 : i < (ns.length : Int)) (k : Φ (.int (ns.getD i.toNat 0)) A) : GR (rIx K) (.ref p) (.int i) A Φ := gr_ixL r (at_ints hx h0 h1) k
theorem gr_ixTI {ns : List Int} (r : RT K A p xs) (hx : IntL xs ns) (h0 : 0 ≤ i) (h1 : i < (ns.length : Int)) (k : Φ (.int (ns.getD i.toNat 0)) A) : GR (rIx K) (.ref p) (.int i) A Φ := gr_ixT r (at_ints hx h0 h1) k
theorem cdiv (h1 : 0 < j) (h2 : j < 1073741824) : CDiv i j := ⟨h1, h2⟩
theorem cmulL (h1 : -(2 ^ 64) < i) (h2 : i < 2 ^ 64) : CMul i j := .inl ⟨h1, h2⟩
theorem cmulR (h1 : -(2 ^ 64) < j) (h2 : j < 2 ^ 64) : CMul i j := .inr ⟨h1, h2⟩
/-- facts of a known part of the heap -/
theorem RT.k {a : Addr} (h : ∀ H, SqT K H a xs) : RT K A a xs := fun H _ => h H
theorem sz (n : Nat) (h : n ≤ 1000 := by decide) : n ≤ sizeLine := Nat.le_trans h (by decide)
theorem sz1 {n : Nat} (h : n ≤ 1000) : n < sizeLine := Nat.lt_of_le_of_lt h (by decide)
theorem sz2 {n : Nat} (h : n ≤ 1000) : n ≤ sizeLine := Nat.le_trans h (by decide)
end
end S

namespace S
open PySem L2
theorem kt_NoneType_int {K : PySem.W.Frag} : PySem.W.kitOne K (.type "NoneType") (.type "int") = some false := kit_ty (by decide +kernel)
theorem kt_NoneType_bool {K : PySem.W.Frag} : PySem.W.kitOne K (.type "NoneType") (.type "bool") = some false := kit_ty (by decide +kernel)
theorem kt_NoneType_str {K : PySem.W.Frag} : PySem.W.kitOne K (.type "NoneType") (.type "str") = some false := kit_ty (by decide +kernel)
theorem kt_NoneType_list {K : PySem.W.Frag} : PySem.W.kitOne K (.type "NoneType") (.type "list") = some false := kit_ty (by decide +kernel)
theorem kt_NoneType_tuple {K : PySem.W.Frag} : PySem.W.kitOne K (.type "NoneType") (.type "tuple") = some false := kit_ty (by decide +kernel)
theorem kt_NoneType_dict {K : PySem.W.Frag} : PySem.W.kitOne K (.type "NoneType") (.type "dict") = some false := kit_ty (by decide +kernel)
theorem kt_bool_int {K : PySem.W.Frag} : PySem.W.kitOne K (.type "bool") (.type "int") = some true := kit_ty (by decide +kernel)
theorem kt_bool_bool {K : PySem.W.Frag} : PySem.W.kitOne K (.type "bool") (.type "bool") = some true := kit_ty (by decide +kernel)
theorem kt_bool_str {K : PySem.W.Frag} : PySem.W.kitOne K (.type "bool") (.type "str") = some false := kit_ty (by decide +kernel)
theorem kt_bool_list {K : PySem.W.Frag} : PySem.W.kitOne K (.type "bool") (.type "list") = some false := kit_ty (by decide +kernel)
theorem kt_bool_tuple {K : PySem.W.Frag} : PySem.W.kitOne K (.type "bool") (.type "tuple") = some false := kit_ty (by decide +kernel)
theorem kt_bool_dict {K : PySem.W.Frag} : PySem.W.kitOne K (.type "bool") (.type "dict") = some false := kit_ty (by decide +kernel)
theorem kt_int_int {K : PySem.W.Frag} : PySem.W.kitOne K (.type "int") (.type "int") = some true := kit_ty (by decide +kernel)
theorem kt_int_bool {K : PySem.W.Frag} : PySem.W.kitOne K (.type "int") (.type "bool") = some false := kit_ty (by decide +kernel)
theorem kt_int_str {K : PySem.W.Frag} : PySem.W.kitOne K (.type "int") (.type "str") = some false := kit_ty (by decide +kernel)
theorem kt_int_list {K : PySem.W.Frag} : PySem.W.kitOne K (.type "int") (.type "list") = some false := kit_ty (by decide +kernel)
theorem kt_int_tuple {K : PySem.W.Frag} : PySem.W.kitOne K (.type "int") (.type "tuple") = some false := kit_ty (by decide +kernel)
theorem kt_int_dict {K : PySem.W.Frag} : PySem.W.kitOne K (.type "int") (.type "dict") = some false := kit_ty (by decide +kernel)
theorem kt_str_int {K : PySem.W.Frag} : PySem.W.kitOne K (.type "str") (.type "int") = some false := kit_ty (by decide +kernel)
theorem kt_str_bool {K : PySem.W.Frag} : PySem.W.kitOne K (.type "str") (.type "bool") = some false := kit_ty (by decide +kernel)
theorem kt_str_str {K : PySem.W.Frag} : PySem.W.kitOne K (.type "str") (.type "str") = some true := kit_ty (by decide +kernel)
theorem kt_str_list {K : PySem.W.Frag} : PySem.W.kitOne K (.type "str") (.type "list") = some false := kit_ty (by decide +kernel)
theorem kt_str_tuple {K : PySem.W.Frag} : PySem.W.kitOne K (.type "str") (.type "tuple") = some false := kit_ty (by decide +kernel)
theorem kt_str_dict {K : PySem.W.Frag} : PySem.W.kitOne K (.type "str") (.type "dict") = some false := kit_ty (by decide +kernel)
theorem kt_list_int {K : PySem.W.Frag} : PySem.W.kitOne K (.type "list") (.type "int") = some false := kit_ty (by decide +kernel)
theorem kt_list_bool {K : PySem.W.Frag} : PySem.W.kitOne K (.type "list") (.type "bool") = some false := kit_ty (by decide +kernel)
theorem kt_list_str {K : PySem.W.Frag} : PySem.W.kitOne K (.type "list") (.type "str") = some false := kit_ty (by decide +kernel)
theorem kt_list_list {K : PySem.W.Frag} : PySem.W.kitOne K (.type "list") (.type "list") = some true := kit_ty (by decide +kernel)
theorem kt_list_tuple {K : PySem.W.Frag} : PySem.W.kitOne K (.type "list") (.type "tuple") = some false := kit_ty (by decide +kernel)
theorem kt_list_dict {K : PySem.W.Frag} : PySem.W.kitOne K (.type "list") (.type "dict") = some false := kit_ty (by decide +kernel)
theorem kt_tuple_int {K : PySem.W.Frag} : PySem.W.kitOne K (.type "tuple") (.type "int") = some false := kit_ty (by decide +kernel)
theorem kt_tuple_bool {K : PySem.W.Frag} : PySem.W.kitOne K (.type "tuple") (.type "bool") = some false := kit_ty (by decide +kernel)
theorem kt_tuple_str {K : PySem.W.Frag} : PySem.W.kitOne K (.type "tuple") (.type "str") = some false := kit_ty (by decide +kernel)
theorem kt_tuple_list {K : PySem.W.Frag} : PySem.W.kitOne K (.type "tuple") (.type "list") = some false := kit_ty (by decide +kernel)
theorem kt_tuple_tuple {K : PySem.W.Frag} : PySem.W.kitOne K (.type "tuple") (.type "tuple") = some true := kit_ty (by decide +kernel)
theorem kt_tuple_dict {K : PySem.W.Frag} : PySem.W.kitOne K (.type "tuple") (.type "dict") = some false := kit_ty (by decide +kernel)
theorem kt_dict_int {K : PySem.W.Frag} : PySem.W.kitOne K (.type "dict") (.type "int") = some false := kit_ty (by decide +kernel)
theorem kt_dict_bool {K : PySem.W.Frag} : PySem.W.kitOne K (.type "dict") (.type "bool") = some false := kit_ty (by decide +kernel)
theorem kt_dict_str {K : PySem.W.Frag} : PySem.W.kitOne K (.type "dict") (.type "str") = some false := kit_ty (by decide +kernel)
theorem kt_dict_list {K : PySem.W.Frag} : PySem.W.kitOne K (.type "dict") (.type "list") = some false := kit_ty (by decide +kernel)
theorem kt_dict_tuple {K : PySem.W.Frag} : PySem.W.kitOne K (.type "dict") (.type "tuple") = some false := kit_ty (by decide +kernel)
theorem kt_dict_dict {K : PySem.W.Frag} : PySem.W.kitOne K (.type "dict") (.type "dict") = some true := kit_ty (by decide +kernel)
theorem kit_self {K : PySem.W.Frag} {C : Addr} : PySem.W.kitOne K (.ref C) (.ref C) = some true := by
  unfold PySem.W.kitOne
  rw [if_pos (by simp)]
section
variable {K : PySem.W.Frag} {σ : L2.St} {A B : SH} {Φ : V → SH → Prop} {v x y : V} {i j : Int} {p q : Addr} {xs ys : List V}
theorem gc_lenM {α : Type} {f : α → V} {l : List α} (r : RL K A p (l.map f)) (k : Φ (.int (l.length : Nat)) A) : GC (cLen K) [.ref p] A Φ := gc_lenL r (by rw [List.length_map]; exact k)
theorem atI_nat' {α : Type} {l : List α} {n : Nat} {x : α} (h : l[n]? = some x) : atI l (n : Int) = some x := by
  have := (List.getElem?_eq_some_iff.mp h).1
  unfold atI ixN
  rw [if_pos (by omega), if_pos (by omega)]
  simpa using h
theorem gr_ixN {n : Nat} (r : RL K A p xs) (h : xs[n]? = some v) (k : Φ v A) : GR (rIx K) (.ref p) (.int (n : Int)) A Φ := gr_ixL r (atI_nat' h) k
theorem gr_inS0 {c : Nat} {z : Str} (k : Φ (.bl (decide (c ∈ z.cps.toList))) A) : GR (dIn K false) (.str ⟨#[c]⟩) (.str z) A Φ := gr_inS k
theorem gr_inS1 {c : Nat} {z : Str} (k : Φ (.bl (!decide (c ∈ z.cps.toList))) A) : GR (dIn K true) (.str ⟨#[c]⟩) (.str z) A Φ := gr_inS k
theorem gr_inL0 (r : RL K A p xs) (f : flatV x = true) (fs : xs.all flatV = true) (k : Φ (.bl (inV x xs)) A) : GR (dIn K false) x (.ref p) A Φ := gr_inL r f fs k
theorem gr_inL1 (r : RL K A p xs) (f : flatV x = true) (fs : xs.all flatV = true) (k : Φ (.bl (!inV x xs)) A) : GR (dIn K true) x (.ref p) A Φ := gr_inL r f fs k
theorem gr_inT0 (r : RT K A p xs) (f : flatV x = true) (fs : xs.all flatV = true) (k : Φ (.bl (inV x xs)) A) : GR (dIn K false) x (.ref p) A Φ := gr_inT r f fs k
theorem gr_inT1 (r : RT K A p xs) (f : flatV x = true) (fs : xs.all flatV = true) (k : Φ (.bl (!inV x xs)) A) : GR (dIn K true) x (.ref p) A Φ := gr_inT r f fs k
theorem ndin0 {kvs : List (L2.Key × V)} {k : L2.Key} (r : RD A p kvs) (ky : KV1 y k) (c : Φ (.bl (valV kvs k).isSome) A) : NDin false Φ y (.ref p) A := ndin r ky c
theorem ndin1 {kvs : List (L2.Key × V)} {k : L2.Key} (r : RD A p kvs) (ky : KV1 y k) (c : Φ (.bl (!(valV kvs k).isSome)) A) : NDin true Φ y (.ref p) A := ndin r ky c
theorem is_non (k : Φ (.bl true) A) : GR (dIs false) .non .non A Φ := gr_isN k
theorem isn_non (k : Φ (.bl false) A) : GR (dIs true) .non .non A Φ := gr_isN k
theorem is_int (k : Φ (.bl false) A) : GR (dIs false) (.int i) .non A Φ := gr_isN k
theorem isn_int (k : Φ (.bl true) A) : GR (dIs true) (.int i) .non A Φ := gr_isN k
theorem is_ref (k : Φ (.bl false) A) : GR (dIs false) (.ref p) .non A Φ := gr_isN k
theorem isn_ref (k : Φ (.bl true) A) : GR (dIs true) (.ref p) .non A Φ := gr_isN k
theorem is_str {z : Str} (k : Φ (.bl false) A) : GR (dIs false) (.str z) .non A Φ := gr_isN k
theorem isn_str {z : Str} (k : Φ (.bl true) A) : GR (dIs true) (.str z) .non A Φ := gr_isN k
theorem is_bl {b : Bool} (k : Φ (.bl false) A) : GR (dIs false) (.bl b) .non A Φ := gr_isN k
theorem gc_isi2t {tp : Addr} {c1 c2 : V} {t u1 u2 : Value} (r : RO A tp (.tup [c1, c2])) (h1 : ClsV c1 u1) (h2 : ClsV c2 u2) (ty : TyG K A x t) (e : PySem.W.kitOne K t u1 = some true) (k : Φ (.bl true) A) : GC (rIsiT K) [x, .ref tp] A Φ :=
  gc_isiT r (.cons h1 (.cons h2 .nil)) ty (kitAny_cons e (fun z => (nomatch z)) fun _ => rfl) k
theorem gc_isi2f {tp : Addr} {c1 c2 : V} {t u1 u2 : Value} {b : Bool} (r : RO A tp (.tup [c1, c2])) (h1 : ClsV c1 u1) (h2 : ClsV c2 u2) (ty : TyG K A x t) (e : PySem.W.kitOne K t u1 = some false) (e2 : PySem.W.kitOne K t u2 = some b) (k : Φ (.bl b) A) : GC (rIsiT K) [x, .ref tp] A Φ :=
  gc_isiT r (.cons h1 (.cons h2 .nil)) ty (kitAny_cons e (fun _ => kitAny_cons e2 (fun z => by rw [z]; exact kitAny_nil) fun z => z) fun z => (nomatch z)) k
def FlN (fs : List (Str × V)) (n : Nat) : Prop := fs.length ≤ n
theorem fl0 : FlN [] 0 := Nat.le_refl 0
theorem putF_le (f : Str) (y : V) : ∀ fs : List (Str × V), (putF f y fs).length ≤ fs.length + 1
  | [] => Nat.le_refl _
  | (g, z) :: r => by
    show (if g = f then (g, y) :: r else (g, z) :: putF f y r).length ≤ r.length + 1 + 1
    split
    · simp
    · have := putF_le f y r
      simp only [List.length_cons]
      omega
theorem fl1 {f : Str} {y : V} {fs : List (Str × V)} {n : Nat} (h : FlN fs n) : FlN (putF f y fs) (n + 1) := Nat.le_trans (putF_le f y fs) (Nat.succ_le_succ h)
theorem fl_of {fs : List (Str × V)} {n : Nat} (h : FlN fs n) (l : n < 1000) : fs.length < 1000 := Nat.lt_of_le_of_lt h l
theorem gr_eqE0 (r1 : RL K A p []) (r2 : RL K A q []) (k : Φ (.bl true) A) : GR (dEq K) (.ref p) (.ref q) A Φ := gr_eqD (dp_lst r1 dps_nil) (dp_lst r2 dps_nil) (by decide +kernel) (by decide +kernel) k
/-- what was made on the way, ahead of the rest -/
theorem Sl.app {G A : SH} : Sl A (G ++ A) := by
  induction G with
  | nil => exact .refl
  | cons g G ih => exact .drop ih
theorem Sl.app' {G A B : SH} (h : Sl B A) : Sl B (G ++ A) := by
  induction G with
  | nil => exact h
  | cons g G ih => exact .drop ih
theorem Le.pre {G A : SH} : Le G (G ++ A) := fun H h => ⟨fun g hg => h.1 g (List.mem_append_left _ hg), (List.pairwise_append.mp h.2).1⟩
theorem Le.app' {G A B : SH} (l : Le B A) : Le B (G ++ A) := fun H h => l H ⟨fun g hg => h.1 g (List.mem_append_right _ hg), (List.pairwise_append.mp h.2).2.1⟩
theorem Le.app {G A : SH} : Le A (G ++ A) := Sl.app.le
theorem RO.app {G A : SH} {a : Addr} {o : HO} (h : RO A a o) : RO (G ++ A) a o := h.le Le.app
theorem RL.app {G A : SH} {a : Addr} (h : RL K A a xs) : RL K (G ++ A) a xs := h.le Le.app
theorem RT.app {G A : SH} {a : Addr} (h : RT K A a xs) : RT K (G ++ A) a xs := h.le Le.app
theorem RD.le {a : Addr} {kvs : List (L2.Key × V)} (l : Le A B) (h : RD A a kvs) : RD B a kvs := fun H x => h H (l H x)
theorem RD.app {G A : SH} {a : Addr} {kvs : List (L2.Key × V)} (h : RD A a kvs) : RD (G ++ A) a kvs := h.le Le.app
theorem Pull.app {G A B : SH} {h : Hp} (p : Pull A h B) : Pull (G ++ A) h (G ++ B) := by
  induction G with
  | nil => exact p
  | cons g G ih => exact .tail ih
theorem lk_put {f : Str} {y : V} {fs : List (Str × V)} : (putF f y fs).lookup f = some y := by rw [lookup_putF, if_pos rfl]
theorem lk_ne {f g : Str} {y z : V} {fs : List (Str × V)} (h : ¬ g = f) (l : fs.lookup g = some z) : (putF f y fs).lookup g = some z := by rw [lookup_putF, if_neg h]; exact l
theorem lk_nil {g : Str} : ([] : List (Str × V)).lookup g = none := rfl
theorem lk_no {f g : Str} {y : V} {fs : List (Str × V)} (h : ¬ g = f) (l : fs.lookup g = none) : (putF f y fs).lookup g = none := by rw [lookup_putF, if_neg h]; exact l
theorem lay_ints : ∀ ns : List Int, PyData.canLayAll0 (ns.map PyData.int) = true ∧ PyData.depthAll (ns.map PyData.int) = 0
  | [] => ⟨by simp only [List.map_nil, PyData.canLayAll0], by simp only [List.map_nil, PyData.depthAll]⟩
  | n :: r => by
    obtain ⟨h1, h2⟩ := lay_ints r
    exact ⟨by simp only [List.map_cons, PyData.canLayAll0, PyData.canLay0, h1, Bool.and_self], by simp only [List.map_cons, PyData.depthAll, PyData.depth, h2, Nat.max_self]⟩
theorem shp_ints (ns : List Int) : SeqAt.shaped (.list (ns.map PyData.int)) = true ∧ SeqAt.shaped (.tuple (ns.map PyData.int)) = true := by
  obtain ⟨h1, h2⟩ := lay_ints ns
  constructor <;> (unfold SeqAt.shaped; simp only [PyData.canLay0, PyData.depth, h1, h2]; decide)
theorem eqv_ints : ∀ ns ms : List Int, PyData.eqvAll (ns.map PyData.int) (ms.map PyData.int) = decide (ns = ms)
  | [], [] => by simp only [List.map_nil, PyData.eqvAll, decide_true]
  | [], _ :: _ => by simp [PyData.eqvAll]
  | _ :: _, [] => by simp [PyData.eqvAll]
  | n :: r, m :: t => by
    have ih := eqv_ints r t
    simp only [List.map_cons, PyData.eqvAll, PyData.eqv, ih]
    by_cases e : n = m
    · subst e
      simp
    · simp [e]
theorem dps_il {ns : List Int} (h : IntL xs ns) : DPs K A xs (ns.map PyData.int) := by
  have e : xs = ns.map V.int := h
  rw [e]; exact dps_ints
theorem gr_eqTI {ns ms : List Int} (r1 : RT K A p xs) (r2 : RT K A q ys) (h1 : IntL xs ns) (h2 : IntL ys ms) (k : Φ (.bl (decide (ns = ms))) A) : GR (dEq K) (.ref p) (.ref q) A Φ :=
  gr_eqD (dp_tup r1 (dps_il h1)) (dp_tup r2 (dps_il h2)) (shp_ints ns).2 (shp_ints ms).2 (by simp only [PyData.eqv, eqv_ints]; exact k)
theorem gr_neTI {ns ms : List Int} (r1 : RT K A p xs) (r2 : RT K A q ys) (h1 : IntL xs ns) (h2 : IntL ys ms) (k : Φ (.bl (!decide (ns = ms))) A) : GR (dNe K) (.ref p) (.ref q) A Φ :=
  gr_neD (dp_tup r1 (dps_il h1)) (dp_tup r2 (dps_il h2)) (shp_ints ns).2 (shp_ints ms).2 (by simp only [PyData.eqv, eqv_ints]; exact k)
theorem gr_eqLI {ns ms : List Int} (r1 : RL K A p xs) (r2 : RL K A q ys) (h1 : IntL xs ns) (h2 : IntL ys ms) (k : Φ (.bl (decide (ns = ms))) A) : GR (dEq K) (.ref p) (.ref q) A Φ :=
  gr_eqD (dp_lst r1 (dps_il h1)) (dp_lst r2 (dps_il h2)) (shp_ints ns).1 (shp_ints ms).1 (by simp only [PyData.eqv, eqv_ints]; exact k)
theorem gr_neLI {ns ms : List Int} (r1 : RL K A p xs) (r2 : RL K A q ys) (h1 : IntL xs ns) (h2 : IntL ys ms) (k : Φ (.bl (!decide (ns = ms))) A) : GR (dNe K) (.ref p) (.ref q) A Φ :=
  gr_neD (dp_lst r1 (dps_il h1)) (dp_lst r2 (dps_il h2)) (shp_ints ns).1 (shp_ints ms).1 (by simp only [PyData.eqv, eqv_ints]; exact k)
theorem gr_ixSD {z : Str} (l : z.length ≤ 1000) (h0 : 0 ≤ i) (h1 : i < (z.length : Int)) (k : Φ (.str ⟨#[z.cps.toList.getD i.toNat 0]⟩) A) : GR (rIx K) (.str z) (.int i) A Φ := by
  have hl : i.toNat < z.cps.toList.length := by
    have : (z.length : Int) = (z.cps.toList.length : Int) := by simp [Str.length]
    omega
  refine gr_ixS (c := z.cps.toList.getD i.toNat 0) (Nat.le_trans l (by decide)) ?_ k
  rw [atI_lt h0 (by omega), List.getD_eq_getElem?_getD, List.getElem?_eq_getElem hl]
  rfl
theorem len1 {c : Nat} : (⟨#[c]⟩ : Str).length = 1 := rfl
/-- a list mapped, at a place -/
theorem gr_ixM {α : Type} {f : α → V} {l : List α} {n : Nat} {x : α} (r : RL K A p (l.map f)) (h : l[n]? = some x) (k : Φ (f x) A) : GR (rIx K) (.ref p) (.int (n : Int)) A Φ := gr_ixN r (by rw [List.getElem?_map, h]; rfl) k
end
end S

namespace S
open PySem L2
section
variable {P : Program} {w : World} {K : PySem.W.Frag} {mg : Str → Option Value} {base : Heap} {x qual m : Str} {params : Arguments} {body : List Stmt} {scope : Scope} {dvs : List V} {kws : List (Str × V)} {f C : Addr} {fd : FuncData} {ps : List Str} {k : Nat} {sp : Sp}
theorem fnR_of (ok : FnOk P w K mg base (L2.CX P w) k f fd ps sp) (hb : Binds K fd ps []) : FnR P w K mg base (L2.CX P w) k f sp :=
  (FnOk.raw ok hb .nil).imp fun vs H Q E h => by rw [List.append_nil]; exact h
theorem defR_of (F : FunD K x qual params body scope dvs kws f fd) (hm : mg x = some (.ref f)) (hb : Binds K fd ps []) (ok : FnOk P w K mg base (L2.CX P w) k f fd ps sp) : DefR P w K mg base k x sp := ⟨f, fnR_of ok hb, hm, F.kp⟩
theorem methR_of (c : Cls K C) (hm : Meth K C m f) (hb : Binds K fd ps []) (ok : FnOk P w K mg base (L2.CX P w) k f fd ps sp) : MethR P w K mg base k C m sp := ⟨c, f, hm, fnR_of ok hb⟩
theorem makR_of (M : Mk K C f) (hm : mg x = some (.ref C)) (hb : Binds K fd ps []) (ok : FnOk P w K mg base (L2.CX P w) k f fd ps sp) : MakR P w K mg base k x C sp := ⟨f, M, fnR_of ok hb, hm⟩
theorem methR_mono {j : Nat} (h : MethR P w K mg base j C m sp) (l : j ≤ k) : MethR P w K mg base k C m sp := by
  obtain ⟨c, f, hm, F⟩ := h
  exact ⟨c, f, hm, F.mono l⟩
theorem funD_mk {st : Stmt} {oc : Value} {od an : Option Addr} {osl : Array (Option Value)} {kV doc pm cdv ct : Value} (l : K.lookup f = some ⟨oc, od, .func (PySem.W.fnOf x qual (defArgs st) (defBody st) (defScope st) .none kV doc pm an cdv ct), osl⟩)
    (c : PySem.W.codeIn K cdv qual = true) (kp : PySem.W.keepIn K (.ref f) = true) : FunD K x qual (defArgs st) (defBody st) (defScope st) [] [] f (PySem.W.fnOf x qual (defArgs st) (defBody st) (defScope st) .none kV doc pm an cdv ct) :=
  ⟨⟨oc, od, .none, kV, doc, pm, an, cdv, ct, osl, rfl, l, c, .inl ⟨rfl, rfl⟩, .inl rfl⟩, kp⟩
theorem funD_mkD {st : Stmt} {oc : Value} {od an : Option Addr} {osl : Array (Option Value)} {kV doc pm cdv ct : Value} {D : Addr} {o : Obj} {its : List Value} {n : Nat} (l : K.lookup f = some ⟨oc, od, .func (PySem.W.fnOf x qual (defArgs st) (defBody st) (defScope st) (.ref D) kV doc pm an cdv ct), osl⟩)
    (c : PySem.W.codeIn K cdv qual = true) (kp : PySem.W.keepIn K (.ref f) = true) (hD : K.lookup D = some o) (hs : o.data = .seq its.toArray n) (hv : Vals dvs its) (hne : dvs ≠ []) :
    FunD K x qual (defArgs st) (defBody st) (defScope st) dvs [] f (PySem.W.fnOf x qual (defArgs st) (defBody st) (defScope st) (.ref D) kV doc pm an cdv ct) :=
  ⟨⟨oc, od, .ref D, kV, doc, pm, an, cdv, ct, osl, rfl, l, c, .inr ⟨hne, D, o, its, n, rfl, hD, hs, hv⟩, .inl rfl⟩, kp⟩
theorem binds_all (F : FunD K x qual params body scope dvs [] f fd) (hd : dvs ≠ [])
    (h : ∀ (T : Addr) (kV doc pm : Value) (an : Option Addr) (cdv ct : Value) (us its : List Value), us.length = ps.length → its.length = dvs.length →
      ∃ k, bindArgs (PySem.W.fnOf x qual params body scope (.ref T) kV doc pm an cdv ct) ⟨us, []⟩ = seqItems? (.ref T) >>= k ∧ k (some its.toArray) = pure (ps.zip us)) : Binds K fd ps [] := by
  obtain ⟨ds, hv, hb⟩ := F.binds1 (ps := ps) ps.length dvs.length hd (by omega) fun T kV doc pm an cdv ct us its h1 h2 => by
    obtain ⟨k, e1, e2⟩ := h T kV doc pm an cdv ct us its h1 h2
    refine ⟨k, e1, ?_⟩
    rw [e2, List.drop_eq_nil_of_le (by omega), List.append_nil]
  rw [List.drop_eq_nil_of_le (Nat.le_refl _)] at hv
  cases hv
  exact hb
end
/-- a constant tuple of the module -/
theorem sqT_k {K : PySem.W.Frag} {p : Addr} {od : Option Addr} {its : Array Value} {n : Nat} {sl : Array (Option Value)} {xs : List V} (l : K.lookup p = some ⟨.type "tuple", od, .seq its n, sl⟩) (hz : its.size ≤ 1000) (hv : Vals xs its.toList) : ∀ H, SqT K H p xs :=
  fun H => .inr ⟨_, its, n, l, rfl, rfl, Nat.le_trans hz (by decide), hv⟩
theorem sqL_sub {K : PySem.W.Frag} {H H' : Hp} {p : Addr} {xs : List V} (s : Sub H H') (h : SqL K H p xs) : SqL K H' p xs := by
  rcases h with (h | ⟨o, h⟩) | h
  · exact .inl (.inl (s _ _ h))
  · exact .inl (.inr ⟨o, s _ _ h⟩)
  · exact .inr h
theorem has_self {H : Hp} : Has H [H] := ⟨fun h hh => by rw [List.mem_singleton.mp hh]; exact fun _ _ e => e, List.pairwise_singleton _ _⟩
/-- the law's call -/
theorem law_in {K : PySem.W.Frag} {a : Addr} {ns : List Int} {H : Hp} {sp : Spec} (hS : SqL K H a (ns.map V.int)) (h : ∀ A : SH, RL K A a (ns.map V.int) → sp [.ref a] A (fun v _ => v = .bl true) fun _ _ _ => False) : lift sp [.ref a] H (fun v _ => v = .bl true) fun _ _ _ => False :=
  ⟨[H], fun v _ => v = .bl true, fun _ _ _ => False, has_self, fun v A H' _ e => e, fun _ _ _ _ _ z => z, h [H] fun H' x => sqL_sub x.head hS⟩
theorem cx_no {P : Program} {w : World} {H : Hp} {s : Shared} {e : Value} {s' : Shared} (h : L2.CX P w [] H s (fun _ _ _ => False) e s') : False := by
  obtain ⟨_, _, _, _, _, _, _, _, _, _, _, _, z⟩ := h
  exact z
end S

namespace S
section
variable {α : Type} [DecidableEq α]
/-- how many unlike ones -/
def dst : List α → Nat
  | [] => 0
  | x :: r => if x ∈ r then dst r else dst r + 1
def dsf (l : List α) : Nat := dst l.reverse
theorem dsf_snoc (l : List α) (x : α) : dsf (l ++ [x]) = if x ∈ l then dsf l else dsf l + 1 := by
  unfold dsf
  rw [List.reverse_append]
  show dst (x :: l.reverse) = _
  rw [dst]
  simp only [List.mem_reverse]
theorem dst_le : ∀ l : List α, dst l ≤ l.length
  | [] => Nat.le_refl _
  | x :: r => by
    have := dst_le r
    rw [dst, List.length_cons]
    split <;> omega
theorem dsf_le (l : List α) : dsf l ≤ l.length := by
  have := dst_le l.reverse
  rwa [List.length_reverse] at this
theorem dst_full : ∀ l : List α, dst l = l.length ↔ l.Nodup
  | [] => by simp [dst]
  | x :: r => by
    have h := dst_le r
    have ih := dst_full r
    rw [dst, List.length_cons, List.nodup_cons]
    split
    · rename_i m
      constructor
      · intro e
        omega
      · intro e
        exact absurd m e.1
    · rename_i m
      constructor
      · intro e
        exact ⟨m, ih.mp (by omega)⟩
      · intro e
        rw [ih.mpr e.2]
theorem dsf_full (l : List α) : dsf l = l.length ↔ l.Nodup := by
  have := dst_full l.reverse
  rw [List.length_reverse] at this
  unfold dsf
  rw [this]
  exact (List.reverse_perm l).nodup_iff
end
section
open PySem PyProof.Rows
variable {P : Program} {w : World} {α : Type} [DecidableEq α] {knd : KeyKind P w α} {A : Around} {R : Result → Shared → Prop} {I : Addr} {fp wr : List Addr} {G : Array GenState → Array GenState → Prop} {n : Nat} {Pv : Nat → Value → Prop} {St : Nat → Shared → Prop}
theorem setOf_as {h : Heap} {a : Addr} {f g : α → Bool} {i j : Nat} (x : h.SetOf knd a f i) (e : f = g) (e' : i = j) : h.SetOf knd a g j := e ▸ e' ▸ x
theorem setOf_mv {h h' : Heap} {a : Addr} {f : α → Bool} {i : Nat} (x : h.SetOf knd a f i) (k : ∀ o, h.get? a = some o → h'.get? a = some o) : h'.SetOf knd a f i := let ⟨o, es, ep, t, ho, r⟩ := x; ⟨o, es, ep, t, k o ho, r⟩
theorem set_fill (W : WalksS P w A.in1 I fp wr G n Pv St) (S : Addr) (hf : S ∉ fp) (xs : List α) (hl : xs.length = n) (hz : n + 1 < scanBound) (hv : ∀ i v, Pv i v → ∃ x, xs[i]? = some x ∧ knd.is x v = true ∧ v.scannable = true) :
    ∀ (k i : Nat) (s : Shared), n - i = k → i ≤ n → St i s → s.heap.SetOf knd S (fun y => decide (y ∈ xs.take i)) (dsf (xs.take i)) →
      (∀ s', Moved (S :: wr) G s s' → s'.heap.SetOf knd S (fun y => decide (y ∈ xs)) (dsf xs) → R (.ok (.ret .none)) s') → codeAny (model P w) A (.builtin "set.update.loop" ⟨[.ref S, .ref I], []⟩) R s := by
  have out : S ∉ wr := fun z => hf (W.sub _ z)
  have more : ∀ b ∈ wr, b ∈ S :: wr := fun b z => .tail _ z
  intro k
  induction k with
  | zero =>
    intro i s e le st x q
    obtain rfl : i = n := by omega
    refine codeAny_builtin PyProof.Rows.F.entry_set_update_loop ?_
    rw [Around.under_plainId PyProof.Rows.F.plain_set_update_loop _]
    show wpAny _ A.in1 (pyNext (.ref I) >>= _) _ _ s
    refine wpAny_bind (W.done s _ _ st fun s1 mv => ?_)
    refine wpAny_pure (q s1 (mv.mono more) ?_)
    rw [List.take_of_length_le (Nat.le_of_eq hl)] at x
    exact setOf_mv x fun o e => mv.heap S o out e
  | succ k ih =>
    intro i s e le st x q
    have lt : i < n := by omega
    refine codeAny_builtin PyProof.Rows.F.entry_set_update_loop ?_
    rw [Around.under_plainId PyProof.Rows.F.plain_set_update_loop _]
    show wpAny _ A.in1 (pyNext (.ref I) >>= _) _ _ s
    refine wpAny_bind (W.item i s _ _ lt st fun v s1 pv st1 mv => ?_)
    obtain ⟨y, hy, isy, scn⟩ := hv i v pv
    have x1 := setOf_mv x fun o e => mv.heap S o out e
    show wpAny _ A.in1 (holding [v] (setAdd S v) >>= _) _ _ s1
    refine wpAny_bind (wpAny_holding ?_)
    unfold setAdd
    refine wpAny_holding (wpAny_bind (knd.pyHash isy ?_))
    have room : dsf (xs.take i) + 1 < scanBound := by
      have a := dsf_le (xs.take i)
      rw [List.length_take] at a
      omega
    refine wpAny_setAddHashed_of (s := { s1 with toks := s1.toks + 1 }) isy scn x1 room fun h2 but x2 => ?_
    have tk : xs.take (i + 1) = xs.take i ++ [y] := by
      rw [List.take_add_one, hy]
      rfl
    have x3 : h2.SetOf knd S (fun z => decide (z ∈ xs.take (i + 1))) (dsf (xs.take (i + 1))) := by
      refine setOf_as x2 (funext fun z => ?_) ?_
      · rw [tk, Bool.eq_iff_iff]
        simp
      · rw [tk, dsf_snoc]
        by_cases m : y ∈ xs.take i <;> simp [m]
    refine wpAny_pure ⟨plainId_quiet PyProof.Rows.F.plain_set_update_loop _, ih (i + 1) _ (by omega) lt (W.frame _ s1 _ _ st1 (Nat.le_succ _) fun b hb o e => ?_) x3 fun s3 mv3 x4 => ?_⟩
    · have nb : b ≠ S := fun z => hf (z ▸ hb)
      rw [but.2 b nb]
      exact e
    · refine q s3 (Moved.trans W.gtrans ((mv.mono more).then_heap (Nat.le_succ _) fun b o nb e => ?_) mv3) x4
      have nS : b ≠ S := fun z => nb (z ▸ .head _)
      rw [but.2 b nS]
      exact e
end
section
open PySem
variable {P : Program} {w : World} {α : Type} [DecidableEq α] {knd : KeyKind P w α} {A : Around} {E : Value → Shared → Prop} {s : Shared}
abbrev mtSet (led : Bool) : Obj := { cls := .type "set", dict := none, data := .set #[] 0 (.fresh 0 0 led) }
theorem set_of_list {l : Addr} {its : Array Value} {xs : List α} {Q : Value → Shared → Prop} (hh : A.handled = none) (hl : s.heap.IsList l its) (hx : xs.length = its.size) (hv : ∀ (i : Nat) v, its[i]? = some v → ∃ x, xs[i]? = some x ∧ knd.is x v = true ∧ v.scannable = true) (hz : its.size + 1 < scanBound)
    (q : ∀ (h1 : Heap) (tk : Nat), h1.SetOf knd s.heap.objs.size (fun y => decide (y ∈ xs)) (dsf xs) → (∀ b o, s.heap.get? b = some o → h1.get? b = some o) → Q (.ref s.heap.objs.size) { s with heap := h1, toks := tk }) :
    wpAny (model P w) A (call (.type "set") [.ref l]) Q E s := by
  obtain ⟨c, tl, mro⟩ := PySem.F.called_set.mro
  have z1 := PySem.F.called_set.made
  have z2 := PySem.F.called_set.sub
  refine wpAny_call (codeAny_of_tree ?_)
  show wpAny _ _ (callAny (.type "set") _) _ _ _
  refine wpAny_pure ⟨Code.quiet_builtin _ (by decide +kernel), codeAny_builtin PySem.F.entry_type_call ?_⟩
  rw [Around.under_plain (weight_type_call_type "set" [.ref l] []) rfl]
  have z3 := PySem.F.called_set.notType
  have z4 := PySem.F.called_set.canCreate
  have z5 := PySem.F.typeCall_set_1 (.ref l)
  repeat (any_goals (first | assumption | wp_step))
  refine codeAny_mono (code_set_new_1 (.ref l) (E := E) (Q₁ := fun obj s1 => ∃ led, obj = .ref s.heap.objs.size ∧ s1 = { s with heap := s.heap.push (mtSet led) }) fun led => ⟨led, rfl, rfl⟩) fun r s1 hr => ?_
  cases r with
  | error e => exact hr
  | ok fl =>
    cases fl with
    | ret obj =>
      obtain ⟨led, rfl, rfl⟩ := hr
      have at0 : (s.heap.push (mtSet led)).get? s.heap.objs.size = some (mtSet led) := Heap.get?_push_size _ rfl
      have ty0 : Shared.TypeIs { s with heap := s.heap.push (mtSet led) } (.ref s.heap.objs.size) "set" := ⟨_, at0, rfl⟩
      have z6 := PySem.F.called_set.init.lookup
      have z7 := PySem.F.called_set.init.bind (.ref s.heap.objs.size)
      repeat (any_goals (first | assumption | wp_step))
      refine codeAny_mono (codeAny_call_builtin (R := wants (fun r s2 => r = .none ∧ ∃ h1 tk, s2 = { s with heap := h1, toks := tk } ∧ h1.SetOf knd s.heap.objs.size (fun y => decide (y ∈ xs)) (dsf xs) ∧ (∀ b o, s.heap.get? b = some o → h1.get? b = some o)) E)
        PySem.F.called_set.init.plain PySem.F.entry_set_init (check_set_init_1 ty0 ?_)) fun r2 s2 hr2 => ?_
      · obtain ⟨ol, hol, hcl, nl, hdl⟩ := hl
        obtain ⟨oc, od, ot, os⟩ := ol
        simp only at hcl hdl
        subst hcl
        subst hdl
        have hol1 := Heap.get?_push_of_some (mtSet led) hol
        have z8 := PySem.F.sub_list_set
        have z9 := PySem.F.sub_list_frozenset
        have z0 : (Value.type "list" == Value.type "dict") = false := by decide
        have il : (s.heap.push (mtSet led)).IsList l its := ⟨_, hol1, rfl, nl, rfl⟩
        unfold Builtin.«set.__init__» noKeywords Builtin.Frozenset.updateFrom
        generalize hPI : pyIter = PI
        wp_walk
        subst hPI
        refine wpAny_pyIter_list il (wpAny_bind (wpAny_runValue ?_))
        have lt : l < s.heap.objs.size := Heap.lt_size hol
        have hh3 : A.in1.in1.in1.handled = none := by simp [hh]
        have sz : (s.heap.push (mtSet led)).objs.size = s.heap.objs.size + 1 := Heap.size_push _ _
        have neI : l ≠ (s.heap.push (mtSet led)).objs.size := Nat.ne_of_lt (Nat.lt_of_lt_of_eq (Nat.lt_succ_of_lt lt) sz.symm)
        have nfp : s.heap.objs.size ∉ [(s.heap.push (mtSet led)).objs.size, l] := by
          intro m
          rcases List.mem_cons.mp m with m | m
          · exact Nat.ne_of_lt (Nat.lt_of_lt_of_eq (Nat.lt_succ_self _) sz.symm) m
          · exact Nat.ne_of_gt lt (List.mem_singleton.mp m)
        refine set_fill ((Walks.list hh3 _ l neI its).toS) s.heap.objs.size nfp xs hx hz hv (its.size - 0) 0 _ (by omega) (Nat.zero_le _) ⟨⟨_, Heap.get?_push_size _ rfl, rfl, rfl⟩, il.push _⟩ ?_ ?_
        · exact setOf_as ((PyProof.Rows.setObjOf_fresh (knd := knd) led).setOf (Heap.get?_push_of_some _ at0) (by unfold scanBound; omega)) (funext fun y => by simp) rfl
        · intro s3 mv x
          obtain ⟨h3, g3, d3, t3, o3⟩ := s3
          obtain rfl : g3 = s.gens := mv.gens
          obtain rfl : d3 = s.drawn := mv.drawn
          obtain rfl : o3 = s.os := mv.os
          show wpAny _ _ _ _ _ _
          refine wpAny_pure ?_
          show wpAny _ _ (ret Value.none) _ _ _
          refine wpAny_pure ⟨rfl, h3, t3, rfl, x, fun b o e => ?_⟩
          have lb : b < s.heap.objs.size := Heap.lt_size e
          refine mv.heap b o (fun m => ?_) (Heap.get?_push_of_some _ (Heap.get?_push_of_some _ e))
          rcases List.mem_cons.mp m with m | m
          · exact Nat.ne_of_lt lb m
          · exact Nat.ne_of_lt (Nat.lt_of_lt_of_eq (Nat.lt_succ_of_lt lb) sz.symm) (List.mem_singleton.mp m)
      · cases r2 with
        | error e => exact hr2
        | ok f2 =>
          cases f2 with
          | ret r =>
            obtain ⟨rfl, h1, tk, rfl, x, kp⟩ := hr2
            repeat (any_goals (first | assumption | wp_step))
            exact q _ _ x kp
          | _ => exact hr2.elim
    | _ => exact hr.elim
end
end S

namespace S
open PySem PySem.Spec PyProof.Rows L2
/-! ### len(set(xs)) -/
/-- of texts or of ints, in a list -/
def tLenS (K : PySem.W.Frag) (ta : TE) : TE := fun σ H Q => ta σ H fun x H1 => ∃ l, x = .ref l ∧ ((∃ xs : List Str, SqL K H1 l (xs.map V.str) ∧ xs.length ≤ 1000 ∧ Q (.int (dsf xs)) H1) ∨ (∃ ns : List Int, SqL K H1 l (ns.map V.int) ∧ ns.length ≤ 1000 ∧ Q (.int (dsf ns)) H1))
theorem valStr : ∀ {ys : List Str} {us : List Value}, Vals (ys.map V.str) us → ∀ (i : Nat) v, us.toArray[i]? = some v → ∃ x, ys[i]? = some x ∧ ∃ t, v = .str x t := fun {ys us} r i v h => by
  have hi : i < us.length := by
    have := (Array.getElem?_eq_some_iff.mp h).1
    rwa [List.size_toArray] at this
  have hy : i < ys.length := by
    have := r.length
    rw [List.length_map] at this
    omega
  obtain ⟨u, hu, t, e⟩ := r.get (i := i) (x := .str ys[i]) (by simp [hy])
  refine ⟨ys[i], by simp [hy], t, ?_⟩
  rw [List.getElem?_toArray, hu] at h
  cases h
  exact e
theorem valInt : ∀ {ys : List Int} {us : List Value}, Vals (ys.map V.int) us → ∀ (i : Nat) v, us.toArray[i]? = some v → ∃ x, ys[i]? = some x ∧ ∃ t, v = .int x t := fun {ys us} r i v h => by
  have hi : i < us.length := by
    have := (Array.getElem?_eq_some_iff.mp h).1
    rwa [List.size_toArray] at this
  have hy : i < ys.length := by
    have := r.length
    rw [List.length_map] at this
    omega
  obtain ⟨u, hu, t, e⟩ := r.get (i := i) (x := .int ys[i]) (by simp [hy])
  refine ⟨ys[i], by simp [hy], t, ?_⟩
  rw [List.getElem?_toArray, hu] at h
  cases h
  exact e
section
variable {X : Cx}
theorem pe_lenS {a : Expr} {ta : TE} {p p2 q pos : Pos} (hc : X.calm = true) (hg : Gl X "len") (hm : X.mg "len" = none) (hg2 : Gl X "set") (hm2 : X.mg "set" = none) (ha : PE X a ta)
    (na : starEach [a] X.env = (false, eval a X.env) :: starEach [] X.env := by rfl) : PE X (.Call (.Name "len" p) [.Call (.Name "set" p2) [a] [] q] [] pos) (tLenS X.K ta) := by
  constructor
  intro pins s σ H Q I h
  refine Call_ (ld_blt I hg hm boot_len (PyProof.Rows.callWith_builtin1 (PyProof.Rows.args_cons ?_ rfl) rfl rfl))
  refine Call_ (ld_blt I hg2 hm2 boot_set (PyProof.Rows.callWith_type1 (PyProof.Rows.args_cons (thn (ha.run pins s σ H _ I h) ?_) na) na rfl))
  rintro v s1 ⟨x, H1, I1, r1, l, rfl, q1⟩
  refine PyProof.Rows.args_nil ?_
  cases r1
  have fin : ∀ {α : Type} [DecidableEq α] (knd : KeyKind X.prog X.w α) (xs : List α) (h1 : Heap) (tk : Nat), xs.length ≤ 1000 → Q (.int (dsf xs)) H1 → h1.SetOf knd s1.heap.objs.size (fun y => decide (y ∈ xs)) (dsf xs) → (∀ b o, s1.heap.get? b = some o → h1.get? b = some o) →
      wpAny (model X.prog X.w) X.A (spliced (backTo pos (starEach [] X.env))) (fun vs s2 => wpAny (model X.prog X.w) X.A (call (.builtin "len") (Value.ref s1.heap.objs.size :: vs)) (EP X pins σ Q) X.xe s2) X.xe { s1 with heap := h1, toks := tk } := by
    intro α _ knd xs h1 tk hx q x kp
    refine PyProof.Rows.args_nil ?_
    obtain ⟨o, es, ep, t, ho, hex, hd, _, _, _, hf, hn⟩ := x
    have I2 : Inv X pins σ H1 { s1 with heap := h1, toks := tk } := I1.kept fun b o e => kp b o e
    have le := dsf_le xs
    refine call_len_set ho hex hd hf (by rw [hn]; omega) ⟨.int (dsf xs), H1, I2.tok _, ⟨_, by rw [hn]⟩, q⟩
  rcases q1 with ⟨xs, hq, hz, q⟩ | ⟨ns, hq, hz, q⟩
  · obtain ⟨its, r, pl, _⟩ := I1.list hq
    have e1 := r.length
    rw [List.length_map] at e1
    refine set_of_list (knd := strKind X.prog X.w) (xs := xs) (I1.ok.hd hc) pl.isList (by rw [List.size_toArray, e1]) (fun i v e => ?_) (by rw [List.size_toArray]; unfold scanBound; omega) fun h1 tk x kp => fin _ xs h1 tk hz q x kp
    obtain ⟨x, hx, t, rfl⟩ := valStr r i v e
    exact ⟨x, hx, strKind_is _ _ _ _, rfl⟩
  · obtain ⟨its, r, pl, _⟩ := I1.list hq
    have e1 := r.length
    rw [List.length_map] at e1
    refine set_of_list (knd := intKind X.prog X.w) (xs := ns) (I1.ok.hd hc) pl.isList (by rw [List.size_toArray, e1]) (fun i v e => ?_) (by rw [List.size_toArray]; unfold scanBound; omega) fun h1 tk x kp => fin _ ns h1 tk hz q x kp
    obtain ⟨x, hx, t, rfl⟩ := valInt r i v e
    exact ⟨x, hx, intKind_is _ _ _ _, rfl⟩
/-! ### xs[::s], s 1 or -1 -/
def tRow (K : PySem.W.Frag) (te ts : TE) : TE := fun σ H Q => te σ H fun x H1 => ts σ H1 fun y H2 => ∃ (a : Addr) (xs : List V) (i : Int), x = .ref a ∧ y = .int i ∧ SqL K H2 a xs ∧ (i = 1 ∨ i = -1) ∧ ∀ p, H2 p = none → Q (.ref p) (upd H2 p (.lst (if i = 1 then xs else xs.reverse)))
theorem pick1 (its : Array Value) : slicePick its none none (some 1) = its := by
  have : slicePick its none none (some 1) = slicePick its none none none := rfl
  rw [this, slicePick_all]
theorem pe_row {e st : Expr} {te ts : TE} {p3 pos : Pos} (he : PE X e te) (hs : PE X st ts) : PE X (.Subscript e (.Slice none none (some st) p3) pos) (tRow X.K te ts) := by
  constructor
  intro pins s σ H Q I h
  refine Subscript_ (thn (he.run pins s σ H _ I h) ?_)
  rintro v s1 ⟨x, H1, I1, r1, q1⟩
  refine wpAny_Slice (thn (po_none.run pins s1 σ H1 (fun o H2 => o = none ∧ H2 = H1) I1 ⟨rfl, rfl⟩) ?_)
  rintro vl s2 ⟨l, H2, I2, pl, rfl, rfl⟩
  refine thn (po_none.run pins s2 σ H2 (fun o H3 => o = none ∧ H3 = H2) I2 ⟨rfl, rfl⟩) ?_
  rintro vu s3 ⟨u, H3, I3, pu, rfl, rfl⟩
  refine thn (hs.run pins s3 σ H3 _ I3 q1) ?_
  rintro vs s4 ⟨y, H4, I4, r4, a, xs, i, rfl, rfl, hx, hi, q⟩
  obtain ⟨t, rfl⟩ := r4
  cases r1
  have I5 : Inv X pins σ H4 { s4 with heap := s4.heap.push { cls := .type "slice", data := .fields #[vl, vu, .int i t] } } := I4.kept (t' := s4.toks) fun b ob z => Heap.get?_push_of_some _ z
  obtain ⟨its, r, ht, hz⟩ := I5.list hx
  have e1 := r.length
  show wpAny (model X.prog X.w) X.A (subscriptTail e (.Slice none none (some st) p3) (.ref a) (.ref s4.heap.objs.size)) (EP X pins σ Q) X.xe { s4 with heap := s4.heap.push { cls := .type "slice", data := .fields #[vl, vu, .int i t] } }
  refine tail_any (ops := [.ref a, .ref s4.heap.objs.size]) ht.isList.typeIs (PySem.slot_list_getitem.lookup) ?_ (by with_unfolding_all rfl)
  have i0 : some i ≠ some 0 := by
    intro z
    cases z
    omega
  refine wpAny_getItem_list_slice (st := some i) ht.isList (Heap.IsSliceOf.new _ vl vu _) pl pu (.int i t) i0 ?_ (by rw [List.size_toArray]; omega)
  rcases hi with rfl | rfl
  · rw [pick1]
    exact ⟨.ref _, _, I5.laid (t' := s4.toks) (o := .lst xs) (fun b ob z => Heap.get?_push_of_some _ z) (Nat.le_refl _) ⟨hz, _, 0, r, Heap.get?_push_size _ rfl⟩, rfl, q _ (I5.hok.fresh (Nat.le_refl _))⟩
  · rw [PySem.W.krv_pick]
    exact ⟨.ref _, _, I5.laid (t' := s4.toks) (o := .lst xs.reverse) (fun b ob z => Heap.get?_push_of_some _ z) (Nat.le_refl _) ⟨by rw [List.length_reverse]; exact hz, _, 0, r.reverse, Heap.get?_push_size _ rfl⟩, rfl, q _ (I5.hok.fresh (Nat.le_refl _))⟩
/-! ### big powers -/
def CPw (i j : Int) : Prop := 0 ≤ j ∧ (Builtin.Int.intBits i : Int) * j ≤ 2 ^ 27
def dPow : R2 := rI CPw fun i j => .int (i ^ j.toNat)
theorem op_dPow : OpR X (binaryOp .Pow) dPow := opI fun _ _ _ _ _ _ _ hc q => pow_int hc.1 hc.2 q
/-- x.join(ys) -/
def rJoin (K : PySem.W.Frag) : V → List V → Hp → VK → Prop := fun x xs H Q => ∃ a p, ∃ ys : List Str, x = .str a ∧ xs = [.ref p] ∧ (SqL K H p (ys.map V.str) ∨ SqT K H p (ys.map V.str)) ∧
      (ys.map (·.length)).sum + ys.length * a.length ≤ 16777216 ∧ Q (.str (Txt.join a ys)) H
end
end S

namespace S
open PySem PySem.Spec PyProof.Rows L2
/-! ### C(.., k = v), with defaults -/
def MakRK (P : Program) (w : World) (K : PySem.W.Frag) (mg : Str → Option Value) (base : Heap) (k : Nat) (x : Str) (C : Addr) (n : Nat) (ks : List Str) (gV : List V → List V → List V) (sp : Sp) : Prop :=
  ∃ f fd ps g, Mk K C f ∧ FnOk P w K mg base (L2.CX P w) k f fd ps sp ∧ KBn K fd ps (n + 1) ks g gV ∧ mg x = some (.ref C)
def tMakK (C : Addr) (sp : Sp) (W : WX) (n m : Nat) (gV : List V → List V → List V) (t tk : TA) : TE := fun σ H Q => t σ H fun vs H1 => tk σ H1 fun zs H2 => vs.length = n ∧ zs.length = m ∧ ∀ x dx, H2 x = Option.none → H2 dx = Option.none → dx ≠ x →
  sp (gV (V.ref x :: vs) zs) (upd (upd H2 dx (.own x)) x (.ins C dx [])) (fun v H3 => v = .non ∧ Q (.ref x) H3) (WE W σ)
section
variable {X : Cx} {k n : Nat} {f C : Addr} {fd : FuncData} {ps ks : List Str} {sp : Sp} {W : WX} {x : Str} {p pos : Pos} {e : Expr} {es : List Expr} {kws : List Keyword} {t tk : TA} {σ : L2.St} {g : List Value → List Value → List Value} {gV : List V → List V → List V}
theorem run_makK {E : XK} {pins : List (Addr × Obj)} {H : Hp} {s : Shared} {Q : VK} {us ws : List Value} {vs zs : List V} (M : Mk X.K C f) (F : FnOk X.prog X.w X.K X.mg X.base (L2.CX X.prog X.w) k f fd ps sp) (hb : KBn X.K fd ps (n + 1) ks g gV) (hr : Room (k + 1) X.A)
    (hx : PassesAt (L2.CX X.prog X.w) X σ E) (I : Inv X pins σ H s) (r : Vals vs us) (rz : Vals zs ws) (l1 : vs.length = n) (l2 : zs.length = ks.length)
    (h : ∀ x dx, H x = Option.none → H dx = Option.none → dx ≠ x → sp (gV (V.ref x :: vs) zs) (upd (upd H dx (.own x)) x (.ins C dx [])) (fun v H2 => v = .non ∧ Q (.ref x) H2) E) :
    wpAny (model X.prog X.w) X.A (call (.ref C) us (ks.zip ws)) (EP X pins σ Q) X.xe s := by
  have new := h (s.heap.objs.size + 1) s.heap.objs.size (I.hok.fresh (Nat.le_succ _)) (I.hok.fresh (Nat.le_refl _)) (Nat.ne_of_lt (Nat.lt_succ_self _))
  have J := Inv.made (C := C) I
  have rr : Vals (V.ref (s.heap.objs.size + 1) :: vs) (Value.ref (s.heap.objs.size + 1) :: us) := .cons rfl r
  have n1 : (Value.ref (s.heap.objs.size + 1) :: us).length = n + 1 := by rw [List.length_cons, ← r.length, l1]
  have n2 : ws.length = ks.length := by rw [← rz.length, l2]
  have run := F.run _ X.stack _ _ ⟨Value.ref (s.heap.objs.size + 1) :: us, ks.zip ws⟩ (g (Value.ref (s.heap.objs.size + 1) :: us) ws) _ _ E (hr.make C us (ks.zip ws)) (J.env0.make C us (ks.zip ws)) (hb.to _ _ ws J.kIn n1 n2) (hb.rel rr rz) new
  refine wpAny_call (make_map (f := f) I.kIn M.makes M.init (beq_iff_eq.mp M.fn) (codeAny_mono run ?_))
  intro res s' got
  match res, got with
  | .error e, got => exact hx pins _ _ e s' J got
  | .ok (.ret u), got =>
    obtain ⟨v, H', I3, rv, ev, q3⟩ := J.after got
    subst ev
    exact ⟨rv, ⟨V.ref (s.heap.objs.size + 1), H', I3, rfl, q3⟩⟩
  | .ok .next, got => exact False.elim got
  | .ok .brk, got => exact False.elim got
  | .ok .cont, got => exact False.elim got
theorem pe_makK (G : MakRK X.prog X.w X.K X.mg X.base k x C n ks gV sp) (hr : Room (k + 1) X.A) (hg : Gl X x) (tw : Takes X W) (ha : PA X (e :: es) t) (hkw : PK X kws tk)
    (hall : (backToKw pos (keywordEach kws X.env)).all (·.1.isSome) = true := by rfl) (hks : (backToKw pos (keywordEach kws X.env)).filterMap (·.1) = ks := by rfl) (hdb : (x == ("__debug__" : Str)) = false := by decide)
    (he : starEach (e :: es) X.env = (false, eval e X.env) :: starEach es X.env := by rfl)
    (hpl : ((backTo pos (starEach (e :: es) X.env)).any (·.1) || (backToKw pos (keywordEach kws X.env)).any (·.1.isNone)) = false := by rfl) : PE X (.Call (.Name x p) (e :: es) kws pos) (tMakK C sp W n ks.length gV t tk) := by
  obtain ⟨f, fd, ps, g, M, F, hb, hm⟩ := G
  constructor
  intro pins s σ H Q I h
  refine wpAny_Call_Name_kw (ld_glob I hg hm ?_ hdb)
  refine PySem.W.callWith_KW (h₀ := X.base) I.ok.mod.kin M.kp hall (thn (ha.run pos pins s σ H _ I h) ?_) hpl he
  rintro us s1 ⟨vs, H1, I1, r, q⟩
  refine thn (hkw.run pos pins s1 σ H1 _ I1 q) ?_
  rintro ws s2 ⟨zs, H2, I2, rz, l1, l2, q2⟩
  refine ⟨I2.kIn, ?_⟩
  rw [hks]
  exact run_makK M F hb hr (passAt tw σ) I2 r rz l1 l2 q2
end
theorem makRK_of {P : Program} {w : World} {K : PySem.W.Frag} {mg : Str → Option Value} {base : Heap} {x : Str} {f C : Addr} {fd : FuncData} {ps ks : List Str} {k n : Nat} {sp : Sp} {g : List Value → List Value → List Value} {gV : List V → List V → List V}
    (M : Mk K C f) (hm : mg x = some (.ref C)) (hb : KBn K fd ps (n + 1) ks g gV) (ok : FnOk P w K mg base (L2.CX P w) k f fd ps sp) : MakRK P w K mg base k x C n ks gV sp := ⟨f, fd, ps, g, M, ok, hb, hm⟩
/-- Vals of a joined row -/
theorem kbn_of {K : PySem.W.Frag} {x qual : Str} {params : Arguments} {body : List Stmt} {scope : Scope} {dvs : List V} {f : Addr} {fd : FuncData} {ps : List Str} (F : FunD K x qual params body scope dvs [] f fd) (n : Nat) (ks : List Str) (g : {α : Type} → List α → List α → List α → List α) (hd : dvs ≠ [])
    (hrel : ∀ {vs ds zs : List V} {us its ws : List Value}, Vals vs us → Vals ds its → Vals zs ws → Vals (g vs ds zs) (g us its ws))
    (h : ∀ (T : Addr) (kV doc pm : Value) (an : Option Addr) (cdv ct : Value) (us its ws : List Value), us.length = n → its.length = dvs.length → ws.length = ks.length →
      ∃ k, bindArgs (PySem.W.fnOf x qual params body scope (.ref T) kV doc pm an cdv ct) ⟨us, ks.zip ws⟩ = seqItems? (.ref T) >>= k ∧ k (some its.toArray) = pure (ps.zip (g us its ws))) : ∃ g', KBn K fd ps n ks g' (fun vs zs => g vs dvs zs) := by
  obtain ⟨its, r⟩ := FunD.kbindsD F n ks g hd hrel h
  exact ⟨_, r⟩
section
variable {K : PySem.W.Frag} {σ : L2.St} {A B : SH} {Φ : V → SH → Prop} {Ψ : Value → Option Addr → L2.St → SH → Prop} {W : WX} {te ts ta : TE} {t tk : TA} {sp : Spec} {C p q : Addr} {xs : List V} {i j : Int} {n m : Nat} {gV : List V → List V → List V}
def NMakK (C : Addr) (sp : Spec) (Φ : V → SH → Prop) (Ψ : Value → Option Addr → L2.St → SH → Prop) (σ : L2.St) (n m : Nat) (gV : List V → List V → List V) (vs : List V) : List V → SH → Prop := fun zs A1 => vs.length = n ∧ zs.length = m ∧ ∀ x dx, sp (gV (V.ref x :: vs) zs) (sg x (.ins C dx []) :: A1) (fun v A2 => v = .non ∧ Φ (.ref x) A2) fun c d A2 => Ψ c d σ A2
theorem ge_makK' (hx : WPost Ψ W) (h : GA t σ A fun vs A1 => GA tk σ A1 (NMakK C sp Φ Ψ σ n m gV vs)) : GE (tMakK C (lift sp) W n m gV t tk) σ A Φ := fun H Q a p =>
  h H _ a fun vs A1 H1 a1 h1 => h1 H1 _ a1 fun zs A2 H2 a2 ⟨l1, l2, h2⟩ => ⟨l1, l2, fun x dx nx nd ne =>
    ⟨_, _, _, (a2.new nd).tail.new (by rw [upd_ne (Ne.symm ne)]; exact nx), fun v A3 H3 a3 ⟨e, k⟩ => ⟨e, p _ A3 H3 a3 k⟩, fun c d A3 H3 a3 k => hx c d σ A3 H3 a3 k, h2 x dx⟩⟩
def NLenS (K : PySem.W.Frag) (Φ : V → SH → Prop) : V → SH → Prop := fun x A => ∃ l, x = .ref l ∧ ((∃ xs : List Str, RL K A l (xs.map V.str) ∧ xs.length ≤ 1000 ∧ Φ (.int (dsf xs)) A) ∨ (∃ ns : List Int, RL K A l (ns.map V.int) ∧ ns.length ≤ 1000 ∧ Φ (.int (dsf ns)) A))
theorem ge_lenS' (h : GE ta σ A (NLenS K Φ)) : GE (tLenS K ta) σ A Φ := fun H Q a ps =>
  h H _ a fun x A1 H1 a1 ⟨l, e, r⟩ => ⟨l, e, r.elim (fun ⟨xs, r, z, k⟩ => .inl ⟨xs, r H1 a1, z, ps _ A1 H1 a1 k⟩) fun ⟨xs, r, z, k⟩ => .inr ⟨xs, r H1 a1, z, ps _ A1 H1 a1 k⟩⟩
theorem nlenS {xs : List Str} (r : RL K A p (xs.map V.str)) (z : xs.length ≤ 1000) (k : Φ (.int (dsf xs)) A) : NLenS K Φ (.ref p) A := ⟨p, rfl, .inl ⟨xs, r, z, k⟩⟩
theorem nlenI {xs : List Int} (r : RL K A p (xs.map V.int)) (z : xs.length ≤ 1000) (k : Φ (.int (dsf xs)) A) : NLenS K Φ (.ref p) A := ⟨p, rfl, .inr ⟨xs, r, z, k⟩⟩
def NRow (K : PySem.W.Frag) (Φ : V → SH → Prop) (x : V) : V → SH → Prop := fun y A => ∃ a xs i, x = .ref a ∧ y = .int i ∧ RL K A a xs ∧ (i = 1 ∨ i = -1) ∧ ∀ p, Φ (.ref p) (sg p (.lst (if i = 1 then xs else xs.reverse)) :: A)
theorem ge_row' (h : GE te σ A fun x A1 => GE ts σ A1 (NRow K Φ x)) : GE (tRow K te ts) σ A Φ := fun H Q a ps =>
  h H _ a fun x A1 H1 a1 h1 => h1 H1 _ a1 fun y A2 H2 a2 ⟨b, xs, i, e1, e2, r, o, k⟩ => ⟨b, xs, i, e1, e2, r H2 a2, o, fun c hc => ps _ _ _ (a2.new hc) (k c)⟩
theorem nrow (r : RL K A p xs) (o : i = 1 ∨ i = -1) (k : ∀ p, Φ (.ref p) (sg p (.lst (if i = 1 then xs else xs.reverse)) :: A)) : NRow K Φ (.ref p) (.int i) A := ⟨p, xs, i, rfl, rfl, r, o, k⟩
theorem gr_pow (c : CPw i j) (k : Φ (.int (i ^ j.toNat)) A) : GR dPow (.int i) (.int j) A Φ := gr_I c k
def NJoin (K : PySem.W.Frag) (Φ : V → SH → Prop) (x : V) : V → SH → Prop := fun y A => ∃ a p, ∃ ys : List Str, x = .str a ∧ y = .ref p ∧ RL K A p (ys.map V.str) ∧ (ys.map (·.length)).sum + ys.length * a.length ≤ 16777216 ∧ Φ (.str (Txt.join a ys)) A
def NJ1 (K : PySem.W.Frag) (ts : TE) (σ : L2.St) (Φ : V → SH → Prop) : V → SH → Prop := fun x A => (∃ a, x = .str a) ∧ GE ts σ A (NJoin K Φ x)
def NLR1 (Φ : V → SH → Prop) : V → SH → Prop := fun x A => ∃ n : Int, x = .int n ∧ 0 ≤ n ∧ n ≤ 1000000 ∧ ∀ q, Φ (.ref q) (sg q (.lst ((List.range n.toNat).map fun i : Nat => V.int i)) :: A)
theorem rgV0 (n : Int) : rgV 0 n = (List.range n.toNat).map fun i : Nat => V.int i := by
  unfold rgV
  rw [Int.sub_zero]
  simp only [Int.zero_add]
theorem ge_lstRg1' (h : GE te σ A (NLR1 Φ)) : GE (tLstRg (tRg1 te)) σ A Φ := fun H Q a ps =>
  h H _ a fun x A1 H1 a1 ⟨n, e, z0, z1, k⟩ => ⟨n, e, RgOk.of_le (by decide) (by omega) (by decide) z0, fun q hq => ps _ _ _ (a1.new hq) (rgV0 n ▸ k q)⟩
theorem nlr1 {n : Int} (z0 : 0 ≤ n) (z1 : n ≤ 1000000) (k : ∀ q, Φ (.ref q) (sg q (.lst ((List.range n.toNat).map fun i : Nat => V.int i)) :: A)) : NLR1 Φ (.int n) A := ⟨n, rfl, z0, z1, k⟩
theorem nj1 {a : Str} (h : GE ts σ A (NJoin K Φ (.str a))) : NJ1 K ts σ Φ (.str a) A := ⟨⟨a, rfl⟩, h⟩
theorem ge_join' (h : GE te σ A (NJ1 K ts σ Φ)) : GE (tM1 (rJoin K) te ts) σ A Φ := fun H Q a ps =>
  h H _ a fun x A1 H1 a1 h1 => ⟨h1.1, h1.2 H1 _ a1 fun y A2 H2 a2 ⟨b, c, ys, e1, e2, r, z, k⟩ => ⟨b, c, ys, e1, by rw [e2], .inl (r H2 a2), z, ps _ A2 H2 a2 k⟩⟩
theorem njoin {a : Str} {ys : List Str} (r : RL K A p (ys.map V.str)) (z : (ys.map (·.length)).sum + ys.length * a.length ≤ 16777216) (k : Φ (.str (Txt.join a ys)) A) : NJoin K Φ (.str a) (.ref p) A := ⟨a, p, ys, rfl, rfl, r, z, k⟩
end
section
variable {K : PySem.W.Frag} {σ σ1 σ2 : L2.St} {A B : SH} {to ti : TE} {t : TA} {v w : V} {p : Addr} {xs : List V} {k : Int} {i j : Nat} {nx : L2.St → SH → Prop} {rt : V → SH → Prop} {bk ct : L2.St → SH → Prop} {Φ : L2.St → SH → Prop}
def NSet (Φ : L2.St → SH → Prop) (σ : L2.St) (v o : V) : V → SH → Prop := fun i A => ∃ p xs k B, o = .ref p ∧ i = .int k ∧ Pull A (sg p (.lst xs)) B ∧ 0 ≤ k ∧ k < (xs.length : Int) ∧ Φ σ (sg p (.lst (xs.set k.toNat v)) :: B)
theorem gg_sub' (h : GE to σ A fun o A1 => GE ti σ A1 (NSet Φ σ v o)) : GG (gSub to ti rSetL) v σ A Φ := fun H Q a ps =>
  h H _ a fun o A1 H1 a1 h1 => h1 H1 _ a1 fun i A2 H2 a2 ⟨p, xs, k, B, e1, e2, pl, z0, z1, q⟩ => ⟨p, xs, k, k.toNat, e1, e2, (pl.has a2).at, by unfold ixN; rw [if_pos z0, if_pos z1], ps _ _ _ (pl.has a2).set q⟩
theorem nset (pl : Pull A (sg p (.lst xs)) B) (z0 : 0 ≤ k) (z1 : k < (xs.length : Int)) (q : Φ σ (sg p (.lst (xs.set k.toNat v)) :: B)) : NSet Φ σ v (.ref p) (.int k) A := ⟨p, xs, k, B, rfl, rfl, pl, z0, z1, q⟩
def NPar (nx : L2.St → SH → Prop) (σ : L2.St) (i j : Nat) : List V → SH → Prop := fun vs A => ∃ v w, vs = [v, w] ∧ nx ((σ.set i (some v)).set j (some w)) A
theorem gs_par' (h : GA t σ A (NPar nx σ i j)) : GS (tPar i j t) ⟨nx, rt, bk, ct⟩ σ A := fun H E a im =>
  h H _ a fun vs A1 H1 a1 ⟨v, w, e, q⟩ => ⟨v, w, e, im.nx _ _ _ a1 q⟩
theorem npar (s1 : Set1 σ i (some v) σ1) (s2 : Set1 σ1 j (some w) σ2) (q : nx σ2 A) : NPar nx σ i j [v, w] A := by
  have e1 : σ.set i (some v) = σ1 := s1
  have e2 : σ1.set j (some w) = σ2 := s2
  exact ⟨v, w, rfl, by rw [e1, e2]; exact q⟩
end
/-! ### cells of any size -/
def Big : Nat := 2 ^ 1048576
theorem big_le {n : Nat} (h : n ≤ 2 ^ 64) : n ≤ Big := Nat.le_trans h (Nat.pow_le_pow_right (by decide) (by decide))
/-- a number of the script -/
def Cell (z : Int) : Prop := z.natAbs < Big
theorem cell_bits {z : Int} (h : Builtin.Int.intBits z ≤ 1048576) : Cell z := by
  unfold Cell Big
  by_cases h0 : z.natAbs = 0
  · rw [h0]
    exact Nat.pow_pos (by decide)
  · have hz : ¬ z = 0 := fun e => h0 (by rw [e]; rfl)
    have e : Builtin.Int.intBits z = z.natAbs.log2 + 1 := by
      unfold Builtin.Int.intBits
      first | rfl | (simp [h0, hz])
    rw [e] at h
    exact Nat.lt_of_lt_of_le (Nat.lt_log2_self) (Nat.pow_le_pow_right (by decide) h)
theorem bits_of {z : Int} {n : Nat} (h : z.natAbs < 2 ^ n) : Builtin.Int.intBits z ≤ n := by
  unfold Builtin.Int.intBits
  by_cases h0 : z.natAbs = 0
  · have hz : z = 0 := Int.natAbs_eq_zero.mp h0
    simp [hz]
  · have hz : ¬ z = 0 := fun e => h0 (by rw [e]; rfl)
    have := (Nat.log2_lt h0).mpr h
    simp [h0, hz]
    omega
/-- (z + d) ** 3 -/
theorem cpw3 {z d : Int} (h : Cell z) (h0 : -(2 ^ 40) ≤ d) (h1 : d ≤ 2 ^ 40) : CPw (z + d) 3 := by
  refine ⟨by decide, ?_⟩
  have b : (z + d).natAbs < 2 ^ 1048577 := by
    have e : (2 : Nat) ^ 1048577 = Big + Big := by
      unfold Big
      rw [Nat.pow_succ]
      omega
    rw [e]
    have hz : z.natAbs < Big := h
    have hb : 2 ^ 41 ≤ Big := big_le (by decide)
    generalize Big = N at *
    omega
  have := bits_of b
  omega
/-! ### slices from and up to a place -/
section
variable {K : PySem.W.Frag} {A : SH} {Φ : V → SH → Prop} {p : Addr} {xs : List V} {i j : Int}
theorem cut_to (h : 0 ≤ i) : cutV xs none (some i) = xs.take i.toNat := by
  unfold cutV
  show (xs.drop 0).take ((if i < 0 then _ else min i.toNat xs.length) - 0) = _
  rw [if_neg (by omega), List.drop_zero, Nat.sub_zero, List.take_eq_take_iff]
  omega
theorem cut_from (h : 0 ≤ i) : cutV xs (some i) none = xs.drop i.toNat := by
  unfold cutV
  show (xs.drop (if i < 0 then _ else min i.toNat xs.length)).take (xs.length - (if i < 0 then _ else min i.toNat xs.length)) = _
  rw [if_neg (by omega)]
  by_cases c : i.toNat ≤ xs.length
  · rw [Nat.min_eq_left c, List.take_of_length_le (by rw [List.length_drop]; omega)]
  · rw [Nat.min_eq_right (by omega), List.drop_eq_nil_of_le (Nat.le_refl _), List.drop_eq_nil_of_le (by omega)]
    exact List.take_nil
theorem gsl_to (r : RL K A p xs) (h : 0 ≤ i) (k : ∀ q, Φ (.ref q) (sg q (.lst (xs.take i.toNat)) :: A)) : GSl (rSl K) (.ref p) none (some i) A Φ := gsl_list r fun q => (cut_to (xs := xs) h).symm ▸ k q
theorem gsl_from (r : RL K A p xs) (h : 0 ≤ i) (k : ∀ q, Φ (.ref q) (sg q (.lst (xs.drop i.toNat)) :: A)) : GSl (rSl K) (.ref p) (some i) none A Φ := gsl_list r fun q => (cut_from (xs := xs) h).symm ▸ k q
end
/-! ### a place to meet -/
def tMid (t1 t2 : TS) : TS := tSeq t1 t2
theorem gs_mid {σ : L2.St} {A : SH} {t1 t2 : TS} {nx : L2.St → SH → Prop} {rt : V → SH → Prop} {bk ct : L2.St → SH → Prop} (Mid : L2.St → SH → Prop) (h : GS t1 ⟨Cl Mid, rt, bk, ct⟩ σ A) (k : ∀ σ A, Mid σ A → GS t2 ⟨nx, rt, bk, ct⟩ σ A) : GS (tMid t1 t2) ⟨nx, rt, bk, ct⟩ σ A := by
  show GS (tSeq t1 t2) ⟨nx, rt, bk, ct⟩ σ A
  refine gs_seq fun H E a im => h H E a ⟨fun σ A H x p => im.nx σ A H x (gs_as fun H2 x2 => ?_), im.rt, im.bk, im.ct⟩
  obtain ⟨B, hB, m⟩ := p H2 x2
  exact ⟨B, hB, k σ B m⟩
end S

namespace S
open PySem PySem.Spec PyProof.Rows L2
section
variable {K : PySem.W.Frag} {σ : L2.St} {A : SH} {ta : TA} {a b : Addr} {xs ys : List V} {g : TG} {t : TS} {nx : L2.St → SH → Prop} {rt : V → SH → Prop} {bk ct : L2.St → SH → Prop}
def NZip (K : PySem.W.Frag) (Φ : It → SH → Prop) : List V → SH → Prop := fun vs A => ∃ a b xs ys, vs = [.ref a, .ref b] ∧ ((RL K A a xs ∧ RL K A b ys ∧ Φ (Itz K a b) A) ∨ (RT K A a xs ∧ RT K A b ys ∧ Φ (RZ.ItzT K a b) A))
theorem gi_zip' {Φ : It → SH → Prop} (h : GA ta σ A (NZip K Φ)) : GI (RZ.iZipA K ta) σ A Φ := fun H R x p =>
  h H _ x fun vs A1 H1 a1 ⟨a, b, xs, ys, e, q⟩ => ⟨a, b, xs, ys, e, q.elim (fun ⟨r1, r2, k⟩ => .inl ⟨r1 H1 a1, r2 H1 a1, p _ A1 H1 a1 k⟩) fun ⟨r1, r2, k⟩ => .inr ⟨r1 H1 a1, r2 H1 a1, p _ A1 H1 a1 k⟩⟩
theorem nzipT {Φ : It → SH → Prop} (r1 : RT K A a xs) (r2 : RT K A b ys) (k : Φ (RZ.ItzT K a b) A) : NZip K Φ [.ref a, .ref b] A := ⟨a, b, xs, ys, rfl, .inr ⟨r1, r2, k⟩⟩
theorem nzipL {Φ : It → SH → Prop} (r1 : RL K A a xs) (r2 : RL K A b ys) (k : Φ (Itz K a b) A) : NZip K Φ [.ref a, .ref b] A := ⟨a, b, xs, ys, rfl, .inl ⟨r1, r2, k⟩⟩
theorem gf_zipT (hl : xs.length = ys.length) (Pv : Nat → L2.St → SH → Prop) (h0 : Cl (Pv 0) σ A) (hq : ∀ i σ A, Pv i σ A → RT K A a xs ∧ RT K A b ys)
    (hs : ∀ i x y T σ A, xs[i]? = some x → ys[i]? = some y → Pv i σ A → GG g (.ref T) σ (sg T (.tup [x, y]) :: A) fun σ' A' => GS t ⟨Cl (Pv (i + 1)), rt, nx, Cl (Pv (i + 1))⟩ σ' A') (hd : ∀ σ A, Pv xs.length σ A → nx σ A) : GF (RZ.ItzT K a b) g t ⟨nx, rt, bk, ct⟩ σ A := fun H E x im =>
  RZ.for_zipT (K := K) (D := E) hl (fun i σ H => ∃ A, Has H A ∧ Pv i σ A) (h0 H x) (fun i σ H ⟨A, x, p⟩ => ⟨(hq i σ A p).1 H x, (hq i σ A p).2 H x⟩)
    (fun i v y T σ H hx hy ⟨A, x, p⟩ hT => hs i v y T σ A hx hy p _ _ (x.new hT) fun σ' A' H' x' k => k H' _ x' ⟨fun σ A H x p => p H x, im.rt, im.nx, fun σ A H x p => p H x⟩)
    fun σ H ⟨A, x, p⟩ => im.nx σ A H x (hd σ A p)
theorem gf_zipL (hl : xs.length = ys.length) (Pv : Nat → L2.St → SH → Prop) (h0 : Cl (Pv 0) σ A) (hq : ∀ i σ A, Pv i σ A → RL K A a xs ∧ RL K A b ys)
    (hs : ∀ i x y T σ A, xs[i]? = some x → ys[i]? = some y → Pv i σ A → GG g (.ref T) σ (sg T (.tup [x, y]) :: A) fun σ' A' => GS t ⟨Cl (Pv (i + 1)), rt, nx, Cl (Pv (i + 1))⟩ σ' A') (hd : ∀ σ A, Pv xs.length σ A → nx σ A) : GF (Itz K a b) g t ⟨nx, rt, bk, ct⟩ σ A := fun H E x im =>
  RZ.for_zipL (K := K) (D := E) hl (fun i σ H => ∃ A, Has H A ∧ Pv i σ A) (h0 H x) (fun i σ H ⟨A, x, p⟩ => ⟨(hq i σ A p).1 H x, (hq i σ A p).2 H x⟩)
    (fun i v y T σ H hx hy ⟨A, x, p⟩ hT => hs i v y T σ A hx hy p _ _ (x.new hT) fun σ' A' H' x' k => k H' _ x' ⟨fun σ A H x p => p H x, im.rt, im.nx, fun σ A H x p => p H x⟩)
    fun σ H ⟨A, x, p⟩ => im.nx σ A H x (hd σ A p)
end
/-! ### data that may be compared -/
def Shp (n : Nat) (d : PyData) : Prop := d.canLay0 = true ∧ d.depth ≤ n
def ShpA (n : Nat) (ds : List PyData) : Prop := PyData.canLayAll0 ds = true ∧ PyData.depthAll ds ≤ n
theorem shp_non {n : Nat} : Shp n .none := ⟨by simp only [PyData.canLay0], by simp only [PyData.depth]; omega⟩
theorem shp_bl {n : Nat} {b : Bool} : Shp n (.bool b) := ⟨by simp only [PyData.canLay0], by simp only [PyData.depth]; omega⟩
theorem shp_int {n : Nat} {i : Int} : Shp n (.int i) := ⟨by simp only [PyData.canLay0], by simp only [PyData.depth]; omega⟩
theorem shp_str {n : Nat} {x : Str} (h : PyData.strOk x = true) : Shp n (.str x) := ⟨by simp only [PyData.canLay0]; exact h, by simp only [PyData.depth]; omega⟩
theorem shp_lst {n : Nat} {ds : List PyData} (h : ShpA n ds) : Shp (n + 1) (.list ds) := ⟨by simp only [PyData.canLay0]; exact h.1, by have := h.2; simp only [PyData.depth]; omega⟩
theorem shp_tup {n : Nat} {ds : List PyData} (h : ShpA n ds) : Shp (n + 1) (.tuple ds) := ⟨by simp only [PyData.canLay0]; exact h.1, by have := h.2; simp only [PyData.depth]; omega⟩
theorem shpA_nil {n : Nat} : ShpA n [] := ⟨by simp only [PyData.canLayAll0], by simp only [PyData.depthAll]; omega⟩
theorem shpA_cons {n : Nat} {d : PyData} {ds : List PyData} (h : Shp n d) (t : ShpA n ds) : ShpA n (d :: ds) := ⟨by simp only [PyData.canLayAll0, h.1, t.1, Bool.and_self], by have := h.2; have := t.2; simp only [PyData.depthAll]; omega⟩
theorem shpA_all {n : Nat} : ∀ {ds : List PyData}, (∀ d ∈ ds, Shp n d) → ShpA n ds
  | [], _ => shpA_nil
  | d :: ds, h => shpA_cons (h d (.head _)) (shpA_all fun e he => h e (.tail _ he))
theorem shpA_map {α : Type} {n : Nat} {f : α → PyData} {l : List α} (h : ∀ x, Shp n (f x)) : ShpA n (l.map f) := shpA_all fun d hd => by
  obtain ⟨x, _, rfl⟩ := List.mem_map.mp hd
  exact h x
theorem shp_ok {n : Nat} {d : PyData} (h : Shp n d) (hn : n ≤ 64) : SeqAt.shaped d = true := by
  unfold SeqAt.shaped
  rw [h.1, decide_eq_true (Nat.le_trans h.2 hn)]
  rfl
section
variable {K : PySem.W.Frag} {A : SH} {Φ : V → SH → Prop} {x y : V} {n : Nat} {d : PyData}
theorem gr_neB {b c : Bool} (k : Φ (.bl (!decide (b = c))) A) : GR (dNe K) (.bl b) (.bl c) A Φ := gr_ne_scal rfl (by
  have e : decide (V.bl b = V.bl c) = decide (b = c) := by
    by_cases h : b = c
    · rw [h, decide_eq_true rfl, decide_eq_true rfl]
    · rw [decide_eq_false h, decide_eq_false fun z => h (V.bl.inj z)]
  rw [e]
  exact k)
theorem gr_eqR (h1 : DP K A x d) (h2 : DP K A y d) (s : Shp n d) (hn : n ≤ 64) (k : Φ (.bl true) A) : GR (dEq K) x y A Φ := gr_eqD h1 h2 (shp_ok s hn) (shp_ok s hn) (by rw [SeqAt.eqv_refl d s.1]; exact k)
theorem gr_neR (h1 : DP K A x d) (h2 : DP K A y d) (s : Shp n d) (hn : n ≤ 64) (k : Φ (.bl false) A) : GR (dNe K) x y A Φ := gr_neD h1 h2 (shp_ok s hn) (shp_ok s hn) (by rw [SeqAt.eqv_refl d s.1]; exact k)
end
def uNeg : V → Hp → VK → Prop := rU fun i => .int (-i)
theorem gu_neg {A : SH} {Φ : V → SH → Prop} {i : Int} (k : Φ (.int (-i)) A) : GU uNeg (.int i) A Φ := fun H Q a p => ⟨i, rfl, p _ A H a k⟩
section
variable {K : PySem.W.Frag} {A : SH} {Φ : V → SH → Prop} {x : V} {p : Addr} {xs : List V} {z w : Str}
theorem gr_inTt (r : RT K A p xs) (h : (flatV x && xs.all flatV && inV x xs) = true) (k : Φ (.bl true) A) : GR (dIn K false) x (.ref p) A Φ := by
  obtain ⟨h1, h3⟩ := Bool.and_eq_true_iff.mp h
  obtain ⟨h1, h2⟩ := Bool.and_eq_true_iff.mp h1
  exact gr_inT0 r h1 h2 (by rw [h3]; exact k)
theorem gr_inTf (r : RT K A p xs) (h : (flatV x && xs.all flatV && !inV x xs) = true) (k : Φ (.bl false) A) : GR (dIn K false) x (.ref p) A Φ := by
  obtain ⟨h1, h3⟩ := Bool.and_eq_true_iff.mp h
  obtain ⟨h1, h2⟩ := Bool.and_eq_true_iff.mp h1
  have h4 : inV x xs = false := by simpa using h3
  exact gr_inT0 r h1 h2 (by rw [h4]; exact k)
theorem gr_eqSy (h : z = w) (k : Φ (.bl true) A) : GR (dEq K) (.str z) (.str w) A Φ := gr_eqS (by rw [decide_eq_true h]; exact k)
theorem gr_eqSn (h : ¬ z = w) (k : Φ (.bl false) A) : GR (dEq K) (.str z) (.str w) A Φ := gr_eqS (by rw [decide_eq_false h]; exact k)
theorem gr_neSy (h : z = w) (k : Φ (.bl false) A) : GR (dNe K) (.str z) (.str w) A Φ := gr_neS (by rw [decide_eq_true h]; exact k)
theorem gr_neSn (h : ¬ z = w) (k : Φ (.bl true) A) : GR (dNe K) (.str z) (.str w) A Φ := gr_neS (by rw [decide_eq_false h]; exact k)
end
theorem ty_tupT {K : PySem.W.Frag} {A : SH} {p : Addr} {xs : List V} (r : RT K A p xs) : TyG K A (.ref p) (.type "tuple") := fun H a => by
  rcases r H a with (h | ⟨o, h⟩) | ⟨o, its, n, l, c, _⟩
  · exact .base (.tup h)
  · exact .fTuple h
  · exact .kTuple l c
/-! ### a written place of a written row -/
section
variable {K : PySem.W.Frag} {A : SH} {Φ : V → SH → Prop} {p : Addr} {v0 v1 v2 v3 v4 : V} {r : List V}
theorem gl0 (h : RL K A p (v0 :: r)) (k : Φ v0 A) : GR (rIx K) (.ref p) (.int 0) A Φ := gr_ixN (n := 0) h rfl k
theorem gl1 (h : RL K A p (v0 :: v1 :: r)) (k : Φ v1 A) : GR (rIx K) (.ref p) (.int 1) A Φ := gr_ixN (n := 1) h rfl k
theorem gl2 (h : RL K A p (v0 :: v1 :: v2 :: r)) (k : Φ v2 A) : GR (rIx K) (.ref p) (.int 2) A Φ := gr_ixN (n := 2) h rfl k
theorem gl3 (h : RL K A p (v0 :: v1 :: v2 :: v3 :: r)) (k : Φ v3 A) : GR (rIx K) (.ref p) (.int 3) A Φ := gr_ixN (n := 3) h rfl k
theorem gl4 (h : RL K A p (v0 :: v1 :: v2 :: v3 :: v4 :: r)) (k : Φ v4 A) : GR (rIx K) (.ref p) (.int 4) A Φ := gr_ixN (n := 4) h rfl k
end
end S

namespace S
open PySem PySem.Spec PyProof.Rows L2
theorem map_at {α β : Type} {f : α → β} {l : List α} {i : Nat} {y : β} (h : (l.map f)[i]? = some y) : ∃ x, l[i]? = some x ∧ f x = y := by
  rw [List.getElem?_map] at h
  cases e : l[i]? with
  | none => rw [e] at h; cases h
  | some x => rw [e] at h; exact ⟨x, rfl, Option.some.inj h⟩
/-! ### calls by themselves -/
theorem wxF : WPost (fun _ _ _ _ => False) (fun _ _ _ _ => False) := fun _ _ _ _ _ _ z => z
section
variable {K : PySem.W.Frag} {σ σ' σw : L2.St} {A B : SH} {Φ : V → SH → Prop} {Ψ : Value → Option Addr → L2.St → SH → Prop} {C p q : Addr} {sp : Spec} {vs : List V} {xs ys : List V} {v x y : V}
theorem nmk (h : ∀ x dx, sp (V.ref x :: vs) (sg x (.ins C dx []) :: A) (fun v A2 => v = .non ∧ Φ (.ref x) A2) fun c d A2 => Ψ c d σ A2) : NMak C sp Φ Ψ σ vs A := h
theorem nret {P : Prop} (h : P) : V.non = V.non ∧ P := ⟨rfl, h⟩
/-! ### loops that leave the heap as it is but for what is new -/
section
variable {g : TG} {t : TS} {nx : L2.St → SH → Prop} {rt : V → SH → Prop} {bk ct : L2.St → SH → Prop}
/-- for x in a list that stays: Pv by the turn and the slots, over a heap that holds A -/
theorem gf_lstK (Pv : Nat → L2.St → Prop) (h0 : Pv 0 σ) (r : RL K A p xs)
    (hs : ∀ i x σ A', xs[i]? = some x → Le A A' → Pv i σ → GG g x σ A' fun σ' A'' => GS t ⟨Cl (fun σ B => Le A B ∧ Pv (i + 1) σ), rt, nx, Cl (fun σ B => Le A B ∧ Pv (i + 1) σ)⟩ σ' A'')
    (hd : ∀ σ A', Le A A' → Pv xs.length σ → nx σ A') : GF (Itl K p) g t ⟨nx, rt, bk, ct⟩ σ A :=
  gf_list (fun i σ B => Le A B ∧ Pv i σ) (Cl.of ⟨Le.refl, h0⟩) (fun _ _ _ _ q => r.le q.1) (fun i x σ A' hx q => hs i x σ A' hx q.1 q.2) fun σ A' q => hd σ A' q.1 q.2
theorem gf_tupK (Pv : Nat → L2.St → Prop) (h0 : Pv 0 σ) (r : RT K A p xs)
    (hs : ∀ i x σ A', xs[i]? = some x → Le A A' → Pv i σ → GG g x σ A' fun σ' A'' => GS t ⟨Cl (fun σ B => Le A B ∧ Pv (i + 1) σ), rt, nx, Cl (fun σ B => Le A B ∧ Pv (i + 1) σ)⟩ σ' A'')
    (hd : ∀ σ A', Le A A' → Pv xs.length σ → nx σ A') : GF (Itt K p) g t ⟨nx, rt, bk, ct⟩ σ A :=
  gf_tup (fun i σ B => Le A B ∧ Pv i σ) (Cl.of ⟨Le.refl, h0⟩) (fun _ _ _ _ q => r.le q.1) (fun i x σ A' hx q => hs i x σ A' hx q.1 q.2) fun σ A' q => hd σ A' q.1 q.2
theorem gf_rngK {lo : Int} {n : Nat} (Pv : Nat → L2.St → Prop) (h0 : Pv 0 σ)
    (hs : ∀ i σ A', i < n → Le A A' → Pv i σ → GG g (.int (lo + i)) σ A' fun σ' A'' => GS t ⟨Cl (fun σ B => Le A B ∧ Pv (i + 1) σ), rt, nx, Cl (fun σ B => Le A B ∧ Pv (i + 1) σ)⟩ σ' A'')
    (hd : ∀ σ A', Le A A' → Pv n σ → nx σ A') : GF (Itr lo n) g t ⟨nx, rt, bk, ct⟩ σ A :=
  gf_range (fun i σ B => Le A B ∧ Pv i σ) (Cl.of ⟨Le.refl, h0⟩) (fun i σ A' hi q => hs i σ A' hi q.1 q.2) fun σ A' q => hd σ A' q.1 q.2
theorem gf_strK {z : Str} (Pv : Nat → L2.St → Prop) (h0 : Pv 0 σ)
    (hs : ∀ i c σ A', z.cps[i]? = some c → Le A A' → Pv i σ → GG g (.str ⟨#[c]⟩) σ A' fun σ' A'' => GS t ⟨Cl (fun σ B => Le A B ∧ Pv (i + 1) σ), rt, nx, Cl (fun σ B => Le A B ∧ Pv (i + 1) σ)⟩ σ' A'')
    (hd : ∀ σ A', Le A A' → Pv z.cps.size σ → nx σ A') : GF (Its z) g t ⟨nx, rt, bk, ct⟩ σ A :=
  gf_str (fun i σ B => Le A B ∧ Pv i σ) (Cl.of ⟨Le.refl, h0⟩) (fun i c σ A' hc q => hs i c σ A' hc q.1 q.2) fun σ A' q => hd σ A' q.1 q.2
theorem cl_le {P : L2.St → Prop} (l : Le A B) (h : P σ) : Cl (fun σ B => Le A B ∧ P σ) σ B := Cl.of ⟨l, h⟩
end
/-! ### comprehensions whose items are told by a function: some y to take, none to leave -/
section
variable {g : TG} {tt : TT} {te : TE} {vsn : List Nat}
/-- one turn: what it adds -/
def Turn2 (g : TG) (tt : TT) (te : TE) (vs : List Nat) (σw : L2.St) (x : V) (A : SH) (o : Option V) : Prop :=
  ∀ D acc, GG g x σw (sg D (.lst acc) :: A) fun σ2 A2 => Wi σ2 vs σw ∧ GT tt σ2 A2 fun b A3 => (b = true → GE te σ2 A3 fun y A4 => o = some y ∧ Le (sg D (.lst acc) :: A) A4) ∧ (b = false → o = none ∧ Le (sg D (.lst acc) :: A) A3)
theorem Turn2.one {x : V} {o : Option V} {D : Addr} {acc acc' : List V} {N : List V → SH → Prop} (h : Turn2 g tt te vsn σw x A o) (e : acc' = acc ++ o.toList) (n : N acc' A) : Turn1 g tt te vsn σw D acc x A N := by
  unfold Turn1
  subst e
  refine fun H Q a p => h D acc H Q a fun σ' A' H' a' ⟨w, q⟩ => p σ' A' H' a' ⟨w, fun H2 Q2 a2 p2 => q H2 Q2 a2 fun b A3 H3 a3 ⟨q1, q2⟩ => p2 b A3 H3 a3 ⟨fun hb H4 Q4 a4 p4 => q1 hb H4 Q4 a4 fun y A5 H5 a5 ⟨e, l⟩ => p4 y A5 H5 a5 ?_, fun hb => ?_⟩⟩
  · subst e
    exact CT.le l n
  · obtain ⟨e, l⟩ := q2 hb
    subst e
    refine CT.le l ?_
    rw [show acc ++ (none : Option V).toList = acc from List.append_nil _] at n
    exact n
theorem fm_take (F : V → Option V) {i : Nat} (h : xs[i]? = some x) : (xs.take (i + 1)).filterMap F = (xs.take i).filterMap F ++ (F x).toList := by
  rw [List.take_add_one, h, List.filterMap_append]
  cases e : F x <;> simp [e]
theorem glc_lstF (F : V → Option V) (hw : Wi σ vsn σw) (hz : xs.length ≤ 1000) (r : RL K A p xs) (hs : ∀ (i : Nat) (x : V), xs[i]? = some x → Turn2 g tt te vsn σw x A (F x)) (hd : ∀ D, Φ (.ref D) (sg D (.lst (xs.filterMap F)) :: A)) : GLC (Itl K p) g tt te vsn σ A Φ :=
  glc_list (fun (i : Nat) acc B => B = A ∧ acc = (xs.take i).filterMap F) hw ⟨rfl, rfl⟩ (sz1 hz) (fun _ _ _ _ q => q.1 ▸ r) (fun i x acc B D hx _ ⟨e1, e2⟩ => by
    subst e1
    exact (hs i x hx).one (acc' := acc ++ (F x).toList) rfl ⟨rfl, by rw [e2, fm_take F hx]⟩) (fun acc B D _ ⟨e1, e2⟩ => by
    subst e1
    rw [List.take_length] at e2
    subst e2
    exact hd D)
theorem glc_tupF (F : V → Option V) (hw : Wi σ vsn σw) (hz : xs.length ≤ 1000) (r : RT K A p xs) (hs : ∀ (i : Nat) (x : V), xs[i]? = some x → Turn2 g tt te vsn σw x A (F x)) (hd : ∀ D, Φ (.ref D) (sg D (.lst (xs.filterMap F)) :: A)) : GLC (Itt K p) g tt te vsn σ A Φ :=
  glc_tup (fun (i : Nat) acc B => B = A ∧ acc = (xs.take i).filterMap F) hw ⟨rfl, rfl⟩ (sz1 hz) (fun _ _ _ _ q => q.1 ▸ r) (fun i x acc B D hx _ ⟨e1, e2⟩ => by
    subst e1
    exact (hs i x hx).one (acc' := acc ++ (F x).toList) rfl ⟨rfl, by rw [e2, fm_take F hx]⟩) (fun acc B D _ ⟨e1, e2⟩ => by
    subst e1
    rw [List.take_length] at e2
    subst e2
    exact hd D)
theorem glc_rngF {lo : Int} {n : Nat} (F : Nat → Option V) (hw : Wi σ vsn σw) (hz : n ≤ 1000) (hs : ∀ i, i < n → Turn2 g tt te vsn σw (.int (lo + i)) A (F i)) (hd : ∀ D, Φ (.ref D) (sg D (.lst ((List.range n).filterMap F)) :: A)) : GLC (Itr lo n) g tt te vsn σ A Φ :=
  glc_range (fun i acc B => B = A ∧ acc = (List.range i).filterMap F) hw ⟨rfl, rfl⟩ (sz1 hz) (fun i acc B D hi _ ⟨e1, e2⟩ => by
    subst e1
    refine (hs i hi).one (acc' := acc ++ (F i).toList) rfl ⟨rfl, ?_⟩
    rw [e2, List.range_succ, List.filterMap_append]
    cases e : F i <;> simp [e]) (fun acc B D _ ⟨e1, e2⟩ => by
    subst e1
    subst e2
    exact hd D)
theorem t2_some {x y : V} {D : Addr} {acc : List V} (l : Le (sg D (.lst acc) :: A) B) : some y = some y ∧ Le (sg D (.lst acc) :: A) B := ⟨rfl, l⟩
/-- every item one -/
theorem fm_all {α β : Type} {f : α → β} : ∀ {l : List α}, l.filterMap (fun x => some (f x)) = l.map f
  | [] => rfl
  | a :: l => by rw [List.filterMap_cons, List.map_cons, fm_all]
theorem fm_map {α β γ : Type} {f : α → β} {F : β → Option γ} : ∀ {l : List α}, (l.map f).filterMap F = l.filterMap fun x => F (f x)
  | [] => rfl
  | a :: l => by
    rw [List.map_cons, List.filterMap_cons, List.filterMap_cons, fm_map]
theorem fm_cong {α β : Type} {F G : α → Option β} : ∀ {l : List α}, (∀ x ∈ l, F x = G x) → l.filterMap F = l.filterMap G
  | [], _ => rfl
  | a :: l, h => by
    rw [List.filterMap_cons, List.filterMap_cons, h a (.head _), fm_cong fun x hx => h x (.tail _ hx)]
end
end
end S

namespace S
open PySem L2
abbrev top (i : Nat) : Stmt := PySem.Challenge.pw_buildhall_k12_states_step_by_step.main.body.getD i (.Pass ⟨0, 0, 0, 0⟩)
abbrev s_wait_after : Stmt := (top 8)
abbrev s_is_whole : Stmt := (top 12)
abbrev s_is_among : Stmt := (top 13)
abbrev s_is_made_of : Stmt := (top 14)
abbrev s_is_name : Stmt := (top 15)
abbrev s_State_word : Stmt := (inClass (top 17) 0)
abbrev s_State_is_over : Stmt := (inClass (top 17) 1)
abbrev s_State_count_fails : Stmt := (inClass (top 17) 2)
abbrev s_State_told : Stmt := (inClass (top 17) 3)
abbrev s_State_freed : Stmt := (inClass (top 17) 4)
abbrev s_State_leased : Stmt := (inClass (top 17) 5)
abbrev s_State_ended : Stmt := (inClass (top 17) 6)
abbrev s_State_failed : Stmt := (inClass (top 17) 7)
abbrev s_State_rested : Stmt := (inClass (top 17) 8)
abbrev s_State_cut_off : Stmt := (inClass (top 17) 9)
abbrev s_Over_is_over : Stmt := (inClass (top 19) 0)
abbrev s_Blocked_init : Stmt := (inClass (top 20) 0)
abbrev s_Blocked_word : Stmt := (inClass (top 20) 1)
abbrev s_Blocked_told : Stmt := (inClass (top 20) 2)
abbrev s_Blocked_freed : Stmt := (inClass (top 20) 3)
abbrev s_Blocked_cut_off : Stmt := (inClass (top 20) 4)
abbrev s_Ready_init : Stmt := (inClass (top 21) 0)
abbrev s_Ready_word : Stmt := (inClass (top 21) 1)
abbrev s_Ready_count_fails : Stmt := (inClass (top 21) 2)
abbrev s_Ready_told : Stmt := (inClass (top 21) 3)
abbrev s_Ready_leased : Stmt := (inClass (top 21) 4)
abbrev s_Leased_init : Stmt := (inClass (top 22) 0)
abbrev s_Leased_word : Stmt := (inClass (top 22) 1)
abbrev s_Leased_count_fails : Stmt := (inClass (top 22) 2)
abbrev s_Leased_told : Stmt := (inClass (top 22) 3)
abbrev s_Leased_ended : Stmt := (inClass (top 22) 4)
abbrev s_Leased_failed : Stmt := (inClass (top 22) 5)
abbrev s_Resting_init : Stmt := (inClass (top 23) 0)
abbrev s_Resting_word : Stmt := (inClass (top 23) 1)
abbrev s_Resting_count_fails : Stmt := (inClass (top 23) 2)
abbrev s_Resting_told : Stmt := (inClass (top 23) 3)
abbrev s_Resting_rested : Stmt := (inClass (top 23) 4)
abbrev s_Done_init : Stmt := (inClass (top 24) 0)
abbrev s_Done_word : Stmt := (inClass (top 24) 1)
abbrev s_Done_count_fails : Stmt := (inClass (top 24) 2)
abbrev s_Done_told : Stmt := (inClass (top 24) 3)
abbrev s_Broken_init : Stmt := (inClass (top 25) 0)
abbrev s_Broken_word : Stmt := (inClass (top 25) 1)
abbrev s_Broken_count_fails : Stmt := (inClass (top 25) 2)
abbrev s_Broken_told : Stmt := (inClass (top 25) 3)
abbrev s_Cut_init : Stmt := (inClass (top 26) 0)
abbrev s_Cut_word : Stmt := (inClass (top 26) 1)
abbrev s_Cut_told : Stmt := (inClass (top 26) 2)
abbrev s_first_state : Stmt := (top 27)
abbrev s_own_needs : Stmt := (top 32)
abbrev s_need_numbers : Stmt := (top 33)
abbrev s_Job_init : Stmt := (inClass (top 34) 0)
abbrev s_law_cell_at : Stmt := (top 36)
abbrev s_law_mixed : Stmt := (top 37)
abbrev s_law_whole : Stmt := (top 38)
abbrev s_law_same : Stmt := (top 39)
abbrev s_law_is : Stmt := (top 40)
abbrev s_law_over : Stmt := (top 41)
abbrev s_law_stands : Stmt := (top 42)
abbrev s_law_job : Stmt := (top 43)
abbrev s_law_rest : Stmt := (top 44)
abbrev s_law_first : Stmt := (top 45)
abbrev s_law_turn : Stmt := (top 46)
abbrev s_law_stepped : Stmt := (top 47)
abbrev s_law : Stmt := (top 48)
structure Ad where
  cHallError : Addr
  cBadName : Addr
  cBadNumber : Addr
  cBadNeeds : Addr
  cBadStep : Addr
  cState : Addr
  cOpen : Addr
  cOver : Addr
  cBlocked : Addr
  cReady : Addr
  cLeased : Addr
  cResting : Addr
  cDone : Addr
  cBroken : Addr
  cCut : Addr
  cJob : Addr
  gLEAST : Addr
  gMOST : Addr

def fState : List (Str × V) := []
theorem fState_no_count_fails : (fState).lookup ("count_fails" : Str) = none := rfl
theorem fState_no_cut_off : (fState).lookup ("cut_off" : Str) = none := rfl
theorem fState_no_ended : (fState).lookup ("ended" : Str) = none := rfl
theorem fState_no_failed : (fState).lookup ("failed" : Str) = none := rfl
theorem fState_no_freed : (fState).lookup ("freed" : Str) = none := rfl
theorem fState_no_is_over : (fState).lookup ("is_over" : Str) = none := rfl
theorem fState_no_leased : (fState).lookup ("leased" : Str) = none := rfl
theorem fState_no_rested : (fState).lookup ("rested" : Str) = none := rfl
theorem fState_no_told : (fState).lookup ("told" : Str) = none := rfl
theorem fState_no_word : (fState).lookup ("word" : Str) = none := rfl
def fOpen : List (Str × V) := []
theorem fOpen_no_count_fails : (fOpen).lookup ("count_fails" : Str) = none := rfl
theorem fOpen_no_cut_off : (fOpen).lookup ("cut_off" : Str) = none := rfl
theorem fOpen_no_ended : (fOpen).lookup ("ended" : Str) = none := rfl
theorem fOpen_no_failed : (fOpen).lookup ("failed" : Str) = none := rfl
theorem fOpen_no_freed : (fOpen).lookup ("freed" : Str) = none := rfl
theorem fOpen_no_is_over : (fOpen).lookup ("is_over" : Str) = none := rfl
theorem fOpen_no_leased : (fOpen).lookup ("leased" : Str) = none := rfl
theorem fOpen_no_rested : (fOpen).lookup ("rested" : Str) = none := rfl
theorem fOpen_no_told : (fOpen).lookup ("told" : Str) = none := rfl
theorem fOpen_no_word : (fOpen).lookup ("word" : Str) = none := rfl
def fOver : List (Str × V) := []
theorem fOver_no_count_fails : (fOver).lookup ("count_fails" : Str) = none := rfl
theorem fOver_no_cut_off : (fOver).lookup ("cut_off" : Str) = none := rfl
theorem fOver_no_ended : (fOver).lookup ("ended" : Str) = none := rfl
theorem fOver_no_failed : (fOver).lookup ("failed" : Str) = none := rfl
theorem fOver_no_freed : (fOver).lookup ("freed" : Str) = none := rfl
theorem fOver_no_is_over : (fOver).lookup ("is_over" : Str) = none := rfl
theorem fOver_no_leased : (fOver).lookup ("leased" : Str) = none := rfl
theorem fOver_no_rested : (fOver).lookup ("rested" : Str) = none := rfl
theorem fOver_no_told : (fOver).lookup ("told" : Str) = none := rfl
theorem fOver_no_word : (fOver).lookup ("word" : Str) = none := rfl
def fBlocked (x_left : V) : List (Str × V) := [("left", x_left)]
theorem fBlocked_left {x_left : V} : (fBlocked x_left).lookup ("left" : Str) = some x_left := by first | rfl | kernel_rfl
theorem fBlocked_put_left {x_left y : V} : putF "left" y (fBlocked x_left) = fBlocked y := by first | rfl | kernel_rfl
theorem fBlocked_all {x_left : V} : (putF "left" x_left []) = fBlocked x_left := by first | rfl | kernel_rfl
theorem fBlocked_len {x_left : V} : (fBlocked x_left).length = 1 := rfl
theorem fBlocked_no_count_fails {x_left : V} : (fBlocked x_left).lookup ("count_fails" : Str) = none := by first | rfl | kernel_rfl
theorem fBlocked_no_cut_off {x_left : V} : (fBlocked x_left).lookup ("cut_off" : Str) = none := by first | rfl | kernel_rfl
theorem fBlocked_no_ended {x_left : V} : (fBlocked x_left).lookup ("ended" : Str) = none := by first | rfl | kernel_rfl
theorem fBlocked_no_failed {x_left : V} : (fBlocked x_left).lookup ("failed" : Str) = none := by first | rfl | kernel_rfl
theorem fBlocked_no_freed {x_left : V} : (fBlocked x_left).lookup ("freed" : Str) = none := by first | rfl | kernel_rfl
theorem fBlocked_no_is_over {x_left : V} : (fBlocked x_left).lookup ("is_over" : Str) = none := by first | rfl | kernel_rfl
theorem fBlocked_no_leased {x_left : V} : (fBlocked x_left).lookup ("leased" : Str) = none := by first | rfl | kernel_rfl
theorem fBlocked_no_rested {x_left : V} : (fBlocked x_left).lookup ("rested" : Str) = none := by first | rfl | kernel_rfl
theorem fBlocked_no_told {x_left : V} : (fBlocked x_left).lookup ("told" : Str) = none := by first | rfl | kernel_rfl
theorem fBlocked_no_word {x_left : V} : (fBlocked x_left).lookup ("word" : Str) = none := by first | rfl | kernel_rfl
def fReady (x_fails : V) : List (Str × V) := [("fails", x_fails)]
theorem fReady_fails {x_fails : V} : (fReady x_fails).lookup ("fails" : Str) = some x_fails := by first | rfl | kernel_rfl
theorem fReady_put_fails {x_fails y : V} : putF "fails" y (fReady x_fails) = fReady y := by first | rfl | kernel_rfl
theorem fReady_all {x_fails : V} : (putF "fails" x_fails []) = fReady x_fails := by first | rfl | kernel_rfl
theorem fReady_len {x_fails : V} : (fReady x_fails).length = 1 := rfl
theorem fReady_no_count_fails {x_fails : V} : (fReady x_fails).lookup ("count_fails" : Str) = none := by first | rfl | kernel_rfl
theorem fReady_no_cut_off {x_fails : V} : (fReady x_fails).lookup ("cut_off" : Str) = none := by first | rfl | kernel_rfl
theorem fReady_no_ended {x_fails : V} : (fReady x_fails).lookup ("ended" : Str) = none := by first | rfl | kernel_rfl
theorem fReady_no_failed {x_fails : V} : (fReady x_fails).lookup ("failed" : Str) = none := by first | rfl | kernel_rfl
theorem fReady_no_freed {x_fails : V} : (fReady x_fails).lookup ("freed" : Str) = none := by first | rfl | kernel_rfl
theorem fReady_no_is_over {x_fails : V} : (fReady x_fails).lookup ("is_over" : Str) = none := by first | rfl | kernel_rfl
theorem fReady_no_leased {x_fails : V} : (fReady x_fails).lookup ("leased" : Str) = none := by first | rfl | kernel_rfl
theorem fReady_no_rested {x_fails : V} : (fReady x_fails).lookup ("rested" : Str) = none := by first | rfl | kernel_rfl
theorem fReady_no_told {x_fails : V} : (fReady x_fails).lookup ("told" : Str) = none := by first | rfl | kernel_rfl
theorem fReady_no_word {x_fails : V} : (fReady x_fails).lookup ("word" : Str) = none := by first | rfl | kernel_rfl
def fCut (x_need : V) : List (Str × V) := [("need", x_need)]
theorem fCut_need {x_need : V} : (fCut x_need).lookup ("need" : Str) = some x_need := by first | rfl | kernel_rfl
theorem fCut_put_need {x_need y : V} : putF "need" y (fCut x_need) = fCut y := by first | rfl | kernel_rfl
theorem fCut_all {x_need : V} : (putF "need" x_need []) = fCut x_need := by first | rfl | kernel_rfl
theorem fCut_len {x_need : V} : (fCut x_need).length = 1 := rfl
theorem fCut_no_count_fails {x_need : V} : (fCut x_need).lookup ("count_fails" : Str) = none := by first | rfl | kernel_rfl
theorem fCut_no_cut_off {x_need : V} : (fCut x_need).lookup ("cut_off" : Str) = none := by first | rfl | kernel_rfl
theorem fCut_no_ended {x_need : V} : (fCut x_need).lookup ("ended" : Str) = none := by first | rfl | kernel_rfl
theorem fCut_no_failed {x_need : V} : (fCut x_need).lookup ("failed" : Str) = none := by first | rfl | kernel_rfl
theorem fCut_no_freed {x_need : V} : (fCut x_need).lookup ("freed" : Str) = none := by first | rfl | kernel_rfl
theorem fCut_no_is_over {x_need : V} : (fCut x_need).lookup ("is_over" : Str) = none := by first | rfl | kernel_rfl
theorem fCut_no_leased {x_need : V} : (fCut x_need).lookup ("leased" : Str) = none := by first | rfl | kernel_rfl
theorem fCut_no_rested {x_need : V} : (fCut x_need).lookup ("rested" : Str) = none := by first | rfl | kernel_rfl
theorem fCut_no_told {x_need : V} : (fCut x_need).lookup ("told" : Str) = none := by first | rfl | kernel_rfl
theorem fCut_no_word {x_need : V} : (fCut x_need).lookup ("word" : Str) = none := by first | rfl | kernel_rfl
def fLeased (x_fails x_number : V) : List (Str × V) := [("fails", x_fails), ("number", x_number)]
theorem fLeased_fails {x_fails x_number : V} : (fLeased x_fails x_number).lookup ("fails" : Str) = some x_fails := by first | rfl | kernel_rfl
theorem fLeased_number {x_fails x_number : V} : (fLeased x_fails x_number).lookup ("number" : Str) = some x_number := by first | rfl | kernel_rfl
theorem fLeased_put_fails {x_fails x_number y : V} : putF "fails" y (fLeased x_fails x_number) = fLeased y x_number := by first | rfl | kernel_rfl
theorem fLeased_put_number {x_fails x_number y : V} : putF "number" y (fLeased x_fails x_number) = fLeased x_fails y := by first | rfl | kernel_rfl
theorem fLeased_all {x_fails x_number : V} : (putF "number" x_number (putF "fails" x_fails [])) = fLeased x_fails x_number := by first | rfl | kernel_rfl
theorem fLeased_of_Ready {x_fails x_number : V} : putF "number" x_number (fReady x_fails) = fLeased x_fails x_number := by first | rfl | kernel_rfl
theorem fLeased_len {x_fails x_number : V} : (fLeased x_fails x_number).length = 2 := rfl
theorem fLeased_no_count_fails {x_fails x_number : V} : (fLeased x_fails x_number).lookup ("count_fails" : Str) = none := by first | rfl | kernel_rfl
theorem fLeased_no_cut_off {x_fails x_number : V} : (fLeased x_fails x_number).lookup ("cut_off" : Str) = none := by first | rfl | kernel_rfl
theorem fLeased_no_ended {x_fails x_number : V} : (fLeased x_fails x_number).lookup ("ended" : Str) = none := by first | rfl | kernel_rfl
theorem fLeased_no_failed {x_fails x_number : V} : (fLeased x_fails x_number).lookup ("failed" : Str) = none := by first | rfl | kernel_rfl
theorem fLeased_no_freed {x_fails x_number : V} : (fLeased x_fails x_number).lookup ("freed" : Str) = none := by first | rfl | kernel_rfl
theorem fLeased_no_is_over {x_fails x_number : V} : (fLeased x_fails x_number).lookup ("is_over" : Str) = none := by first | rfl | kernel_rfl
theorem fLeased_no_leased {x_fails x_number : V} : (fLeased x_fails x_number).lookup ("leased" : Str) = none := by first | rfl | kernel_rfl
theorem fLeased_no_rested {x_fails x_number : V} : (fLeased x_fails x_number).lookup ("rested" : Str) = none := by first | rfl | kernel_rfl
theorem fLeased_no_told {x_fails x_number : V} : (fLeased x_fails x_number).lookup ("told" : Str) = none := by first | rfl | kernel_rfl
theorem fLeased_no_word {x_fails x_number : V} : (fLeased x_fails x_number).lookup ("word" : Str) = none := by first | rfl | kernel_rfl
def fResting (x_fails x_until : V) : List (Str × V) := [("fails", x_fails), ("until", x_until)]
theorem fResting_fails {x_fails x_until : V} : (fResting x_fails x_until).lookup ("fails" : Str) = some x_fails := by first | rfl | kernel_rfl
theorem fResting_until {x_fails x_until : V} : (fResting x_fails x_until).lookup ("until" : Str) = some x_until := by first | rfl | kernel_rfl
theorem fResting_put_fails {x_fails x_until y : V} : putF "fails" y (fResting x_fails x_until) = fResting y x_until := by first | rfl | kernel_rfl
theorem fResting_put_until {x_fails x_until y : V} : putF "until" y (fResting x_fails x_until) = fResting x_fails y := by first | rfl | kernel_rfl
theorem fResting_all {x_fails x_until : V} : (putF "until" x_until (putF "fails" x_fails [])) = fResting x_fails x_until := by first | rfl | kernel_rfl
theorem fResting_of_Ready {x_fails x_until : V} : putF "until" x_until (fReady x_fails) = fResting x_fails x_until := by first | rfl | kernel_rfl
theorem fResting_len {x_fails x_until : V} : (fResting x_fails x_until).length = 2 := rfl
theorem fResting_no_count_fails {x_fails x_until : V} : (fResting x_fails x_until).lookup ("count_fails" : Str) = none := by first | rfl | kernel_rfl
theorem fResting_no_cut_off {x_fails x_until : V} : (fResting x_fails x_until).lookup ("cut_off" : Str) = none := by first | rfl | kernel_rfl
theorem fResting_no_ended {x_fails x_until : V} : (fResting x_fails x_until).lookup ("ended" : Str) = none := by first | rfl | kernel_rfl
theorem fResting_no_failed {x_fails x_until : V} : (fResting x_fails x_until).lookup ("failed" : Str) = none := by first | rfl | kernel_rfl
theorem fResting_no_freed {x_fails x_until : V} : (fResting x_fails x_until).lookup ("freed" : Str) = none := by first | rfl | kernel_rfl
theorem fResting_no_is_over {x_fails x_until : V} : (fResting x_fails x_until).lookup ("is_over" : Str) = none := by first | rfl | kernel_rfl
theorem fResting_no_leased {x_fails x_until : V} : (fResting x_fails x_until).lookup ("leased" : Str) = none := by first | rfl | kernel_rfl
theorem fResting_no_rested {x_fails x_until : V} : (fResting x_fails x_until).lookup ("rested" : Str) = none := by first | rfl | kernel_rfl
theorem fResting_no_told {x_fails x_until : V} : (fResting x_fails x_until).lookup ("told" : Str) = none := by first | rfl | kernel_rfl
theorem fResting_no_word {x_fails x_until : V} : (fResting x_fails x_until).lookup ("word" : Str) = none := by first | rfl | kernel_rfl
def fBroken (x_fails x_why : V) : List (Str × V) := [("fails", x_fails), ("why", x_why)]
theorem fBroken_fails {x_fails x_why : V} : (fBroken x_fails x_why).lookup ("fails" : Str) = some x_fails := by first | rfl | kernel_rfl
theorem fBroken_why {x_fails x_why : V} : (fBroken x_fails x_why).lookup ("why" : Str) = some x_why := by first | rfl | kernel_rfl
theorem fBroken_put_fails {x_fails x_why y : V} : putF "fails" y (fBroken x_fails x_why) = fBroken y x_why := by first | rfl | kernel_rfl
theorem fBroken_put_why {x_fails x_why y : V} : putF "why" y (fBroken x_fails x_why) = fBroken x_fails y := by first | rfl | kernel_rfl
theorem fBroken_all {x_fails x_why : V} : (putF "why" x_why (putF "fails" x_fails [])) = fBroken x_fails x_why := by first | rfl | kernel_rfl
theorem fBroken_of_Ready {x_fails x_why : V} : putF "why" x_why (fReady x_fails) = fBroken x_fails x_why := by first | rfl | kernel_rfl
theorem fBroken_len {x_fails x_why : V} : (fBroken x_fails x_why).length = 2 := rfl
theorem fBroken_no_count_fails {x_fails x_why : V} : (fBroken x_fails x_why).lookup ("count_fails" : Str) = none := by first | rfl | kernel_rfl
theorem fBroken_no_cut_off {x_fails x_why : V} : (fBroken x_fails x_why).lookup ("cut_off" : Str) = none := by first | rfl | kernel_rfl
theorem fBroken_no_ended {x_fails x_why : V} : (fBroken x_fails x_why).lookup ("ended" : Str) = none := by first | rfl | kernel_rfl
theorem fBroken_no_failed {x_fails x_why : V} : (fBroken x_fails x_why).lookup ("failed" : Str) = none := by first | rfl | kernel_rfl
theorem fBroken_no_freed {x_fails x_why : V} : (fBroken x_fails x_why).lookup ("freed" : Str) = none := by first | rfl | kernel_rfl
theorem fBroken_no_is_over {x_fails x_why : V} : (fBroken x_fails x_why).lookup ("is_over" : Str) = none := by first | rfl | kernel_rfl
theorem fBroken_no_leased {x_fails x_why : V} : (fBroken x_fails x_why).lookup ("leased" : Str) = none := by first | rfl | kernel_rfl
theorem fBroken_no_rested {x_fails x_why : V} : (fBroken x_fails x_why).lookup ("rested" : Str) = none := by first | rfl | kernel_rfl
theorem fBroken_no_told {x_fails x_why : V} : (fBroken x_fails x_why).lookup ("told" : Str) = none := by first | rfl | kernel_rfl
theorem fBroken_no_word {x_fails x_why : V} : (fBroken x_fails x_why).lookup ("word" : Str) = none := by first | rfl | kernel_rfl
def fDone (x_fails x_number x_turn : V) : List (Str × V) := [("fails", x_fails), ("number", x_number), ("turn", x_turn)]
theorem fDone_fails {x_fails x_number x_turn : V} : (fDone x_fails x_number x_turn).lookup ("fails" : Str) = some x_fails := by first | rfl | kernel_rfl
theorem fDone_number {x_fails x_number x_turn : V} : (fDone x_fails x_number x_turn).lookup ("number" : Str) = some x_number := by first | rfl | kernel_rfl
theorem fDone_turn {x_fails x_number x_turn : V} : (fDone x_fails x_number x_turn).lookup ("turn" : Str) = some x_turn := by first | rfl | kernel_rfl
theorem fDone_put_fails {x_fails x_number x_turn y : V} : putF "fails" y (fDone x_fails x_number x_turn) = fDone y x_number x_turn := by first | rfl | kernel_rfl
theorem fDone_put_number {x_fails x_number x_turn y : V} : putF "number" y (fDone x_fails x_number x_turn) = fDone x_fails y x_turn := by first | rfl | kernel_rfl
theorem fDone_put_turn {x_fails x_number x_turn y : V} : putF "turn" y (fDone x_fails x_number x_turn) = fDone x_fails x_number y := by first | rfl | kernel_rfl
theorem fDone_all {x_fails x_number x_turn : V} : (putF "turn" x_turn (putF "number" x_number (putF "fails" x_fails []))) = fDone x_fails x_number x_turn := by first | rfl | kernel_rfl
theorem fDone_of_Leased {x_fails x_number x_turn : V} : putF "turn" x_turn (fLeased x_fails x_number) = fDone x_fails x_number x_turn := by first | rfl | kernel_rfl
theorem fDone_len {x_fails x_number x_turn : V} : (fDone x_fails x_number x_turn).length = 3 := rfl
theorem fDone_no_count_fails {x_fails x_number x_turn : V} : (fDone x_fails x_number x_turn).lookup ("count_fails" : Str) = none := by first | rfl | kernel_rfl
theorem fDone_no_cut_off {x_fails x_number x_turn : V} : (fDone x_fails x_number x_turn).lookup ("cut_off" : Str) = none := by first | rfl | kernel_rfl
theorem fDone_no_ended {x_fails x_number x_turn : V} : (fDone x_fails x_number x_turn).lookup ("ended" : Str) = none := by first | rfl | kernel_rfl
theorem fDone_no_failed {x_fails x_number x_turn : V} : (fDone x_fails x_number x_turn).lookup ("failed" : Str) = none := by first | rfl | kernel_rfl
theorem fDone_no_freed {x_fails x_number x_turn : V} : (fDone x_fails x_number x_turn).lookup ("freed" : Str) = none := by first | rfl | kernel_rfl
theorem fDone_no_is_over {x_fails x_number x_turn : V} : (fDone x_fails x_number x_turn).lookup ("is_over" : Str) = none := by first | rfl | kernel_rfl
theorem fDone_no_leased {x_fails x_number x_turn : V} : (fDone x_fails x_number x_turn).lookup ("leased" : Str) = none := by first | rfl | kernel_rfl
theorem fDone_no_rested {x_fails x_number x_turn : V} : (fDone x_fails x_number x_turn).lookup ("rested" : Str) = none := by first | rfl | kernel_rfl
theorem fDone_no_told {x_fails x_number x_turn : V} : (fDone x_fails x_number x_turn).lookup ("told" : Str) = none := by first | rfl | kernel_rfl
theorem fDone_no_word {x_fails x_number x_turn : V} : (fDone x_fails x_number x_turn).lookup ("word" : Str) = none := by first | rfl | kernel_rfl
def fJob (x_name x_needs x_rank x_span x_tries x_wait x_grow : V) : List (Str × V) := [("name", x_name), ("needs", x_needs), ("rank", x_rank), ("span", x_span), ("tries", x_tries), ("wait", x_wait), ("grow", x_grow)]
theorem fJob_name {x_name x_needs x_rank x_span x_tries x_wait x_grow : V} : (fJob x_name x_needs x_rank x_span x_tries x_wait x_grow).lookup ("name" : Str) = some x_name := by first | rfl | kernel_rfl
theorem fJob_needs {x_name x_needs x_rank x_span x_tries x_wait x_grow : V} : (fJob x_name x_needs x_rank x_span x_tries x_wait x_grow).lookup ("needs" : Str) = some x_needs := by first | rfl | kernel_rfl
theorem fJob_rank {x_name x_needs x_rank x_span x_tries x_wait x_grow : V} : (fJob x_name x_needs x_rank x_span x_tries x_wait x_grow).lookup ("rank" : Str) = some x_rank := by first | rfl | kernel_rfl
theorem fJob_span {x_name x_needs x_rank x_span x_tries x_wait x_grow : V} : (fJob x_name x_needs x_rank x_span x_tries x_wait x_grow).lookup ("span" : Str) = some x_span := by first | rfl | kernel_rfl
theorem fJob_tries {x_name x_needs x_rank x_span x_tries x_wait x_grow : V} : (fJob x_name x_needs x_rank x_span x_tries x_wait x_grow).lookup ("tries" : Str) = some x_tries := by first | rfl | kernel_rfl
theorem fJob_wait {x_name x_needs x_rank x_span x_tries x_wait x_grow : V} : (fJob x_name x_needs x_rank x_span x_tries x_wait x_grow).lookup ("wait" : Str) = some x_wait := by first | rfl | kernel_rfl
theorem fJob_grow {x_name x_needs x_rank x_span x_tries x_wait x_grow : V} : (fJob x_name x_needs x_rank x_span x_tries x_wait x_grow).lookup ("grow" : Str) = some x_grow := by first | rfl | kernel_rfl
theorem fJob_put_name {x_name x_needs x_rank x_span x_tries x_wait x_grow y : V} : putF "name" y (fJob x_name x_needs x_rank x_span x_tries x_wait x_grow) = fJob y x_needs x_rank x_span x_tries x_wait x_grow := by first | rfl | kernel_rfl
theorem fJob_put_needs {x_name x_needs x_rank x_span x_tries x_wait x_grow y : V} : putF "needs" y (fJob x_name x_needs x_rank x_span x_tries x_wait x_grow) = fJob x_name y x_rank x_span x_tries x_wait x_grow := by first | rfl | kernel_rfl
theorem fJob_put_rank {x_name x_needs x_rank x_span x_tries x_wait x_grow y : V} : putF "rank" y (fJob x_name x_needs x_rank x_span x_tries x_wait x_grow) = fJob x_name x_needs y x_span x_tries x_wait x_grow := by first | rfl | kernel_rfl
theorem fJob_put_span {x_name x_needs x_rank x_span x_tries x_wait x_grow y : V} : putF "span" y (fJob x_name x_needs x_rank x_span x_tries x_wait x_grow) = fJob x_name x_needs x_rank y x_tries x_wait x_grow := by first | rfl | kernel_rfl
theorem fJob_put_tries {x_name x_needs x_rank x_span x_tries x_wait x_grow y : V} : putF "tries" y (fJob x_name x_needs x_rank x_span x_tries x_wait x_grow) = fJob x_name x_needs x_rank x_span y x_wait x_grow := by first | rfl | kernel_rfl
theorem fJob_put_wait {x_name x_needs x_rank x_span x_tries x_wait x_grow y : V} : putF "wait" y (fJob x_name x_needs x_rank x_span x_tries x_wait x_grow) = fJob x_name x_needs x_rank x_span x_tries y x_grow := by first | rfl | kernel_rfl
theorem fJob_put_grow {x_name x_needs x_rank x_span x_tries x_wait x_grow y : V} : putF "grow" y (fJob x_name x_needs x_rank x_span x_tries x_wait x_grow) = fJob x_name x_needs x_rank x_span x_tries x_wait y := by first | rfl | kernel_rfl
theorem fJob_all {x_name x_needs x_rank x_span x_tries x_wait x_grow : V} : (putF "grow" x_grow (putF "wait" x_wait (putF "tries" x_tries (putF "span" x_span (putF "rank" x_rank (putF "needs" x_needs (putF "name" x_name []))))))) = fJob x_name x_needs x_rank x_span x_tries x_wait x_grow := by first | rfl | kernel_rfl
theorem fJob_len {x_name x_needs x_rank x_span x_tries x_wait x_grow : V} : (fJob x_name x_needs x_rank x_span x_tries x_wait x_grow).length = 7 := rfl
end S

namespace S
open PySem L2
/-! ### jobs and states -/
structure Jb where
  name : Str
  needs : List Str
  rank : Int
  span : Int
  tries : Int
  wait : Int
  grow : Int
abbrev fJb (j : Jb) (nd : Addr) : List (Str × V) := fJob (.str j.name) (.ref nd) (.int j.rank) (.int j.span) (.int j.tries) (.int j.wait) (.int j.grow)
def JobAt (A : SH) (a : Ad) (p : Addr) (j : Jb) : Prop := ∃ dx nd, RO A p (.ins a.cJob dx (fJb j nd)) ∧ RO A nd (.lst (j.needs.map V.str))
def madeOf (z signs : Str) (most : Int) : Bool := decide (1 ≤ (z.length : Int)) && decide ((z.length : Int) ≤ most) && z.cps.toList.all fun c => decide (c ∈ signs.cps.toList)
def isName (z : Str) : Bool := madeOf z "abcdefghijklmnopqrstuvwxyz" 12
def restF (w g : Int) : Nat → Int
  | 0 => w
  | n + 1 => min (restF w g n * g) 100000
def numOk (j : Jb) : Prop := 0 ≤ j.rank ∧ j.rank ≤ 99 ∧ 1 ≤ j.span ∧ j.span ≤ 1000 ∧ 1 ≤ j.tries ∧ j.tries ≤ 20 ∧ 0 ≤ j.wait ∧ j.wait ≤ 1000 ∧ 1 ≤ j.grow ∧ j.grow ≤ 4
def needsOk (z : Str) (ns : List Str) : Prop := ns.length ≤ 8 ∧ (∀ y ∈ ns, isName y = true ∧ y ≠ z ∧ y.length ≤ 1000) ∧ ns.Nodup
inductive Stt where
  | blocked (l : Int)
  | ready (f : Int)
  | leased (f n : Int)
  | resting (f u : Int)
  | done (f n t : Int)
  | broken (f : Int) (w : Str)
  | cut (n : Int)
def stO (a : Ad) (dx : Addr) : Stt → HO
  | .blocked l => .ins a.cBlocked dx (fBlocked (.int l))
  | .ready f => .ins a.cReady dx (fReady (.int f))
  | .leased f n => .ins a.cLeased dx (fLeased (.int f) (.int n))
  | .resting f u => .ins a.cResting dx (fResting (.int f) (.int u))
  | .done f n t => .ins a.cDone dx (fDone (.int f) (.int n) (.int t))
  | .broken f w => .ins a.cBroken dx (fBroken (.int f) (.str w))
  | .cut n => .ins a.cCut dx (fCut (.int n))
def StAt (A : SH) (a : Ad) (p : Addr) (s : Stt) : Prop := ∃ dx, RO A p (stO a dx s)
def wordF : Stt → Str
  | .blocked _ => "blocked"
  | .ready _ => "ready"
  | .leased _ _ => "leased"
  | .resting _ _ => "resting"
  | .done _ _ _ => "done"
  | .broken _ _ => "broken"
  | .cut _ => "cut"
def toldF : Stt → List V
  | .blocked l => [.str "blocked", .int l]
  | .ready f => [.str "ready", .int f]
  | .leased f n => [.str "leased", .int f, .int n]
  | .resting f u => [.str "resting", .int f, .int u]
  | .done f n t => [.str "done", .int f, .int n, .int t]
  | .broken f w => [.str "broken", .int f, .str w]
  | .cut n => [.str "cut", .int n]
def S_wait_after (K : PySem.W.Frag) (a : Ad) : Spec := fun vs A Φ _ => ∃ (p : Addr) (j : Jb) (fails : Int), vs = [.ref p, .int fails] ∧ JobAt A a p j ∧ numOk j ∧ 0 ≤ fails ∧ fails ≤ 1000 ∧ Φ (.int (restF j.wait j.grow (fails - 1).toNat)) A
def S_is_whole (K : PySem.W.Frag) (a : Ad) : Spec := fun vs A Φ _ => ∃ i : Int, vs = [.int i] ∧ Φ (.bl true) A
def S_is_among (K : PySem.W.Frag) (a : Ad) : Spec := fun vs A Φ _ => ∃ i l m : Int, vs = [.int i, .int l, .int m] ∧ (l ≤ i ∧ i ≤ m → Φ (.bl true) A) ∧ (¬ (l ≤ i ∧ i ≤ m) → Φ (.bl false) A)
def S_is_made_of (K : PySem.W.Frag) (a : Ad) : Spec := fun vs A Φ _ => ∃ (z s : Str) (m : Int), vs = [.str z, .str s, .int m] ∧ z.length ≤ 1000 ∧ Φ (.bl (madeOf z s m)) A
def S_is_name (K : PySem.W.Frag) (a : Ad) : Spec := fun vs A Φ _ => ∃ z : Str, vs = [.str z] ∧ z.length ≤ 1000 ∧ Φ (.bl (isName z)) A
def S_State_is_over (K : PySem.W.Frag) (a : Ad) : Spec := fun vs A Φ _ => ∃ x : V, vs = [x] ∧ Φ (.bl false) A
def S_State_count_fails (K : PySem.W.Frag) (a : Ad) : Spec := fun vs A Φ _ => ∃ x : V, vs = [x] ∧ Φ (.int 0) A
def S_Over_is_over (K : PySem.W.Frag) (a : Ad) : Spec := fun vs A Φ _ => ∃ x : V, vs = [x] ∧ Φ (.bl true) A
def S_Blocked_init (K : PySem.W.Frag) (a : Ad) : Spec := fun vs A Φ _ => ∃ (p dx : Addr) (l : Int) (B : SH), vs = [.ref p, .int l] ∧ Pull A (sg p (.ins a.cBlocked dx [])) B ∧ Φ .non (sg p (.ins a.cBlocked dx (fBlocked (.int l))) :: B)
def S_Blocked_word (K : PySem.W.Frag) (a : Ad) : Spec := fun vs A Φ _ => ∃ x : V, vs = [x] ∧ Φ (.str "blocked") A
def S_Blocked_told (K : PySem.W.Frag) (a : Ad) : Spec := fun vs A Φ _ => ∃ (p dx : Addr) (l : Int), vs = [.ref p] ∧ RO A p (.ins a.cBlocked dx (fBlocked (.int l))) ∧ ∀ tp, Φ (.ref tp) (sg tp (.tup [.str "blocked", .int l]) :: A)
def S_Ready_init (K : PySem.W.Frag) (a : Ad) : Spec := fun vs A Φ _ => ∃ (p dx : Addr) (f : Int) (B : SH), vs = [.ref p, .int f] ∧ Pull A (sg p (.ins a.cReady dx [])) B ∧ Φ .non (sg p (.ins a.cReady dx (fReady (.int f))) :: B)
def S_Ready_word (K : PySem.W.Frag) (a : Ad) : Spec := fun vs A Φ _ => ∃ x : V, vs = [x] ∧ Φ (.str "ready") A
def S_Ready_told (K : PySem.W.Frag) (a : Ad) : Spec := fun vs A Φ _ => ∃ (p dx : Addr) (f : Int), vs = [.ref p] ∧ RO A p (.ins a.cReady dx (fReady (.int f))) ∧ ∀ tp, Φ (.ref tp) (sg tp (.tup [.str "ready", .int f]) :: A)
def S_Ready_count_fails (K : PySem.W.Frag) (a : Ad) : Spec := fun vs A Φ _ => ∃ (p dx : Addr) (f : Int), vs = [.ref p] ∧ RO A p (.ins a.cReady dx (fReady (.int f))) ∧ Φ (.int f) A
def S_Leased_init (K : PySem.W.Frag) (a : Ad) : Spec := fun vs A Φ _ => ∃ (p dx : Addr) (f : Int) (n : Int) (B : SH), vs = [.ref p, .int f, .int n] ∧ Pull A (sg p (.ins a.cLeased dx [])) B ∧ Φ .non (sg p (.ins a.cLeased dx (fLeased (.int f) (.int n))) :: B)
def S_Leased_word (K : PySem.W.Frag) (a : Ad) : Spec := fun vs A Φ _ => ∃ x : V, vs = [x] ∧ Φ (.str "leased") A
def S_Leased_told (K : PySem.W.Frag) (a : Ad) : Spec := fun vs A Φ _ => ∃ (p dx : Addr) (f : Int) (n : Int), vs = [.ref p] ∧ RO A p (.ins a.cLeased dx (fLeased (.int f) (.int n))) ∧ ∀ tp, Φ (.ref tp) (sg tp (.tup [.str "leased", .int f, .int n]) :: A)
def S_Leased_count_fails (K : PySem.W.Frag) (a : Ad) : Spec := fun vs A Φ _ => ∃ (p dx : Addr) (f : Int) (n : Int), vs = [.ref p] ∧ RO A p (.ins a.cLeased dx (fLeased (.int f) (.int n))) ∧ Φ (.int f) A
def S_Resting_init (K : PySem.W.Frag) (a : Ad) : Spec := fun vs A Φ _ => ∃ (p dx : Addr) (f : Int) (u : Int) (B : SH), vs = [.ref p, .int f, .int u] ∧ Pull A (sg p (.ins a.cResting dx [])) B ∧ Φ .non (sg p (.ins a.cResting dx (fResting (.int f) (.int u))) :: B)
def S_Resting_word (K : PySem.W.Frag) (a : Ad) : Spec := fun vs A Φ _ => ∃ x : V, vs = [x] ∧ Φ (.str "resting") A
def S_Resting_told (K : PySem.W.Frag) (a : Ad) : Spec := fun vs A Φ _ => ∃ (p dx : Addr) (f : Int) (u : Int), vs = [.ref p] ∧ RO A p (.ins a.cResting dx (fResting (.int f) (.int u))) ∧ ∀ tp, Φ (.ref tp) (sg tp (.tup [.str "resting", .int f, .int u]) :: A)
def S_Resting_count_fails (K : PySem.W.Frag) (a : Ad) : Spec := fun vs A Φ _ => ∃ (p dx : Addr) (f : Int) (u : Int), vs = [.ref p] ∧ RO A p (.ins a.cResting dx (fResting (.int f) (.int u))) ∧ Φ (.int f) A
def S_Done_init (K : PySem.W.Frag) (a : Ad) : Spec := fun vs A Φ _ => ∃ (p dx : Addr) (f : Int) (n : Int) (t : Int) (B : SH), vs = [.ref p, .int f, .int n, .int t] ∧ Pull A (sg p (.ins a.cDone dx [])) B ∧ Φ .non (sg p (.ins a.cDone dx (fDone (.int f) (.int n) (.int t))) :: B)
def S_Done_word (K : PySem.W.Frag) (a : Ad) : Spec := fun vs A Φ _ => ∃ x : V, vs = [x] ∧ Φ (.str "done") A
def S_Done_told (K : PySem.W.Frag) (a : Ad) : Spec := fun vs A Φ _ => ∃ (p dx : Addr) (f : Int) (n : Int) (t : Int), vs = [.ref p] ∧ RO A p (.ins a.cDone dx (fDone (.int f) (.int n) (.int t))) ∧ ∀ tp, Φ (.ref tp) (sg tp (.tup [.str "done", .int f, .int n, .int t]) :: A)
def S_Done_count_fails (K : PySem.W.Frag) (a : Ad) : Spec := fun vs A Φ _ => ∃ (p dx : Addr) (f : Int) (n : Int) (t : Int), vs = [.ref p] ∧ RO A p (.ins a.cDone dx (fDone (.int f) (.int n) (.int t))) ∧ Φ (.int f) A
def S_Broken_init (K : PySem.W.Frag) (a : Ad) : Spec := fun vs A Φ _ => ∃ (p dx : Addr) (f : Int) (w : Str) (B : SH), vs = [.ref p, .int f, .str w] ∧ Pull A (sg p (.ins a.cBroken dx [])) B ∧ Φ .non (sg p (.ins a.cBroken dx (fBroken (.int f) (.str w))) :: B)
def S_Broken_word (K : PySem.W.Frag) (a : Ad) : Spec := fun vs A Φ _ => ∃ x : V, vs = [x] ∧ Φ (.str "broken") A
def S_Broken_told (K : PySem.W.Frag) (a : Ad) : Spec := fun vs A Φ _ => ∃ (p dx : Addr) (f : Int) (w : Str), vs = [.ref p] ∧ RO A p (.ins a.cBroken dx (fBroken (.int f) (.str w))) ∧ ∀ tp, Φ (.ref tp) (sg tp (.tup [.str "broken", .int f, .str w]) :: A)
def S_Broken_count_fails (K : PySem.W.Frag) (a : Ad) : Spec := fun vs A Φ _ => ∃ (p dx : Addr) (f : Int) (w : Str), vs = [.ref p] ∧ RO A p (.ins a.cBroken dx (fBroken (.int f) (.str w))) ∧ Φ (.int f) A
def S_Cut_init (K : PySem.W.Frag) (a : Ad) : Spec := fun vs A Φ _ => ∃ (p dx : Addr) (n : Int) (B : SH), vs = [.ref p, .int n] ∧ Pull A (sg p (.ins a.cCut dx [])) B ∧ Φ .non (sg p (.ins a.cCut dx (fCut (.int n))) :: B)
def S_Cut_word (K : PySem.W.Frag) (a : Ad) : Spec := fun vs A Φ _ => ∃ x : V, vs = [x] ∧ Φ (.str "cut") A
def S_Cut_told (K : PySem.W.Frag) (a : Ad) : Spec := fun vs A Φ _ => ∃ (p dx : Addr) (n : Int), vs = [.ref p] ∧ RO A p (.ins a.cCut dx (fCut (.int n))) ∧ ∀ tp, Φ (.ref tp) (sg tp (.tup [.str "cut", .int n]) :: A)
def S_Blocked_freed (K : PySem.W.Frag) (a : Ad) : Spec := fun vs A Φ _ => ∃ (p dx : Addr) (l : Int), vs = [.ref p] ∧ RO A p (.ins a.cBlocked dx (fBlocked (.int l))) ∧ (l = 1 → ∀ q dx, Φ (.ref q) (sg q (stO a dx (.ready 0)) :: A)) ∧ (l ≠ 1 → ∀ q dx, Φ (.ref q) (sg q (stO a dx (.blocked (l - 1))) :: A))
def S_Blocked_cut_off (K : PySem.W.Frag) (a : Ad) : Spec := fun vs A Φ _ => ∃ (p dx : Addr) (l : Int) (m : Int), vs = [.ref p, .int m] ∧ RO A p (.ins a.cBlocked dx (fBlocked (.int l))) ∧ (∀ q dx, Φ (.ref q) (sg q (stO a dx (.cut m)) :: A))
def S_Ready_leased (K : PySem.W.Frag) (a : Ad) : Spec := fun vs A Φ _ => ∃ (p dx : Addr) (f : Int) (m : Int), vs = [.ref p, .int m] ∧ RO A p (.ins a.cReady dx (fReady (.int f))) ∧ (∀ q dx, Φ (.ref q) (sg q (stO a dx (.leased f m)) :: A))
def S_Leased_ended (K : PySem.W.Frag) (a : Ad) : Spec := fun vs A Φ _ => ∃ (p dx : Addr) (f : Int) (n : Int) (t : Int), vs = [.ref p, .int t] ∧ RO A p (.ins a.cLeased dx (fLeased (.int f) (.int n))) ∧ (∀ q dx, Φ (.ref q) (sg q (stO a dx (.done f n t)) :: A))
def S_Resting_rested (K : PySem.W.Frag) (a : Ad) : Spec := fun vs A Φ _ => ∃ (p dx : Addr) (f : Int) (u : Int), vs = [.ref p] ∧ RO A p (.ins a.cResting dx (fResting (.int f) (.int u))) ∧ (∀ q dx, Φ (.ref q) (sg q (stO a dx (.ready f)) :: A))
def failF (j : Jb) (f t : Int) (w : Str) : Stt := if f + 1 = j.tries then .broken (f + 1) w else if restF j.wait j.grow f.toNat = 0 then .ready (f + 1) else .resting (f + 1) (t + restF j.wait j.grow f.toNat)
def S_Leased_failed (K : PySem.W.Frag) (a : Ad) : Spec := fun vs A Φ _ => ∃ (p dx r : Addr) (j : Jb) (f n t : Int) (w : Str), vs = [.ref p, .ref r, .int t, .str w] ∧ RO A p (.ins a.cLeased dx (fLeased (.int f) (.int n))) ∧ JobAt A a r j ∧ numOk j ∧ 0 ≤ f ∧ f ≤ 100 ∧
  ∀ q dx, Φ (.ref q) (sg q (stO a dx (failF j f t w)) :: A)
def S_first_state (K : PySem.W.Frag) (a : Ad) : Spec := fun vs A Φ _ => ∃ (r : Addr) (j : Jb), vs = [.ref r] ∧ JobAt A a r j ∧ ∀ q dx, Φ (.ref q) (sg q (stO a dx (if j.needs.length = 0 then .ready 0 else .blocked j.needs.length)) :: A)
/-- the needs that are handed in -/
def NeedsAt (A : SH) (x : V) (ns : List Str) : Prop := (x = .non ∧ ns = []) ∨ ∃ l, x = .ref l ∧ RO A l (.lst (ns.map V.str))
def S_own_needs (K : PySem.W.Frag) (a : Ad) : Spec := fun vs A Φ _ => ∃ (z : Str) (x : V) (ns : List Str), vs = [.str z, x] ∧ NeedsAt A x ns ∧ needsOk z ns ∧ ∀ q, Φ (.ref q) (sg q (.lst (ns.map V.str)) :: A)
def S_need_numbers (K : PySem.W.Frag) (a : Ad) : Spec := fun vs A Φ _ => ∃ (l : Addr) (r s t w g : Int), vs = [.ref l] ∧ RO A l (.lst [.int r, .int s, .int t, .int w, .int g]) ∧ 0 ≤ r ∧ r ≤ 99 ∧ 1 ≤ s ∧ s ≤ 1000 ∧ 1 ≤ t ∧ t ≤ 20 ∧ 0 ≤ w ∧ w ≤ 1000 ∧ 1 ≤ g ∧ g ≤ 4 ∧ Φ .non A
def S_Job_init (K : PySem.W.Frag) (a : Ad) : Spec := fun vs A Φ _ => ∃ (p dx : Addr) (x : V) (j : Jb) (B : SH), vs = [.ref p, .str j.name, x, .int j.rank, .int j.span, .int j.tries, .int j.wait, .int j.grow] ∧ Pull A (sg p (.ins a.cJob dx [])) B ∧ NeedsAt B x j.needs ∧ needsOk j.name j.needs ∧
  isName j.name = true ∧ j.name.length ≤ 1000 ∧ numOk j ∧ ∀ nd, Φ .non (sg p (.ins a.cJob dx (fJb j nd)) :: sg nd (.lst (j.needs.map V.str)) :: B)
def mixF (c k : Int) : Int := (c + 7919 * k + 3) * 48271 % 2147483647 * (16807 + k * k) % 2147483629
def turnF (n : Int) : Int := [n / 4 % 50, n / 4 % 1000000001, 1000000000, 0].getD (n % 4).toNat 0
def whyF (n : Int) : Str := (["out", "fell", "a", "abcdefghijkl"] : List Str).getD n.toNat "out"
def needK (k : Nat) : Str := ("n" : Str) ++ (⟨#[("abcdefgh" : Str).cps.toList.getD k 0]⟩ : Str)
def lawJob (c : Int) : Jb := ⟨"job", (List.range (mixF c 1 % 9).toNat).map needK, mixF c 1 % 100, 1 + mixF c 1 % 1000, [1, 2, 3, 20, 1 + mixF c 1 / 9 % 20].getD (mixF c 1 / 180 % 5).toNat 0, [0, 1, 1000, mixF c 1 / 900 % 1001].getD (mixF c 1 / 9000 % 4).toNat 0, 1 + mixF c 1 / 36000 % 4⟩
def ownF (j : Jb) : List V := [.int j.needs.length, .int j.tries, .int j.wait, .int j.grow]
def firstF (j : Jb) : Stt := if j.needs.length = 0 then .ready 0 else .blocked j.needs.length
def overF : Stt → Bool
  | .done _ _ _ => true
  | .broken _ _ => true
  | .cut _ => true
  | _ => false
def SOk (j : Jb) : Stt → Prop
  | .blocked l => 1 ≤ l ∧ l ≤ 8
  | .ready f => 0 ≤ f ∧ f < j.tries
  | .leased f _ => 0 ≤ f ∧ f < j.tries
  | .resting f _ => 0 ≤ f ∧ f < j.tries
  | _ => True
def stepF (j : Jb) (s : Stt) (n : Int) : Stt := match s with
  | .blocked l => if n % 6 = 0 then .cut (turnF (n / 6) % 40) else if l = 1 then .ready 0 else .blocked (l - 1)
  | .ready f => .leased f (turnF (n / 6))
  | .leased f k => if n % 6 = 0 then .done f k (turnF (n / 6)) else failF j f (turnF (n / 6)) (whyF (n / 30 % 4))
  | .resting f _ => .ready f
  | s => s
def istV : V → Bool
  | .int _ => true
  | .str _ => true
  | _ => false
def S_law_cell_at (K : PySem.W.Frag) (a : Ad) : Spec := fun vs A Φ _ => ∃ (p : Addr) (ns : List Int) (k : Int), vs = [.ref p, .int k] ∧ RL K A p (ns.map V.int) ∧ ns.length ≤ 63 ∧ 0 ≤ k ∧ k < 1000 ∧ Φ (.int (ns.getD k.toNat 0)) A
def S_law_mixed (K : PySem.W.Frag) (a : Ad) : Spec := fun vs A Φ _ => ∃ c k : Int, vs = [.int c, .int k] ∧ 0 ≤ k ∧ k < 1000 ∧ Φ (.int (mixF c k)) A
def S_law_whole (K : PySem.W.Frag) (a : Ad) : Spec := fun vs A Φ _ => ∃ i : Int, vs = [.int i] ∧ Φ (.bl true) A
def S_law_same (K : PySem.W.Frag) (a : Ad) : Spec := fun vs A Φ _ => ∃ (p q : Addr) (xs : List V), vs = [.ref p, .ref q] ∧ RT K A p xs ∧ RT K A q xs ∧ (∀ x ∈ xs, istV x = true) ∧ Φ (.bl true) A
def S_law_is (K : PySem.W.Frag) (a : Ad) : Spec := fun vs A Φ _ => ∃ (p : Addr) (s : Stt), vs = [.str (wordF s), .ref p] ∧ StAt A a p s ∧ Φ (.bl true) A
def S_law_over (K : PySem.W.Frag) (a : Ad) : Spec := fun vs A Φ _ => ∃ (p : Addr) (s : Stt), vs = [.ref p] ∧ StAt A a p s ∧ Φ (.bl (overF s)) A
def S_law_stands (K : PySem.W.Frag) (a : Ad) : Spec := fun vs A Φ _ => ∃ (p q : Addr) (s : Stt) (c : Int), vs = [.ref p, .ref q, .int c] ∧ StAt A a p s ∧ RT K A q (toldF s) ∧ Φ (.bl true) A
def S_law_job (K : PySem.W.Frag) (a : Ad) : Spec := fun vs A Φ _ => ∃ (c : Int) (o : Addr) (xs : List V) (B : SH), vs = [.int c, .ref o] ∧ Pull A (sg o (.lst xs)) B ∧ ∀ q G, JobAt G a q (lawJob c) → Φ (.ref q) (sg o (.lst (ownF (lawJob c))) :: (G ++ B))
def S_law_rest (K : PySem.W.Frag) (a : Ad) : Spec := fun vs A Φ _ => ∃ (o : Addr) (j : Jb) (f : Int), vs = [.ref o, .int f] ∧ RO A o (.lst (ownF j)) ∧ numOk j ∧ 1 ≤ f ∧ f ≤ 100 ∧ Φ (.int (restF j.wait j.grow (f - 1).toNat)) A
def S_law_first (K : PySem.W.Frag) (a : Ad) : Spec := fun vs A Φ _ => ∃ (o : Addr) (j : Jb), vs = [.ref o] ∧ RO A o (.lst (ownF j)) ∧ ∀ t, Φ (.ref t) (sg t (.tup (toldF (firstF j))) :: A)
def S_law_turn (K : PySem.W.Frag) (a : Ad) : Spec := fun vs A Φ _ => ∃ n : Int, vs = [.int n] ∧ Φ (.int (turnF n)) A
def S_law_stepped (K : PySem.W.Frag) (a : Ad) : Spec := fun vs A Φ _ => ∃ (ps r pd po : Addr) (s : Stt) (j : Jb) (n : Int), vs = [.ref ps, .ref r, .ref pd, .ref po, .int n] ∧ StAt A a ps s ∧ JobAt A a r j ∧ RT K A pd (toldF s) ∧ RO A po (.lst (ownF j)) ∧ numOk j ∧ SOk j s ∧ overF s = false ∧
  ∀ q t p dx, Φ (.ref p) (sg p (.tup [.ref q, .ref t]) :: sg t (.tup (toldF (stepF j s n))) :: sg q (stO a dx (stepF j s n)) :: A)
def S_law (K : PySem.W.Frag) (a : Ad) : Spec := fun vs A Φ _ => ∃ (p : Addr) (ns : List Int), vs = [.ref p] ∧ RL K A p (ns.map V.int) ∧ ns.length ≤ 63 ∧ Φ (.bl true) A
end S

namespace S
open PySem L2
/-- the methods of own classes -/
inductive MT (K : PySem.W.Frag) (a : Ad) : Str → Addr → Spec → Prop
  | State_is_over : MT K a "is_over" a.cState (S_State_is_over K a)
  | State_count_fails : MT K a "count_fails" a.cState (S_State_count_fails K a)
  | Open_is_over : MT K a "is_over" a.cOpen (S_State_is_over K a)
  | Open_count_fails : MT K a "count_fails" a.cOpen (S_State_count_fails K a)
  | Over_is_over : MT K a "is_over" a.cOver (S_Over_is_over K a)
  | Over_count_fails : MT K a "count_fails" a.cOver (S_State_count_fails K a)
  | Blocked_is_over : MT K a "is_over" a.cBlocked (S_State_is_over K a)
  | Blocked_count_fails : MT K a "count_fails" a.cBlocked (S_State_count_fails K a)
  | Blocked_word : MT K a "word" a.cBlocked (S_Blocked_word K a)
  | Blocked_told : MT K a "told" a.cBlocked (S_Blocked_told K a)
  | Blocked_freed : MT K a "freed" a.cBlocked (S_Blocked_freed K a)
  | Blocked_cut_off : MT K a "cut_off" a.cBlocked (S_Blocked_cut_off K a)
  | Ready_is_over : MT K a "is_over" a.cReady (S_State_is_over K a)
  | Ready_count_fails : MT K a "count_fails" a.cReady (S_Ready_count_fails K a)
  | Ready_word : MT K a "word" a.cReady (S_Ready_word K a)
  | Ready_told : MT K a "told" a.cReady (S_Ready_told K a)
  | Ready_leased : MT K a "leased" a.cReady (S_Ready_leased K a)
  | Leased_is_over : MT K a "is_over" a.cLeased (S_State_is_over K a)
  | Leased_count_fails : MT K a "count_fails" a.cLeased (S_Leased_count_fails K a)
  | Leased_word : MT K a "word" a.cLeased (S_Leased_word K a)
  | Leased_told : MT K a "told" a.cLeased (S_Leased_told K a)
  | Leased_ended : MT K a "ended" a.cLeased (S_Leased_ended K a)
  | Leased_failed : MT K a "failed" a.cLeased (S_Leased_failed K a)
  | Resting_is_over : MT K a "is_over" a.cResting (S_State_is_over K a)
  | Resting_count_fails : MT K a "count_fails" a.cResting (S_Resting_count_fails K a)
  | Resting_word : MT K a "word" a.cResting (S_Resting_word K a)
  | Resting_told : MT K a "told" a.cResting (S_Resting_told K a)
  | Resting_rested : MT K a "rested" a.cResting (S_Resting_rested K a)
  | Done_is_over : MT K a "is_over" a.cDone (S_Over_is_over K a)
  | Done_count_fails : MT K a "count_fails" a.cDone (S_Done_count_fails K a)
  | Done_word : MT K a "word" a.cDone (S_Done_word K a)
  | Done_told : MT K a "told" a.cDone (S_Done_told K a)
  | Broken_is_over : MT K a "is_over" a.cBroken (S_Over_is_over K a)
  | Broken_count_fails : MT K a "count_fails" a.cBroken (S_Broken_count_fails K a)
  | Broken_word : MT K a "word" a.cBroken (S_Broken_word K a)
  | Broken_told : MT K a "told" a.cBroken (S_Broken_told K a)
  | Cut_is_over : MT K a "is_over" a.cCut (S_Over_is_over K a)
  | Cut_count_fails : MT K a "count_fails" a.cCut (S_State_count_fails K a)
  | Cut_word : MT K a "word" a.cCut (S_Cut_word K a)
  | Cut_told : MT K a "told" a.cCut (S_Cut_told K a)
/-- what the top has written -/
structure Txt (K : PySem.W.Frag) (mg : Str → Option Value) (a : Ad) : Prop where
  b_bool : mg "bool" = none
  b_enumerate : mg "enumerate" = none
  b_int : mg "int" = none
  b_isinstance : mg "isinstance" = none
  b_len : mg "len" = none
  b_list : mg "list" = none
  b_min : mg "min" = none
  b_range : mg "range" = none
  b_str : mg "str" = none
  b_tuple : mg "tuple" = none
  b_zip : mg "zip" = none
  g_MOST_WAIT : ∃ u, mg "MOST_WAIT" = some u ∧ RelV (.int (100000)) u
  g_LETTERS : ∃ u, mg "LETTERS" = some u ∧ RelV (.str "abcdefghijklmnopqrstuvwxyz") u
  g_MOST_LETTERS : ∃ u, mg "MOST_LETTERS" = some u ∧ RelV (.int (12)) u
  g_MOST_NEEDS : ∃ u, mg "MOST_NEEDS" = some u ∧ RelV (.int (8)) u
  g_LEAST : ∃ u, mg "LEAST" = some u ∧ RelV (.ref a.gLEAST) u
  k_LEAST : ∀ H, SqT K H a.gLEAST [.int (0), .int (1), .int (1), .int (0), .int (1)]
  g_MOST : ∃ u, mg "MOST" = some u ∧ RelV (.ref a.gMOST) u
  k_MOST : ∀ H, SqT K H a.gMOST [.int (99), .int (1000), .int (20), .int (1000), .int (4)]
  m_State : mg "State" = some (.ref a.cState)
  i_State : InsO K a.cState
  q_State_Blocked : PySem.W.kitOne K (.ref a.cState) (.ref a.cBlocked) = some false
  q_State_Broken : PySem.W.kitOne K (.ref a.cState) (.ref a.cBroken) = some false
  q_State_Cut : PySem.W.kitOne K (.ref a.cState) (.ref a.cCut) = some false
  q_State_Done : PySem.W.kitOne K (.ref a.cState) (.ref a.cDone) = some false
  q_State_Leased : PySem.W.kitOne K (.ref a.cState) (.ref a.cLeased) = some false
  q_State_Open : PySem.W.kitOne K (.ref a.cState) (.ref a.cOpen) = some false
  q_State_Over : PySem.W.kitOne K (.ref a.cState) (.ref a.cOver) = some false
  q_State_Ready : PySem.W.kitOne K (.ref a.cState) (.ref a.cReady) = some false
  q_State_Resting : PySem.W.kitOne K (.ref a.cState) (.ref a.cResting) = some false
  m_Open : mg "Open" = some (.ref a.cOpen)
  i_Open : InsO K a.cOpen
  q_Open_Blocked : PySem.W.kitOne K (.ref a.cOpen) (.ref a.cBlocked) = some false
  q_Open_Broken : PySem.W.kitOne K (.ref a.cOpen) (.ref a.cBroken) = some false
  q_Open_Cut : PySem.W.kitOne K (.ref a.cOpen) (.ref a.cCut) = some false
  q_Open_Done : PySem.W.kitOne K (.ref a.cOpen) (.ref a.cDone) = some false
  q_Open_Leased : PySem.W.kitOne K (.ref a.cOpen) (.ref a.cLeased) = some false
  q_Open_Over : PySem.W.kitOne K (.ref a.cOpen) (.ref a.cOver) = some false
  q_Open_Ready : PySem.W.kitOne K (.ref a.cOpen) (.ref a.cReady) = some false
  q_Open_Resting : PySem.W.kitOne K (.ref a.cOpen) (.ref a.cResting) = some false
  q_Open_State : PySem.W.kitOne K (.ref a.cOpen) (.ref a.cState) = some true
  m_Over : mg "Over" = some (.ref a.cOver)
  i_Over : InsO K a.cOver
  q_Over_Blocked : PySem.W.kitOne K (.ref a.cOver) (.ref a.cBlocked) = some false
  q_Over_Broken : PySem.W.kitOne K (.ref a.cOver) (.ref a.cBroken) = some false
  q_Over_Cut : PySem.W.kitOne K (.ref a.cOver) (.ref a.cCut) = some false
  q_Over_Done : PySem.W.kitOne K (.ref a.cOver) (.ref a.cDone) = some false
  q_Over_Leased : PySem.W.kitOne K (.ref a.cOver) (.ref a.cLeased) = some false
  q_Over_Open : PySem.W.kitOne K (.ref a.cOver) (.ref a.cOpen) = some false
  q_Over_Ready : PySem.W.kitOne K (.ref a.cOver) (.ref a.cReady) = some false
  q_Over_Resting : PySem.W.kitOne K (.ref a.cOver) (.ref a.cResting) = some false
  q_Over_State : PySem.W.kitOne K (.ref a.cOver) (.ref a.cState) = some true
  m_Blocked : mg "Blocked" = some (.ref a.cBlocked)
  i_Blocked : InsO K a.cBlocked
  q_Blocked_Broken : PySem.W.kitOne K (.ref a.cBlocked) (.ref a.cBroken) = some false
  q_Blocked_Cut : PySem.W.kitOne K (.ref a.cBlocked) (.ref a.cCut) = some false
  q_Blocked_Done : PySem.W.kitOne K (.ref a.cBlocked) (.ref a.cDone) = some false
  q_Blocked_Leased : PySem.W.kitOne K (.ref a.cBlocked) (.ref a.cLeased) = some false
  q_Blocked_Open : PySem.W.kitOne K (.ref a.cBlocked) (.ref a.cOpen) = some true
  q_Blocked_Over : PySem.W.kitOne K (.ref a.cBlocked) (.ref a.cOver) = some false
  q_Blocked_Ready : PySem.W.kitOne K (.ref a.cBlocked) (.ref a.cReady) = some false
  q_Blocked_Resting : PySem.W.kitOne K (.ref a.cBlocked) (.ref a.cResting) = some false
  q_Blocked_State : PySem.W.kitOne K (.ref a.cBlocked) (.ref a.cState) = some true
  n_Blocked_left : NoAttr K a.cBlocked "left"
  m_Ready : mg "Ready" = some (.ref a.cReady)
  i_Ready : InsO K a.cReady
  q_Ready_Blocked : PySem.W.kitOne K (.ref a.cReady) (.ref a.cBlocked) = some false
  q_Ready_Broken : PySem.W.kitOne K (.ref a.cReady) (.ref a.cBroken) = some false
  q_Ready_Cut : PySem.W.kitOne K (.ref a.cReady) (.ref a.cCut) = some false
  q_Ready_Done : PySem.W.kitOne K (.ref a.cReady) (.ref a.cDone) = some false
  q_Ready_Leased : PySem.W.kitOne K (.ref a.cReady) (.ref a.cLeased) = some false
  q_Ready_Open : PySem.W.kitOne K (.ref a.cReady) (.ref a.cOpen) = some true
  q_Ready_Over : PySem.W.kitOne K (.ref a.cReady) (.ref a.cOver) = some false
  q_Ready_Resting : PySem.W.kitOne K (.ref a.cReady) (.ref a.cResting) = some false
  q_Ready_State : PySem.W.kitOne K (.ref a.cReady) (.ref a.cState) = some true
  n_Ready_fails : NoAttr K a.cReady "fails"
  m_Leased : mg "Leased" = some (.ref a.cLeased)
  i_Leased : InsO K a.cLeased
  q_Leased_Blocked : PySem.W.kitOne K (.ref a.cLeased) (.ref a.cBlocked) = some false
  q_Leased_Broken : PySem.W.kitOne K (.ref a.cLeased) (.ref a.cBroken) = some false
  q_Leased_Cut : PySem.W.kitOne K (.ref a.cLeased) (.ref a.cCut) = some false
  q_Leased_Done : PySem.W.kitOne K (.ref a.cLeased) (.ref a.cDone) = some false
  q_Leased_Open : PySem.W.kitOne K (.ref a.cLeased) (.ref a.cOpen) = some true
  q_Leased_Over : PySem.W.kitOne K (.ref a.cLeased) (.ref a.cOver) = some false
  q_Leased_Ready : PySem.W.kitOne K (.ref a.cLeased) (.ref a.cReady) = some false
  q_Leased_Resting : PySem.W.kitOne K (.ref a.cLeased) (.ref a.cResting) = some false
  q_Leased_State : PySem.W.kitOne K (.ref a.cLeased) (.ref a.cState) = some true
  n_Leased_fails : NoAttr K a.cLeased "fails"
  n_Leased_number : NoAttr K a.cLeased "number"
  m_Resting : mg "Resting" = some (.ref a.cResting)
  i_Resting : InsO K a.cResting
  q_Resting_Blocked : PySem.W.kitOne K (.ref a.cResting) (.ref a.cBlocked) = some false
  q_Resting_Broken : PySem.W.kitOne K (.ref a.cResting) (.ref a.cBroken) = some false
  q_Resting_Cut : PySem.W.kitOne K (.ref a.cResting) (.ref a.cCut) = some false
  q_Resting_Done : PySem.W.kitOne K (.ref a.cResting) (.ref a.cDone) = some false
  q_Resting_Leased : PySem.W.kitOne K (.ref a.cResting) (.ref a.cLeased) = some false
  q_Resting_Open : PySem.W.kitOne K (.ref a.cResting) (.ref a.cOpen) = some true
  q_Resting_Over : PySem.W.kitOne K (.ref a.cResting) (.ref a.cOver) = some false
  q_Resting_Ready : PySem.W.kitOne K (.ref a.cResting) (.ref a.cReady) = some false
  q_Resting_State : PySem.W.kitOne K (.ref a.cResting) (.ref a.cState) = some true
  n_Resting_fails : NoAttr K a.cResting "fails"
  n_Resting_until : NoAttr K a.cResting "until"
  m_Done : mg "Done" = some (.ref a.cDone)
  i_Done : InsO K a.cDone
  q_Done_Blocked : PySem.W.kitOne K (.ref a.cDone) (.ref a.cBlocked) = some false
  q_Done_Broken : PySem.W.kitOne K (.ref a.cDone) (.ref a.cBroken) = some false
  q_Done_Cut : PySem.W.kitOne K (.ref a.cDone) (.ref a.cCut) = some false
  q_Done_Leased : PySem.W.kitOne K (.ref a.cDone) (.ref a.cLeased) = some false
  q_Done_Open : PySem.W.kitOne K (.ref a.cDone) (.ref a.cOpen) = some false
  q_Done_Over : PySem.W.kitOne K (.ref a.cDone) (.ref a.cOver) = some true
  q_Done_Ready : PySem.W.kitOne K (.ref a.cDone) (.ref a.cReady) = some false
  q_Done_Resting : PySem.W.kitOne K (.ref a.cDone) (.ref a.cResting) = some false
  q_Done_State : PySem.W.kitOne K (.ref a.cDone) (.ref a.cState) = some true
  n_Done_fails : NoAttr K a.cDone "fails"
  n_Done_number : NoAttr K a.cDone "number"
  n_Done_turn : NoAttr K a.cDone "turn"
  m_Broken : mg "Broken" = some (.ref a.cBroken)
  i_Broken : InsO K a.cBroken
  q_Broken_Blocked : PySem.W.kitOne K (.ref a.cBroken) (.ref a.cBlocked) = some false
  q_Broken_Cut : PySem.W.kitOne K (.ref a.cBroken) (.ref a.cCut) = some false
  q_Broken_Done : PySem.W.kitOne K (.ref a.cBroken) (.ref a.cDone) = some false
  q_Broken_Leased : PySem.W.kitOne K (.ref a.cBroken) (.ref a.cLeased) = some false
  q_Broken_Open : PySem.W.kitOne K (.ref a.cBroken) (.ref a.cOpen) = some false
  q_Broken_Over : PySem.W.kitOne K (.ref a.cBroken) (.ref a.cOver) = some true
  q_Broken_Ready : PySem.W.kitOne K (.ref a.cBroken) (.ref a.cReady) = some false
  q_Broken_Resting : PySem.W.kitOne K (.ref a.cBroken) (.ref a.cResting) = some false
  q_Broken_State : PySem.W.kitOne K (.ref a.cBroken) (.ref a.cState) = some true
  n_Broken_fails : NoAttr K a.cBroken "fails"
  n_Broken_why : NoAttr K a.cBroken "why"
  m_Cut : mg "Cut" = some (.ref a.cCut)
  i_Cut : InsO K a.cCut
  q_Cut_Blocked : PySem.W.kitOne K (.ref a.cCut) (.ref a.cBlocked) = some false
  q_Cut_Broken : PySem.W.kitOne K (.ref a.cCut) (.ref a.cBroken) = some false
  q_Cut_Done : PySem.W.kitOne K (.ref a.cCut) (.ref a.cDone) = some false
  q_Cut_Leased : PySem.W.kitOne K (.ref a.cCut) (.ref a.cLeased) = some false
  q_Cut_Open : PySem.W.kitOne K (.ref a.cCut) (.ref a.cOpen) = some false
  q_Cut_Over : PySem.W.kitOne K (.ref a.cCut) (.ref a.cOver) = some true
  q_Cut_Ready : PySem.W.kitOne K (.ref a.cCut) (.ref a.cReady) = some false
  q_Cut_Resting : PySem.W.kitOne K (.ref a.cCut) (.ref a.cResting) = some false
  q_Cut_State : PySem.W.kitOne K (.ref a.cCut) (.ref a.cState) = some true
  n_Cut_need : NoAttr K a.cCut "need"
  m_Job : mg "Job" = some (.ref a.cJob)
  i_Job : InsO K a.cJob
  q_Job_Blocked : PySem.W.kitOne K (.ref a.cJob) (.ref a.cBlocked) = some false
  q_Job_Broken : PySem.W.kitOne K (.ref a.cJob) (.ref a.cBroken) = some false
  q_Job_Cut : PySem.W.kitOne K (.ref a.cJob) (.ref a.cCut) = some false
  q_Job_Done : PySem.W.kitOne K (.ref a.cJob) (.ref a.cDone) = some false
  q_Job_Leased : PySem.W.kitOne K (.ref a.cJob) (.ref a.cLeased) = some false
  q_Job_Open : PySem.W.kitOne K (.ref a.cJob) (.ref a.cOpen) = some false
  q_Job_Over : PySem.W.kitOne K (.ref a.cJob) (.ref a.cOver) = some false
  q_Job_Ready : PySem.W.kitOne K (.ref a.cJob) (.ref a.cReady) = some false
  q_Job_Resting : PySem.W.kitOne K (.ref a.cJob) (.ref a.cResting) = some false
  q_Job_State : PySem.W.kitOne K (.ref a.cJob) (.ref a.cState) = some false
  n_Job_name : NoAttr K a.cJob "name"
  n_Job_needs : NoAttr K a.cJob "needs"
  n_Job_rank : NoAttr K a.cJob "rank"
  n_Job_span : NoAttr K a.cJob "span"
  n_Job_tries : NoAttr K a.cJob "tries"
  n_Job_wait : NoAttr K a.cJob "wait"
  n_Job_grow : NoAttr K a.cJob "grow"
-- fields
theorem fo_Blocked_left {K : PySem.W.Frag} {mg : Str → Option Value} {a : Ad} (T : Txt K mg a) : FOk K a.cBlocked "left" := ⟨T.i_Blocked.c, T.n_Blocked_left⟩
theorem fo_Ready_fails {K : PySem.W.Frag} {mg : Str → Option Value} {a : Ad} (T : Txt K mg a) : FOk K a.cReady "fails" := ⟨T.i_Ready.c, T.n_Ready_fails⟩
theorem fo_Leased_fails {K : PySem.W.Frag} {mg : Str → Option Value} {a : Ad} (T : Txt K mg a) : FOk K a.cLeased "fails" := ⟨T.i_Leased.c, T.n_Leased_fails⟩
theorem fo_Leased_number {K : PySem.W.Frag} {mg : Str → Option Value} {a : Ad} (T : Txt K mg a) : FOk K a.cLeased "number" := ⟨T.i_Leased.c, T.n_Leased_number⟩
theorem fo_Resting_fails {K : PySem.W.Frag} {mg : Str → Option Value} {a : Ad} (T : Txt K mg a) : FOk K a.cResting "fails" := ⟨T.i_Resting.c, T.n_Resting_fails⟩
theorem fo_Resting_until {K : PySem.W.Frag} {mg : Str → Option Value} {a : Ad} (T : Txt K mg a) : FOk K a.cResting "until" := ⟨T.i_Resting.c, T.n_Resting_until⟩
theorem fo_Done_fails {K : PySem.W.Frag} {mg : Str → Option Value} {a : Ad} (T : Txt K mg a) : FOk K a.cDone "fails" := ⟨T.i_Done.c, T.n_Done_fails⟩
theorem fo_Done_number {K : PySem.W.Frag} {mg : Str → Option Value} {a : Ad} (T : Txt K mg a) : FOk K a.cDone "number" := ⟨T.i_Done.c, T.n_Done_number⟩
theorem fo_Done_turn {K : PySem.W.Frag} {mg : Str → Option Value} {a : Ad} (T : Txt K mg a) : FOk K a.cDone "turn" := ⟨T.i_Done.c, T.n_Done_turn⟩
theorem fo_Broken_fails {K : PySem.W.Frag} {mg : Str → Option Value} {a : Ad} (T : Txt K mg a) : FOk K a.cBroken "fails" := ⟨T.i_Broken.c, T.n_Broken_fails⟩
theorem fo_Broken_why {K : PySem.W.Frag} {mg : Str → Option Value} {a : Ad} (T : Txt K mg a) : FOk K a.cBroken "why" := ⟨T.i_Broken.c, T.n_Broken_why⟩
theorem fo_Cut_need {K : PySem.W.Frag} {mg : Str → Option Value} {a : Ad} (T : Txt K mg a) : FOk K a.cCut "need" := ⟨T.i_Cut.c, T.n_Cut_need⟩
theorem fo_Job_name {K : PySem.W.Frag} {mg : Str → Option Value} {a : Ad} (T : Txt K mg a) : FOk K a.cJob "name" := ⟨T.i_Job.c, T.n_Job_name⟩
theorem fo_Job_needs {K : PySem.W.Frag} {mg : Str → Option Value} {a : Ad} (T : Txt K mg a) : FOk K a.cJob "needs" := ⟨T.i_Job.c, T.n_Job_needs⟩
theorem fo_Job_rank {K : PySem.W.Frag} {mg : Str → Option Value} {a : Ad} (T : Txt K mg a) : FOk K a.cJob "rank" := ⟨T.i_Job.c, T.n_Job_rank⟩
theorem fo_Job_span {K : PySem.W.Frag} {mg : Str → Option Value} {a : Ad} (T : Txt K mg a) : FOk K a.cJob "span" := ⟨T.i_Job.c, T.n_Job_span⟩
theorem fo_Job_tries {K : PySem.W.Frag} {mg : Str → Option Value} {a : Ad} (T : Txt K mg a) : FOk K a.cJob "tries" := ⟨T.i_Job.c, T.n_Job_tries⟩
theorem fo_Job_wait {K : PySem.W.Frag} {mg : Str → Option Value} {a : Ad} (T : Txt K mg a) : FOk K a.cJob "wait" := ⟨T.i_Job.c, T.n_Job_wait⟩
theorem fo_Job_grow {K : PySem.W.Frag} {mg : Str → Option Value} {a : Ad} (T : Txt K mg a) : FOk K a.cJob "grow" := ⟨T.i_Job.c, T.n_Job_grow⟩
end S

namespace S
open PySem L2
theorem sc_wait_after : FnScope ["job", "fails", "turns", "turn"] ["job", "fails"] (defScope s_wait_after) := ⟨rfl, rfl, rfl, by decide +kernel, rfl, by decide +kernel, by decide +kernel⟩
def t_wait_after (K : PySem.W.Frag) (a : Ad) (W : WX) : TS :=
  (tSeq (tAsg (tFld K (tVar 0) "wait") (gName 2))
  (tSeq (tFor (iRng1 (tCons (tOp dSub (tVar 1) (tC (.int 1))) tNil)) (gName 3) (tAsg (tCB cMin2 (tCons (tOp dMul (tVar 2) (tFld K (tVar 0) "grow")) (tCons (tC (.int (100000))) tNil))) (gName 2)))
  (tRet (tVar 2))))
theorem dv_wait_after {P : Program} {w : World} {K : PySem.W.Frag} {mg : Str → Option Value} {base : Heap} {a : Ad} (T : Txt K mg a) 
    {f : Addr} {cdv : Value} {A : Around} {outer : List Env} {s : Shared} {H : Hp} {E : XK} (hr : Room 0 (A.deeper (PyProof.Rows.envOfC "wait_after" (defScope s_wait_after) s.heap.objs.size f cdv))) :
    PSs (cxOf (L2.CX P w) P w K mg base ["job", "fails", "turns", "turn"] "wait_after" (defScope s_wait_after) f cdv A outer s H E) (defBody s_wait_after) (t_wait_after K a fun c d _ H => E c d H) := by
  have tk : Takes (cxOf (L2.CX P w) P w K mg base ["job", "fails", "turns", "turn"] "wait_after" (defScope s_wait_after) f cdv A outer s H E) (fun c d _ H => E c d H) := takes_of rfl rfl rfl rfl
  have po : PassesOwn (model P w) (A.deeper (PyProof.Rows.envOfC "wait_after" (defScope s_wait_after) s.heap.objs.size f cdv)) (PyProof.Rows.envOfC "wait_after" (defScope s_wait_after) s.heap.objs.size f cdv) (cxOf (L2.CX P w) P w K mg base ["job", "fails", "turns", "turn"] "wait_after" (defScope s_wait_after) f cdv A outer s H E).xe := passes_of (X := cxOf (L2.CX P w) P w K mg base ["job", "fails", "turns", "turn"] "wait_after" (defScope s_wait_after) f cdv A outer s H E) rfl
  exact (pss_cons (ps_set (i := 2) sc_wait_after.nd rfl (by first | exact Or.inl rfl | exact Or.inr rfl) (pe_fld (pv 0) rfl))
  (pss_cons (ps_for po rfl (pi_range1 rfl T.b_range (pa_cons (pe_op op_dSub (pv 1) pe_int) pa_nil)) (pg_name (i := 3) sc_wait_after.nd rfl (by first | exact Or.inl rfl | exact Or.inr rfl)) (pss_one (ps_set (i := 2) sc_wait_after.nd rfl (by first | exact Or.inl rfl | exact Or.inr rfl) (pe_callB (call_cMin2 rfl) (by rfl) T.b_min (by decide +kernel) (pa_cons (pe_op op_dMul (pv 2) (pe_fld (pv 0) rfl)) (pa_cons (pe_gl (v := .int (100000)) T.g_MOST_WAIT) pa_nil))))))
  (pss_one (ps_ret (pv 2)))))
theorem sc_is_whole : FnScope ["thing"] ["thing"] (defScope s_is_whole) := ⟨rfl, rfl, rfl, by decide +kernel, rfl, by decide +kernel, by decide +kernel⟩
def t_is_whole (K : PySem.W.Frag) (a : Ad) (W : WX) : TS :=
  (tRet (tAndV (tCB (rIsi K) (tCons (tVar 0) (tCons (tC (.ty "int")) tNil))) (tNotV (tCB (rIsi K) (tCons (tVar 0) (tCons (tC (.ty "bool")) tNil))))))
theorem dv_is_whole {P : Program} {w : World} {K : PySem.W.Frag} {mg : Str → Option Value} {base : Heap} {a : Ad} (T : Txt K mg a) 
    {f : Addr} {cdv : Value} {A : Around} {outer : List Env} {s : Shared} {H : Hp} {E : XK} (hr : Room 0 (A.deeper (PyProof.Rows.envOfC "is_whole" (defScope s_is_whole) s.heap.objs.size f cdv))) :
    PSs (cxOf (L2.CX P w) P w K mg base ["thing"] "is_whole" (defScope s_is_whole) f cdv A outer s H E) (defBody s_is_whole) (t_is_whole K a fun c d _ H => E c d H) := by
  have tk : Takes (cxOf (L2.CX P w) P w K mg base ["thing"] "is_whole" (defScope s_is_whole) f cdv A outer s H E) (fun c d _ H => E c d H) := takes_of rfl rfl rfl rfl
  have po : PassesOwn (model P w) (A.deeper (PyProof.Rows.envOfC "is_whole" (defScope s_is_whole) s.heap.objs.size f cdv)) (PyProof.Rows.envOfC "is_whole" (defScope s_is_whole) s.heap.objs.size f cdv) (cxOf (L2.CX P w) P w K mg base ["thing"] "is_whole" (defScope s_is_whole) f cdv A outer s H E).xe := passes_of (X := cxOf (L2.CX P w) P w K mg base ["thing"] "is_whole" (defScope s_is_whole) f cdv A outer s H E) rfl
  exact (pss_one (ps_ret (pe_and (pe_callB call_isi (by rfl) T.b_isinstance (by decide +kernel) (pa_cons (pv 0) (pa_cons (pe_bltn (v := .ty "int") (by rfl) T.b_int (by decide +kernel) rfl) pa_nil))) (pe_one (pe_not (pe_callB call_isi (by rfl) T.b_isinstance (by decide +kernel) (pa_cons (pv 0) (pa_cons (pe_bltn (v := .ty "bool") (by rfl) T.b_bool (by decide +kernel) rfl) pa_nil))))))))
theorem sc_is_among : FnScope ["thing", "least", "most"] ["thing", "least", "most"] (defScope s_is_among) := ⟨rfl, rfl, rfl, by decide +kernel, rfl, by decide +kernel, by decide +kernel⟩
def t_is_among (K : PySem.W.Frag) (a : Ad) (W : WX) : TS :=
  (tRet (tAndV (tCal (lift (S_is_whole K a)) W (tCons (tVar 0) tNil)) (tChain dLe dLe (tVar 1) (tVar 0) (tVar 2))))
theorem dv_is_among {P : Program} {w : World} {K : PySem.W.Frag} {mg : Str → Option Value} {base : Heap} {a : Ad} (T : Txt K mg a) (G_is_whole : DefR P w K mg base 1 "is_whole" (lift (S_is_whole K a)))
    {f : Addr} {cdv : Value} {A : Around} {outer : List Env} {s : Shared} {H : Hp} {E : XK} (hr : Room 1 (A.deeper (PyProof.Rows.envOfC "is_among" (defScope s_is_among) s.heap.objs.size f cdv))) :
    PSs (cxOf (L2.CX P w) P w K mg base ["thing", "least", "most"] "is_among" (defScope s_is_among) f cdv A outer s H E) (defBody s_is_among) (t_is_among K a fun c d _ H => E c d H) := by
  have tk : Takes (cxOf (L2.CX P w) P w K mg base ["thing", "least", "most"] "is_among" (defScope s_is_among) f cdv A outer s H E) (fun c d _ H => E c d H) := takes_of rfl rfl rfl rfl
  have po : PassesOwn (model P w) (A.deeper (PyProof.Rows.envOfC "is_among" (defScope s_is_among) s.heap.objs.size f cdv)) (PyProof.Rows.envOfC "is_among" (defScope s_is_among) s.heap.objs.size f cdv) (cxOf (L2.CX P w) P w K mg base ["thing", "least", "most"] "is_among" (defScope s_is_among) f cdv A outer s H E).xe := passes_of (X := cxOf (L2.CX P w) P w K mg base ["thing", "least", "most"] "is_among" (defScope s_is_among) f cdv A outer s H E) rfl
  exact (pss_one (ps_ret (pe_and (pe_own G_is_whole (hr.mono (by decide)) rfl tk (pa_cons (pv 0) pa_nil)) (pe_one (pe_chain op_dLe op_dLe (pv 1) (pv 0) (pv 2))))))
theorem sc_is_made_of : FnScope ["thing", "signs", "most", "sign"] ["thing", "signs", "most"] (defScope s_is_made_of) := ⟨rfl, rfl, rfl, by decide +kernel, rfl, by decide +kernel, by decide +kernel⟩
def t_is_made_of (K : PySem.W.Frag) (a : Ad) (W : WX) : TS :=
  (tSeq (tIfS (tOr (tNot (tB (tCB (rIsi K) (tCons (tVar 0) (tCons (tC (.ty "str")) tNil))))) (tNot (tTest (tChain dLe dLe (tC (.int 1)) (tCB (cLen K) (tCons (tVar 0) tNil)) (tVar 2))))) (tRet (tC (.bl false))) tNext)
  (tSeq (tFor (iStr (tVar 0)) (gName 3) (tIfS (tTest (tOp (dIn K true) (tVar 3) (tVar 1))) (tRet (tC (.bl false))) tNext))
  (tRet (tC (.bl true)))))
theorem dv_is_made_of {P : Program} {w : World} {K : PySem.W.Frag} {mg : Str → Option Value} {base : Heap} {a : Ad} (T : Txt K mg a) 
    {f : Addr} {cdv : Value} {A : Around} {outer : List Env} {s : Shared} {H : Hp} {E : XK} (hr : Room 0 (A.deeper (PyProof.Rows.envOfC "is_made_of" (defScope s_is_made_of) s.heap.objs.size f cdv))) :
    PSs (cxOf (L2.CX P w) P w K mg base ["thing", "signs", "most", "sign"] "is_made_of" (defScope s_is_made_of) f cdv A outer s H E) (defBody s_is_made_of) (t_is_made_of K a fun c d _ H => E c d H) := by
  have tk : Takes (cxOf (L2.CX P w) P w K mg base ["thing", "signs", "most", "sign"] "is_made_of" (defScope s_is_made_of) f cdv A outer s H E) (fun c d _ H => E c d H) := takes_of rfl rfl rfl rfl
  have po : PassesOwn (model P w) (A.deeper (PyProof.Rows.envOfC "is_made_of" (defScope s_is_made_of) s.heap.objs.size f cdv)) (PyProof.Rows.envOfC "is_made_of" (defScope s_is_made_of) s.heap.objs.size f cdv) (cxOf (L2.CX P w) P w K mg base ["thing", "signs", "most", "sign"] "is_made_of" (defScope s_is_made_of) f cdv A outer s H E).xe := passes_of (X := cxOf (L2.CX P w) P w K mg base ["thing", "signs", "most", "sign"] "is_made_of" (defScope s_is_made_of) f cdv A outer s H E) rfl
  exact (pss_cons (ps_if (PW.pt (pw_or (pt_not (pt_val (pe_callB call_isi (by rfl) T.b_isinstance (by decide +kernel) (pa_cons (pv 0) (pa_cons (pe_bltn (v := .ty "str") (by rfl) T.b_str (by decide +kernel) rfl) pa_nil))))) (pw_or1 (pt_not (pt_chain op_dLe op_dLe pe_int (pe_callB call_cLen (by rfl) T.b_len (by decide +kernel) (pa_cons (pv 0) pa_nil)) (pv 2)))))) (pss_one (ps_ret pe_bl)) pss_nil)
  (pss_cons (ps_for po rfl (pi_str (pv 0)) (pg_name (i := 3) sc_is_made_of.nd rfl (by first | exact Or.inl rfl | exact Or.inr rfl)) (pss_one (ps_if (pt_cmpR op_dNotIn (pv 3) (pv 1) (by rfl)) (pss_one (ps_ret pe_bl)) pss_nil)))
  (pss_one (ps_ret pe_bl))))
theorem sc_is_name : FnScope ["thing"] ["thing"] (defScope s_is_name) := ⟨rfl, rfl, rfl, by decide +kernel, rfl, by decide +kernel, by decide +kernel⟩
def t_is_name (K : PySem.W.Frag) (a : Ad) (W : WX) : TS :=
  (tRet (tCal (lift (S_is_made_of K a)) W (tCons (tVar 0) (tCons (tC (.str "abcdefghijklmnopqrstuvwxyz")) (tCons (tC (.int (12))) tNil)))))
theorem dv_is_name {P : Program} {w : World} {K : PySem.W.Frag} {mg : Str → Option Value} {base : Heap} {a : Ad} (T : Txt K mg a) (G_is_made_of : DefR P w K mg base 1 "is_made_of" (lift (S_is_made_of K a)))
    {f : Addr} {cdv : Value} {A : Around} {outer : List Env} {s : Shared} {H : Hp} {E : XK} (hr : Room 1 (A.deeper (PyProof.Rows.envOfC "is_name" (defScope s_is_name) s.heap.objs.size f cdv))) :
    PSs (cxOf (L2.CX P w) P w K mg base ["thing"] "is_name" (defScope s_is_name) f cdv A outer s H E) (defBody s_is_name) (t_is_name K a fun c d _ H => E c d H) := by
  have tk : Takes (cxOf (L2.CX P w) P w K mg base ["thing"] "is_name" (defScope s_is_name) f cdv A outer s H E) (fun c d _ H => E c d H) := takes_of rfl rfl rfl rfl
  have po : PassesOwn (model P w) (A.deeper (PyProof.Rows.envOfC "is_name" (defScope s_is_name) s.heap.objs.size f cdv)) (PyProof.Rows.envOfC "is_name" (defScope s_is_name) s.heap.objs.size f cdv) (cxOf (L2.CX P w) P w K mg base ["thing"] "is_name" (defScope s_is_name) f cdv A outer s H E).xe := passes_of (X := cxOf (L2.CX P w) P w K mg base ["thing"] "is_name" (defScope s_is_name) f cdv A outer s H E) rfl
  exact (pss_one (ps_ret (pe_own G_is_made_of (hr.mono (by decide)) rfl tk (pa_cons (pv 0) (pa_cons (pe_gl (v := .str "abcdefghijklmnopqrstuvwxyz") T.g_LETTERS) (pa_cons (pe_gl (v := .int (12)) T.g_MOST_LETTERS) pa_nil))))))
-- State.word: skipped
theorem sc_State_is_over : FnScope ["self"] ["self"] (defScope s_State_is_over) := ⟨rfl, rfl, rfl, by decide +kernel, rfl, by decide +kernel, by decide +kernel⟩
def t_State_is_over (K : PySem.W.Frag) (a : Ad) (W : WX) : TS :=
  (tRet (tC (.bl false)))
theorem dv_State_is_over {P : Program} {w : World} {K : PySem.W.Frag} {mg : Str → Option Value} {base : Heap} {a : Ad} (T : Txt K mg a) 
    {f : Addr} {cdv : Value} {A : Around} {outer : List Env} {s : Shared} {H : Hp} {E : XK} (hr : Room 0 (A.deeper (PyProof.Rows.envOfC "State.is_over" (defScope s_State_is_over) s.heap.objs.size f cdv))) :
    PSs (cxOf (L2.CX P w) P w K mg base ["self"] "State.is_over" (defScope s_State_is_over) f cdv A outer s H E) (defBody s_State_is_over) (t_State_is_over K a fun c d _ H => E c d H) := by
  have tk : Takes (cxOf (L2.CX P w) P w K mg base ["self"] "State.is_over" (defScope s_State_is_over) f cdv A outer s H E) (fun c d _ H => E c d H) := takes_of rfl rfl rfl rfl
  have po : PassesOwn (model P w) (A.deeper (PyProof.Rows.envOfC "State.is_over" (defScope s_State_is_over) s.heap.objs.size f cdv)) (PyProof.Rows.envOfC "State.is_over" (defScope s_State_is_over) s.heap.objs.size f cdv) (cxOf (L2.CX P w) P w K mg base ["self"] "State.is_over" (defScope s_State_is_over) f cdv A outer s H E).xe := passes_of (X := cxOf (L2.CX P w) P w K mg base ["self"] "State.is_over" (defScope s_State_is_over) f cdv A outer s H E) rfl
  exact (pss_one (ps_ret pe_bl))
theorem sc_State_count_fails : FnScope ["self"] ["self"] (defScope s_State_count_fails) := ⟨rfl, rfl, rfl, by decide +kernel, rfl, by decide +kernel, by decide +kernel⟩
def t_State_count_fails (K : PySem.W.Frag) (a : Ad) (W : WX) : TS :=
  (tRet (tC (.int 0)))
theorem dv_State_count_fails {P : Program} {w : World} {K : PySem.W.Frag} {mg : Str → Option Value} {base : Heap} {a : Ad} (T : Txt K mg a) 
    {f : Addr} {cdv : Value} {A : Around} {outer : List Env} {s : Shared} {H : Hp} {E : XK} (hr : Room 0 (A.deeper (PyProof.Rows.envOfC "State.count_fails" (defScope s_State_count_fails) s.heap.objs.size f cdv))) :
    PSs (cxOf (L2.CX P w) P w K mg base ["self"] "State.count_fails" (defScope s_State_count_fails) f cdv A outer s H E) (defBody s_State_count_fails) (t_State_count_fails K a fun c d _ H => E c d H) := by
  have tk : Takes (cxOf (L2.CX P w) P w K mg base ["self"] "State.count_fails" (defScope s_State_count_fails) f cdv A outer s H E) (fun c d _ H => E c d H) := takes_of rfl rfl rfl rfl
  have po : PassesOwn (model P w) (A.deeper (PyProof.Rows.envOfC "State.count_fails" (defScope s_State_count_fails) s.heap.objs.size f cdv)) (PyProof.Rows.envOfC "State.count_fails" (defScope s_State_count_fails) s.heap.objs.size f cdv) (cxOf (L2.CX P w) P w K mg base ["self"] "State.count_fails" (defScope s_State_count_fails) f cdv A outer s H E).xe := passes_of (X := cxOf (L2.CX P w) P w K mg base ["self"] "State.count_fails" (defScope s_State_count_fails) f cdv A outer s H E) rfl
  exact (pss_one (ps_ret pe_int))
-- State.told: skipped
-- State.freed: skipped
-- State.leased: skipped
-- State.ended: skipped
-- State.failed: skipped
-- State.rested: skipped
-- State.cut_off: skipped
theorem sc_Over_is_over : FnScope ["self"] ["self"] (defScope s_Over_is_over) := ⟨rfl, rfl, rfl, by decide +kernel, rfl, by decide +kernel, by decide +kernel⟩
def t_Over_is_over (K : PySem.W.Frag) (a : Ad) (W : WX) : TS :=
  (tRet (tC (.bl true)))
theorem dv_Over_is_over {P : Program} {w : World} {K : PySem.W.Frag} {mg : Str → Option Value} {base : Heap} {a : Ad} (T : Txt K mg a) 
    {f : Addr} {cdv : Value} {A : Around} {outer : List Env} {s : Shared} {H : Hp} {E : XK} (hr : Room 0 (A.deeper (PyProof.Rows.envOfC "Over.is_over" (defScope s_Over_is_over) s.heap.objs.size f cdv))) :
    PSs (cxOf (L2.CX P w) P w K mg base ["self"] "Over.is_over" (defScope s_Over_is_over) f cdv A outer s H E) (defBody s_Over_is_over) (t_Over_is_over K a fun c d _ H => E c d H) := by
  have tk : Takes (cxOf (L2.CX P w) P w K mg base ["self"] "Over.is_over" (defScope s_Over_is_over) f cdv A outer s H E) (fun c d _ H => E c d H) := takes_of rfl rfl rfl rfl
  have po : PassesOwn (model P w) (A.deeper (PyProof.Rows.envOfC "Over.is_over" (defScope s_Over_is_over) s.heap.objs.size f cdv)) (PyProof.Rows.envOfC "Over.is_over" (defScope s_Over_is_over) s.heap.objs.size f cdv) (cxOf (L2.CX P w) P w K mg base ["self"] "Over.is_over" (defScope s_Over_is_over) f cdv A outer s H E).xe := passes_of (X := cxOf (L2.CX P w) P w K mg base ["self"] "Over.is_over" (defScope s_Over_is_over) f cdv A outer s H E) rfl
  exact (pss_one (ps_ret pe_bl))
theorem sc_Blocked_init : FnScope ["self", "left"] ["self", "left"] (defScope s_Blocked_init) := ⟨rfl, rfl, rfl, by decide +kernel, rfl, by decide +kernel, by decide +kernel⟩
def t_Blocked_init (K : PySem.W.Frag) (a : Ad) (W : WX) : TS :=
  (sFld K (tVar 0) (tVar 1) "left")
theorem dv_Blocked_init {P : Program} {w : World} {K : PySem.W.Frag} {mg : Str → Option Value} {base : Heap} {a : Ad} (T : Txt K mg a) 
    {f : Addr} {cdv : Value} {A : Around} {outer : List Env} {s : Shared} {H : Hp} {E : XK} (hr : Room 0 (A.deeper (PyProof.Rows.envOfC "Blocked.__init__" (defScope s_Blocked_init) s.heap.objs.size f cdv))) :
    PSs (cxOf (L2.CX P w) P w K mg base ["self", "left"] "Blocked.__init__" (defScope s_Blocked_init) f cdv A outer s H E) (defBody s_Blocked_init) (t_Blocked_init K a fun c d _ H => E c d H) := by
  have tk : Takes (cxOf (L2.CX P w) P w K mg base ["self", "left"] "Blocked.__init__" (defScope s_Blocked_init) f cdv A outer s H E) (fun c d _ H => E c d H) := takes_of rfl rfl rfl rfl
  have po : PassesOwn (model P w) (A.deeper (PyProof.Rows.envOfC "Blocked.__init__" (defScope s_Blocked_init) s.heap.objs.size f cdv)) (PyProof.Rows.envOfC "Blocked.__init__" (defScope s_Blocked_init) s.heap.objs.size f cdv) (cxOf (L2.CX P w) P w K mg base ["self", "left"] "Blocked.__init__" (defScope s_Blocked_init) f cdv A outer s H E).xe := passes_of (X := cxOf (L2.CX P w) P w K mg base ["self", "left"] "Blocked.__init__" (defScope s_Blocked_init) f cdv A outer s H E) rfl
  exact (pss_one (ps_fld (pv 0) (pv 1) rfl))
theorem sc_Blocked_word : FnScope ["self"] ["self"] (defScope s_Blocked_word) := ⟨rfl, rfl, rfl, by decide +kernel, rfl, by decide +kernel, by decide +kernel⟩
def t_Blocked_word (K : PySem.W.Frag) (a : Ad) (W : WX) : TS :=
  (tRet (tC (.str "blocked")))
theorem dv_Blocked_word {P : Program} {w : World} {K : PySem.W.Frag} {mg : Str → Option Value} {base : Heap} {a : Ad} (T : Txt K mg a) 
    {f : Addr} {cdv : Value} {A : Around} {outer : List Env} {s : Shared} {H : Hp} {E : XK} (hr : Room 0 (A.deeper (PyProof.Rows.envOfC "Blocked.word" (defScope s_Blocked_word) s.heap.objs.size f cdv))) :
    PSs (cxOf (L2.CX P w) P w K mg base ["self"] "Blocked.word" (defScope s_Blocked_word) f cdv A outer s H E) (defBody s_Blocked_word) (t_Blocked_word K a fun c d _ H => E c d H) := by
  have tk : Takes (cxOf (L2.CX P w) P w K mg base ["self"] "Blocked.word" (defScope s_Blocked_word) f cdv A outer s H E) (fun c d _ H => E c d H) := takes_of rfl rfl rfl rfl
  have po : PassesOwn (model P w) (A.deeper (PyProof.Rows.envOfC "Blocked.word" (defScope s_Blocked_word) s.heap.objs.size f cdv)) (PyProof.Rows.envOfC "Blocked.word" (defScope s_Blocked_word) s.heap.objs.size f cdv) (cxOf (L2.CX P w) P w K mg base ["self"] "Blocked.word" (defScope s_Blocked_word) f cdv A outer s H E).xe := passes_of (X := cxOf (L2.CX P w) P w K mg base ["self"] "Blocked.word" (defScope s_Blocked_word) f cdv A outer s H E) rfl
  exact (pss_one (ps_ret pe_str))
theorem sc_Blocked_told : FnScope ["self"] ["self"] (defScope s_Blocked_told) := ⟨rfl, rfl, rfl, by decide +kernel, rfl, by decide +kernel, by decide +kernel⟩
def t_Blocked_told (K : PySem.W.Frag) (a : Ad) (W : WX) : TS :=
  (tRet (tTup (tCons (tMet (MT K a "word") "word" W (tVar 0) tNil) (tCons (tFld K (tVar 0) "left") tNil))))
theorem dv_Blocked_told {P : Program} {w : World} {K : PySem.W.Frag} {mg : Str → Option Value} {base : Heap} {a : Ad} (T : Txt K mg a) (MM_word : ∀ C sp, MT K a "word" C sp → MethR P w K mg base 1 C "word" (lift sp))
    {f : Addr} {cdv : Value} {A : Around} {outer : List Env} {s : Shared} {H : Hp} {E : XK} (hr : Room 1 (A.deeper (PyProof.Rows.envOfC "Blocked.told" (defScope s_Blocked_told) s.heap.objs.size f cdv))) :
    PSs (cxOf (L2.CX P w) P w K mg base ["self"] "Blocked.told" (defScope s_Blocked_told) f cdv A outer s H E) (defBody s_Blocked_told) (t_Blocked_told K a fun c d _ H => E c d H) := by
  have tk : Takes (cxOf (L2.CX P w) P w K mg base ["self"] "Blocked.told" (defScope s_Blocked_told) f cdv A outer s H E) (fun c d _ H => E c d H) := takes_of rfl rfl rfl rfl
  have po : PassesOwn (model P w) (A.deeper (PyProof.Rows.envOfC "Blocked.told" (defScope s_Blocked_told) s.heap.objs.size f cdv)) (PyProof.Rows.envOfC "Blocked.told" (defScope s_Blocked_told) s.heap.objs.size f cdv) (cxOf (L2.CX P w) P w K mg base ["self"] "Blocked.told" (defScope s_Blocked_told) f cdv A outer s H E).xe := passes_of (X := cxOf (L2.CX P w) P w K mg base ["self"] "Blocked.told" (defScope s_Blocked_told) f cdv A outer s H E) rfl
  exact (pss_one (ps_ret (pe_tup (pa_cons (pe_met0 (pv 0) MM_word (hr.mono (by decide)) tk) (pa_cons (pe_fld (pv 0) rfl) pa_nil)))))
theorem sc_Blocked_freed : FnScope ["self"] ["self"] (defScope s_Blocked_freed) := ⟨rfl, rfl, rfl, by decide +kernel, rfl, by decide +kernel, by decide +kernel⟩
def t_Blocked_freed (K : PySem.W.Frag) (a : Ad) (W : WX) : TS :=
  (tSeq (tIfS (tTest (tOp (dEq K) (tFld K (tVar 0) "left") (tC (.int 1)))) (tRet (tMak a.cReady (lift (S_Ready_init K a)) W (tCons (tC (.int 0)) tNil))) tNext)
  (tRet (tMak a.cBlocked (lift (S_Blocked_init K a)) W (tCons (tOp dSub (tFld K (tVar 0) "left") (tC (.int 1))) tNil))))
theorem dv_Blocked_freed {P : Program} {w : World} {K : PySem.W.Frag} {mg : Str → Option Value} {base : Heap} {a : Ad} (T : Txt K mg a) (G_Blocked_init : MakR P w K mg base 1 "Blocked" a.cBlocked (lift (S_Blocked_init K a))) (G_Ready_init : MakR P w K mg base 1 "Ready" a.cReady (lift (S_Ready_init K a)))
    {f : Addr} {cdv : Value} {A : Around} {outer : List Env} {s : Shared} {H : Hp} {E : XK} (hr : Room 2 (A.deeper (PyProof.Rows.envOfC "Blocked.freed" (defScope s_Blocked_freed) s.heap.objs.size f cdv))) :
    PSs (cxOf (L2.CX P w) P w K mg base ["self"] "Blocked.freed" (defScope s_Blocked_freed) f cdv A outer s H E) (defBody s_Blocked_freed) (t_Blocked_freed K a fun c d _ H => E c d H) := by
  have tk : Takes (cxOf (L2.CX P w) P w K mg base ["self"] "Blocked.freed" (defScope s_Blocked_freed) f cdv A outer s H E) (fun c d _ H => E c d H) := takes_of rfl rfl rfl rfl
  have po : PassesOwn (model P w) (A.deeper (PyProof.Rows.envOfC "Blocked.freed" (defScope s_Blocked_freed) s.heap.objs.size f cdv)) (PyProof.Rows.envOfC "Blocked.freed" (defScope s_Blocked_freed) s.heap.objs.size f cdv) (cxOf (L2.CX P w) P w K mg base ["self"] "Blocked.freed" (defScope s_Blocked_freed) f cdv A outer s H E).xe := passes_of (X := cxOf (L2.CX P w) P w K mg base ["self"] "Blocked.freed" (defScope s_Blocked_freed) f cdv A outer s H E) rfl
  exact (pss_cons (ps_if (pt_cmpR (op_dEq hr) (pe_fld (pv 0) rfl) pe_int (nomark _)) (pss_one (ps_ret (pe_mak G_Ready_init (hr.mono (by decide)) rfl tk (pa_cons pe_int pa_nil)))) pss_nil)
  (pss_one (ps_ret (pe_mak G_Blocked_init (hr.mono (by decide)) rfl tk (pa_cons (pe_op op_dSub (pe_fld (pv 0) rfl) pe_int) pa_nil)))))
theorem sc_Blocked_cut_off : FnScope ["self", "need"] ["self", "need"] (defScope s_Blocked_cut_off) := ⟨rfl, rfl, rfl, by decide +kernel, rfl, by decide +kernel, by decide +kernel⟩
def t_Blocked_cut_off (K : PySem.W.Frag) (a : Ad) (W : WX) : TS :=
  (tRet (tMak a.cCut (lift (S_Cut_init K a)) W (tCons (tVar 1) tNil)))
theorem dv_Blocked_cut_off {P : Program} {w : World} {K : PySem.W.Frag} {mg : Str → Option Value} {base : Heap} {a : Ad} (T : Txt K mg a) (G_Cut_init : MakR P w K mg base 1 "Cut" a.cCut (lift (S_Cut_init K a)))
    {f : Addr} {cdv : Value} {A : Around} {outer : List Env} {s : Shared} {H : Hp} {E : XK} (hr : Room 2 (A.deeper (PyProof.Rows.envOfC "Blocked.cut_off" (defScope s_Blocked_cut_off) s.heap.objs.size f cdv))) :
    PSs (cxOf (L2.CX P w) P w K mg base ["self", "need"] "Blocked.cut_off" (defScope s_Blocked_cut_off) f cdv A outer s H E) (defBody s_Blocked_cut_off) (t_Blocked_cut_off K a fun c d _ H => E c d H) := by
  have tk : Takes (cxOf (L2.CX P w) P w K mg base ["self", "need"] "Blocked.cut_off" (defScope s_Blocked_cut_off) f cdv A outer s H E) (fun c d _ H => E c d H) := takes_of rfl rfl rfl rfl
  have po : PassesOwn (model P w) (A.deeper (PyProof.Rows.envOfC "Blocked.cut_off" (defScope s_Blocked_cut_off) s.heap.objs.size f cdv)) (PyProof.Rows.envOfC "Blocked.cut_off" (defScope s_Blocked_cut_off) s.heap.objs.size f cdv) (cxOf (L2.CX P w) P w K mg base ["self", "need"] "Blocked.cut_off" (defScope s_Blocked_cut_off) f cdv A outer s H E).xe := passes_of (X := cxOf (L2.CX P w) P w K mg base ["self", "need"] "Blocked.cut_off" (defScope s_Blocked_cut_off) f cdv A outer s H E) rfl
  exact (pss_one (ps_ret (pe_mak G_Cut_init (hr.mono (by decide)) rfl tk (pa_cons (pv 1) pa_nil))))
theorem sc_Ready_init : FnScope ["self", "fails"] ["self", "fails"] (defScope s_Ready_init) := ⟨rfl, rfl, rfl, by decide +kernel, rfl, by decide +kernel, by decide +kernel⟩
def t_Ready_init (K : PySem.W.Frag) (a : Ad) (W : WX) : TS :=
  (sFld K (tVar 0) (tVar 1) "fails")
theorem dv_Ready_init {P : Program} {w : World} {K : PySem.W.Frag} {mg : Str → Option Value} {base : Heap} {a : Ad} (T : Txt K mg a) 
    {f : Addr} {cdv : Value} {A : Around} {outer : List Env} {s : Shared} {H : Hp} {E : XK} (hr : Room 0 (A.deeper (PyProof.Rows.envOfC "Ready.__init__" (defScope s_Ready_init) s.heap.objs.size f cdv))) :
    PSs (cxOf (L2.CX P w) P w K mg base ["self", "fails"] "Ready.__init__" (defScope s_Ready_init) f cdv A outer s H E) (defBody s_Ready_init) (t_Ready_init K a fun c d _ H => E c d H) := by
  have tk : Takes (cxOf (L2.CX P w) P w K mg base ["self", "fails"] "Ready.__init__" (defScope s_Ready_init) f cdv A outer s H E) (fun c d _ H => E c d H) := takes_of rfl rfl rfl rfl
  have po : PassesOwn (model P w) (A.deeper (PyProof.Rows.envOfC "Ready.__init__" (defScope s_Ready_init) s.heap.objs.size f cdv)) (PyProof.Rows.envOfC "Ready.__init__" (defScope s_Ready_init) s.heap.objs.size f cdv) (cxOf (L2.CX P w) P w K mg base ["self", "fails"] "Ready.__init__" (defScope s_Ready_init) f cdv A outer s H E).xe := passes_of (X := cxOf (L2.CX P w) P w K mg base ["self", "fails"] "Ready.__init__" (defScope s_Ready_init) f cdv A outer s H E) rfl
  exact (pss_one (ps_fld (pv 0) (pv 1) rfl))
theorem sc_Ready_word : FnScope ["self"] ["self"] (defScope s_Ready_word) := ⟨rfl, rfl, rfl, by decide +kernel, rfl, by decide +kernel, by decide +kernel⟩
def t_Ready_word (K : PySem.W.Frag) (a : Ad) (W : WX) : TS :=
  (tRet (tC (.str "ready")))
theorem dv_Ready_word {P : Program} {w : World} {K : PySem.W.Frag} {mg : Str → Option Value} {base : Heap} {a : Ad} (T : Txt K mg a) 
    {f : Addr} {cdv : Value} {A : Around} {outer : List Env} {s : Shared} {H : Hp} {E : XK} (hr : Room 0 (A.deeper (PyProof.Rows.envOfC "Ready.word" (defScope s_Ready_word) s.heap.objs.size f cdv))) :
    PSs (cxOf (L2.CX P w) P w K mg base ["self"] "Ready.word" (defScope s_Ready_word) f cdv A outer s H E) (defBody s_Ready_word) (t_Ready_word K a fun c d _ H => E c d H) := by
  have tk : Takes (cxOf (L2.CX P w) P w K mg base ["self"] "Ready.word" (defScope s_Ready_word) f cdv A outer s H E) (fun c d _ H => E c d H) := takes_of rfl rfl rfl rfl
  have po : PassesOwn (model P w) (A.deeper (PyProof.Rows.envOfC "Ready.word" (defScope s_Ready_word) s.heap.objs.size f cdv)) (PyProof.Rows.envOfC "Ready.word" (defScope s_Ready_word) s.heap.objs.size f cdv) (cxOf (L2.CX P w) P w K mg base ["self"] "Ready.word" (defScope s_Ready_word) f cdv A outer s H E).xe := passes_of (X := cxOf (L2.CX P w) P w K mg base ["self"] "Ready.word" (defScope s_Ready_word) f cdv A outer s H E) rfl
  exact (pss_one (ps_ret pe_str))
theorem sc_Ready_count_fails : FnScope ["self"] ["self"] (defScope s_Ready_count_fails) := ⟨rfl, rfl, rfl, by decide +kernel, rfl, by decide +kernel, by decide +kernel⟩
def t_Ready_count_fails (K : PySem.W.Frag) (a : Ad) (W : WX) : TS :=
  (tRet (tFld K (tVar 0) "fails"))
theorem dv_Ready_count_fails {P : Program} {w : World} {K : PySem.W.Frag} {mg : Str → Option Value} {base : Heap} {a : Ad} (T : Txt K mg a) 
    {f : Addr} {cdv : Value} {A : Around} {outer : List Env} {s : Shared} {H : Hp} {E : XK} (hr : Room 0 (A.deeper (PyProof.Rows.envOfC "Ready.count_fails" (defScope s_Ready_count_fails) s.heap.objs.size f cdv))) :
    PSs (cxOf (L2.CX P w) P w K mg base ["self"] "Ready.count_fails" (defScope s_Ready_count_fails) f cdv A outer s H E) (defBody s_Ready_count_fails) (t_Ready_count_fails K a fun c d _ H => E c d H) := by
  have tk : Takes (cxOf (L2.CX P w) P w K mg base ["self"] "Ready.count_fails" (defScope s_Ready_count_fails) f cdv A outer s H E) (fun c d _ H => E c d H) := takes_of rfl rfl rfl rfl
  have po : PassesOwn (model P w) (A.deeper (PyProof.Rows.envOfC "Ready.count_fails" (defScope s_Ready_count_fails) s.heap.objs.size f cdv)) (PyProof.Rows.envOfC "Ready.count_fails" (defScope s_Ready_count_fails) s.heap.objs.size f cdv) (cxOf (L2.CX P w) P w K mg base ["self"] "Ready.count_fails" (defScope s_Ready_count_fails) f cdv A outer s H E).xe := passes_of (X := cxOf (L2.CX P w) P w K mg base ["self"] "Ready.count_fails" (defScope s_Ready_count_fails) f cdv A outer s H E) rfl
  exact (pss_one (ps_ret (pe_fld (pv 0) rfl)))
theorem sc_Ready_told : FnScope ["self"] ["self"] (defScope s_Ready_told) := ⟨rfl, rfl, rfl, by decide +kernel, rfl, by decide +kernel, by decide +kernel⟩
def t_Ready_told (K : PySem.W.Frag) (a : Ad) (W : WX) : TS :=
  (tRet (tTup (tCons (tMet (MT K a "word") "word" W (tVar 0) tNil) (tCons (tFld K (tVar 0) "fails") tNil))))
theorem dv_Ready_told {P : Program} {w : World} {K : PySem.W.Frag} {mg : Str → Option Value} {base : Heap} {a : Ad} (T : Txt K mg a) (MM_word : ∀ C sp, MT K a "word" C sp → MethR P w K mg base 1 C "word" (lift sp))
    {f : Addr} {cdv : Value} {A : Around} {outer : List Env} {s : Shared} {H : Hp} {E : XK} (hr : Room 1 (A.deeper (PyProof.Rows.envOfC "Ready.told" (defScope s_Ready_told) s.heap.objs.size f cdv))) :
    PSs (cxOf (L2.CX P w) P w K mg base ["self"] "Ready.told" (defScope s_Ready_told) f cdv A outer s H E) (defBody s_Ready_told) (t_Ready_told K a fun c d _ H => E c d H) := by
  have tk : Takes (cxOf (L2.CX P w) P w K mg base ["self"] "Ready.told" (defScope s_Ready_told) f cdv A outer s H E) (fun c d _ H => E c d H) := takes_of rfl rfl rfl rfl
  have po : PassesOwn (model P w) (A.deeper (PyProof.Rows.envOfC "Ready.told" (defScope s_Ready_told) s.heap.objs.size f cdv)) (PyProof.Rows.envOfC "Ready.told" (defScope s_Ready_told) s.heap.objs.size f cdv) (cxOf (L2.CX P w) P w K mg base ["self"] "Ready.told" (defScope s_Ready_told) f cdv A outer s H E).xe := passes_of (X := cxOf (L2.CX P w) P w K mg base ["self"] "Ready.told" (defScope s_Ready_told) f cdv A outer s H E) rfl
  exact (pss_one (ps_ret (pe_tup (pa_cons (pe_met0 (pv 0) MM_word (hr.mono (by decide)) tk) (pa_cons (pe_fld (pv 0) rfl) pa_nil)))))
theorem sc_Ready_leased : FnScope ["self", "number"] ["self", "number"] (defScope s_Ready_leased) := ⟨rfl, rfl, rfl, by decide +kernel, rfl, by decide +kernel, by decide +kernel⟩
def t_Ready_leased (K : PySem.W.Frag) (a : Ad) (W : WX) : TS :=
  (tRet (tMak a.cLeased (lift (S_Leased_init K a)) W (tCons (tFld K (tVar 0) "fails") (tCons (tVar 1) tNil))))
theorem dv_Ready_leased {P : Program} {w : World} {K : PySem.W.Frag} {mg : Str → Option Value} {base : Heap} {a : Ad} (T : Txt K mg a) (G_Leased_init : MakR P w K mg base 1 "Leased" a.cLeased (lift (S_Leased_init K a)))
    {f : Addr} {cdv : Value} {A : Around} {outer : List Env} {s : Shared} {H : Hp} {E : XK} (hr : Room 2 (A.deeper (PyProof.Rows.envOfC "Ready.leased" (defScope s_Ready_leased) s.heap.objs.size f cdv))) :
    PSs (cxOf (L2.CX P w) P w K mg base ["self", "number"] "Ready.leased" (defScope s_Ready_leased) f cdv A outer s H E) (defBody s_Ready_leased) (t_Ready_leased K a fun c d _ H => E c d H) := by
  have tk : Takes (cxOf (L2.CX P w) P w K mg base ["self", "number"] "Ready.leased" (defScope s_Ready_leased) f cdv A outer s H E) (fun c d _ H => E c d H) := takes_of rfl rfl rfl rfl
  have po : PassesOwn (model P w) (A.deeper (PyProof.Rows.envOfC "Ready.leased" (defScope s_Ready_leased) s.heap.objs.size f cdv)) (PyProof.Rows.envOfC "Ready.leased" (defScope s_Ready_leased) s.heap.objs.size f cdv) (cxOf (L2.CX P w) P w K mg base ["self", "number"] "Ready.leased" (defScope s_Ready_leased) f cdv A outer s H E).xe := passes_of (X := cxOf (L2.CX P w) P w K mg base ["self", "number"] "Ready.leased" (defScope s_Ready_leased) f cdv A outer s H E) rfl
  exact (pss_one (ps_ret (pe_mak G_Leased_init (hr.mono (by decide)) rfl tk (pa_cons (pe_fld (pv 0) rfl) (pa_cons (pv 1) pa_nil)))))
theorem sc_Leased_init : FnScope ["self", "fails", "number"] ["self", "fails", "number"] (defScope s_Leased_init) := ⟨rfl, rfl, rfl, by decide +kernel, rfl, by decide +kernel, by decide +kernel⟩
def t_Leased_init (K : PySem.W.Frag) (a : Ad) (W : WX) : TS :=
  (tSeq (sFld K (tVar 0) (tVar 1) "fails")
  (sFld K (tVar 0) (tVar 2) "number"))
theorem dv_Leased_init {P : Program} {w : World} {K : PySem.W.Frag} {mg : Str → Option Value} {base : Heap} {a : Ad} (T : Txt K mg a) 
    {f : Addr} {cdv : Value} {A : Around} {outer : List Env} {s : Shared} {H : Hp} {E : XK} (hr : Room 0 (A.deeper (PyProof.Rows.envOfC "Leased.__init__" (defScope s_Leased_init) s.heap.objs.size f cdv))) :
    PSs (cxOf (L2.CX P w) P w K mg base ["self", "fails", "number"] "Leased.__init__" (defScope s_Leased_init) f cdv A outer s H E) (defBody s_Leased_init) (t_Leased_init K a fun c d _ H => E c d H) := by
  have tk : Takes (cxOf (L2.CX P w) P w K mg base ["self", "fails", "number"] "Leased.__init__" (defScope s_Leased_init) f cdv A outer s H E) (fun c d _ H => E c d H) := takes_of rfl rfl rfl rfl
  have po : PassesOwn (model P w) (A.deeper (PyProof.Rows.envOfC "Leased.__init__" (defScope s_Leased_init) s.heap.objs.size f cdv)) (PyProof.Rows.envOfC "Leased.__init__" (defScope s_Leased_init) s.heap.objs.size f cdv) (cxOf (L2.CX P w) P w K mg base ["self", "fails", "number"] "Leased.__init__" (defScope s_Leased_init) f cdv A outer s H E).xe := passes_of (X := cxOf (L2.CX P w) P w K mg base ["self", "fails", "number"] "Leased.__init__" (defScope s_Leased_init) f cdv A outer s H E) rfl
  exact (pss_cons (ps_fld (pv 0) (pv 1) rfl)
  (pss_one (ps_fld (pv 0) (pv 2) rfl)))
theorem sc_Leased_word : FnScope ["self"] ["self"] (defScope s_Leased_word) := ⟨rfl, rfl, rfl, by decide +kernel, rfl, by decide +kernel, by decide +kernel⟩
def t_Leased_word (K : PySem.W.Frag) (a : Ad) (W : WX) : TS :=
  (tRet (tC (.str "leased")))
theorem dv_Leased_word {P : Program} {w : World} {K : PySem.W.Frag} {mg : Str → Option Value} {base : Heap} {a : Ad} (T : Txt K mg a) 
    {f : Addr} {cdv : Value} {A : Around} {outer : List Env} {s : Shared} {H : Hp} {E : XK} (hr : Room 0 (A.deeper (PyProof.Rows.envOfC "Leased.word" (defScope s_Leased_word) s.heap.objs.size f cdv))) :
    PSs (cxOf (L2.CX P w) P w K mg base ["self"] "Leased.word" (defScope s_Leased_word) f cdv A outer s H E) (defBody s_Leased_word) (t_Leased_word K a fun c d _ H => E c d H) := by
  have tk : Takes (cxOf (L2.CX P w) P w K mg base ["self"] "Leased.word" (defScope s_Leased_word) f cdv A outer s H E) (fun c d _ H => E c d H) := takes_of rfl rfl rfl rfl
  have po : PassesOwn (model P w) (A.deeper (PyProof.Rows.envOfC "Leased.word" (defScope s_Leased_word) s.heap.objs.size f cdv)) (PyProof.Rows.envOfC "Leased.word" (defScope s_Leased_word) s.heap.objs.size f cdv) (cxOf (L2.CX P w) P w K mg base ["self"] "Leased.word" (defScope s_Leased_word) f cdv A outer s H E).xe := passes_of (X := cxOf (L2.CX P w) P w K mg base ["self"] "Leased.word" (defScope s_Leased_word) f cdv A outer s H E) rfl
  exact (pss_one (ps_ret pe_str))
theorem sc_Leased_count_fails : FnScope ["self"] ["self"] (defScope s_Leased_count_fails) := ⟨rfl, rfl, rfl, by decide +kernel, rfl, by decide +kernel, by decide +kernel⟩
def t_Leased_count_fails (K : PySem.W.Frag) (a : Ad) (W : WX) : TS :=
  (tRet (tFld K (tVar 0) "fails"))
theorem dv_Leased_count_fails {P : Program} {w : World} {K : PySem.W.Frag} {mg : Str → Option Value} {base : Heap} {a : Ad} (T : Txt K mg a) 
    {f : Addr} {cdv : Value} {A : Around} {outer : List Env} {s : Shared} {H : Hp} {E : XK} (hr : Room 0 (A.deeper (PyProof.Rows.envOfC "Leased.count_fails" (defScope s_Leased_count_fails) s.heap.objs.size f cdv))) :
    PSs (cxOf (L2.CX P w) P w K mg base ["self"] "Leased.count_fails" (defScope s_Leased_count_fails) f cdv A outer s H E) (defBody s_Leased_count_fails) (t_Leased_count_fails K a fun c d _ H => E c d H) := by
  have tk : Takes (cxOf (L2.CX P w) P w K mg base ["self"] "Leased.count_fails" (defScope s_Leased_count_fails) f cdv A outer s H E) (fun c d _ H => E c d H) := takes_of rfl rfl rfl rfl
  have po : PassesOwn (model P w) (A.deeper (PyProof.Rows.envOfC "Leased.count_fails" (defScope s_Leased_count_fails) s.heap.objs.size f cdv)) (PyProof.Rows.envOfC "Leased.count_fails" (defScope s_Leased_count_fails) s.heap.objs.size f cdv) (cxOf (L2.CX P w) P w K mg base ["self"] "Leased.count_fails" (defScope s_Leased_count_fails) f cdv A outer s H E).xe := passes_of (X := cxOf (L2.CX P w) P w K mg base ["self"] "Leased.count_fails" (defScope s_Leased_count_fails) f cdv A outer s H E) rfl
  exact (pss_one (ps_ret (pe_fld (pv 0) rfl)))
theorem sc_Leased_told : FnScope ["self"] ["self"] (defScope s_Leased_told) := ⟨rfl, rfl, rfl, by decide +kernel, rfl, by decide +kernel, by decide +kernel⟩
def t_Leased_told (K : PySem.W.Frag) (a : Ad) (W : WX) : TS :=
  (tRet (tTup (tCons (tMet (MT K a "word") "word" W (tVar 0) tNil) (tCons (tFld K (tVar 0) "fails") (tCons (tFld K (tVar 0) "number") tNil)))))
theorem dv_Leased_told {P : Program} {w : World} {K : PySem.W.Frag} {mg : Str → Option Value} {base : Heap} {a : Ad} (T : Txt K mg a) (MM_word : ∀ C sp, MT K a "word" C sp → MethR P w K mg base 1 C "word" (lift sp))
    {f : Addr} {cdv : Value} {A : Around} {outer : List Env} {s : Shared} {H : Hp} {E : XK} (hr : Room 1 (A.deeper (PyProof.Rows.envOfC "Leased.told" (defScope s_Leased_told) s.heap.objs.size f cdv))) :
    PSs (cxOf (L2.CX P w) P w K mg base ["self"] "Leased.told" (defScope s_Leased_told) f cdv A outer s H E) (defBody s_Leased_told) (t_Leased_told K a fun c d _ H => E c d H) := by
  have tk : Takes (cxOf (L2.CX P w) P w K mg base ["self"] "Leased.told" (defScope s_Leased_told) f cdv A outer s H E) (fun c d _ H => E c d H) := takes_of rfl rfl rfl rfl
  have po : PassesOwn (model P w) (A.deeper (PyProof.Rows.envOfC "Leased.told" (defScope s_Leased_told) s.heap.objs.size f cdv)) (PyProof.Rows.envOfC "Leased.told" (defScope s_Leased_told) s.heap.objs.size f cdv) (cxOf (L2.CX P w) P w K mg base ["self"] "Leased.told" (defScope s_Leased_told) f cdv A outer s H E).xe := passes_of (X := cxOf (L2.CX P w) P w K mg base ["self"] "Leased.told" (defScope s_Leased_told) f cdv A outer s H E) rfl
  exact (pss_one (ps_ret (pe_tup (pa_cons (pe_met0 (pv 0) MM_word (hr.mono (by decide)) tk) (pa_cons (pe_fld (pv 0) rfl) (pa_cons (pe_fld (pv 0) rfl) pa_nil))))))
theorem sc_Leased_ended : FnScope ["self", "turn"] ["self", "turn"] (defScope s_Leased_ended) := ⟨rfl, rfl, rfl, by decide +kernel, rfl, by decide +kernel, by decide +kernel⟩
def t_Leased_ended (K : PySem.W.Frag) (a : Ad) (W : WX) : TS :=
  (tRet (tMak a.cDone (lift (S_Done_init K a)) W (tCons (tFld K (tVar 0) "fails") (tCons (tFld K (tVar 0) "number") (tCons (tVar 1) tNil)))))
theorem dv_Leased_ended {P : Program} {w : World} {K : PySem.W.Frag} {mg : Str → Option Value} {base : Heap} {a : Ad} (T : Txt K mg a) (G_Done_init : MakR P w K mg base 1 "Done" a.cDone (lift (S_Done_init K a)))
    {f : Addr} {cdv : Value} {A : Around} {outer : List Env} {s : Shared} {H : Hp} {E : XK} (hr : Room 2 (A.deeper (PyProof.Rows.envOfC "Leased.ended" (defScope s_Leased_ended) s.heap.objs.size f cdv))) :
    PSs (cxOf (L2.CX P w) P w K mg base ["self", "turn"] "Leased.ended" (defScope s_Leased_ended) f cdv A outer s H E) (defBody s_Leased_ended) (t_Leased_ended K a fun c d _ H => E c d H) := by
  have tk : Takes (cxOf (L2.CX P w) P w K mg base ["self", "turn"] "Leased.ended" (defScope s_Leased_ended) f cdv A outer s H E) (fun c d _ H => E c d H) := takes_of rfl rfl rfl rfl
  have po : PassesOwn (model P w) (A.deeper (PyProof.Rows.envOfC "Leased.ended" (defScope s_Leased_ended) s.heap.objs.size f cdv)) (PyProof.Rows.envOfC "Leased.ended" (defScope s_Leased_ended) s.heap.objs.size f cdv) (cxOf (L2.CX P w) P w K mg base ["self", "turn"] "Leased.ended" (defScope s_Leased_ended) f cdv A outer s H E).xe := passes_of (X := cxOf (L2.CX P w) P w K mg base ["self", "turn"] "Leased.ended" (defScope s_Leased_ended) f cdv A outer s H E) rfl
  exact (pss_one (ps_ret (pe_mak G_Done_init (hr.mono (by decide)) rfl tk (pa_cons (pe_fld (pv 0) rfl) (pa_cons (pe_fld (pv 0) rfl) (pa_cons (pv 1) pa_nil))))))
theorem sc_Leased_failed : FnScope ["self", "job", "turn", "why", "fails", "rest"] ["self", "job", "turn", "why"] (defScope s_Leased_failed) := ⟨rfl, rfl, rfl, by decide +kernel, rfl, by decide +kernel, by decide +kernel⟩
def t_Leased_failed (K : PySem.W.Frag) (a : Ad) (W : WX) : TS :=
  (tSeq (tAsg (tOp (dAdd K) (tFld K (tVar 0) "fails") (tC (.int 1))) (gName 4))
  (tSeq (tIfS (tTest (tOp (dEq K) (tVar 4) (tFld K (tVar 1) "tries"))) (tRet (tMak a.cBroken (lift (S_Broken_init K a)) W (tCons (tVar 4) (tCons (tVar 3) tNil)))) tNext)
  (tSeq (tAsg (tCal (lift (S_wait_after K a)) W (tCons (tVar 1) (tCons (tVar 4) tNil))) (gName 5))
  (tSeq (tIfS (tTest (tOp (dEq K) (tVar 5) (tC (.int 0)))) (tRet (tMak a.cReady (lift (S_Ready_init K a)) W (tCons (tVar 4) tNil))) tNext)
  (tRet (tMak a.cResting (lift (S_Resting_init K a)) W (tCons (tVar 4) (tCons (tOp (dAdd K) (tVar 2) (tVar 5)) tNil))))))))
theorem dv_Leased_failed {P : Program} {w : World} {K : PySem.W.Frag} {mg : Str → Option Value} {base : Heap} {a : Ad} (T : Txt K mg a) (G_Broken_init : MakR P w K mg base 1 "Broken" a.cBroken (lift (S_Broken_init K a))) (G_Ready_init : MakR P w K mg base 1 "Ready" a.cReady (lift (S_Ready_init K a))) (G_Resting_init : MakR P w K mg base 1 "Resting" a.cResting (lift (S_Resting_init K a))) (G_wait_after : DefR P w K mg base 1 "wait_after" (lift (S_wait_after K a)))
    {f : Addr} {cdv : Value} {A : Around} {outer : List Env} {s : Shared} {H : Hp} {E : XK} (hr : Room 2 (A.deeper (PyProof.Rows.envOfC "Leased.failed" (defScope s_Leased_failed) s.heap.objs.size f cdv))) :
    PSs (cxOf (L2.CX P w) P w K mg base ["self", "job", "turn", "why", "fails", "rest"] "Leased.failed" (defScope s_Leased_failed) f cdv A outer s H E) (defBody s_Leased_failed) (t_Leased_failed K a fun c d _ H => E c d H) := by
  have tk : Takes (cxOf (L2.CX P w) P w K mg base ["self", "job", "turn", "why", "fails", "rest"] "Leased.failed" (defScope s_Leased_failed) f cdv A outer s H E) (fun c d _ H => E c d H) := takes_of rfl rfl rfl rfl
  have po : PassesOwn (model P w) (A.deeper (PyProof.Rows.envOfC "Leased.failed" (defScope s_Leased_failed) s.heap.objs.size f cdv)) (PyProof.Rows.envOfC "Leased.failed" (defScope s_Leased_failed) s.heap.objs.size f cdv) (cxOf (L2.CX P w) P w K mg base ["self", "job", "turn", "why", "fails", "rest"] "Leased.failed" (defScope s_Leased_failed) f cdv A outer s H E).xe := passes_of (X := cxOf (L2.CX P w) P w K mg base ["self", "job", "turn", "why", "fails", "rest"] "Leased.failed" (defScope s_Leased_failed) f cdv A outer s H E) rfl
  exact (pss_cons (ps_set (i := 4) sc_Leased_failed.nd rfl (by first | exact Or.inl rfl | exact Or.inr rfl) (pe_op op_dAdd (pe_fld (pv 0) rfl) pe_int))
  (pss_cons (ps_if (pt_cmpR (op_dEq hr) (pv 4) (pe_fld (pv 1) rfl) (nomark _)) (pss_one (ps_ret (pe_mak G_Broken_init (hr.mono (by decide)) rfl tk (pa_cons (pv 4) (pa_cons (pv 3) pa_nil))))) pss_nil)
  (pss_cons (ps_set (i := 5) sc_Leased_failed.nd rfl (by first | exact Or.inl rfl | exact Or.inr rfl) (pe_own G_wait_after (hr.mono (by decide)) rfl tk (pa_cons (pv 1) (pa_cons (pv 4) pa_nil))))
  (pss_cons (ps_if (pt_cmpR (op_dEq hr) (pv 5) pe_int (nomark _)) (pss_one (ps_ret (pe_mak G_Ready_init (hr.mono (by decide)) rfl tk (pa_cons (pv 4) pa_nil)))) pss_nil)
  (pss_one (ps_ret (pe_mak G_Resting_init (hr.mono (by decide)) rfl tk (pa_cons (pv 4) (pa_cons (pe_op op_dAdd (pv 2) (pv 5)) pa_nil)))))))))
theorem sc_Resting_init : FnScope ["self", "fails", "until"] ["self", "fails", "until"] (defScope s_Resting_init) := ⟨rfl, rfl, rfl, by decide +kernel, rfl, by decide +kernel, by decide +kernel⟩
def t_Resting_init (K : PySem.W.Frag) (a : Ad) (W : WX) : TS :=
  (tSeq (sFld K (tVar 0) (tVar 1) "fails")
  (sFld K (tVar 0) (tVar 2) "until"))
theorem dv_Resting_init {P : Program} {w : World} {K : PySem.W.Frag} {mg : Str → Option Value} {base : Heap} {a : Ad} (T : Txt K mg a) 
    {f : Addr} {cdv : Value} {A : Around} {outer : List Env} {s : Shared} {H : Hp} {E : XK} (hr : Room 0 (A.deeper (PyProof.Rows.envOfC "Resting.__init__" (defScope s_Resting_init) s.heap.objs.size f cdv))) :
    PSs (cxOf (L2.CX P w) P w K mg base ["self", "fails", "until"] "Resting.__init__" (defScope s_Resting_init) f cdv A outer s H E) (defBody s_Resting_init) (t_Resting_init K a fun c d _ H => E c d H) := by
  have tk : Takes (cxOf (L2.CX P w) P w K mg base ["self", "fails", "until"] "Resting.__init__" (defScope s_Resting_init) f cdv A outer s H E) (fun c d _ H => E c d H) := takes_of rfl rfl rfl rfl
  have po : PassesOwn (model P w) (A.deeper (PyProof.Rows.envOfC "Resting.__init__" (defScope s_Resting_init) s.heap.objs.size f cdv)) (PyProof.Rows.envOfC "Resting.__init__" (defScope s_Resting_init) s.heap.objs.size f cdv) (cxOf (L2.CX P w) P w K mg base ["self", "fails", "until"] "Resting.__init__" (defScope s_Resting_init) f cdv A outer s H E).xe := passes_of (X := cxOf (L2.CX P w) P w K mg base ["self", "fails", "until"] "Resting.__init__" (defScope s_Resting_init) f cdv A outer s H E) rfl
  exact (pss_cons (ps_fld (pv 0) (pv 1) rfl)
  (pss_one (ps_fld (pv 0) (pv 2) rfl)))
theorem sc_Resting_word : FnScope ["self"] ["self"] (defScope s_Resting_word) := ⟨rfl, rfl, rfl, by decide +kernel, rfl, by decide +kernel, by decide +kernel⟩
def t_Resting_word (K : PySem.W.Frag) (a : Ad) (W : WX) : TS :=
  (tRet (tC (.str "resting")))
theorem dv_Resting_word {P : Program} {w : World} {K : PySem.W.Frag} {mg : Str → Option Value} {base : Heap} {a : Ad} (T : Txt K mg a) 
    {f : Addr} {cdv : Value} {A : Around} {outer : List Env} {s : Shared} {H : Hp} {E : XK} (hr : Room 0 (A.deeper (PyProof.Rows.envOfC "Resting.word" (defScope s_Resting_word) s.heap.objs.size f cdv))) :
    PSs (cxOf (L2.CX P w) P w K mg base ["self"] "Resting.word" (defScope s_Resting_word) f cdv A outer s H E) (defBody s_Resting_word) (t_Resting_word K a fun c d _ H => E c d H) := by
  have tk : Takes (cxOf (L2.CX P w) P w K mg base ["self"] "Resting.word" (defScope s_Resting_word) f cdv A outer s H E) (fun c d _ H => E c d H) := takes_of rfl rfl rfl rfl
  have po : PassesOwn (model P w) (A.deeper (PyProof.Rows.envOfC "Resting.word" (defScope s_Resting_word) s.heap.objs.size f cdv)) (PyProof.Rows.envOfC "Resting.word" (defScope s_Resting_word) s.heap.objs.size f cdv) (cxOf (L2.CX P w) P w K mg base ["self"] "Resting.word" (defScope s_Resting_word) f cdv A outer s H E).xe := passes_of (X := cxOf (L2.CX P w) P w K mg base ["self"] "Resting.word" (defScope s_Resting_word) f cdv A outer s H E) rfl
  exact (pss_one (ps_ret pe_str))
theorem sc_Resting_count_fails : FnScope ["self"] ["self"] (defScope s_Resting_count_fails) := ⟨rfl, rfl, rfl, by decide +kernel, rfl, by decide +kernel, by decide +kernel⟩
def t_Resting_count_fails (K : PySem.W.Frag) (a : Ad) (W : WX) : TS :=
  (tRet (tFld K (tVar 0) "fails"))
theorem dv_Resting_count_fails {P : Program} {w : World} {K : PySem.W.Frag} {mg : Str → Option Value} {base : Heap} {a : Ad} (T : Txt K mg a) 
    {f : Addr} {cdv : Value} {A : Around} {outer : List Env} {s : Shared} {H : Hp} {E : XK} (hr : Room 0 (A.deeper (PyProof.Rows.envOfC "Resting.count_fails" (defScope s_Resting_count_fails) s.heap.objs.size f cdv))) :
    PSs (cxOf (L2.CX P w) P w K mg base ["self"] "Resting.count_fails" (defScope s_Resting_count_fails) f cdv A outer s H E) (defBody s_Resting_count_fails) (t_Resting_count_fails K a fun c d _ H => E c d H) := by
  have tk : Takes (cxOf (L2.CX P w) P w K mg base ["self"] "Resting.count_fails" (defScope s_Resting_count_fails) f cdv A outer s H E) (fun c d _ H => E c d H) := takes_of rfl rfl rfl rfl
  have po : PassesOwn (model P w) (A.deeper (PyProof.Rows.envOfC "Resting.count_fails" (defScope s_Resting_count_fails) s.heap.objs.size f cdv)) (PyProof.Rows.envOfC "Resting.count_fails" (defScope s_Resting_count_fails) s.heap.objs.size f cdv) (cxOf (L2.CX P w) P w K mg base ["self"] "Resting.count_fails" (defScope s_Resting_count_fails) f cdv A outer s H E).xe := passes_of (X := cxOf (L2.CX P w) P w K mg base ["self"] "Resting.count_fails" (defScope s_Resting_count_fails) f cdv A outer s H E) rfl
  exact (pss_one (ps_ret (pe_fld (pv 0) rfl)))
theorem sc_Resting_told : FnScope ["self"] ["self"] (defScope s_Resting_told) := ⟨rfl, rfl, rfl, by decide +kernel, rfl, by decide +kernel, by decide +kernel⟩
def t_Resting_told (K : PySem.W.Frag) (a : Ad) (W : WX) : TS :=
  (tRet (tTup (tCons (tMet (MT K a "word") "word" W (tVar 0) tNil) (tCons (tFld K (tVar 0) "fails") (tCons (tFld K (tVar 0) "until") tNil)))))
theorem dv_Resting_told {P : Program} {w : World} {K : PySem.W.Frag} {mg : Str → Option Value} {base : Heap} {a : Ad} (T : Txt K mg a) (MM_word : ∀ C sp, MT K a "word" C sp → MethR P w K mg base 1 C "word" (lift sp))
    {f : Addr} {cdv : Value} {A : Around} {outer : List Env} {s : Shared} {H : Hp} {E : XK} (hr : Room 1 (A.deeper (PyProof.Rows.envOfC "Resting.told" (defScope s_Resting_told) s.heap.objs.size f cdv))) :
    PSs (cxOf (L2.CX P w) P w K mg base ["self"] "Resting.told" (defScope s_Resting_told) f cdv A outer s H E) (defBody s_Resting_told) (t_Resting_told K a fun c d _ H => E c d H) := by
  have tk : Takes (cxOf (L2.CX P w) P w K mg base ["self"] "Resting.told" (defScope s_Resting_told) f cdv A outer s H E) (fun c d _ H => E c d H) := takes_of rfl rfl rfl rfl
  have po : PassesOwn (model P w) (A.deeper (PyProof.Rows.envOfC "Resting.told" (defScope s_Resting_told) s.heap.objs.size f cdv)) (PyProof.Rows.envOfC "Resting.told" (defScope s_Resting_told) s.heap.objs.size f cdv) (cxOf (L2.CX P w) P w K mg base ["self"] "Resting.told" (defScope s_Resting_told) f cdv A outer s H E).xe := passes_of (X := cxOf (L2.CX P w) P w K mg base ["self"] "Resting.told" (defScope s_Resting_told) f cdv A outer s H E) rfl
  exact (pss_one (ps_ret (pe_tup (pa_cons (pe_met0 (pv 0) MM_word (hr.mono (by decide)) tk) (pa_cons (pe_fld (pv 0) rfl) (pa_cons (pe_fld (pv 0) rfl) pa_nil))))))
theorem sc_Resting_rested : FnScope ["self"] ["self"] (defScope s_Resting_rested) := ⟨rfl, rfl, rfl, by decide +kernel, rfl, by decide +kernel, by decide +kernel⟩
def t_Resting_rested (K : PySem.W.Frag) (a : Ad) (W : WX) : TS :=
  (tRet (tMak a.cReady (lift (S_Ready_init K a)) W (tCons (tFld K (tVar 0) "fails") tNil)))
theorem dv_Resting_rested {P : Program} {w : World} {K : PySem.W.Frag} {mg : Str → Option Value} {base : Heap} {a : Ad} (T : Txt K mg a) (G_Ready_init : MakR P w K mg base 1 "Ready" a.cReady (lift (S_Ready_init K a)))
    {f : Addr} {cdv : Value} {A : Around} {outer : List Env} {s : Shared} {H : Hp} {E : XK} (hr : Room 2 (A.deeper (PyProof.Rows.envOfC "Resting.rested" (defScope s_Resting_rested) s.heap.objs.size f cdv))) :
    PSs (cxOf (L2.CX P w) P w K mg base ["self"] "Resting.rested" (defScope s_Resting_rested) f cdv A outer s H E) (defBody s_Resting_rested) (t_Resting_rested K a fun c d _ H => E c d H) := by
  have tk : Takes (cxOf (L2.CX P w) P w K mg base ["self"] "Resting.rested" (defScope s_Resting_rested) f cdv A outer s H E) (fun c d _ H => E c d H) := takes_of rfl rfl rfl rfl
  have po : PassesOwn (model P w) (A.deeper (PyProof.Rows.envOfC "Resting.rested" (defScope s_Resting_rested) s.heap.objs.size f cdv)) (PyProof.Rows.envOfC "Resting.rested" (defScope s_Resting_rested) s.heap.objs.size f cdv) (cxOf (L2.CX P w) P w K mg base ["self"] "Resting.rested" (defScope s_Resting_rested) f cdv A outer s H E).xe := passes_of (X := cxOf (L2.CX P w) P w K mg base ["self"] "Resting.rested" (defScope s_Resting_rested) f cdv A outer s H E) rfl
  exact (pss_one (ps_ret (pe_mak G_Ready_init (hr.mono (by decide)) rfl tk (pa_cons (pe_fld (pv 0) rfl) pa_nil))))
theorem sc_Done_init : FnScope ["self", "fails", "number", "turn"] ["self", "fails", "number", "turn"] (defScope s_Done_init) := ⟨rfl, rfl, rfl, by decide +kernel, rfl, by decide +kernel, by decide +kernel⟩
def t_Done_init (K : PySem.W.Frag) (a : Ad) (W : WX) : TS :=
  (tSeq (sFld K (tVar 0) (tVar 1) "fails")
  (tSeq (sFld K (tVar 0) (tVar 2) "number")
  (sFld K (tVar 0) (tVar 3) "turn")))
theorem dv_Done_init {P : Program} {w : World} {K : PySem.W.Frag} {mg : Str → Option Value} {base : Heap} {a : Ad} (T : Txt K mg a) 
    {f : Addr} {cdv : Value} {A : Around} {outer : List Env} {s : Shared} {H : Hp} {E : XK} (hr : Room 0 (A.deeper (PyProof.Rows.envOfC "Done.__init__" (defScope s_Done_init) s.heap.objs.size f cdv))) :
    PSs (cxOf (L2.CX P w) P w K mg base ["self", "fails", "number", "turn"] "Done.__init__" (defScope s_Done_init) f cdv A outer s H E) (defBody s_Done_init) (t_Done_init K a fun c d _ H => E c d H) := by
  have tk : Takes (cxOf (L2.CX P w) P w K mg base ["self", "fails", "number", "turn"] "Done.__init__" (defScope s_Done_init) f cdv A outer s H E) (fun c d _ H => E c d H) := takes_of rfl rfl rfl rfl
  have po : PassesOwn (model P w) (A.deeper (PyProof.Rows.envOfC "Done.__init__" (defScope s_Done_init) s.heap.objs.size f cdv)) (PyProof.Rows.envOfC "Done.__init__" (defScope s_Done_init) s.heap.objs.size f cdv) (cxOf (L2.CX P w) P w K mg base ["self", "fails", "number", "turn"] "Done.__init__" (defScope s_Done_init) f cdv A outer s H E).xe := passes_of (X := cxOf (L2.CX P w) P w K mg base ["self", "fails", "number", "turn"] "Done.__init__" (defScope s_Done_init) f cdv A outer s H E) rfl
  exact (pss_cons (ps_fld (pv 0) (pv 1) rfl)
  (pss_cons (ps_fld (pv 0) (pv 2) rfl)
  (pss_one (ps_fld (pv 0) (pv 3) rfl))))
theorem sc_Done_word : FnScope ["self"] ["self"] (defScope s_Done_word) := ⟨rfl, rfl, rfl, by decide +kernel, rfl, by decide +kernel, by decide +kernel⟩
def t_Done_word (K : PySem.W.Frag) (a : Ad) (W : WX) : TS :=
  (tRet (tC (.str "done")))
theorem dv_Done_word {P : Program} {w : World} {K : PySem.W.Frag} {mg : Str → Option Value} {base : Heap} {a : Ad} (T : Txt K mg a) 
    {f : Addr} {cdv : Value} {A : Around} {outer : List Env} {s : Shared} {H : Hp} {E : XK} (hr : Room 0 (A.deeper (PyProof.Rows.envOfC "Done.word" (defScope s_Done_word) s.heap.objs.size f cdv))) :
    PSs (cxOf (L2.CX P w) P w K mg base ["self"] "Done.word" (defScope s_Done_word) f cdv A outer s H E) (defBody s_Done_word) (t_Done_word K a fun c d _ H => E c d H) := by
  have tk : Takes (cxOf (L2.CX P w) P w K mg base ["self"] "Done.word" (defScope s_Done_word) f cdv A outer s H E) (fun c d _ H => E c d H) := takes_of rfl rfl rfl rfl
  have po : PassesOwn (model P w) (A.deeper (PyProof.Rows.envOfC "Done.word" (defScope s_Done_word) s.heap.objs.size f cdv)) (PyProof.Rows.envOfC "Done.word" (defScope s_Done_word) s.heap.objs.size f cdv) (cxOf (L2.CX P w) P w K mg base ["self"] "Done.word" (defScope s_Done_word) f cdv A outer s H E).xe := passes_of (X := cxOf (L2.CX P w) P w K mg base ["self"] "Done.word" (defScope s_Done_word) f cdv A outer s H E) rfl
  exact (pss_one (ps_ret pe_str))
theorem sc_Done_count_fails : FnScope ["self"] ["self"] (defScope s_Done_count_fails) := ⟨rfl, rfl, rfl, by decide +kernel, rfl, by decide +kernel, by decide +kernel⟩
def t_Done_count_fails (K : PySem.W.Frag) (a : Ad) (W : WX) : TS :=
  (tRet (tFld K (tVar 0) "fails"))
theorem dv_Done_count_fails {P : Program} {w : World} {K : PySem.W.Frag} {mg : Str → Option Value} {base : Heap} {a : Ad} (T : Txt K mg a) 
    {f : Addr} {cdv : Value} {A : Around} {outer : List Env} {s : Shared} {H : Hp} {E : XK} (hr : Room 0 (A.deeper (PyProof.Rows.envOfC "Done.count_fails" (defScope s_Done_count_fails) s.heap.objs.size f cdv))) :
    PSs (cxOf (L2.CX P w) P w K mg base ["self"] "Done.count_fails" (defScope s_Done_count_fails) f cdv A outer s H E) (defBody s_Done_count_fails) (t_Done_count_fails K a fun c d _ H => E c d H) := by
  have tk : Takes (cxOf (L2.CX P w) P w K mg base ["self"] "Done.count_fails" (defScope s_Done_count_fails) f cdv A outer s H E) (fun c d _ H => E c d H) := takes_of rfl rfl rfl rfl
  have po : PassesOwn (model P w) (A.deeper (PyProof.Rows.envOfC "Done.count_fails" (defScope s_Done_count_fails) s.heap.objs.size f cdv)) (PyProof.Rows.envOfC "Done.count_fails" (defScope s_Done_count_fails) s.heap.objs.size f cdv) (cxOf (L2.CX P w) P w K mg base ["self"] "Done.count_fails" (defScope s_Done_count_fails) f cdv A outer s H E).xe := passes_of (X := cxOf (L2.CX P w) P w K mg base ["self"] "Done.count_fails" (defScope s_Done_count_fails) f cdv A outer s H E) rfl
  exact (pss_one (ps_ret (pe_fld (pv 0) rfl)))
theorem sc_Done_told : FnScope ["self"] ["self"] (defScope s_Done_told) := ⟨rfl, rfl, rfl, by decide +kernel, rfl, by decide +kernel, by decide +kernel⟩
def t_Done_told (K : PySem.W.Frag) (a : Ad) (W : WX) : TS :=
  (tRet (tTup (tCons (tMet (MT K a "word") "word" W (tVar 0) tNil) (tCons (tFld K (tVar 0) "fails") (tCons (tFld K (tVar 0) "number") (tCons (tFld K (tVar 0) "turn") tNil))))))
theorem dv_Done_told {P : Program} {w : World} {K : PySem.W.Frag} {mg : Str → Option Value} {base : Heap} {a : Ad} (T : Txt K mg a) (MM_word : ∀ C sp, MT K a "word" C sp → MethR P w K mg base 1 C "word" (lift sp))
    {f : Addr} {cdv : Value} {A : Around} {outer : List Env} {s : Shared} {H : Hp} {E : XK} (hr : Room 1 (A.deeper (PyProof.Rows.envOfC "Done.told" (defScope s_Done_told) s.heap.objs.size f cdv))) :
    PSs (cxOf (L2.CX P w) P w K mg base ["self"] "Done.told" (defScope s_Done_told) f cdv A outer s H E) (defBody s_Done_told) (t_Done_told K a fun c d _ H => E c d H) := by
  have tk : Takes (cxOf (L2.CX P w) P w K mg base ["self"] "Done.told" (defScope s_Done_told) f cdv A outer s H E) (fun c d _ H => E c d H) := takes_of rfl rfl rfl rfl
  have po : PassesOwn (model P w) (A.deeper (PyProof.Rows.envOfC "Done.told" (defScope s_Done_told) s.heap.objs.size f cdv)) (PyProof.Rows.envOfC "Done.told" (defScope s_Done_told) s.heap.objs.size f cdv) (cxOf (L2.CX P w) P w K mg base ["self"] "Done.told" (defScope s_Done_told) f cdv A outer s H E).xe := passes_of (X := cxOf (L2.CX P w) P w K mg base ["self"] "Done.told" (defScope s_Done_told) f cdv A outer s H E) rfl
  exact (pss_one (ps_ret (pe_tup (pa_cons (pe_met0 (pv 0) MM_word (hr.mono (by decide)) tk) (pa_cons (pe_fld (pv 0) rfl) (pa_cons (pe_fld (pv 0) rfl) (pa_cons (pe_fld (pv 0) rfl) pa_nil)))))))
theorem sc_Broken_init : FnScope ["self", "fails", "why"] ["self", "fails", "why"] (defScope s_Broken_init) := ⟨rfl, rfl, rfl, by decide +kernel, rfl, by decide +kernel, by decide +kernel⟩
def t_Broken_init (K : PySem.W.Frag) (a : Ad) (W : WX) : TS :=
  (tSeq (sFld K (tVar 0) (tVar 1) "fails")
  (sFld K (tVar 0) (tVar 2) "why"))
theorem dv_Broken_init {P : Program} {w : World} {K : PySem.W.Frag} {mg : Str → Option Value} {base : Heap} {a : Ad} (T : Txt K mg a) 
    {f : Addr} {cdv : Value} {A : Around} {outer : List Env} {s : Shared} {H : Hp} {E : XK} (hr : Room 0 (A.deeper (PyProof.Rows.envOfC "Broken.__init__" (defScope s_Broken_init) s.heap.objs.size f cdv))) :
    PSs (cxOf (L2.CX P w) P w K mg base ["self", "fails", "why"] "Broken.__init__" (defScope s_Broken_init) f cdv A outer s H E) (defBody s_Broken_init) (t_Broken_init K a fun c d _ H => E c d H) := by
  have tk : Takes (cxOf (L2.CX P w) P w K mg base ["self", "fails", "why"] "Broken.__init__" (defScope s_Broken_init) f cdv A outer s H E) (fun c d _ H => E c d H) := takes_of rfl rfl rfl rfl
  have po : PassesOwn (model P w) (A.deeper (PyProof.Rows.envOfC "Broken.__init__" (defScope s_Broken_init) s.heap.objs.size f cdv)) (PyProof.Rows.envOfC "Broken.__init__" (defScope s_Broken_init) s.heap.objs.size f cdv) (cxOf (L2.CX P w) P w K mg base ["self", "fails", "why"] "Broken.__init__" (defScope s_Broken_init) f cdv A outer s H E).xe := passes_of (X := cxOf (L2.CX P w) P w K mg base ["self", "fails", "why"] "Broken.__init__" (defScope s_Broken_init) f cdv A outer s H E) rfl
  exact (pss_cons (ps_fld (pv 0) (pv 1) rfl)
  (pss_one (ps_fld (pv 0) (pv 2) rfl)))
theorem sc_Broken_word : FnScope ["self"] ["self"] (defScope s_Broken_word) := ⟨rfl, rfl, rfl, by decide +kernel, rfl, by decide +kernel, by decide +kernel⟩
def t_Broken_word (K : PySem.W.Frag) (a : Ad) (W : WX) : TS :=
  (tRet (tC (.str "broken")))
theorem dv_Broken_word {P : Program} {w : World} {K : PySem.W.Frag} {mg : Str → Option Value} {base : Heap} {a : Ad} (T : Txt K mg a) 
    {f : Addr} {cdv : Value} {A : Around} {outer : List Env} {s : Shared} {H : Hp} {E : XK} (hr : Room 0 (A.deeper (PyProof.Rows.envOfC "Broken.word" (defScope s_Broken_word) s.heap.objs.size f cdv))) :
    PSs (cxOf (L2.CX P w) P w K mg base ["self"] "Broken.word" (defScope s_Broken_word) f cdv A outer s H E) (defBody s_Broken_word) (t_Broken_word K a fun c d _ H => E c d H) := by
  have tk : Takes (cxOf (L2.CX P w) P w K mg base ["self"] "Broken.word" (defScope s_Broken_word) f cdv A outer s H E) (fun c d _ H => E c d H) := takes_of rfl rfl rfl rfl
  have po : PassesOwn (model P w) (A.deeper (PyProof.Rows.envOfC "Broken.word" (defScope s_Broken_word) s.heap.objs.size f cdv)) (PyProof.Rows.envOfC "Broken.word" (defScope s_Broken_word) s.heap.objs.size f cdv) (cxOf (L2.CX P w) P w K mg base ["self"] "Broken.word" (defScope s_Broken_word) f cdv A outer s H E).xe := passes_of (X := cxOf (L2.CX P w) P w K mg base ["self"] "Broken.word" (defScope s_Broken_word) f cdv A outer s H E) rfl
  exact (pss_one (ps_ret pe_str))
theorem sc_Broken_count_fails : FnScope ["self"] ["self"] (defScope s_Broken_count_fails) := ⟨rfl, rfl, rfl, by decide +kernel, rfl, by decide +kernel, by decide +kernel⟩
def t_Broken_count_fails (K : PySem.W.Frag) (a : Ad) (W : WX) : TS :=
  (tRet (tFld K (tVar 0) "fails"))
theorem dv_Broken_count_fails {P : Program} {w : World} {K : PySem.W.Frag} {mg : Str → Option Value} {base : Heap} {a : Ad} (T : Txt K mg a) 
    {f : Addr} {cdv : Value} {A : Around} {outer : List Env} {s : Shared} {H : Hp} {E : XK} (hr : Room 0 (A.deeper (PyProof.Rows.envOfC "Broken.count_fails" (defScope s_Broken_count_fails) s.heap.objs.size f cdv))) :
    PSs (cxOf (L2.CX P w) P w K mg base ["self"] "Broken.count_fails" (defScope s_Broken_count_fails) f cdv A outer s H E) (defBody s_Broken_count_fails) (t_Broken_count_fails K a fun c d _ H => E c d H) := by
  have tk : Takes (cxOf (L2.CX P w) P w K mg base ["self"] "Broken.count_fails" (defScope s_Broken_count_fails) f cdv A outer s H E) (fun c d _ H => E c d H) := takes_of rfl rfl rfl rfl
  have po : PassesOwn (model P w) (A.deeper (PyProof.Rows.envOfC "Broken.count_fails" (defScope s_Broken_count_fails) s.heap.objs.size f cdv)) (PyProof.Rows.envOfC "Broken.count_fails" (defScope s_Broken_count_fails) s.heap.objs.size f cdv) (cxOf (L2.CX P w) P w K mg base ["self"] "Broken.count_fails" (defScope s_Broken_count_fails) f cdv A outer s H E).xe := passes_of (X := cxOf (L2.CX P w) P w K mg base ["self"] "Broken.count_fails" (defScope s_Broken_count_fails) f cdv A outer s H E) rfl
  exact (pss_one (ps_ret (pe_fld (pv 0) rfl)))
theorem sc_Broken_told : FnScope ["self"] ["self"] (defScope s_Broken_told) := ⟨rfl, rfl, rfl, by decide +kernel, rfl, by decide +kernel, by decide +kernel⟩
def t_Broken_told (K : PySem.W.Frag) (a : Ad) (W : WX) : TS :=
  (tRet (tTup (tCons (tMet (MT K a "word") "word" W (tVar 0) tNil) (tCons (tFld K (tVar 0) "fails") (tCons (tFld K (tVar 0) "why") tNil)))))
theorem dv_Broken_told {P : Program} {w : World} {K : PySem.W.Frag} {mg : Str → Option Value} {base : Heap} {a : Ad} (T : Txt K mg a) (MM_word : ∀ C sp, MT K a "word" C sp → MethR P w K mg base 1 C "word" (lift sp))
    {f : Addr} {cdv : Value} {A : Around} {outer : List Env} {s : Shared} {H : Hp} {E : XK} (hr : Room 1 (A.deeper (PyProof.Rows.envOfC "Broken.told" (defScope s_Broken_told) s.heap.objs.size f cdv))) :
    PSs (cxOf (L2.CX P w) P w K mg base ["self"] "Broken.told" (defScope s_Broken_told) f cdv A outer s H E) (defBody s_Broken_told) (t_Broken_told K a fun c d _ H => E c d H) := by
  have tk : Takes (cxOf (L2.CX P w) P w K mg base ["self"] "Broken.told" (defScope s_Broken_told) f cdv A outer s H E) (fun c d _ H => E c d H) := takes_of rfl rfl rfl rfl
  have po : PassesOwn (model P w) (A.deeper (PyProof.Rows.envOfC "Broken.told" (defScope s_Broken_told) s.heap.objs.size f cdv)) (PyProof.Rows.envOfC "Broken.told" (defScope s_Broken_told) s.heap.objs.size f cdv) (cxOf (L2.CX P w) P w K mg base ["self"] "Broken.told" (defScope s_Broken_told) f cdv A outer s H E).xe := passes_of (X := cxOf (L2.CX P w) P w K mg base ["self"] "Broken.told" (defScope s_Broken_told) f cdv A outer s H E) rfl
  exact (pss_one (ps_ret (pe_tup (pa_cons (pe_met0 (pv 0) MM_word (hr.mono (by decide)) tk) (pa_cons (pe_fld (pv 0) rfl) (pa_cons (pe_fld (pv 0) rfl) pa_nil))))))
theorem sc_Cut_init : FnScope ["self", "need"] ["self", "need"] (defScope s_Cut_init) := ⟨rfl, rfl, rfl, by decide +kernel, rfl, by decide +kernel, by decide +kernel⟩
def t_Cut_init (K : PySem.W.Frag) (a : Ad) (W : WX) : TS :=
  (sFld K (tVar 0) (tVar 1) "need")
theorem dv_Cut_init {P : Program} {w : World} {K : PySem.W.Frag} {mg : Str → Option Value} {base : Heap} {a : Ad} (T : Txt K mg a) 
    {f : Addr} {cdv : Value} {A : Around} {outer : List Env} {s : Shared} {H : Hp} {E : XK} (hr : Room 0 (A.deeper (PyProof.Rows.envOfC "Cut.__init__" (defScope s_Cut_init) s.heap.objs.size f cdv))) :
    PSs (cxOf (L2.CX P w) P w K mg base ["self", "need"] "Cut.__init__" (defScope s_Cut_init) f cdv A outer s H E) (defBody s_Cut_init) (t_Cut_init K a fun c d _ H => E c d H) := by
  have tk : Takes (cxOf (L2.CX P w) P w K mg base ["self", "need"] "Cut.__init__" (defScope s_Cut_init) f cdv A outer s H E) (fun c d _ H => E c d H) := takes_of rfl rfl rfl rfl
  have po : PassesOwn (model P w) (A.deeper (PyProof.Rows.envOfC "Cut.__init__" (defScope s_Cut_init) s.heap.objs.size f cdv)) (PyProof.Rows.envOfC "Cut.__init__" (defScope s_Cut_init) s.heap.objs.size f cdv) (cxOf (L2.CX P w) P w K mg base ["self", "need"] "Cut.__init__" (defScope s_Cut_init) f cdv A outer s H E).xe := passes_of (X := cxOf (L2.CX P w) P w K mg base ["self", "need"] "Cut.__init__" (defScope s_Cut_init) f cdv A outer s H E) rfl
  exact (pss_one (ps_fld (pv 0) (pv 1) rfl))
theorem sc_Cut_word : FnScope ["self"] ["self"] (defScope s_Cut_word) := ⟨rfl, rfl, rfl, by decide +kernel, rfl, by decide +kernel, by decide +kernel⟩
def t_Cut_word (K : PySem.W.Frag) (a : Ad) (W : WX) : TS :=
  (tRet (tC (.str "cut")))
theorem dv_Cut_word {P : Program} {w : World} {K : PySem.W.Frag} {mg : Str → Option Value} {base : Heap} {a : Ad} (T : Txt K mg a) 
    {f : Addr} {cdv : Value} {A : Around} {outer : List Env} {s : Shared} {H : Hp} {E : XK} (hr : Room 0 (A.deeper (PyProof.Rows.envOfC "Cut.word" (defScope s_Cut_word) s.heap.objs.size f cdv))) :
    PSs (cxOf (L2.CX P w) P w K mg base ["self"] "Cut.word" (defScope s_Cut_word) f cdv A outer s H E) (defBody s_Cut_word) (t_Cut_word K a fun c d _ H => E c d H) := by
  have tk : Takes (cxOf (L2.CX P w) P w K mg base ["self"] "Cut.word" (defScope s_Cut_word) f cdv A outer s H E) (fun c d _ H => E c d H) := takes_of rfl rfl rfl rfl
  have po : PassesOwn (model P w) (A.deeper (PyProof.Rows.envOfC "Cut.word" (defScope s_Cut_word) s.heap.objs.size f cdv)) (PyProof.Rows.envOfC "Cut.word" (defScope s_Cut_word) s.heap.objs.size f cdv) (cxOf (L2.CX P w) P w K mg base ["self"] "Cut.word" (defScope s_Cut_word) f cdv A outer s H E).xe := passes_of (X := cxOf (L2.CX P w) P w K mg base ["self"] "Cut.word" (defScope s_Cut_word) f cdv A outer s H E) rfl
  exact (pss_one (ps_ret pe_str))
theorem sc_Cut_told : FnScope ["self"] ["self"] (defScope s_Cut_told) := ⟨rfl, rfl, rfl, by decide +kernel, rfl, by decide +kernel, by decide +kernel⟩
def t_Cut_told (K : PySem.W.Frag) (a : Ad) (W : WX) : TS :=
  (tRet (tTup (tCons (tMet (MT K a "word") "word" W (tVar 0) tNil) (tCons (tFld K (tVar 0) "need") tNil))))
theorem dv_Cut_told {P : Program} {w : World} {K : PySem.W.Frag} {mg : Str → Option Value} {base : Heap} {a : Ad} (T : Txt K mg a) (MM_word : ∀ C sp, MT K a "word" C sp → MethR P w K mg base 1 C "word" (lift sp))
    {f : Addr} {cdv : Value} {A : Around} {outer : List Env} {s : Shared} {H : Hp} {E : XK} (hr : Room 1 (A.deeper (PyProof.Rows.envOfC "Cut.told" (defScope s_Cut_told) s.heap.objs.size f cdv))) :
    PSs (cxOf (L2.CX P w) P w K mg base ["self"] "Cut.told" (defScope s_Cut_told) f cdv A outer s H E) (defBody s_Cut_told) (t_Cut_told K a fun c d _ H => E c d H) := by
  have tk : Takes (cxOf (L2.CX P w) P w K mg base ["self"] "Cut.told" (defScope s_Cut_told) f cdv A outer s H E) (fun c d _ H => E c d H) := takes_of rfl rfl rfl rfl
  have po : PassesOwn (model P w) (A.deeper (PyProof.Rows.envOfC "Cut.told" (defScope s_Cut_told) s.heap.objs.size f cdv)) (PyProof.Rows.envOfC "Cut.told" (defScope s_Cut_told) s.heap.objs.size f cdv) (cxOf (L2.CX P w) P w K mg base ["self"] "Cut.told" (defScope s_Cut_told) f cdv A outer s H E).xe := passes_of (X := cxOf (L2.CX P w) P w K mg base ["self"] "Cut.told" (defScope s_Cut_told) f cdv A outer s H E) rfl
  exact (pss_one (ps_ret (pe_tup (pa_cons (pe_met0 (pv 0) MM_word (hr.mono (by decide)) tk) (pa_cons (pe_fld (pv 0) rfl) pa_nil)))))
theorem sc_first_state : FnScope ["job"] ["job"] (defScope s_first_state) := ⟨rfl, rfl, rfl, by decide +kernel, rfl, by decide +kernel, by decide +kernel⟩
def t_first_state (K : PySem.W.Frag) (a : Ad) (W : WX) : TS :=
  (tSeq (tIfS (tTest (tOp (dEq K) (tCB (cLen K) (tCons (tFld K (tVar 0) "needs") tNil)) (tC (.int 0)))) (tRet (tMak a.cReady (lift (S_Ready_init K a)) W (tCons (tC (.int 0)) tNil))) tNext)
  (tRet (tMak a.cBlocked (lift (S_Blocked_init K a)) W (tCons (tCB (cLen K) (tCons (tFld K (tVar 0) "needs") tNil)) tNil))))
theorem dv_first_state {P : Program} {w : World} {K : PySem.W.Frag} {mg : Str → Option Value} {base : Heap} {a : Ad} (T : Txt K mg a) (G_Blocked_init : MakR P w K mg base 1 "Blocked" a.cBlocked (lift (S_Blocked_init K a))) (G_Ready_init : MakR P w K mg base 1 "Ready" a.cReady (lift (S_Ready_init K a)))
    {f : Addr} {cdv : Value} {A : Around} {outer : List Env} {s : Shared} {H : Hp} {E : XK} (hr : Room 2 (A.deeper (PyProof.Rows.envOfC "first_state" (defScope s_first_state) s.heap.objs.size f cdv))) :
    PSs (cxOf (L2.CX P w) P w K mg base ["job"] "first_state" (defScope s_first_state) f cdv A outer s H E) (defBody s_first_state) (t_first_state K a fun c d _ H => E c d H) := by
  have tk : Takes (cxOf (L2.CX P w) P w K mg base ["job"] "first_state" (defScope s_first_state) f cdv A outer s H E) (fun c d _ H => E c d H) := takes_of rfl rfl rfl rfl
  have po : PassesOwn (model P w) (A.deeper (PyProof.Rows.envOfC "first_state" (defScope s_first_state) s.heap.objs.size f cdv)) (PyProof.Rows.envOfC "first_state" (defScope s_first_state) s.heap.objs.size f cdv) (cxOf (L2.CX P w) P w K mg base ["job"] "first_state" (defScope s_first_state) f cdv A outer s H E).xe := passes_of (X := cxOf (L2.CX P w) P w K mg base ["job"] "first_state" (defScope s_first_state) f cdv A outer s H E) rfl
  exact (pss_cons (ps_if (pt_cmpR (op_dEq hr) (pe_callB call_cLen (by rfl) T.b_len (by decide +kernel) (pa_cons (pe_fld (pv 0) rfl) pa_nil)) pe_int (nomark _)) (pss_one (ps_ret (pe_mak G_Ready_init (hr.mono (by decide)) rfl tk (pa_cons pe_int pa_nil)))) pss_nil)
  (pss_one (ps_ret (pe_mak G_Blocked_init (hr.mono (by decide)) rfl tk (pa_cons (pe_callB call_cLen (by rfl) T.b_len (by decide +kernel) (pa_cons (pe_fld (pv 0) rfl) pa_nil)) pa_nil)))))
theorem sc_own_needs : FnScope ["name", "needs", "found", "need"] ["name", "needs"] (defScope s_own_needs) := ⟨rfl, rfl, rfl, by decide +kernel, rfl, by decide +kernel, by decide +kernel⟩
def t_own_needs (K : PySem.W.Frag) (a : Ad) (W : WX) : TS :=
  (tSeq (tIfS (tTest (tOp (dIs false) (tVar 1) (tC .non))) (tRet (tLst tNil)) tNext)
  (tSeq (tIfS (tOr (tNot (tB (tCB (rIsiT K) (tCons (tVar 1) (tCons (tTup (tCons (tC (.ty "list")) (tCons (tC (.ty "tuple")) tNil))) tNil))))) (tTest (tOp dGt (tCB (cLen K) (tCons (tVar 1) tNil)) (tC (.int (8)))))) tNever tNext)
  (tSeq (tAsg (tLst tNil) (gName 2))
  (tSeq (tFor (iList K (tVar 1)) (gName 3) (tSeq (tIfS (tOr (tNot (tB (tCal (lift (S_is_name K a)) W (tCons (tVar 3) tNil)))) (tOr (tTest (tOp (dEq K) (tVar 3) (tVar 0))) (tTest (tOp (dIn K false) (tVar 3) (tVar 2))))) tNever tNext)
  (tDrop (tBM K "list" rAppend (tVar 2) (tCons (tVar 3) tNil)))))
  (tRet (tVar 2))))))
theorem dv_own_needs {P : Program} {w : World} {K : PySem.W.Frag} {mg : Str → Option Value} {base : Heap} {a : Ad} (T : Txt K mg a) (G_is_name : DefR P w K mg base 2 "is_name" (lift (S_is_name K a)))
    {f : Addr} {cdv : Value} {A : Around} {outer : List Env} {s : Shared} {H : Hp} {E : XK} (hr : Room 2 (A.deeper (PyProof.Rows.envOfC "own_needs" (defScope s_own_needs) s.heap.objs.size f cdv))) :
    PSs (cxOf (L2.CX P w) P w K mg base ["name", "needs", "found", "need"] "own_needs" (defScope s_own_needs) f cdv A outer s H E) (defBody s_own_needs) (t_own_needs K a fun c d _ H => E c d H) := by
  have tk : Takes (cxOf (L2.CX P w) P w K mg base ["name", "needs", "found", "need"] "own_needs" (defScope s_own_needs) f cdv A outer s H E) (fun c d _ H => E c d H) := takes_of rfl rfl rfl rfl
  have po : PassesOwn (model P w) (A.deeper (PyProof.Rows.envOfC "own_needs" (defScope s_own_needs) s.heap.objs.size f cdv)) (PyProof.Rows.envOfC "own_needs" (defScope s_own_needs) s.heap.objs.size f cdv) (cxOf (L2.CX P w) P w K mg base ["name", "needs", "found", "need"] "own_needs" (defScope s_own_needs) f cdv A outer s H E).xe := passes_of (X := cxOf (L2.CX P w) P w K mg base ["name", "needs", "found", "need"] "own_needs" (defScope s_own_needs) f cdv A outer s H E) rfl
  exact (pss_cons (ps_if (pt_cmpR op_dIs (pv 1) pe_non (nomark _)) (pss_one (ps_ret (pe_lst pa_nil))) pss_nil)
  (pss_cons (ps_if (PW.pt (pw_or (pt_not (pt_val (pe_callB call_isiT (by rfl) T.b_isinstance (by decide +kernel) (pa_cons (pv 1) (pa_cons (pe_tup (pa_cons (pe_bltn (v := .ty "list") (by rfl) T.b_list (by decide +kernel) rfl) (pa_cons (pe_bltn (v := .ty "tuple") (by rfl) T.b_tuple (by decide +kernel) rfl) pa_nil))) pa_nil))))) (pw_or1 (pt_cmpR op_dGt (pe_callB call_cLen (by rfl) T.b_len (by decide +kernel) (pa_cons (pv 1) pa_nil)) (pe_gl (v := .int (8)) T.g_MOST_NEEDS) (nomark _))))) (pss_one ps_never) pss_nil)
  (pss_cons (ps_set (i := 2) sc_own_needs.nd rfl (by first | exact Or.inl rfl | exact Or.inr rfl) (pe_lst pa_nil))
  (pss_cons (ps_for po rfl (pi_list (pv 1)) (pg_name (i := 3) sc_own_needs.nd rfl (by first | exact Or.inl rfl | exact Or.inr rfl)) (pss_cons (ps_if (PW.pt (pw_or (pt_not (pt_val (pe_own G_is_name (hr.mono (by decide)) rfl tk (pa_cons (pv 3) pa_nil)))) (pw_or (pt_cmpR (op_dEq hr) (pv 3) (pv 0) (nomark _)) (pw_or1 (pt_cmpR op_dIn (pv 3) (pv 2) (by rfl)))))) (pss_one ps_never) pss_nil)
  (pss_one (ps_expr (pe_bm PySem.F.plainAttrs_list PySem.F.slot_list_append PySem.F.type_list_append mt_append (pv 2) (pa_cons (pv 3) pa_nil))))))
  (pss_one (ps_ret (pv 2)))))))
theorem sc_need_numbers : FnScope ["numbers", "k", "number"] ["numbers"] (defScope s_need_numbers) := ⟨rfl, rfl, rfl, by decide +kernel, rfl, by decide +kernel, by decide +kernel⟩
def t_need_numbers (K : PySem.W.Frag) (a : Ad) (W : WX) : TS :=
  (tFor (iEnum K (tCons (tVar 0) tNil)) (gTup K 2 (gCons (gName 1) (gCons (gName 2) gNil))) (tIfS (tNot (tB (tCal (lift (S_is_among K a)) W (tCons (tVar 2) (tCons (tOp (rIx K) (tC (.ref a.gLEAST)) (tVar 1)) (tCons (tOp (rIx K) (tC (.ref a.gMOST)) (tVar 1)) tNil)))))) tNever tNext))
theorem dv_need_numbers {P : Program} {w : World} {K : PySem.W.Frag} {mg : Str → Option Value} {base : Heap} {a : Ad} (T : Txt K mg a) (G_is_among : DefR P w K mg base 2 "is_among" (lift (S_is_among K a)))
    {f : Addr} {cdv : Value} {A : Around} {outer : List Env} {s : Shared} {H : Hp} {E : XK} (hr : Room 2 (A.deeper (PyProof.Rows.envOfC "need_numbers" (defScope s_need_numbers) s.heap.objs.size f cdv))) :
    PSs (cxOf (L2.CX P w) P w K mg base ["numbers", "k", "number"] "need_numbers" (defScope s_need_numbers) f cdv A outer s H E) (defBody s_need_numbers) (t_need_numbers K a fun c d _ H => E c d H) := by
  have tk : Takes (cxOf (L2.CX P w) P w K mg base ["numbers", "k", "number"] "need_numbers" (defScope s_need_numbers) f cdv A outer s H E) (fun c d _ H => E c d H) := takes_of rfl rfl rfl rfl
  have po : PassesOwn (model P w) (A.deeper (PyProof.Rows.envOfC "need_numbers" (defScope s_need_numbers) s.heap.objs.size f cdv)) (PyProof.Rows.envOfC "need_numbers" (defScope s_need_numbers) s.heap.objs.size f cdv) (cxOf (L2.CX P w) P w K mg base ["numbers", "k", "number"] "need_numbers" (defScope s_need_numbers) f cdv A outer s H E).xe := passes_of (X := cxOf (L2.CX P w) P w K mg base ["numbers", "k", "number"] "need_numbers" (defScope s_need_numbers) f cdv A outer s H E) rfl
  exact (pss_one (ps_for po rfl (pi_enum (by rfl) T.b_enumerate (pa_cons (pv 0) pa_nil)) (pg_tup rfl (pgs_cons (pg_name (i := 1) sc_need_numbers.nd rfl (by first | exact Or.inl rfl | exact Or.inr rfl)) (pgs_cons (pg_name (i := 2) sc_need_numbers.nd rfl (by first | exact Or.inl rfl | exact Or.inr rfl)) pgs_nil))) (pss_one (ps_if (pt_not (pt_val (pe_own G_is_among (hr.mono (by decide)) rfl tk (pa_cons (pv 2) (pa_cons (pe_ix ix_seq (pe_gl (v := .ref a.gLEAST) T.g_LEAST) (pv 1) (fun _ _ => rfl)) (pa_cons (pe_ix ix_seq (pe_gl (v := .ref a.gMOST) T.g_MOST) (pv 1) (fun _ _ => rfl)) pa_nil)))))) (pss_one ps_never) pss_nil))))
theorem sc_Job_init : FnScope ["self", "name", "needs", "rank", "span", "tries", "wait", "grow"] ["self", "name", "needs", "rank", "span", "tries", "wait", "grow"] (defScope s_Job_init) := ⟨rfl, rfl, rfl, by decide +kernel, rfl, by decide +kernel, by decide +kernel⟩
def t_Job_init (K : PySem.W.Frag) (a : Ad) (W : WX) : TS :=
  (tSeq (tIfS (tNot (tB (tCal (lift (S_is_name K a)) W (tCons (tVar 1) tNil)))) tNever tNext)
  (tSeq (sFld K (tVar 0) (tVar 1) "name")
  (tSeq (sFld K (tVar 0) (tCal (lift (S_own_needs K a)) W (tCons (tVar 1) (tCons (tVar 2) tNil))) "needs")
  (tSeq (tDrop (tCal (lift (S_need_numbers K a)) W (tCons (tLst (tCons (tVar 3) (tCons (tVar 4) (tCons (tVar 5) (tCons (tVar 6) (tCons (tVar 7) tNil)))))) tNil)))
  (tSeq (sFld K (tVar 0) (tVar 3) "rank")
  (tSeq (sFld K (tVar 0) (tVar 4) "span")
  (tSeq (sFld K (tVar 0) (tVar 5) "tries")
  (tSeq (sFld K (tVar 0) (tVar 6) "wait")
  (sFld K (tVar 0) (tVar 7) "grow")))))))))
theorem dv_Job_init {P : Program} {w : World} {K : PySem.W.Frag} {mg : Str → Option Value} {base : Heap} {a : Ad} (T : Txt K mg a) (G_is_name : DefR P w K mg base 2 "is_name" (lift (S_is_name K a))) (G_need_numbers : DefR P w K mg base 3 "need_numbers" (lift (S_need_numbers K a))) (G_own_needs : DefR P w K mg base 3 "own_needs" (lift (S_own_needs K a)))
    {f : Addr} {cdv : Value} {A : Around} {outer : List Env} {s : Shared} {H : Hp} {E : XK} (hr : Room 3 (A.deeper (PyProof.Rows.envOfC "Job.__init__" (defScope s_Job_init) s.heap.objs.size f cdv))) :
    PSs (cxOf (L2.CX P w) P w K mg base ["self", "name", "needs", "rank", "span", "tries", "wait", "grow"] "Job.__init__" (defScope s_Job_init) f cdv A outer s H E) (defBody s_Job_init) (t_Job_init K a fun c d _ H => E c d H) := by
  have tk : Takes (cxOf (L2.CX P w) P w K mg base ["self", "name", "needs", "rank", "span", "tries", "wait", "grow"] "Job.__init__" (defScope s_Job_init) f cdv A outer s H E) (fun c d _ H => E c d H) := takes_of rfl rfl rfl rfl
  have po : PassesOwn (model P w) (A.deeper (PyProof.Rows.envOfC "Job.__init__" (defScope s_Job_init) s.heap.objs.size f cdv)) (PyProof.Rows.envOfC "Job.__init__" (defScope s_Job_init) s.heap.objs.size f cdv) (cxOf (L2.CX P w) P w K mg base ["self", "name", "needs", "rank", "span", "tries", "wait", "grow"] "Job.__init__" (defScope s_Job_init) f cdv A outer s H E).xe := passes_of (X := cxOf (L2.CX P w) P w K mg base ["self", "name", "needs", "rank", "span", "tries", "wait", "grow"] "Job.__init__" (defScope s_Job_init) f cdv A outer s H E) rfl
  exact (pss_cons (ps_if (pt_not (pt_val (pe_own G_is_name (hr.mono (by decide)) rfl tk (pa_cons (pv 1) pa_nil)))) (pss_one ps_never) pss_nil)
  (pss_cons (ps_fld (pv 0) (pv 1) rfl)
  (pss_cons (ps_fld (pv 0) (pe_own G_own_needs (hr.mono (by decide)) rfl tk (pa_cons (pv 1) (pa_cons (pv 2) pa_nil))) rfl)
  (pss_cons (ps_expr (pe_own G_need_numbers (hr.mono (by decide)) rfl tk (pa_cons (pe_lst (pa_cons (pv 3) (pa_cons (pv 4) (pa_cons (pv 5) (pa_cons (pv 6) (pa_cons (pv 7) pa_nil)))))) pa_nil)))
  (pss_cons (ps_fld (pv 0) (pv 3) rfl)
  (pss_cons (ps_fld (pv 0) (pv 4) rfl)
  (pss_cons (ps_fld (pv 0) (pv 5) rfl)
  (pss_cons (ps_fld (pv 0) (pv 6) rfl)
  (pss_one (ps_fld (pv 0) (pv 7) rfl))))))))))
theorem sc_law_cell_at : FnScope ["_law_script", "_law_k"] ["_law_script", "_law_k"] (defScope s_law_cell_at) := ⟨rfl, rfl, rfl, by decide +kernel, rfl, by decide +kernel, by decide +kernel⟩
def t_law_cell_at (K : PySem.W.Frag) (a : Ad) (W : WX) : TS :=
  (tSeq (tIfS (tTest (tOp (dLt K) (tVar 1) (tCB (cLen K) (tCons (tVar 0) tNil)))) (tRet (tOp (rIx K) (tVar 0) (tVar 1))) tNext)
  (tRet (tC (.int 0))))
theorem dv_law_cell_at {P : Program} {w : World} {K : PySem.W.Frag} {mg : Str → Option Value} {base : Heap} {a : Ad} (T : Txt K mg a) 
    {f : Addr} {cdv : Value} {A : Around} {outer : List Env} {s : Shared} {H : Hp} {E : XK} (hr : Room 0 (A.deeper (PyProof.Rows.envOfC "_law_cell_at" (defScope s_law_cell_at) s.heap.objs.size f cdv))) :
    PSs (cxOf (L2.CX P w) P w K mg base ["_law_script", "_law_k"] "_law_cell_at" (defScope s_law_cell_at) f cdv A outer s H E) (defBody s_law_cell_at) (t_law_cell_at K a fun c d _ H => E c d H) := by
  have tk : Takes (cxOf (L2.CX P w) P w K mg base ["_law_script", "_law_k"] "_law_cell_at" (defScope s_law_cell_at) f cdv A outer s H E) (fun c d _ H => E c d H) := takes_of rfl rfl rfl rfl
  have po : PassesOwn (model P w) (A.deeper (PyProof.Rows.envOfC "_law_cell_at" (defScope s_law_cell_at) s.heap.objs.size f cdv)) (PyProof.Rows.envOfC "_law_cell_at" (defScope s_law_cell_at) s.heap.objs.size f cdv) (cxOf (L2.CX P w) P w K mg base ["_law_script", "_law_k"] "_law_cell_at" (defScope s_law_cell_at) f cdv A outer s H E).xe := passes_of (X := cxOf (L2.CX P w) P w K mg base ["_law_script", "_law_k"] "_law_cell_at" (defScope s_law_cell_at) f cdv A outer s H E) rfl
  exact (pss_cons (ps_if (pt_cmpR (op_dLt hr) (pv 1) (pe_callB call_cLen (by rfl) T.b_len (by decide +kernel) (pa_cons (pv 0) pa_nil)) (nomark _)) (pss_one (ps_ret (pe_ix ix_seq (pv 0) (pv 1) (fun _ _ => rfl)))) pss_nil)
  (pss_one (ps_ret pe_int)))
theorem sc_law_mixed : FnScope ["_law_cell", "_law_k", "_law_number"] ["_law_cell", "_law_k"] (defScope s_law_mixed) := ⟨rfl, rfl, rfl, by decide +kernel, rfl, by decide +kernel, by decide +kernel⟩
def t_law_mixed (K : PySem.W.Frag) (a : Ad) (W : WX) : TS :=
  (tSeq (tAsg (tOp dMod (tOp dMul (tOp (dAdd K) (tOp (dAdd K) (tVar 0) (tOp dMul (tC (.int 7919)) (tVar 1))) (tC (.int 3))) (tC (.int 48271))) (tC (.int 2147483647))) (gName 2))
  (tRet (tOp dMod (tOp dMul (tVar 2) (tOp (dAdd K) (tC (.int 16807)) (tOp dMul (tVar 1) (tVar 1)))) (tC (.int 2147483629)))))
theorem dv_law_mixed {P : Program} {w : World} {K : PySem.W.Frag} {mg : Str → Option Value} {base : Heap} {a : Ad} (T : Txt K mg a) 
    {f : Addr} {cdv : Value} {A : Around} {outer : List Env} {s : Shared} {H : Hp} {E : XK} (hr : Room 0 (A.deeper (PyProof.Rows.envOfC "_law_mixed" (defScope s_law_mixed) s.heap.objs.size f cdv))) :
    PSs (cxOf (L2.CX P w) P w K mg base ["_law_cell", "_law_k", "_law_number"] "_law_mixed" (defScope s_law_mixed) f cdv A outer s H E) (defBody s_law_mixed) (t_law_mixed K a fun c d _ H => E c d H) := by
  have tk : Takes (cxOf (L2.CX P w) P w K mg base ["_law_cell", "_law_k", "_law_number"] "_law_mixed" (defScope s_law_mixed) f cdv A outer s H E) (fun c d _ H => E c d H) := takes_of rfl rfl rfl rfl
  have po : PassesOwn (model P w) (A.deeper (PyProof.Rows.envOfC "_law_mixed" (defScope s_law_mixed) s.heap.objs.size f cdv)) (PyProof.Rows.envOfC "_law_mixed" (defScope s_law_mixed) s.heap.objs.size f cdv) (cxOf (L2.CX P w) P w K mg base ["_law_cell", "_law_k", "_law_number"] "_law_mixed" (defScope s_law_mixed) f cdv A outer s H E).xe := passes_of (X := cxOf (L2.CX P w) P w K mg base ["_law_cell", "_law_k", "_law_number"] "_law_mixed" (defScope s_law_mixed) f cdv A outer s H E) rfl
  exact (pss_cons (ps_set (i := 2) sc_law_mixed.nd rfl (by first | exact Or.inl rfl | exact Or.inr rfl) (pe_op op_dMod (pe_op op_dMul (pe_op op_dAdd (pe_op op_dAdd (pv 0) (pe_op op_dMul pe_int (pv 1))) pe_int) pe_int) pe_int))
  (pss_one (ps_ret (pe_op op_dMod (pe_op op_dMul (pv 2) (pe_op op_dAdd pe_int (pe_op op_dMul (pv 1) (pv 1)))) pe_int))))
theorem sc_law_whole : FnScope ["_law_thing"] ["_law_thing"] (defScope s_law_whole) := ⟨rfl, rfl, rfl, by decide +kernel, rfl, by decide +kernel, by decide +kernel⟩
def t_law_whole (K : PySem.W.Frag) (a : Ad) (W : WX) : TS :=
  (tRet (tAndV (tCB (rIsi K) (tCons (tVar 0) (tCons (tC (.ty "int")) tNil))) (tNotV (tCB (rIsi K) (tCons (tVar 0) (tCons (tC (.ty "bool")) tNil))))))
theorem dv_law_whole {P : Program} {w : World} {K : PySem.W.Frag} {mg : Str → Option Value} {base : Heap} {a : Ad} (T : Txt K mg a) 
    {f : Addr} {cdv : Value} {A : Around} {outer : List Env} {s : Shared} {H : Hp} {E : XK} (hr : Room 0 (A.deeper (PyProof.Rows.envOfC "_law_whole" (defScope s_law_whole) s.heap.objs.size f cdv))) :
    PSs (cxOf (L2.CX P w) P w K mg base ["_law_thing"] "_law_whole" (defScope s_law_whole) f cdv A outer s H E) (defBody s_law_whole) (t_law_whole K a fun c d _ H => E c d H) := by
  have tk : Takes (cxOf (L2.CX P w) P w K mg base ["_law_thing"] "_law_whole" (defScope s_law_whole) f cdv A outer s H E) (fun c d _ H => E c d H) := takes_of rfl rfl rfl rfl
  have po : PassesOwn (model P w) (A.deeper (PyProof.Rows.envOfC "_law_whole" (defScope s_law_whole) s.heap.objs.size f cdv)) (PyProof.Rows.envOfC "_law_whole" (defScope s_law_whole) s.heap.objs.size f cdv) (cxOf (L2.CX P w) P w K mg base ["_law_thing"] "_law_whole" (defScope s_law_whole) f cdv A outer s H E).xe := passes_of (X := cxOf (L2.CX P w) P w K mg base ["_law_thing"] "_law_whole" (defScope s_law_whole) f cdv A outer s H E) rfl
  exact (pss_one (ps_ret (pe_and (pe_callB call_isi (by rfl) T.b_isinstance (by decide +kernel) (pa_cons (pv 0) (pa_cons (pe_bltn (v := .ty "int") (by rfl) T.b_int (by decide +kernel) rfl) pa_nil))) (pe_one (pe_not (pe_callB call_isi (by rfl) T.b_isinstance (by decide +kernel) (pa_cons (pv 0) (pa_cons (pe_bltn (v := .ty "bool") (by rfl) T.b_bool (by decide +kernel) rfl) pa_nil))))))))
theorem sc_law_same : FnScope ["_law_found", "_law_due", "_law_one", "_law_other"] ["_law_found", "_law_due"] (defScope s_law_same) := ⟨rfl, rfl, rfl, by decide +kernel, rfl, by decide +kernel, by decide +kernel⟩
def t_law_same (K : PySem.W.Frag) (a : Ad) (W : WX) : TS :=
  (tSeq (tIfS (tOr (tNot (tB (tCB (rIsi K) (tCons (tVar 0) (tCons (tC (.ty "tuple")) tNil))))) (tTest (tOp (dNe K) (tCB (cLen K) (tCons (tVar 0) tNil)) (tCB (cLen K) (tCons (tVar 1) tNil))))) (tRet (tC (.bl false))) tNext)
  (tSeq (tFor (RZ.iZipA K (tCons (tVar 0) (tCons (tVar 1) tNil))) (gTup K 2 (gCons (gName 2) (gCons (gName 3) gNil))) (tIfS (tOr (tB (tCB (rIsi K) (tCons (tVar 2) (tCons (tC (.ty "bool")) tNil)))) (tOr (tTest (tOp (dNe K) (tCB (rIsi K) (tCons (tVar 2) (tCons (tC (.ty "str")) tNil))) (tCB (rIsi K) (tCons (tVar 3) (tCons (tC (.ty "str")) tNil))))) (tTest (tOp (dNe K) (tVar 2) (tVar 3))))) (tRet (tC (.bl false))) tNext))
  (tRet (tC (.bl true)))))
theorem dv_law_same {P : Program} {w : World} {K : PySem.W.Frag} {mg : Str → Option Value} {base : Heap} {a : Ad} (T : Txt K mg a) 
    {f : Addr} {cdv : Value} {A : Around} {outer : List Env} {s : Shared} {H : Hp} {E : XK} (hr : Room 0 (A.deeper (PyProof.Rows.envOfC "_law_same" (defScope s_law_same) s.heap.objs.size f cdv))) :
    PSs (cxOf (L2.CX P w) P w K mg base ["_law_found", "_law_due", "_law_one", "_law_other"] "_law_same" (defScope s_law_same) f cdv A outer s H E) (defBody s_law_same) (t_law_same K a fun c d _ H => E c d H) := by
  have tk : Takes (cxOf (L2.CX P w) P w K mg base ["_law_found", "_law_due", "_law_one", "_law_other"] "_law_same" (defScope s_law_same) f cdv A outer s H E) (fun c d _ H => E c d H) := takes_of rfl rfl rfl rfl
  have po : PassesOwn (model P w) (A.deeper (PyProof.Rows.envOfC "_law_same" (defScope s_law_same) s.heap.objs.size f cdv)) (PyProof.Rows.envOfC "_law_same" (defScope s_law_same) s.heap.objs.size f cdv) (cxOf (L2.CX P w) P w K mg base ["_law_found", "_law_due", "_law_one", "_law_other"] "_law_same" (defScope s_law_same) f cdv A outer s H E).xe := passes_of (X := cxOf (L2.CX P w) P w K mg base ["_law_found", "_law_due", "_law_one", "_law_other"] "_law_same" (defScope s_law_same) f cdv A outer s H E) rfl
  exact (pss_cons (ps_if (PW.pt (pw_or (pt_not (pt_val (pe_callB call_isi (by rfl) T.b_isinstance (by decide +kernel) (pa_cons (pv 0) (pa_cons (pe_bltn (v := .ty "tuple") (by rfl) T.b_tuple (by decide +kernel) rfl) pa_nil))))) (pw_or1 (pt_cmpR (op_dNe hr) (pe_callB call_cLen (by rfl) T.b_len (by decide +kernel) (pa_cons (pv 0) pa_nil)) (pe_callB call_cLen (by rfl) T.b_len (by decide +kernel) (pa_cons (pv 1) pa_nil)) (nomark _))))) (pss_one (ps_ret pe_bl)) pss_nil)
  (pss_cons (ps_for po rfl (RZ.pi_zipA (by rfl) T.b_zip (pa_cons (pv 0) (pa_cons (pv 1) pa_nil))) (pg_tup rfl (pgs_cons (pg_name (i := 2) sc_law_same.nd rfl (by first | exact Or.inl rfl | exact Or.inr rfl)) (pgs_cons (pg_name (i := 3) sc_law_same.nd rfl (by first | exact Or.inl rfl | exact Or.inr rfl)) pgs_nil))) (pss_one (ps_if (PW.pt (pw_or (pt_val (pe_callB call_isi (by rfl) T.b_isinstance (by decide +kernel) (pa_cons (pv 2) (pa_cons (pe_bltn (v := .ty "bool") (by rfl) T.b_bool (by decide +kernel) rfl) pa_nil)))) (pw_or (pt_cmpR (op_dNe hr) (pe_callB call_isi (by rfl) T.b_isinstance (by decide +kernel) (pa_cons (pv 2) (pa_cons (pe_bltn (v := .ty "str") (by rfl) T.b_str (by decide +kernel) rfl) pa_nil))) (pe_callB call_isi (by rfl) T.b_isinstance (by decide +kernel) (pa_cons (pv 3) (pa_cons (pe_bltn (v := .ty "str") (by rfl) T.b_str (by decide +kernel) rfl) pa_nil))) (nomark _)) (pw_or1 (pt_cmpR (op_dNe hr) (pv 2) (pv 3) (nomark _)))))) (pss_one (ps_ret pe_bl)) pss_nil)))
  (pss_one (ps_ret pe_bl))))
theorem sc_law_is : FnScope ["_law_word", "_law_state", "_law_some"] ["_law_word", "_law_state"] (defScope s_law_is) := ⟨rfl, rfl, rfl, by decide +kernel, rfl, by decide +kernel, by decide +kernel⟩
def t_law_is (K : PySem.W.Frag) (a : Ad) (W : WX) : TS :=
  (tSeq (tIfS (tTest (tOp (dIn K false) (tVar 0) (tTup (tCons (tC (.str "done")) (tCons (tC (.str "broken")) (tCons (tC (.str "cut")) tNil)))))) (tSeq (tAsg (tLst (tCons (tAndV (tCB (rIsi K) (tCons (tVar 1) (tCons (tC (.ref a.cOver)) tNil))) (tNotV (tCB (rIsi K) (tCons (tVar 1) (tCons (tC (.ref a.cOpen)) tNil))))) tNil)) (gName 2))
  (tSeq (tAsg (tOp (dAdd K) (tVar 2) (tLst (tCons (tCB (rIsi K) (tCons (tVar 1) (tCons (tC (.ref a.cDone)) tNil))) (tCons (tCB (rIsi K) (tCons (tVar 1) (tCons (tC (.ref a.cBroken)) tNil))) (tCons (tCB (rIsi K) (tCons (tVar 1) (tCons (tC (.ref a.cCut)) tNil))) tNil))))) (gName 2))
  (tRet (tOp (dEq K) (tVar 2) (tLst (tCons (tC (.bl true)) (tCons (tOp (dEq K) (tVar 0) (tC (.str "done"))) (tCons (tOp (dEq K) (tVar 0) (tC (.str "broken"))) (tCons (tOp (dEq K) (tVar 0) (tC (.str "cut"))) tNil))))))))) tNext)
  (tSeq (tAsg (tLst (tCons (tAndV (tCB (rIsi K) (tCons (tVar 1) (tCons (tC (.ref a.cOpen)) tNil))) (tNotV (tCB (rIsi K) (tCons (tVar 1) (tCons (tC (.ref a.cOver)) tNil))))) (tCons (tCB (rIsi K) (tCons (tVar 1) (tCons (tC (.ref a.cBlocked)) tNil))) tNil))) (gName 2))
  (tSeq (tAsg (tOp (dAdd K) (tVar 2) (tLst (tCons (tCB (rIsi K) (tCons (tVar 1) (tCons (tC (.ref a.cReady)) tNil))) (tCons (tCB (rIsi K) (tCons (tVar 1) (tCons (tC (.ref a.cLeased)) tNil))) (tCons (tCB (rIsi K) (tCons (tVar 1) (tCons (tC (.ref a.cResting)) tNil))) tNil))))) (gName 2))
  (tRet (tOp (dEq K) (tVar 2) (tLst (tCons (tC (.bl true)) (tCons (tOp (dEq K) (tVar 0) (tC (.str "blocked"))) (tCons (tOp (dEq K) (tVar 0) (tC (.str "ready"))) (tCons (tOp (dEq K) (tVar 0) (tC (.str "leased"))) (tCons (tOp (dEq K) (tVar 0) (tC (.str "resting"))) tNil)))))))))))
theorem dv_law_is {P : Program} {w : World} {K : PySem.W.Frag} {mg : Str → Option Value} {base : Heap} {a : Ad} (T : Txt K mg a) 
    {f : Addr} {cdv : Value} {A : Around} {outer : List Env} {s : Shared} {H : Hp} {E : XK} (hr : Room 0 (A.deeper (PyProof.Rows.envOfC "_law_is" (defScope s_law_is) s.heap.objs.size f cdv))) :
    PSs (cxOf (L2.CX P w) P w K mg base ["_law_word", "_law_state", "_law_some"] "_law_is" (defScope s_law_is) f cdv A outer s H E) (defBody s_law_is) (t_law_is K a fun c d _ H => E c d H) := by
  have tk : Takes (cxOf (L2.CX P w) P w K mg base ["_law_word", "_law_state", "_law_some"] "_law_is" (defScope s_law_is) f cdv A outer s H E) (fun c d _ H => E c d H) := takes_of rfl rfl rfl rfl
  have po : PassesOwn (model P w) (A.deeper (PyProof.Rows.envOfC "_law_is" (defScope s_law_is) s.heap.objs.size f cdv)) (PyProof.Rows.envOfC "_law_is" (defScope s_law_is) s.heap.objs.size f cdv) (cxOf (L2.CX P w) P w K mg base ["_law_word", "_law_state", "_law_some"] "_law_is" (defScope s_law_is) f cdv A outer s H E).xe := passes_of (X := cxOf (L2.CX P w) P w K mg base ["_law_word", "_law_state", "_law_some"] "_law_is" (defScope s_law_is) f cdv A outer s H E) rfl
  exact (pss_cons (ps_if (pt_cmpR op_dIn (pv 0) (pe_tup (pa_cons pe_str (pa_cons pe_str (pa_cons pe_str pa_nil)))) (by rfl)) (pss_cons (ps_set (i := 2) sc_law_is.nd rfl (by first | exact Or.inl rfl | exact Or.inr rfl) (pe_lst (pa_cons (pe_and (pe_callB call_isi (by rfl) T.b_isinstance (by decide +kernel) (pa_cons (pv 1) (pa_cons (pe_glob (v := .ref a.cOver) rfl T.m_Over rfl) pa_nil))) (pe_one (pe_not (pe_callB call_isi (by rfl) T.b_isinstance (by decide +kernel) (pa_cons (pv 1) (pa_cons (pe_glob (v := .ref a.cOpen) rfl T.m_Open rfl) pa_nil)))))) pa_nil)))
  (pss_cons (ps_set (i := 2) sc_law_is.nd rfl (by first | exact Or.inl rfl | exact Or.inr rfl) (pe_op op_dAdd (pv 2) (pe_lst (pa_cons (pe_callB call_isi (by rfl) T.b_isinstance (by decide +kernel) (pa_cons (pv 1) (pa_cons (pe_glob (v := .ref a.cDone) rfl T.m_Done rfl) pa_nil))) (pa_cons (pe_callB call_isi (by rfl) T.b_isinstance (by decide +kernel) (pa_cons (pv 1) (pa_cons (pe_glob (v := .ref a.cBroken) rfl T.m_Broken rfl) pa_nil))) (pa_cons (pe_callB call_isi (by rfl) T.b_isinstance (by decide +kernel) (pa_cons (pv 1) (pa_cons (pe_glob (v := .ref a.cCut) rfl T.m_Cut rfl) pa_nil))) pa_nil))))))
  (pss_one (ps_ret (pe_cmpR (op_dEq hr) (pv 2) (pe_lst (pa_cons pe_bl (pa_cons (pe_cmpR (op_dEq hr) (pv 0) pe_str (nomark _)) (pa_cons (pe_cmpR (op_dEq hr) (pv 0) pe_str (nomark _)) (pa_cons (pe_cmpR (op_dEq hr) (pv 0) pe_str (nomark _)) pa_nil))))) (nomark _)))))) pss_nil)
  (pss_cons (ps_set (i := 2) sc_law_is.nd rfl (by first | exact Or.inl rfl | exact Or.inr rfl) (pe_lst (pa_cons (pe_and (pe_callB call_isi (by rfl) T.b_isinstance (by decide +kernel) (pa_cons (pv 1) (pa_cons (pe_glob (v := .ref a.cOpen) rfl T.m_Open rfl) pa_nil))) (pe_one (pe_not (pe_callB call_isi (by rfl) T.b_isinstance (by decide +kernel) (pa_cons (pv 1) (pa_cons (pe_glob (v := .ref a.cOver) rfl T.m_Over rfl) pa_nil)))))) (pa_cons (pe_callB call_isi (by rfl) T.b_isinstance (by decide +kernel) (pa_cons (pv 1) (pa_cons (pe_glob (v := .ref a.cBlocked) rfl T.m_Blocked rfl) pa_nil))) pa_nil))))
  (pss_cons (ps_set (i := 2) sc_law_is.nd rfl (by first | exact Or.inl rfl | exact Or.inr rfl) (pe_op op_dAdd (pv 2) (pe_lst (pa_cons (pe_callB call_isi (by rfl) T.b_isinstance (by decide +kernel) (pa_cons (pv 1) (pa_cons (pe_glob (v := .ref a.cReady) rfl T.m_Ready rfl) pa_nil))) (pa_cons (pe_callB call_isi (by rfl) T.b_isinstance (by decide +kernel) (pa_cons (pv 1) (pa_cons (pe_glob (v := .ref a.cLeased) rfl T.m_Leased rfl) pa_nil))) (pa_cons (pe_callB call_isi (by rfl) T.b_isinstance (by decide +kernel) (pa_cons (pv 1) (pa_cons (pe_glob (v := .ref a.cResting) rfl T.m_Resting rfl) pa_nil))) pa_nil))))))
  (pss_one (ps_ret (pe_cmpR (op_dEq hr) (pv 2) (pe_lst (pa_cons pe_bl (pa_cons (pe_cmpR (op_dEq hr) (pv 0) pe_str (nomark _)) (pa_cons (pe_cmpR (op_dEq hr) (pv 0) pe_str (nomark _)) (pa_cons (pe_cmpR (op_dEq hr) (pv 0) pe_str (nomark _)) (pa_cons (pe_cmpR (op_dEq hr) (pv 0) pe_str (nomark _)) pa_nil)))))) (nomark _)))))))
theorem sc_law_over : FnScope ["_law_state"] ["_law_state"] (defScope s_law_over) := ⟨rfl, rfl, rfl, by decide +kernel, rfl, by decide +kernel, by decide +kernel⟩
def t_law_over (K : PySem.W.Frag) (a : Ad) (W : WX) : TS :=
  (tSeq (tIfS (tB (tCB (rIsi K) (tCons (tMet (MT K a "is_over") "is_over" W (tVar 0) tNil) (tCons (tC (.ty "bool")) tNil)))) (tRet (tMet (MT K a "is_over") "is_over" W (tVar 0) tNil)) tNext)
  (tRet (tC .non)))
theorem dv_law_over {P : Program} {w : World} {K : PySem.W.Frag} {mg : Str → Option Value} {base : Heap} {a : Ad} (T : Txt K mg a) (MM_is_over : ∀ C sp, MT K a "is_over" C sp → MethR P w K mg base 1 C "is_over" (lift sp))
    {f : Addr} {cdv : Value} {A : Around} {outer : List Env} {s : Shared} {H : Hp} {E : XK} (hr : Room 1 (A.deeper (PyProof.Rows.envOfC "_law_over" (defScope s_law_over) s.heap.objs.size f cdv))) :
    PSs (cxOf (L2.CX P w) P w K mg base ["_law_state"] "_law_over" (defScope s_law_over) f cdv A outer s H E) (defBody s_law_over) (t_law_over K a fun c d _ H => E c d H) := by
  have tk : Takes (cxOf (L2.CX P w) P w K mg base ["_law_state"] "_law_over" (defScope s_law_over) f cdv A outer s H E) (fun c d _ H => E c d H) := takes_of rfl rfl rfl rfl
  have po : PassesOwn (model P w) (A.deeper (PyProof.Rows.envOfC "_law_over" (defScope s_law_over) s.heap.objs.size f cdv)) (PyProof.Rows.envOfC "_law_over" (defScope s_law_over) s.heap.objs.size f cdv) (cxOf (L2.CX P w) P w K mg base ["_law_state"] "_law_over" (defScope s_law_over) f cdv A outer s H E).xe := passes_of (X := cxOf (L2.CX P w) P w K mg base ["_law_state"] "_law_over" (defScope s_law_over) f cdv A outer s H E) rfl
  exact (pss_cons (ps_if (pt_val (pe_callB call_isi (by rfl) T.b_isinstance (by decide +kernel) (pa_cons (pe_met0 (pv 0) MM_is_over (hr.mono (by decide)) tk) (pa_cons (pe_bltn (v := .ty "bool") (by rfl) T.b_bool (by decide +kernel) rfl) pa_nil)))) (pss_one (ps_ret (pe_met0 (pv 0) MM_is_over (hr.mono (by decide)) tk))) pss_nil)
  (pss_one (ps_ret pe_non)))
theorem sc_law_stands : FnScope ["_law_state", "_law_due", "_law_cell", "_law_k", "_law_which", "_law_fails"] ["_law_state", "_law_due", "_law_cell"] (defScope s_law_stands) := ⟨rfl, rfl, rfl, by decide +kernel, rfl, by decide +kernel, by decide +kernel⟩
def t_law_stands (K : PySem.W.Frag) (a : Ad) (W : WX) : TS :=
  (tSeq (tIfS (tOr (tNot (tB (tCB (rIsi K) (tCons (tVar 0) (tCons (tC (.ref a.cState)) tNil))))) (tNot (tB (tCal (lift (S_law_is K a)) W (tCons (tOp (rIx K) (tVar 1) (tC (.int 0))) (tCons (tVar 0) tNil)))))) (tRet (tC (.bl false))) tNext)
  (tSeq (tFor (iRng1 (tCons (tC (.int 4)) tNil)) (gName 3) (tSeq (tAsg (tOp dMod (tOp (dAdd K) (tVar 2) (tOp dMul (tVar 3) (tOp (dAdd K) (tC (.int 1)) (tOp dMul (tC (.int 2)) (tOp dMod (tOp dDiv (tVar 2) (tC (.int 4))) (tC (.int 2))))))) (tC (.int 4))) (gName 4))
  (tSeq (tIfS (tAnd (tTest (tOp (dEq K) (tVar 4) (tC (.int 0)))) (tNot (tB (tCal (lift (S_law_same K a)) W (tCons (tMet (MT K a "told") "told" W (tVar 0) tNil) (tCons (tVar 1) tNil)))))) (tRet (tC (.bl false))) tNext)
  (tSeq (tIfS (tAnd (tTest (tOp (dEq K) (tVar 4) (tC (.int 1)))) (tTest (tOp (dNe K) (tMet (MT K a "word") "word" W (tVar 0) tNil) (tOp (rIx K) (tVar 1) (tC (.int 0)))))) (tRet (tC (.bl false))) tNext)
  (tSeq (tIfS (tAnd (tTest (tOp (dEq K) (tVar 4) (tC (.int 2)))) (tTest (tOp (dNe K) (tCal (lift (S_law_over K a)) W (tCons (tVar 0) tNil)) (tOp (dIn K false) (tOp (rIx K) (tVar 1) (tC (.int 0))) (tTup (tCons (tC (.str "done")) (tCons (tC (.str "broken")) (tCons (tC (.str "cut")) tNil)))))))) (tRet (tC (.bl false))) tNext)
  (tIfS (tTest (tOp (dEq K) (tVar 4) (tC (.int 3)))) (tSeq (tAsg (tOp (rIx K) (tVar 1) (tC (.int 1))) (gName 5))
  (tSeq (tIfS (tTest (tOp (dIn K false) (tOp (rIx K) (tVar 1) (tC (.int 0))) (tTup (tCons (tC (.str "blocked")) (tCons (tC (.str "cut")) tNil))))) (tAsg (tC (.int 0)) (gName 5)) tNext)
  (tIfS (tOr (tNot (tB (tCal (lift (S_law_whole K a)) W (tCons (tMet (MT K a "count_fails") "count_fails" W (tVar 0) tNil) tNil)))) (tTest (tOp (dNe K) (tMet (MT K a "count_fails") "count_fails" W (tVar 0) tNil) (tVar 5)))) (tRet (tC (.bl false))) tNext))) tNext))))))
  (tRet (tC (.bl true)))))
theorem dv_law_stands {P : Program} {w : World} {K : PySem.W.Frag} {mg : Str → Option Value} {base : Heap} {a : Ad} (T : Txt K mg a) (G_law_is : DefR P w K mg base 1 "_law_is" (lift (S_law_is K a))) (G_law_over : DefR P w K mg base 2 "_law_over" (lift (S_law_over K a))) (G_law_same : DefR P w K mg base 1 "_law_same" (lift (S_law_same K a))) (G_law_whole : DefR P w K mg base 1 "_law_whole" (lift (S_law_whole K a))) (MM_count_fails : ∀ C sp, MT K a "count_fails" C sp → MethR P w K mg base 1 C "count_fails" (lift sp)) (MM_told : ∀ C sp, MT K a "told" C sp → MethR P w K mg base 2 C "told" (lift sp)) (MM_word : ∀ C sp, MT K a "word" C sp → MethR P w K mg base 1 C "word" (lift sp))
    {f : Addr} {cdv : Value} {A : Around} {outer : List Env} {s : Shared} {H : Hp} {E : XK} (hr : Room 2 (A.deeper (PyProof.Rows.envOfC "_law_stands" (defScope s_law_stands) s.heap.objs.size f cdv))) :
    PSs (cxOf (L2.CX P w) P w K mg base ["_law_state", "_law_due", "_law_cell", "_law_k", "_law_which", "_law_fails"] "_law_stands" (defScope s_law_stands) f cdv A outer s H E) (defBody s_law_stands) (t_law_stands K a fun c d _ H => E c d H) := by
  have tk : Takes (cxOf (L2.CX P w) P w K mg base ["_law_state", "_law_due", "_law_cell", "_law_k", "_law_which", "_law_fails"] "_law_stands" (defScope s_law_stands) f cdv A outer s H E) (fun c d _ H => E c d H) := takes_of rfl rfl rfl rfl
  have po : PassesOwn (model P w) (A.deeper (PyProof.Rows.envOfC "_law_stands" (defScope s_law_stands) s.heap.objs.size f cdv)) (PyProof.Rows.envOfC "_law_stands" (defScope s_law_stands) s.heap.objs.size f cdv) (cxOf (L2.CX P w) P w K mg base ["_law_state", "_law_due", "_law_cell", "_law_k", "_law_which", "_law_fails"] "_law_stands" (defScope s_law_stands) f cdv A outer s H E).xe := passes_of (X := cxOf (L2.CX P w) P w K mg base ["_law_state", "_law_due", "_law_cell", "_law_k", "_law_which", "_law_fails"] "_law_stands" (defScope s_law_stands) f cdv A outer s H E) rfl
  exact (pss_cons (ps_if (PW.pt (pw_or (pt_not (pt_val (pe_callB call_isi (by rfl) T.b_isinstance (by decide +kernel) (pa_cons (pv 0) (pa_cons (pe_glob (v := .ref a.cState) rfl T.m_State rfl) pa_nil))))) (pw_or1 (pt_not (pt_val (pe_own G_law_is (hr.mono (by decide)) rfl tk (pa_cons (pe_ix ix_seq (pv 1) pe_int (fun _ _ => rfl)) (pa_cons (pv 0) pa_nil)))))))) (pss_one (ps_ret pe_bl)) pss_nil)
  (pss_cons (ps_for po rfl (pi_range1 rfl T.b_range (pa_cons pe_int pa_nil)) (pg_name (i := 3) sc_law_stands.nd rfl (by first | exact Or.inl rfl | exact Or.inr rfl)) (pss_cons (ps_set (i := 4) sc_law_stands.nd rfl (by first | exact Or.inl rfl | exact Or.inr rfl) (pe_op op_dMod (pe_op op_dAdd (pv 2) (pe_op op_dMul (pv 3) (pe_op op_dAdd pe_int (pe_op op_dMul pe_int (pe_op op_dMod (pe_op op_dDiv (pv 2) pe_int) pe_int))))) pe_int))
  (pss_cons (ps_if (PW.pt (pw_and (pt_cmpR (op_dEq hr) (pv 4) pe_int (nomark _)) (pw_and1 (pt_not (pt_val (pe_own G_law_same (hr.mono (by decide)) rfl tk (pa_cons (pe_met0 (pv 0) MM_told (hr.mono (by decide)) tk) (pa_cons (pv 1) pa_nil)))))))) (pss_one (ps_ret pe_bl)) pss_nil)
  (pss_cons (ps_if (PW.pt (pw_and (pt_cmpR (op_dEq hr) (pv 4) pe_int (nomark _)) (pw_and1 (pt_cmpR (op_dNe hr) (pe_met0 (pv 0) MM_word (hr.mono (by decide)) tk) (pe_ix ix_seq (pv 1) pe_int (fun _ _ => rfl)) (nomark _))))) (pss_one (ps_ret pe_bl)) pss_nil)
  (pss_cons (ps_if (PW.pt (pw_and (pt_cmpR (op_dEq hr) (pv 4) pe_int (nomark _)) (pw_and1 (pt_cmpR (op_dNe hr) (pe_own G_law_over (hr.mono (by decide)) rfl tk (pa_cons (pv 0) pa_nil)) (pe_cmpR op_dIn (pe_ix ix_seq (pv 1) pe_int (fun _ _ => rfl)) (pe_tup (pa_cons pe_str (pa_cons pe_str (pa_cons pe_str pa_nil)))) (by rfl)) (nomark _))))) (pss_one (ps_ret pe_bl)) pss_nil)
  (pss_one (ps_if (pt_cmpR (op_dEq hr) (pv 4) pe_int (nomark _)) (pss_cons (ps_set (i := 5) sc_law_stands.nd rfl (by first | exact Or.inl rfl | exact Or.inr rfl) (pe_ix ix_seq (pv 1) pe_int (fun _ _ => rfl)))
  (pss_cons (ps_if (pt_cmpR op_dIn (pe_ix ix_seq (pv 1) pe_int (fun _ _ => rfl)) (pe_tup (pa_cons pe_str (pa_cons pe_str pa_nil))) (by rfl)) (pss_one (ps_set (i := 5) sc_law_stands.nd rfl (by first | exact Or.inl rfl | exact Or.inr rfl) pe_int)) pss_nil)
  (pss_one (ps_if (PW.pt (pw_or (pt_not (pt_val (pe_own G_law_whole (hr.mono (by decide)) rfl tk (pa_cons (pe_met0 (pv 0) MM_count_fails (hr.mono (by decide)) tk) pa_nil)))) (pw_or1 (pt_cmpR (op_dNe hr) (pe_met0 (pv 0) MM_count_fails (hr.mono (by decide)) tk) (pv 5) (nomark _))))) (pss_one (ps_ret pe_bl)) pss_nil)))) pss_nil)))))))
  (pss_one (ps_ret pe_bl))))
theorem sc_law_job : FnScope ["_law_cell", "_law_own", "_law_number", "_law_k", "_law_needs", "_law_tries", "_law_wait", "_law_grow"] ["_law_cell", "_law_own"] (defScope s_law_job) := ⟨rfl, rfl, rfl, by decide +kernel, rfl, by decide +kernel, by decide +kernel⟩
def t_law_job (K : PySem.W.Frag) (a : Ad) (W : WX) : TS :=
  (tSeq (tAsg (tCal (lift (S_law_mixed K a)) W (tCons (tVar 0) (tCons (tC (.int 1)) tNil))) (gName 2))
  (tSeq (tAsg (tLc (iRng1 (tCons (tOp dMod (tVar 2) (tC (.int 9))) tNil)) (gName 3) tYes (tOp (dAdd K) (tC (.str "n")) (tOp (rIx K) (tC (.str "abcdefgh")) (tVar 3))) [3]) (gName 4))
  (tSeq (tAsg (tOp (rIx K) (tLst (tCons (tC (.int 1)) (tCons (tC (.int 2)) (tCons (tC (.int 3)) (tCons (tC (.int 20)) (tCons (tOp (dAdd K) (tC (.int 1)) (tOp dMod (tOp dDiv (tVar 2) (tC (.int 9))) (tC (.int 20)))) tNil)))))) (tOp dMod (tOp dDiv (tVar 2) (tC (.int 180))) (tC (.int 5)))) (gName 5))
  (tSeq (tAsg (tOp (rIx K) (tLst (tCons (tC (.int 0)) (tCons (tC (.int 1)) (tCons (tC (.int 1000)) (tCons (tOp dMod (tOp dDiv (tVar 2) (tC (.int 900))) (tC (.int 1001))) tNil))))) (tOp dMod (tOp dDiv (tVar 2) (tC (.int 9000))) (tC (.int 4)))) (gName 6))
  (tSeq (tAsg (tOp (dAdd K) (tC (.int 1)) (tOp dMod (tOp dDiv (tVar 2) (tC (.int 36000))) (tC (.int 4)))) (gName 7))
  (tSeq (tDrop (tBM0 K "list" rClear (tVar 1)))
  (tSeq (tDrop (tBM K "list" rExtend (tVar 1) (tCons (tLst (tCons (tCB (cLen K) (tCons (tVar 4) tNil)) (tCons (tVar 5) (tCons (tVar 6) (tCons (tVar 7) tNil))))) tNil)))
  (tRet (tMak a.cJob (lift (S_Job_init K a)) W (tCons (tC (.str "job")) (tCons (tVar 4) (tCons (tOp dMod (tVar 2) (tC (.int 100))) (tCons (tOp (dAdd K) (tC (.int 1)) (tOp dMod (tVar 2) (tC (.int 1000)))) (tCons (tVar 5) (tCons (tVar 6) (tCons (tVar 7) tNil))))))))))))))))
theorem dv_law_job {P : Program} {w : World} {K : PySem.W.Frag} {mg : Str → Option Value} {base : Heap} {a : Ad} (T : Txt K mg a) (G_Job_init : MakR P w K mg base 4 "Job" a.cJob (lift (S_Job_init K a))) (G_law_mixed : DefR P w K mg base 1 "_law_mixed" (lift (S_law_mixed K a)))
    {f : Addr} {cdv : Value} {A : Around} {outer : List Env} {s : Shared} {H : Hp} {E : XK} (hr : Room 5 (A.deeper (PyProof.Rows.envOfC "_law_job" (defScope s_law_job) s.heap.objs.size f cdv))) :
    PSs (cxOf (L2.CX P w) P w K mg base ["_law_cell", "_law_own", "_law_number", "_law_k", "_law_needs", "_law_tries", "_law_wait", "_law_grow"] "_law_job" (defScope s_law_job) f cdv A outer s H E) (defBody s_law_job) (t_law_job K a fun c d _ H => E c d H) := by
  have tk : Takes (cxOf (L2.CX P w) P w K mg base ["_law_cell", "_law_own", "_law_number", "_law_k", "_law_needs", "_law_tries", "_law_wait", "_law_grow"] "_law_job" (defScope s_law_job) f cdv A outer s H E) (fun c d _ H => E c d H) := takes_of rfl rfl rfl rfl
  have po : PassesOwn (model P w) (A.deeper (PyProof.Rows.envOfC "_law_job" (defScope s_law_job) s.heap.objs.size f cdv)) (PyProof.Rows.envOfC "_law_job" (defScope s_law_job) s.heap.objs.size f cdv) (cxOf (L2.CX P w) P w K mg base ["_law_cell", "_law_own", "_law_number", "_law_k", "_law_needs", "_law_tries", "_law_wait", "_law_grow"] "_law_job" (defScope s_law_job) f cdv A outer s H E).xe := passes_of (X := cxOf (L2.CX P w) P w K mg base ["_law_cell", "_law_own", "_law_number", "_law_k", "_law_needs", "_law_tries", "_law_wait", "_law_grow"] "_law_job" (defScope s_law_job) f cdv A outer s H E) rfl
  exact (pss_cons (ps_set (i := 2) sc_law_job.nd rfl (by first | exact Or.inl rfl | exact Or.inr rfl) (pe_own G_law_mixed (hr.mono (by decide)) rfl tk (pa_cons (pv 0) (pa_cons pe_int pa_nil))))
  (pss_cons (ps_setLc (i := 4) (own := [("_law_k", 3)]) rfl sc_law_job.nd rfl rfl (sw_true rfl rfl rfl (by decide +kernel)) (pi_range1 rfl T.b_range (pa_cons (pe_op op_dMod (pv 2) pe_int) pa_nil)) (blkOk_by (own := [("_law_k", 3)]) (by kernel_rfl)) (fun _ _ _ _ _ => (pg_name (i := 3) sc_law_job.nd rfl (by first | exact Or.inl rfl | exact Or.inr rfl))) (fun _ _ _ _ _ => pts_nil) (fun _ _ _ _ _ => (pe_op op_dAdd pe_str (pe_ix ix_seq pe_str (pv 3) (fun _ _ => rfl)))))
  (pss_cons (ps_set (i := 5) sc_law_job.nd rfl (by first | exact Or.inl rfl | exact Or.inr rfl) (pe_ix ix_seq (pe_lst (pa_cons pe_int (pa_cons pe_int (pa_cons pe_int (pa_cons pe_int (pa_cons (pe_op op_dAdd pe_int (pe_op op_dMod (pe_op op_dDiv (pv 2) pe_int) pe_int)) pa_nil)))))) (pe_op op_dMod (pe_op op_dDiv (pv 2) pe_int) pe_int) (fun _ _ => rfl)))
  (pss_cons (ps_set (i := 6) sc_law_job.nd rfl (by first | exact Or.inl rfl | exact Or.inr rfl) (pe_ix ix_seq (pe_lst (pa_cons pe_int (pa_cons pe_int (pa_cons pe_int (pa_cons (pe_op op_dMod (pe_op op_dDiv (pv 2) pe_int) pe_int) pa_nil))))) (pe_op op_dMod (pe_op op_dDiv (pv 2) pe_int) pe_int) (fun _ _ => rfl)))
  (pss_cons (ps_set (i := 7) sc_law_job.nd rfl (by first | exact Or.inl rfl | exact Or.inr rfl) (pe_op op_dAdd pe_int (pe_op op_dMod (pe_op op_dDiv (pv 2) pe_int) pe_int)))
  (pss_cons (ps_expr (pe_bm0 PySem.F.plainAttrs_list PySem.F.slot_list_clear PySem.F.type_list_clear mt_clear (pv 1)))
  (pss_cons (ps_expr (pe_bm PySem.F.plainAttrs_list PySem.F.slot_list_extend PySem.F.type_list_extend mt_extend (pv 1) (pa_cons (pe_lst (pa_cons (pe_callB call_cLen (by rfl) T.b_len (by decide +kernel) (pa_cons (pv 4) pa_nil)) (pa_cons (pv 5) (pa_cons (pv 6) (pa_cons (pv 7) pa_nil))))) pa_nil)))
  (pss_one (ps_ret (pe_mak G_Job_init (hr.mono (by decide)) rfl tk (pa_cons pe_str (pa_cons (pv 4) (pa_cons (pe_op op_dMod (pv 2) pe_int) (pa_cons (pe_op op_dAdd pe_int (pe_op op_dMod (pv 2) pe_int)) (pa_cons (pv 5) (pa_cons (pv 6) (pa_cons (pv 7) pa_nil)))))))))))))))))
theorem sc_law_rest : FnScope ["_law_own", "_law_fails", "_law_rest_here", "_law_k"] ["_law_own", "_law_fails"] (defScope s_law_rest) := ⟨rfl, rfl, rfl, by decide +kernel, rfl, by decide +kernel, by decide +kernel⟩
def t_law_rest (K : PySem.W.Frag) (a : Ad) (W : WX) : TS :=
  (tSeq (tAsg (tOp (rIx K) (tVar 0) (tC (.int 2))) (gName 2))
  (tSeq (tFor (iRng1 (tCons (tOp dSub (tVar 1) (tC (.int 1))) tNil)) (gName 3) (tAsg (tCB cMin2 (tCons (tC (.int 100000)) (tCons (tOp dMul (tVar 2) (tOp (rIx K) (tVar 0) (tC (.int 3)))) tNil))) (gName 2)))
  (tRet (tVar 2))))
theorem dv_law_rest {P : Program} {w : World} {K : PySem.W.Frag} {mg : Str → Option Value} {base : Heap} {a : Ad} (T : Txt K mg a) 
    {f : Addr} {cdv : Value} {A : Around} {outer : List Env} {s : Shared} {H : Hp} {E : XK} (hr : Room 0 (A.deeper (PyProof.Rows.envOfC "_law_rest" (defScope s_law_rest) s.heap.objs.size f cdv))) :
    PSs (cxOf (L2.CX P w) P w K mg base ["_law_own", "_law_fails", "_law_rest_here", "_law_k"] "_law_rest" (defScope s_law_rest) f cdv A outer s H E) (defBody s_law_rest) (t_law_rest K a fun c d _ H => E c d H) := by
  have tk : Takes (cxOf (L2.CX P w) P w K mg base ["_law_own", "_law_fails", "_law_rest_here", "_law_k"] "_law_rest" (defScope s_law_rest) f cdv A outer s H E) (fun c d _ H => E c d H) := takes_of rfl rfl rfl rfl
  have po : PassesOwn (model P w) (A.deeper (PyProof.Rows.envOfC "_law_rest" (defScope s_law_rest) s.heap.objs.size f cdv)) (PyProof.Rows.envOfC "_law_rest" (defScope s_law_rest) s.heap.objs.size f cdv) (cxOf (L2.CX P w) P w K mg base ["_law_own", "_law_fails", "_law_rest_here", "_law_k"] "_law_rest" (defScope s_law_rest) f cdv A outer s H E).xe := passes_of (X := cxOf (L2.CX P w) P w K mg base ["_law_own", "_law_fails", "_law_rest_here", "_law_k"] "_law_rest" (defScope s_law_rest) f cdv A outer s H E) rfl
  exact (pss_cons (ps_set (i := 2) sc_law_rest.nd rfl (by first | exact Or.inl rfl | exact Or.inr rfl) (pe_ix ix_seq (pv 0) pe_int (fun _ _ => rfl)))
  (pss_cons (ps_for po rfl (pi_range1 rfl T.b_range (pa_cons (pe_op op_dSub (pv 1) pe_int) pa_nil)) (pg_name (i := 3) sc_law_rest.nd rfl (by first | exact Or.inl rfl | exact Or.inr rfl)) (pss_one (ps_set (i := 2) sc_law_rest.nd rfl (by first | exact Or.inl rfl | exact Or.inr rfl) (pe_callB (call_cMin2 rfl) (by rfl) T.b_min (by decide +kernel) (pa_cons pe_int (pa_cons (pe_op op_dMul (pv 2) (pe_ix ix_seq (pv 0) pe_int (fun _ _ => rfl))) pa_nil))))))
  (pss_one (ps_ret (pv 2)))))
theorem sc_law_first : FnScope ["_law_own"] ["_law_own"] (defScope s_law_first) := ⟨rfl, rfl, rfl, by decide +kernel, rfl, by decide +kernel, by decide +kernel⟩
def t_law_first (K : PySem.W.Frag) (a : Ad) (W : WX) : TS :=
  (tSeq (tIfS (tTest (tOp (dEq K) (tOp (rIx K) (tVar 0) (tC (.int 0))) (tC (.int 0)))) (tRet (tTup (tCons (tC (.str "ready")) (tCons (tC (.int 0)) tNil)))) tNext)
  (tRet (tTup (tCons (tC (.str "blocked")) (tCons (tOp (rIx K) (tVar 0) (tC (.int 0))) tNil)))))
theorem dv_law_first {P : Program} {w : World} {K : PySem.W.Frag} {mg : Str → Option Value} {base : Heap} {a : Ad} (T : Txt K mg a) 
    {f : Addr} {cdv : Value} {A : Around} {outer : List Env} {s : Shared} {H : Hp} {E : XK} (hr : Room 0 (A.deeper (PyProof.Rows.envOfC "_law_first" (defScope s_law_first) s.heap.objs.size f cdv))) :
    PSs (cxOf (L2.CX P w) P w K mg base ["_law_own"] "_law_first" (defScope s_law_first) f cdv A outer s H E) (defBody s_law_first) (t_law_first K a fun c d _ H => E c d H) := by
  have tk : Takes (cxOf (L2.CX P w) P w K mg base ["_law_own"] "_law_first" (defScope s_law_first) f cdv A outer s H E) (fun c d _ H => E c d H) := takes_of rfl rfl rfl rfl
  have po : PassesOwn (model P w) (A.deeper (PyProof.Rows.envOfC "_law_first" (defScope s_law_first) s.heap.objs.size f cdv)) (PyProof.Rows.envOfC "_law_first" (defScope s_law_first) s.heap.objs.size f cdv) (cxOf (L2.CX P w) P w K mg base ["_law_own"] "_law_first" (defScope s_law_first) f cdv A outer s H E).xe := passes_of (X := cxOf (L2.CX P w) P w K mg base ["_law_own"] "_law_first" (defScope s_law_first) f cdv A outer s H E) rfl
  exact (pss_cons (ps_if (pt_cmpR (op_dEq hr) (pe_ix ix_seq (pv 0) pe_int (fun _ _ => rfl)) pe_int (nomark _)) (pss_one (ps_ret (pe_tup (pa_cons pe_str (pa_cons pe_int pa_nil))))) pss_nil)
  (pss_one (ps_ret (pe_tup (pa_cons pe_str (pa_cons (pe_ix ix_seq (pv 0) pe_int (fun _ _ => rfl)) pa_nil))))))
theorem sc_law_turn : FnScope ["_law_number"] ["_law_number"] (defScope s_law_turn) := ⟨rfl, rfl, rfl, by decide +kernel, rfl, by decide +kernel, by decide +kernel⟩
def t_law_turn (K : PySem.W.Frag) (a : Ad) (W : WX) : TS :=
  (tRet (tOp (rIx K) (tLst (tCons (tOp dMod (tOp dDiv (tVar 0) (tC (.int 4))) (tC (.int 50))) (tCons (tOp dMod (tOp dDiv (tVar 0) (tC (.int 4))) (tC (.int 1000000001))) (tCons (tC (.int 1000000000)) (tCons (tC (.int 0)) tNil))))) (tOp dMod (tVar 0) (tC (.int 4)))))
theorem dv_law_turn {P : Program} {w : World} {K : PySem.W.Frag} {mg : Str → Option Value} {base : Heap} {a : Ad} (T : Txt K mg a) 
    {f : Addr} {cdv : Value} {A : Around} {outer : List Env} {s : Shared} {H : Hp} {E : XK} (hr : Room 0 (A.deeper (PyProof.Rows.envOfC "_law_turn" (defScope s_law_turn) s.heap.objs.size f cdv))) :
    PSs (cxOf (L2.CX P w) P w K mg base ["_law_number"] "_law_turn" (defScope s_law_turn) f cdv A outer s H E) (defBody s_law_turn) (t_law_turn K a fun c d _ H => E c d H) := by
  have tk : Takes (cxOf (L2.CX P w) P w K mg base ["_law_number"] "_law_turn" (defScope s_law_turn) f cdv A outer s H E) (fun c d _ H => E c d H) := takes_of rfl rfl rfl rfl
  have po : PassesOwn (model P w) (A.deeper (PyProof.Rows.envOfC "_law_turn" (defScope s_law_turn) s.heap.objs.size f cdv)) (PyProof.Rows.envOfC "_law_turn" (defScope s_law_turn) s.heap.objs.size f cdv) (cxOf (L2.CX P w) P w K mg base ["_law_number"] "_law_turn" (defScope s_law_turn) f cdv A outer s H E).xe := passes_of (X := cxOf (L2.CX P w) P w K mg base ["_law_number"] "_law_turn" (defScope s_law_turn) f cdv A outer s H E) rfl
  exact (pss_one (ps_ret (pe_ix ix_seq (pe_lst (pa_cons (pe_op op_dMod (pe_op op_dDiv (pv 0) pe_int) pe_int) (pa_cons (pe_op op_dMod (pe_op op_dDiv (pv 0) pe_int) pe_int) (pa_cons pe_int (pa_cons pe_int pa_nil))))) (pe_op op_dMod (pv 0) pe_int) (fun _ _ => rfl))))
theorem sc_law_stepped : FnScope ["_law_state", "_law_job_here", "_law_due", "_law_own", "_law_number", "_law_turn_here", "_law_why", "_law_fails", "_law_found", "_law_rest_here"] ["_law_state", "_law_job_here", "_law_due", "_law_own", "_law_number"] (defScope s_law_stepped) := ⟨rfl, rfl, rfl, by decide +kernel, rfl, by decide +kernel, by decide +kernel⟩
def t_law_stepped (K : PySem.W.Frag) (a : Ad) (W : WX) : TS :=
  (tSeq (tAsg (tCal (lift (S_law_turn K a)) W (tCons (tOp dDiv (tVar 4) (tC (.int 6))) tNil)) (gName 5))
  (tSeq (tAsg (tOp (rIx K) (tLst (tCons (tC (.str "out")) (tCons (tC (.str "fell")) (tCons (tC (.str "a")) (tCons (tC (.str "abcdefghijkl")) tNil))))) (tOp dMod (tOp dDiv (tVar 4) (tC (.int 30))) (tC (.int 4)))) (gName 6))
  (tSeq (tIfS (tAnd (tTest (tOp (dEq K) (tOp (rIx K) (tVar 2) (tC (.int 0))) (tC (.str "blocked")))) (tTest (tOp (dEq K) (tOp dMod (tVar 4) (tC (.int 6))) (tC (.int 0))))) (tRet (tTup (tCons (tMet (MT K a "cut_off") "cut_off" W (tVar 0) (tCons (tOp dMod (tVar 5) (tC (.int 40))) tNil)) (tCons (tTup (tCons (tC (.str "cut")) (tCons (tOp dMod (tVar 5) (tC (.int 40))) tNil))) tNil)))) tNext)
  (tSeq (tIfS (tTest (tOp (dEq K) (tOp (rIx K) (tVar 2) (tC (.int 0))) (tC (.str "blocked")))) (tRet (tTup (tCons (tMet (MT K a "freed") "freed" W (tVar 0) tNil) (tCons (tIf (tTest (tOp dGt (tOp (rIx K) (tVar 2) (tC (.int 1))) (tC (.int 1)))) (tTup (tCons (tC (.str "blocked")) (tCons (tOp dSub (tOp (rIx K) (tVar 2) (tC (.int 1))) (tC (.int 1))) tNil))) (tTup (tCons (tC (.str "ready")) (tCons (tC (.int 0)) tNil)))) tNil)))) tNext)
  (tSeq (tIfS (tTest (tOp (dEq K) (tOp (rIx K) (tVar 2) (tC (.int 0))) (tC (.str "ready")))) (tRet (tTup (tCons (tMet (MT K a "leased") "leased" W (tVar 0) (tCons (tVar 5) tNil)) (tCons (tTup (tCons (tC (.str "leased")) (tCons (tOp (rIx K) (tVar 2) (tC (.int 1))) (tCons (tVar 5) tNil)))) tNil)))) tNext)
  (tSeq (tIfS (tTest (tOp (dEq K) (tOp (rIx K) (tVar 2) (tC (.int 0))) (tC (.str "resting")))) (tRet (tTup (tCons (tMet (MT K a "rested") "rested" W (tVar 0) tNil) (tCons (tTup (tCons (tC (.str "ready")) (tCons (tOp (rIx K) (tVar 2) (tC (.int 1))) tNil))) tNil)))) tNext)
  (tSeq (tIfS (tTest (tOp (dEq K) (tOp dMod (tVar 4) (tC (.int 6))) (tC (.int 0)))) (tRet (tTup (tCons (tMet (MT K a "ended") "ended" W (tVar 0) (tCons (tVar 5) tNil)) (tCons (tTup (tCons (tC (.str "done")) (tCons (tOp (rIx K) (tVar 2) (tC (.int 1))) (tCons (tOp (rIx K) (tVar 2) (tC (.int 2))) (tCons (tVar 5) tNil))))) tNil)))) tNext)
  (tSeq (tAsg (tOp (dAdd K) (tOp (rIx K) (tVar 2) (tC (.int 1))) (tC (.int 1))) (gName 7))
  (tSeq (tAsg (tMet (MT K a "failed") "failed" W (tVar 0) (tCons (tVar 1) (tCons (tVar 5) (tCons (tVar 6) tNil)))) (gName 8))
  (tSeq (tIfS (tTest (tOp (dEq K) (tVar 7) (tOp (rIx K) (tVar 3) (tC (.int 1))))) (tRet (tTup (tCons (tVar 8) (tCons (tTup (tCons (tC (.str "broken")) (tCons (tVar 7) (tCons (tVar 6) tNil)))) tNil)))) tNext)
  (tSeq (tAsg (tCal (lift (S_law_rest K a)) W (tCons (tVar 3) (tCons (tVar 7) tNil))) (gName 9))
  (tRet (tTup (tCons (tVar 8) (tCons (tIf (tTest (tOp dGt (tVar 9) (tC (.int 0)))) (tTup (tCons (tC (.str "resting")) (tCons (tVar 7) (tCons (tOp (dAdd K) (tVar 5) (tVar 9)) tNil)))) (tTup (tCons (tC (.str "ready")) (tCons (tVar 7) tNil)))) tNil)))))))))))))))
theorem dv_law_stepped {P : Program} {w : World} {K : PySem.W.Frag} {mg : Str → Option Value} {base : Heap} {a : Ad} (T : Txt K mg a) (G_law_rest : DefR P w K mg base 1 "_law_rest" (lift (S_law_rest K a))) (G_law_turn : DefR P w K mg base 1 "_law_turn" (lift (S_law_turn K a))) (MM_cut_off : ∀ C sp, MT K a "cut_off" C sp → MethR P w K mg base 3 C "cut_off" (lift sp)) (MM_ended : ∀ C sp, MT K a "ended" C sp → MethR P w K mg base 3 C "ended" (lift sp)) (MM_failed : ∀ C sp, MT K a "failed" C sp → MethR P w K mg base 3 C "failed" (lift sp)) (MM_freed : ∀ C sp, MT K a "freed" C sp → MethR P w K mg base 3 C "freed" (lift sp)) (MM_leased : ∀ C sp, MT K a "leased" C sp → MethR P w K mg base 3 C "leased" (lift sp)) (MM_rested : ∀ C sp, MT K a "rested" C sp → MethR P w K mg base 3 C "rested" (lift sp))
    {f : Addr} {cdv : Value} {A : Around} {outer : List Env} {s : Shared} {H : Hp} {E : XK} (hr : Room 3 (A.deeper (PyProof.Rows.envOfC "_law_stepped" (defScope s_law_stepped) s.heap.objs.size f cdv))) :
    PSs (cxOf (L2.CX P w) P w K mg base ["_law_state", "_law_job_here", "_law_due", "_law_own", "_law_number", "_law_turn_here", "_law_why", "_law_fails", "_law_found", "_law_rest_here"] "_law_stepped" (defScope s_law_stepped) f cdv A outer s H E) (defBody s_law_stepped) (t_law_stepped K a fun c d _ H => E c d H) := by
  have tk : Takes (cxOf (L2.CX P w) P w K mg base ["_law_state", "_law_job_here", "_law_due", "_law_own", "_law_number", "_law_turn_here", "_law_why", "_law_fails", "_law_found", "_law_rest_here"] "_law_stepped" (defScope s_law_stepped) f cdv A outer s H E) (fun c d _ H => E c d H) := takes_of rfl rfl rfl rfl
  have po : PassesOwn (model P w) (A.deeper (PyProof.Rows.envOfC "_law_stepped" (defScope s_law_stepped) s.heap.objs.size f cdv)) (PyProof.Rows.envOfC "_law_stepped" (defScope s_law_stepped) s.heap.objs.size f cdv) (cxOf (L2.CX P w) P w K mg base ["_law_state", "_law_job_here", "_law_due", "_law_own", "_law_number", "_law_turn_here", "_law_why", "_law_fails", "_law_found", "_law_rest_here"] "_law_stepped" (defScope s_law_stepped) f cdv A outer s H E).xe := passes_of (X := cxOf (L2.CX P w) P w K mg base ["_law_state", "_law_job_here", "_law_due", "_law_own", "_law_number", "_law_turn_here", "_law_why", "_law_fails", "_law_found", "_law_rest_here"] "_law_stepped" (defScope s_law_stepped) f cdv A outer s H E) rfl
  exact (pss_cons (ps_set (i := 5) sc_law_stepped.nd rfl (by first | exact Or.inl rfl | exact Or.inr rfl) (pe_own G_law_turn (hr.mono (by decide)) rfl tk (pa_cons (pe_op op_dDiv (pv 4) pe_int) pa_nil)))
  (pss_cons (ps_set (i := 6) sc_law_stepped.nd rfl (by first | exact Or.inl rfl | exact Or.inr rfl) (pe_ix ix_seq (pe_lst (pa_cons pe_str (pa_cons pe_str (pa_cons pe_str (pa_cons pe_str pa_nil))))) (pe_op op_dMod (pe_op op_dDiv (pv 4) pe_int) pe_int) (fun _ _ => rfl)))
  (pss_cons (ps_if (PW.pt (pw_and (pt_cmpR (op_dEq hr) (pe_ix ix_seq (pv 2) pe_int (fun _ _ => rfl)) pe_str (nomark _)) (pw_and1 (pt_cmpR (op_dEq hr) (pe_op op_dMod (pv 4) pe_int) pe_int (nomark _))))) (pss_one (ps_ret (pe_tup (pa_cons (pe_met (pv 0) MM_cut_off (hr.mono (by decide)) tk (pa_cons (pe_op op_dMod (pv 5) pe_int) pa_nil)) (pa_cons (pe_tup (pa_cons pe_str (pa_cons (pe_op op_dMod (pv 5) pe_int) pa_nil))) pa_nil))))) pss_nil)
  (pss_cons (ps_if (pt_cmpR (op_dEq hr) (pe_ix ix_seq (pv 2) pe_int (fun _ _ => rfl)) pe_str (nomark _)) (pss_one (ps_ret (pe_tup (pa_cons (pe_met0 (pv 0) MM_freed (hr.mono (by decide)) tk) (pa_cons (pe_ifExp (pt_cmpR op_dGt (pe_ix ix_seq (pv 2) pe_int (fun _ _ => rfl)) pe_int (nomark _)) (pe_tup (pa_cons pe_str (pa_cons (pe_op op_dSub (pe_ix ix_seq (pv 2) pe_int (fun _ _ => rfl)) pe_int) pa_nil))) (pe_tup (pa_cons pe_str (pa_cons pe_int pa_nil)))) pa_nil))))) pss_nil)
  (pss_cons (ps_if (pt_cmpR (op_dEq hr) (pe_ix ix_seq (pv 2) pe_int (fun _ _ => rfl)) pe_str (nomark _)) (pss_one (ps_ret (pe_tup (pa_cons (pe_met (pv 0) MM_leased (hr.mono (by decide)) tk (pa_cons (pv 5) pa_nil)) (pa_cons (pe_tup (pa_cons pe_str (pa_cons (pe_ix ix_seq (pv 2) pe_int (fun _ _ => rfl)) (pa_cons (pv 5) pa_nil)))) pa_nil))))) pss_nil)
  (pss_cons (ps_if (pt_cmpR (op_dEq hr) (pe_ix ix_seq (pv 2) pe_int (fun _ _ => rfl)) pe_str (nomark _)) (pss_one (ps_ret (pe_tup (pa_cons (pe_met0 (pv 0) MM_rested (hr.mono (by decide)) tk) (pa_cons (pe_tup (pa_cons pe_str (pa_cons (pe_ix ix_seq (pv 2) pe_int (fun _ _ => rfl)) pa_nil))) pa_nil))))) pss_nil)
  (pss_cons (ps_if (pt_cmpR (op_dEq hr) (pe_op op_dMod (pv 4) pe_int) pe_int (nomark _)) (pss_one (ps_ret (pe_tup (pa_cons (pe_met (pv 0) MM_ended (hr.mono (by decide)) tk (pa_cons (pv 5) pa_nil)) (pa_cons (pe_tup (pa_cons pe_str (pa_cons (pe_ix ix_seq (pv 2) pe_int (fun _ _ => rfl)) (pa_cons (pe_ix ix_seq (pv 2) pe_int (fun _ _ => rfl)) (pa_cons (pv 5) pa_nil))))) pa_nil))))) pss_nil)
  (pss_cons (ps_set (i := 7) sc_law_stepped.nd rfl (by first | exact Or.inl rfl | exact Or.inr rfl) (pe_op op_dAdd (pe_ix ix_seq (pv 2) pe_int (fun _ _ => rfl)) pe_int))
  (pss_cons (ps_set (i := 8) sc_law_stepped.nd rfl (by first | exact Or.inl rfl | exact Or.inr rfl) (pe_met (pv 0) MM_failed (hr.mono (by decide)) tk (pa_cons (pv 1) (pa_cons (pv 5) (pa_cons (pv 6) pa_nil)))))
  (pss_cons (ps_if (pt_cmpR (op_dEq hr) (pv 7) (pe_ix ix_seq (pv 3) pe_int (fun _ _ => rfl)) (nomark _)) (pss_one (ps_ret (pe_tup (pa_cons (pv 8) (pa_cons (pe_tup (pa_cons pe_str (pa_cons (pv 7) (pa_cons (pv 6) pa_nil)))) pa_nil))))) pss_nil)
  (pss_cons (ps_set (i := 9) sc_law_stepped.nd rfl (by first | exact Or.inl rfl | exact Or.inr rfl) (pe_own G_law_rest (hr.mono (by decide)) rfl tk (pa_cons (pv 3) (pa_cons (pv 7) pa_nil))))
  (pss_one (ps_ret (pe_tup (pa_cons (pv 8) (pa_cons (pe_ifExp (pt_cmpR op_dGt (pv 9) pe_int (nomark _)) (pe_tup (pa_cons pe_str (pa_cons (pv 7) (pa_cons (pe_op op_dAdd (pv 5) (pv 9)) pa_nil)))) (pe_tup (pa_cons pe_str (pa_cons (pv 7) pa_nil)))) pa_nil))))))))))))))))
theorem sc_law : FnScope ["_law_script", "_law_own", "_law_job_here", "_law_state", "_law_due", "_law_held", "_law_k", "_law_cell", "_law_number", "_law_one", "_law_kept"] ["_law_script"] (defScope s_law) := ⟨rfl, rfl, rfl, by decide +kernel, rfl, by decide +kernel, by decide +kernel⟩
def t_law (K : PySem.W.Frag) (a : Ad) (W : WX) : TS :=
  (tSeq (tAsg (tLst tNil) (gName 1))
  (tSeq (tAsg (tCal (lift (S_law_job K a)) W (tCons (tCal (lift (S_law_cell_at K a)) W (tCons (tVar 0) (tCons (tC (.int 0)) tNil))) (tCons (tVar 1) tNil))) (gName 2))
  (tSeq (tAsg (tCal (lift (S_first_state K a)) W (tCons (tVar 2) tNil)) (gName 3))
  (tSeq (tAsg (tCal (lift (S_law_first K a)) W (tCons (tVar 1) tNil)) (gName 4))
  (tSeq (tIfS (tNot (tB (tCal (lift (S_law_stands K a)) W (tCons (tVar 3) (tCons (tVar 4) (tCons (tCal (lift (S_law_cell_at K a)) W (tCons (tVar 0) (tCons (tC (.int 1)) tNil))) tNil)))))) (tRet (tC (.bl false))) tNext)
  (tSeq (tAsg (tLst (tCons (tTup (tCons (tVar 3) (tCons (tVar 4) tNil))) tNil)) (gName 5))
  (tSeq (tFor (iEnum K (tCons (tSl (rSl K) (tVar 0) (tPart (tC (.int 1))) (tPart (tC (.int 41)))) tNil)) (gTup K 2 (gCons (gName 6) (gCons (gName 7) gNil))) (tSeq (tAsg (tCal (lift (S_law_mixed K a)) W (tCons (tVar 7) (tCons (tVar 6) tNil))) (gName 8))
  (tMid (tIfS (tTest (tOp (dIn K false) (tOp (rIx K) (tVar 4) (tC (.int 0))) (tTup (tCons (tC (.str "done")) (tCons (tC (.str "broken")) (tCons (tC (.str "cut")) tNil)))))) (tSeq (tAsg (tCal (lift (S_law_job K a)) W (tCons (tVar 7) (tCons (tVar 1) tNil))) (gName 2))
  (tSeq (tAsg (tCal (lift (S_first_state K a)) W (tCons (tVar 2) tNil)) (gName 3))
  (tAsg (tCal (lift (S_law_first K a)) W (tCons (tVar 1) tNil)) (gName 4)))) (tAsg (tCal (lift (S_law_stepped K a)) W (tCons (tVar 3) (tCons (tVar 2) (tCons (tVar 4) (tCons (tVar 1) (tCons (tVar 8) tNil)))))) (gTup K 2 (gCons (gName 3) (gCons (gName 4) gNil)))))
  (tSeq (tIfS (tOr (tNot (tB (tCal (lift (S_law_stands K a)) W (tCons (tVar 3) (tCons (tVar 4) (tCons (tOp dDiv (tVar 8) (tC (.int 7))) tNil)))))) (tNot (tB (tCal (lift (S_law_same K a)) W (tCons (tMet (MT K a "told") "told" W (tOp (rIx K) (tOp (rIx K) (tVar 5) (tUn uNeg (tC (.int 1)))) (tC (.int 0))) tNil) (tCons (tOp (rIx K) (tOp (rIx K) (tVar 5) (tUn uNeg (tC (.int 1)))) (tC (.int 1))) tNil)))))) (tRet (tC (.bl false))) tNext)
  (tDrop (tBM K "list" rAppend (tVar 5) (tCons (tTup (tCons (tVar 3) (tCons (tVar 4) tNil))) tNil)))))))
  (tRet (tOp (dEq K) (tLc (iList K (tVar 5)) (gTup K 2 (gCons (gName 9) (gCons (gName 10) gNil))) (tNot (tB (tCal (lift (S_law_same K a)) (fun _ _ _ _ => False) (tCons (tMet (MT K a "told") "told" (fun _ _ _ _ => False) (tVar 9) tNil) (tCons (tVar 10) tNil))))) (tVar 9) [9, 10]) (tLst tNil))))))))))
theorem dv_law {P : Program} {w : World} {K : PySem.W.Frag} {mg : Str → Option Value} {base : Heap} {a : Ad} (T : Txt K mg a) (G_law_cell_at : DefR P w K mg base 1 "_law_cell_at" (lift (S_law_cell_at K a))) (G_law_first : DefR P w K mg base 1 "_law_first" (lift (S_law_first K a))) (G_law_job : DefR P w K mg base 6 "_law_job" (lift (S_law_job K a))) (G_law_mixed : DefR P w K mg base 1 "_law_mixed" (lift (S_law_mixed K a))) (G_law_same : DefR P w K mg base 1 "_law_same" (lift (S_law_same K a))) (G_law_stands : DefR P w K mg base 3 "_law_stands" (lift (S_law_stands K a))) (G_law_stepped : DefR P w K mg base 4 "_law_stepped" (lift (S_law_stepped K a))) (G_first_state : DefR P w K mg base 3 "first_state" (lift (S_first_state K a))) (MM_told : ∀ C sp, MT K a "told" C sp → MethR P w K mg base 2 C "told" (lift sp))
    {f : Addr} {cdv : Value} {A : Around} {outer : List Env} {s : Shared} {H : Hp} {E : XK} (hr : Room 6 (A.deeper (PyProof.Rows.envOfC "law" (defScope s_law) s.heap.objs.size f cdv))) :
    PSs (cxOf (L2.CX P w) P w K mg base ["_law_script", "_law_own", "_law_job_here", "_law_state", "_law_due", "_law_held", "_law_k", "_law_cell", "_law_number", "_law_one", "_law_kept"] "law" (defScope s_law) f cdv A outer s H E) (defBody s_law) (t_law K a fun c d _ H => E c d H) := by
  have tk : Takes (cxOf (L2.CX P w) P w K mg base ["_law_script", "_law_own", "_law_job_here", "_law_state", "_law_due", "_law_held", "_law_k", "_law_cell", "_law_number", "_law_one", "_law_kept"] "law" (defScope s_law) f cdv A outer s H E) (fun c d _ H => E c d H) := takes_of rfl rfl rfl rfl
  have po : PassesOwn (model P w) (A.deeper (PyProof.Rows.envOfC "law" (defScope s_law) s.heap.objs.size f cdv)) (PyProof.Rows.envOfC "law" (defScope s_law) s.heap.objs.size f cdv) (cxOf (L2.CX P w) P w K mg base ["_law_script", "_law_own", "_law_job_here", "_law_state", "_law_due", "_law_held", "_law_k", "_law_cell", "_law_number", "_law_one", "_law_kept"] "law" (defScope s_law) f cdv A outer s H E).xe := passes_of (X := cxOf (L2.CX P w) P w K mg base ["_law_script", "_law_own", "_law_job_here", "_law_state", "_law_due", "_law_held", "_law_k", "_law_cell", "_law_number", "_law_one", "_law_kept"] "law" (defScope s_law) f cdv A outer s H E) rfl
  exact (pss_cons (ps_set (i := 1) sc_law.nd rfl (by first | exact Or.inl rfl | exact Or.inr rfl) (pe_lst pa_nil))
  (pss_cons (ps_set (i := 2) sc_law.nd rfl (by first | exact Or.inl rfl | exact Or.inr rfl) (pe_own G_law_job (hr.mono (by decide)) rfl tk (pa_cons (pe_own G_law_cell_at (hr.mono (by decide)) rfl tk (pa_cons (pv 0) (pa_cons pe_int pa_nil))) (pa_cons (pv 1) pa_nil))))
  (pss_cons (ps_set (i := 3) sc_law.nd rfl (by first | exact Or.inl rfl | exact Or.inr rfl) (pe_own G_first_state (hr.mono (by decide)) rfl tk (pa_cons (pv 2) pa_nil)))
  (pss_cons (ps_set (i := 4) sc_law.nd rfl (by first | exact Or.inl rfl | exact Or.inr rfl) (pe_own G_law_first (hr.mono (by decide)) rfl tk (pa_cons (pv 1) pa_nil)))
  (pss_cons (ps_if (pt_not (pt_val (pe_own G_law_stands (hr.mono (by decide)) rfl tk (pa_cons (pv 3) (pa_cons (pv 4) (pa_cons (pe_own G_law_cell_at (hr.mono (by decide)) rfl tk (pa_cons (pv 0) (pa_cons pe_int pa_nil))) pa_nil)))))) (pss_one (ps_ret pe_bl)) pss_nil)
  (pss_cons (ps_set (i := 5) sc_law.nd rfl (by first | exact Or.inl rfl | exact Or.inr rfl) (pe_lst (pa_cons (pe_tup (pa_cons (pv 3) (pa_cons (pv 4) pa_nil))) pa_nil)))
  (pss_cons (ps_for po rfl (pi_enum (by rfl) T.b_enumerate (pa_cons (pe_slice sl_any (pv 0) (po_some pe_int) (po_some pe_int)) pa_nil)) (pg_tup rfl (pgs_cons (pg_name (i := 6) sc_law.nd rfl (by first | exact Or.inl rfl | exact Or.inr rfl)) (pgs_cons (pg_name (i := 7) sc_law.nd rfl (by first | exact Or.inl rfl | exact Or.inr rfl)) pgs_nil))) (pss_cons (ps_set (i := 8) sc_law.nd rfl (by first | exact Or.inl rfl | exact Or.inr rfl) (pe_own G_law_mixed (hr.mono (by decide)) rfl tk (pa_cons (pv 7) (pa_cons (pv 6) pa_nil))))
  (pss_cons (ps_if (pt_cmpR op_dIn (pe_ix ix_seq (pv 4) pe_int (fun _ _ => rfl)) (pe_tup (pa_cons pe_str (pa_cons pe_str (pa_cons pe_str pa_nil)))) (by rfl)) (pss_cons (ps_set (i := 2) sc_law.nd rfl (by first | exact Or.inl rfl | exact Or.inr rfl) (pe_own G_law_job (hr.mono (by decide)) rfl tk (pa_cons (pv 7) (pa_cons (pv 1) pa_nil))))
  (pss_cons (ps_set (i := 3) sc_law.nd rfl (by first | exact Or.inl rfl | exact Or.inr rfl) (pe_own G_first_state (hr.mono (by decide)) rfl tk (pa_cons (pv 2) pa_nil)))
  (pss_one (ps_set (i := 4) sc_law.nd rfl (by first | exact Or.inl rfl | exact Or.inr rfl) (pe_own G_law_first (hr.mono (by decide)) rfl tk (pa_cons (pv 1) pa_nil)))))) (pss_one (ps_asg (pe_own G_law_stepped (hr.mono (by decide)) rfl tk (pa_cons (pv 3) (pa_cons (pv 2) (pa_cons (pv 4) (pa_cons (pv 1) (pa_cons (pv 8) pa_nil)))))) (pg_tup rfl (pgs_cons (pg_name (i := 3) sc_law.nd rfl (by first | exact Or.inl rfl | exact Or.inr rfl)) (pgs_cons (pg_name (i := 4) sc_law.nd rfl (by first | exact Or.inl rfl | exact Or.inr rfl)) pgs_nil))))))
  (pss_cons (ps_if (PW.pt (pw_or (pt_not (pt_val (pe_own G_law_stands (hr.mono (by decide)) rfl tk (pa_cons (pv 3) (pa_cons (pv 4) (pa_cons (pe_op op_dDiv (pv 8) pe_int) pa_nil)))))) (pw_or1 (pt_not (pt_val (pe_own G_law_same (hr.mono (by decide)) rfl tk (pa_cons (pe_met0 (pe_ix ix_seq (pe_ix ix_seq (pv 5) (pe_un un_neg pe_int) (fun _ _ => rfl)) pe_int (fun _ _ => rfl)) MM_told (hr.mono (by decide)) tk) (pa_cons (pe_ix ix_seq (pe_ix ix_seq (pv 5) (pe_un un_neg pe_int) (fun _ _ => rfl)) pe_int (fun _ _ => rfl)) pa_nil)))))))) (pss_one (ps_ret pe_bl)) pss_nil)
  (pss_one (ps_expr (pe_bm PySem.F.plainAttrs_list PySem.F.slot_list_append PySem.F.type_list_append mt_append (pv 5) (pa_cons (pe_tup (pa_cons (pv 3) (pa_cons (pv 4) pa_nil))) pa_nil))))))))
  (pss_one (ps_ret (pe_cmpR (op_dEq hr) (pe_lc (own := [("_law_one", 9), ("_law_kept", 10)]) rfl sc_law.nd (pi_list (pv 5)) (blkOk_by (own := [("_law_one", 9), ("_law_kept", 10)]) (by kernel_rfl)) (fun _ _ _ _ _ => (pg_tup rfl (pgs_cons (pg_name (i := 9) sc_law.nd rfl (by first | exact Or.inl rfl | exact Or.inr rfl)) (pgs_cons (pg_name (i := 10) sc_law.nd rfl (by first | exact Or.inl rfl | exact Or.inr rfl)) pgs_nil)))) (fun _ _ _ _ _ => (pts_one (pt_not (pt_val (pe_own G_law_same (hr.mono (by decide)) rfl takes0 (pa_cons (pe_met0 (pv 9) MM_told (hr.mono (by decide)) takes0) (pa_cons (pv 10) pa_nil))))))) (fun _ _ _ _ _ => (pv 9))) (pe_lst pa_nil) (nomark _)))))))))))
end S

namespace S
open PySem L2
local macro_rules | `(tactic| walk_at "slot") => `(tactic| (with_reducible first | exact gx0 | exact gx1 | exact gx2 | exact gx3 | exact gx4 | exact gx5 | exact gx6 | exact gx7 | exact gx8 | exact gx9 | exact gx10 | exact gx11 | exact gx12 | exact gx13 | exact gx14 | exact gx15 | exact gx16 | exact gx17 | exact gx18 | exact gx19 | exact gx20 | exact gx21 | exact gx22 | exact gx23 | exact gx24 | exact gx25 | exact gx26 | exact gx27 | exact gx28 | exact gx29))
local macro_rules | `(tactic| walk_at "set") => `(tactic| (with_reducible first | exact sx0 | exact sx1 | exact sx2 | exact sx3 | exact sx4 | exact sx5 | exact sx6 | exact sx7 | exact sx8 | exact sx9 | exact sx10 | exact sx11 | exact sx12 | exact sx13 | exact sx14 | exact sx15 | exact sx16 | exact sx17 | exact sx18 | exact sx19 | exact sx20 | exact sx21 | exact sx22 | exact sx23 | exact sx24 | exact sx25 | exact sx26 | exact sx27 | exact sx28 | exact sx29))
local macro_rules | `(tactic| walk_at "wi") => `(tactic| first | exact wi0 | (refine' wi1 ?hw ?hs; (case hw => walk_at "wi"); (case hs => walk_at "set")))
local macro_rules | `(tactic| walk_at "ro") => `(tactic| with_reducible first | exact RO.head | assumption | (apply RO.tail; walk_at "ro") | (apply RO.app; walk_at "ro") | (refine' RO.le (by assumption) ?_; with_reducible assumption))
local macro_rules | `(tactic| walk_at "rl") => `(tactic| with_reducible first | exact RL.head | assumption | (apply RL.tail; walk_at "rl") | (apply RL.app; walk_at "rl") | (refine' RL.le (by assumption) ?_; with_reducible assumption) | (apply RL.ro; walk_at "ro"))
local macro_rules | `(tactic| walk_at "rt") => `(tactic| with_reducible first | exact RT.head | assumption | (apply RT.tail; walk_at "rt") | (apply RT.app; walk_at "rt") | (refine' RT.le (by assumption) ?_; with_reducible assumption) | (apply RT.ro; walk_at "ro"))
local macro_rules | `(tactic| walk_at "rd") => `(tactic| with_reducible first | exact RD.head | assumption | (apply RD.tail; walk_at "rd") | (apply RD.app; walk_at "rd") | (apply RD.ro; walk_at "ro"))
local macro_rules | `(tactic| walk_at "pull") => `(tactic| with_reducible first | exact Pull.head | assumption | (apply Pull.tail; walk_at "pull") | (apply Pull.app; walk_at "pull"))
local macro_rules | `(tactic| walk_at "sl") => `(tactic| with_reducible first | exact Sl.refl | exact Sl.nil | exact Sl.app | (refine' Sl.pull ?hp ?hs; (case hp => walk_at "pull"); (case hs => walk_at "sl")) | (apply Sl.drop; walk_at "sl") | (apply Sl.app'; walk_at "sl"))
local macro_rules | `(tactic| walk_at "le") => `(tactic| first | with_reducible assumption | (with_reducible exact Le.refl) | (apply Sl.le; walk_at "sl") | (with_reducible exact Le.pre) | (with_reducible apply Le.drop; walk_at "le") | (with_reducible apply Le.app'; walk_at "le"))
local macro_rules | `(tactic| walk_at "kv") => `(tactic| with_reducible first | exact kv_int | exact kv_str | assumption)
local macro_rules | `(tactic| walk_at "il") => `(tactic| (with_reducible repeat (first | exact il_nil | exact il_map | apply il_cons)))
local macro_rules | `(tactic| walk_at "om") => `(tactic| first | omega | (simp only [List.length_cons, List.length_nil, List.length_map, List.length_append, List.length_range, List.length_take, List.length_drop, len1]; omega) | decide)
local macro_rules | `(tactic| walk_at "tya") => `(tactic| with_reducible first | exact ty_str | (apply ty_list; walk_at "rl") | (apply ty_dict; walk_at "ro"))
local macro_rules | `(tactic| walk_at "tyg") => `(tactic| with_reducible first | exact ty_non | exact ty_bl | exact ty_int | exact ty_strT | (apply ty_lst; walk_at "ro") | (apply ty_tup; walk_at "ro") | (apply ty_dK; walk_at "ro") | (apply ty_tupT; walk_at "rt") | (refine' ty_ins ?_ ?hr; (case hr => walk_at "ro"); (walk_at "ins")))
local macro_rules | `(tactic| walk_at "cls") => `(tactic| first | exact ClsV.ty _ | exact ClsV.own _)
local macro_rules | `(tactic| walk_at "kit") => `(tactic| with_reducible first | exact kit_self | assumption | exact kt_NoneType_int | exact kt_NoneType_bool | exact kt_NoneType_str | exact kt_NoneType_list | exact kt_NoneType_tuple | exact kt_NoneType_dict | exact kt_bool_int | exact kt_bool_bool | exact kt_bool_str | exact kt_bool_list | exact kt_bool_tuple | exact kt_bool_dict | exact kt_int_int | exact kt_int_bool | exact kt_int_str | exact kt_int_list | exact kt_int_tuple | exact kt_int_dict | exact kt_str_int | exact kt_str_bool | exact kt_str_str | exact kt_str_list | exact kt_str_tuple | exact kt_str_dict | exact kt_list_int | exact kt_list_bool | exact kt_list_str | exact kt_list_list | exact kt_list_tuple | exact kt_list_dict | exact kt_tuple_int | exact kt_tuple_bool | exact kt_tuple_str | exact kt_tuple_list | exact kt_tuple_tuple | exact kt_tuple_dict | exact kt_dict_int | exact kt_dict_bool | exact kt_dict_str | exact kt_dict_list | exact kt_dict_tuple | exact kt_dict_dict)
local macro_rules | `(tactic| walk_at "fo") => `(tactic| assumption)
local macro_rules | `(tactic| walk_at "ins") => `(tactic| assumption)
local macro_rules | `(tactic| walk_at "lk") => `(tactic| rfl)
local macro_rules | `(tactic| walk_at "mt") => `(tactic| constructor)
local macro_rules | `(tactic| walk_at "br") => `(tactic| first
  | with_reducible refine' br_t ?_ | with_reducible refine' br_f ?_ | with_reducible refine' br_nt ?_ | with_reducible refine' br_nf ?_
  | (with_reducible refine' br_yes (p := _) ?hp ?_; (case hp => first | omega | assumption | rfl | decide))
  | (with_reducible refine' br_no (p := _) ?hp ?_; (case hp => first | omega | assumption | rfl | decide))
  | (with_reducible refine' br_nyes (p := _) ?hp ?_; (case hp => first | omega | assumption | rfl | decide))
  | (with_reducible refine' br_nno (p := _) ?hp ?_; (case hp => first | omega | assumption | rfl | decide))
  | with_reducible refine' br_dec (fun _ => ?_) (fun _ => ?_)
  | with_reducible refine' br_ndec (fun _ => ?_) (fun _ => ?_)
  | with_reducible refine' br_not ?_
  | with_reducible refine' br_b (fun _ => ?_) (fun _ => ?_))
local macro_rules | `(tactic| walk_at "ge") => `(tactic| with_reducible first
  | (refine' ge_var ?h1 ?_; (case h1 => walk_at "slot")) | refine' ge_c ?_ | refine' ge_op ?_ | refine' ge_un ?_ | refine' ge_fld' ?_ | refine' ge_cb ?_ | refine' ga_nil ?_ | refine' ga_cons ?_
  | refine' ge_tup' ?_ | refine' ge_lst' ?_ | (refine' ge_dnew ?_; intro _) | refine' ge_if ?_ | refine' ge_andV' ?_ | refine' ge_orV' ?_ | refine' ge_notV' ?_ | refine' ge_chain' ?_
  | refine' gt_test' ?_ | refine' gt_B' ?_ | refine' gt_and ?_ | refine' gt_or ?_ | refine' gt_not ?_ | refine' nb ?_ | refine' gt_yes ?_
  | refine' ge_dget' ?_ | refine' ge_din' ?_ | refine' ge_dnotin' ?_ | refine' ge_sl ?_ | refine' go_no ?_ | refine' go_some' ?_ | refine' npart ?_ | refine' ge_bm' ?_ | refine' ge_bm0' ?_ | refine' ge_lc ?_ | refine' ge_lenS' ?_ | refine' ge_row' ?_ | refine' ge_join' ?_ | refine' ge_lstRg1' ?_ | refine' nj1 ?_)
local macro_rules | `(tactic| walk_at "gr") => `(tactic| with_reducible first
  | (refine' gr_eqSy ?h1 ?_; (case h1 => decide +kernel)) | (refine' gr_eqSn ?h1 ?_; (case h1 => decide +kernel)) | (refine' gr_neSy ?h1 ?_; (case h1 => decide +kernel)) | (refine' gr_neSn ?h1 ?_; (case h1 => decide +kernel))
  | (refine' gr_inTt ?h1 ?h2 ?_; (case h1 => walk_at "rt"); (case h2 => decide +kernel)) | (refine' gr_inTf ?h1 ?h2 ?_; (case h1 => walk_at "rt"); (case h2 => decide +kernel))
  | refine' gr_addI ?_ | refine' gr_subI ?_ | refine' gr_ltI ?_ | refine' gr_leI ?_ | refine' gr_gtI ?_ | refine' gr_geI ?_ | refine' gr_eqI ?_ | refine' gr_neI ?_ | refine' gr_eqS ?_ | refine' gr_neS ?_ | refine' gr_eqB ?_ | refine' gr_neB ?_
  | refine' is_non ?_ | refine' isn_non ?_ | refine' is_int ?_ | refine' isn_int ?_ | refine' is_ref ?_ | refine' isn_ref ?_ | refine' is_str ?_ | refine' isn_str ?_ | refine' is_bl ?_ | refine' gr_inS0 ?_ | refine' gr_inS1 ?_ | refine' gr_ipI ?_ | refine' gu_neg ?_
  | (refine' gr_modI ?h1 ?_; (case h1 => walk_at "om"))
  | (refine' gr_divI ?h1 ?_; (case h1 => exact cdiv (by walk_at "om") (by walk_at "om")))
  | (refine' gr_mulI ?h1 ?_; (case h1 => first | exact cmulR (by walk_at "om") (by walk_at "om") | exact cmulL (by walk_at "om") (by walk_at "om")))
  | (refine' gr_ixT ?h1 ?h2 ?_; (case h1 => walk_at "rt"); (case h2 => with_unfolding_all rfl))
  | (refine' gl0 ?h1 ?_; (case h1 => walk_at "rl")) | (refine' gl1 ?h1 ?_; (case h1 => walk_at "rl")) | (refine' gl2 ?h1 ?_; (case h1 => walk_at "rl")) | (refine' gl3 ?h1 ?_; (case h1 => walk_at "rl")) | (refine' gl4 ?h1 ?_; (case h1 => walk_at "rl"))
  | (refine' gr_ixI ?h1 ?h2 ?h3 ?h4 ?_; (case h1 => walk_at "rl"); (case h2 => walk_at "il"); (case h3 => walk_at "om"); (case h4 => walk_at "om"))
  | (refine' gr_ixSD ?h1 ?h2 ?h3 ?_; (case h1 => first | omega | (with_unfolding_all decide +kernel)); (case h2 => walk_at "om"); (case h3 => walk_at "om"))
  | (refine' gr_addS ?h1 ?_; (case h1 => exact sz2 (by walk_at "om")))
  | (refine' gr_addL ?h1 ?h2 ?h3 ?_; (case h1 => walk_at "ro"); (case h2 => walk_at "ro"); (case h3 => exact sz2 (by walk_at "om")); intro _))
local macro_rules | `(tactic| walk_at "gc") => `(tactic| with_reducible first
  | refine' gc_min2 ?_ | refine' gc_max2 ?_
  | (refine' gc_lenM ?h1 ?_; (case h1 => walk_at "rl")) | (refine' gc_lenL ?h1 ?_; (case h1 => walk_at "rl")) | (refine' gc_lenT ?h1 ?_; (case h1 => walk_at "rt")) | (refine' gc_lenS ?h1 ?_; (case h1 => exact sz2 (by walk_at "om"))) | (refine' gc_lenD ?h1 ?_; (case h1 => walk_at "ro"))
  | (refine' gc_listL ?h1 ?_; (case h1 => walk_at "rl"); intro _) | (refine' gc_listT ?h1 ?_; (case h1 => walk_at "rt"); intro _) | (refine' gc_listD ?h1 ?_; (case h1 => walk_at "rd"); intro _)
  | (refine' gc_isi ?h1 ?h2 ?h3 ?_; (case h1 => walk_at "cls"); (case h2 => walk_at "tyg"); (case h3 => walk_at "kit"))
  | (refine' gc_isi2t ?h0 ?h1 ?h2 ?h3 ?h4 ?_; (case h0 => walk_at "ro"); (case h1 => walk_at "cls"); (case h2 => walk_at "cls"); (case h3 => walk_at "tyg"); (case h4 => walk_at "kit"))
  | (refine' gc_isi2f ?h0 ?h1 ?h2 ?h3 ?h4 ?h5 ?_; (case h0 => walk_at "ro"); (case h1 => walk_at "cls"); (case h2 => walk_at "cls"); (case h3 => walk_at "tyg"); (case h4 => walk_at "kit"); (case h5 => walk_at "kit")))
local macro_rules | `(tactic| walk_at "nn") => `(tactic| with_reducible first
  | (refine' nnew ?h1 ?_; (case h1 => walk_at "om"); intro _)
  | (refine' nfld ?h1 ?h2 ?h3 ?_; (case h1 => walk_at "ro"); (case h2 => walk_at "fo"); (case h3 => walk_at "lk"))
  | (refine' nfst ?h1 ?h2 ?h3 ?h4 ?_; (case h1 => walk_at "pull"); (case h2 => walk_at "fo"); (case h4 => walk_at "pf"); (case h3 => walk_at "fl"))
  | (refine' nlist ?h1 ?_; (case h1 => walk_at "rl")) | (refine' ntup ?h1 ?_; (case h1 => walk_at "rt")) | refine' nstr ?_
  | (refine' nrng1 ?h1 ?h2 ?_; (case h1 => walk_at "om"); (case h2 => walk_at "om"))
  | (refine' nrng2 ?h1 ?_; (case h1 => refine' ⟨?_, ?_, ?_, ?_⟩ <;> walk_at "om"))
  | (refine' nenum ?h1 ?_; (case h1 => walk_at "rl"))
  | (refine' nbm ?h1 ?_; (case h1 => walk_at "tya")) | (refine' nbm0 ?h1 ?_; (case h1 => walk_at "tya"))
  | (refine' nmet ?h1 ?h2 ?h3 ?_; (case h1 => walk_at "ro"); (case h2 => walk_at "mt"); (case h3 => walk_at "lk"))
  | (refine' ndin0 ?h1 ?h2 ?_; (case h1 => walk_at "rd"); (case h2 => walk_at "kv")) | (refine' ndin1 ?h1 ?h2 ?_; (case h1 => walk_at "rd"); (case h2 => walk_at "kv"))
  | (refine' ndput ?h1 ?h2 ?h3 ?_; (case h1 => walk_at "pull"); (case h2 => walk_at "kv"); (case h3 => walk_at "om"))
  | (refine' nzipT ?h1 ?h2 ?_; (case h1 => walk_at "rt"); (case h2 => walk_at "rt"))
  | (refine' nzipL ?h1 ?h2 ?_; (case h1 => walk_at "rl"); (case h2 => walk_at "rl"))
  | (refine' gsl_to ?h1 ?h2 ?_; (case h1 => walk_at "rl"); (case h2 => walk_at "om"); intro _)
  | (refine' gsl_from ?h1 ?h2 ?_; (case h1 => walk_at "rl"); (case h2 => walk_at "om"); intro _)
  | (refine' nlr1 ?h1 ?h2 ?_; (case h1 => walk_at "om"); (case h2 => walk_at "om"); intro _)
  | (refine' nset ?h1 ?h2 ?h3 ?_; (case h1 => walk_at "pull"); (case h2 => walk_at "om"); (case h3 => walk_at "om"))
  | (refine' npar ?h1 ?h2 ?_; (case h1 => walk_at "set"); (case h2 => walk_at "set"))
  | (refine' gm_append ?h1 ?h2 ?_; (case h1 => walk_at "pull"); (case h2 => exact sz1 (by walk_at "om"))))
local macro_rules | `(tactic| walk_at "gs") => `(tactic| with_reducible first
  | refine' gs_seq ?_ | refine' gs_next ?_ | refine' gs_asg ?_ | (refine' gg_name ?h1 ?_; (case h1 => walk_at "set")) | refine' gs_if ?_ | refine' gs_ret ?_ | refine' gs_retN ?_ | refine' gs_drop ?_ | refine' gs_fld' ?_ | refine' gs_dput' ?_
  | refine' gs_for ?_ | refine' gi_list' ?_ | refine' gi_tup' ?_ | refine' gi_str' ?_ | refine' gi_rng1' ?_ | refine' gi_rng2' ?_ | refine' gi_enum' ?_
  | (refine' gg_tup ?h1 ?h2 ?_; (case h1 => walk_at "rt"); (case h2 => with_unfolding_all rfl)) | refine' ggs_cons ?_ | refine' ggs_nil ?_
  | (refine' gs_aug ?h1 ?_; (case h1 => walk_at "slot")) | refine' gs_break ?_ | refine' gs_cont ?_ | refine' gg_sub' ?_ | refine' gs_par' ?_ | refine' gi_zip' ?_)
local macro_rules | `(tactic| walk_at "st") => `(tactic| first | walk_at "ge" | walk_at "gs" | walk_at "gr" | walk_at "gc" | walk_at "nn" | walk_at "br")
local macro_rules | `(tactic| walk_at "go") => `(tactic| (repeat' walk_at "st"))
local macro_rules | `(tactic| walk_at "cl") => `(tactic| refine Cl.of ?_)
local macro_rules | `(tactic| walk_at "dps") => `(tactic| ((try simp only [List.cons_append, List.nil_append, Bool.not_false, Bool.not_true]); with_reducible repeat (first | exact dps_nil | apply dps_cons dp_bl | apply dps_cons dp_int | apply dps_cons dp_str | apply dps_cons dp_non)))
local macro_rules | `(tactic| walk_at "shp") => `(tactic| (with_reducible repeat (first | exact shpA_nil | apply shp_lst | apply shp_tup | exact shp_bl | exact shp_int | exact shp_non | (refine' shp_str ?h; (case h => decide +kernel)) | refine' shpA_cons ?_ ?_)))
local macro_rules | `(tactic| walk_at "kit") => `(tactic| with_reducible first | exact Txt.q_State_Blocked (by assumption) | exact Txt.q_State_Broken (by assumption) | exact Txt.q_State_Cut (by assumption) | exact Txt.q_State_Done (by assumption) | exact Txt.q_State_Leased (by assumption) | exact Txt.q_State_Open (by assumption) | exact Txt.q_State_Over (by assumption) | exact Txt.q_State_Ready (by assumption) | exact Txt.q_State_Resting (by assumption) | exact Txt.q_Open_Blocked (by assumption) | exact Txt.q_Open_Broken (by assumption) | exact Txt.q_Open_Cut (by assumption) | exact Txt.q_Open_Done (by assumption) | exact Txt.q_Open_Leased (by assumption) | exact Txt.q_Open_Over (by assumption) | exact Txt.q_Open_Ready (by assumption) | exact Txt.q_Open_Resting (by assumption) | exact Txt.q_Open_State (by assumption) | exact Txt.q_Over_Blocked (by assumption) | exact Txt.q_Over_Broken (by assumption) | exact Txt.q_Over_Cut (by assumption) | exact Txt.q_Over_Done (by assumption) | exact Txt.q_Over_Leased (by assumption) | exact Txt.q_Over_Open (by assumption) | exact Txt.q_Over_Ready (by assumption) | exact Txt.q_Over_Resting (by assumption) | exact Txt.q_Over_State (by assumption) | exact Txt.q_Blocked_Broken (by assumption) | exact Txt.q_Blocked_Cut (by assumption) | exact Txt.q_Blocked_Done (by assumption) | exact Txt.q_Blocked_Leased (by assumption) | exact Txt.q_Blocked_Open (by assumption) | exact Txt.q_Blocked_Over (by assumption) | exact Txt.q_Blocked_Ready (by assumption) | exact Txt.q_Blocked_Resting (by assumption) | exact Txt.q_Blocked_State (by assumption) | exact Txt.q_Ready_Blocked (by assumption) | exact Txt.q_Ready_Broken (by assumption) | exact Txt.q_Ready_Cut (by assumption) | exact Txt.q_Ready_Done (by assumption) | exact Txt.q_Ready_Leased (by assumption) | exact Txt.q_Ready_Open (by assumption) | exact Txt.q_Ready_Over (by assumption) | exact Txt.q_Ready_Resting (by assumption) | exact Txt.q_Ready_State (by assumption) | exact Txt.q_Leased_Blocked (by assumption) | exact Txt.q_Leased_Broken (by assumption) | exact Txt.q_Leased_Cut (by assumption) | exact Txt.q_Leased_Done (by assumption) | exact Txt.q_Leased_Open (by assumption) | exact Txt.q_Leased_Over (by assumption) | exact Txt.q_Leased_Ready (by assumption) | exact Txt.q_Leased_Resting (by assumption) | exact Txt.q_Leased_State (by assumption) | exact Txt.q_Resting_Blocked (by assumption) | exact Txt.q_Resting_Broken (by assumption) | exact Txt.q_Resting_Cut (by assumption) | exact Txt.q_Resting_Done (by assumption) | exact Txt.q_Resting_Leased (by assumption) | exact Txt.q_Resting_Open (by assumption) | exact Txt.q_Resting_Over (by assumption) | exact Txt.q_Resting_Ready (by assumption) | exact Txt.q_Resting_State (by assumption) | exact Txt.q_Done_Blocked (by assumption) | exact Txt.q_Done_Broken (by assumption) | exact Txt.q_Done_Cut (by assumption) | exact Txt.q_Done_Leased (by assumption) | exact Txt.q_Done_Open (by assumption) | exact Txt.q_Done_Over (by assumption) | exact Txt.q_Done_Ready (by assumption) | exact Txt.q_Done_Resting (by assumption) | exact Txt.q_Done_State (by assumption) | exact Txt.q_Broken_Blocked (by assumption) | exact Txt.q_Broken_Cut (by assumption) | exact Txt.q_Broken_Done (by assumption) | exact Txt.q_Broken_Leased (by assumption) | exact Txt.q_Broken_Open (by assumption) | exact Txt.q_Broken_Over (by assumption) | exact Txt.q_Broken_Ready (by assumption) | exact Txt.q_Broken_Resting (by assumption) | exact Txt.q_Broken_State (by assumption) | exact Txt.q_Cut_Blocked (by assumption) | exact Txt.q_Cut_Broken (by assumption) | exact Txt.q_Cut_Done (by assumption) | exact Txt.q_Cut_Leased (by assumption) | exact Txt.q_Cut_Open (by assumption) | exact Txt.q_Cut_Over (by assumption) | exact Txt.q_Cut_Ready (by assumption) | exact Txt.q_Cut_Resting (by assumption) | exact Txt.q_Cut_State (by assumption) | exact Txt.q_Job_Blocked (by assumption) | exact Txt.q_Job_Broken (by assumption) | exact Txt.q_Job_Cut (by assumption) | exact Txt.q_Job_Done (by assumption) | exact Txt.q_Job_Leased (by assumption) | exact Txt.q_Job_Open (by assumption) | exact Txt.q_Job_Over (by assumption) | exact Txt.q_Job_Ready (by assumption) | exact Txt.q_Job_Resting (by assumption) | exact Txt.q_Job_State (by assumption))
local macro_rules | `(tactic| walk_at "fo") => `(tactic| with_reducible first | exact fo_Blocked_left (by assumption) | exact fo_Ready_fails (by assumption) | exact fo_Leased_fails (by assumption) | exact fo_Leased_number (by assumption) | exact fo_Resting_fails (by assumption) | exact fo_Resting_until (by assumption) | exact fo_Done_fails (by assumption) | exact fo_Done_number (by assumption) | exact fo_Done_turn (by assumption) | exact fo_Broken_fails (by assumption) | exact fo_Broken_why (by assumption) | exact fo_Cut_need (by assumption) | exact fo_Job_name (by assumption) | exact fo_Job_needs (by assumption) | exact fo_Job_rank (by assumption) | exact fo_Job_span (by assumption) | exact fo_Job_tries (by assumption) | exact fo_Job_wait (by assumption) | exact fo_Job_grow (by assumption))
local macro_rules | `(tactic| walk_at "lk") => `(tactic| with_reducible first | exact fState_no_count_fails | exact fState_no_cut_off | exact fState_no_ended | exact fState_no_failed | exact fState_no_freed | exact fState_no_is_over | exact fState_no_leased | exact fState_no_rested | exact fState_no_told | exact fState_no_word | exact fOpen_no_count_fails | exact fOpen_no_cut_off | exact fOpen_no_ended | exact fOpen_no_failed | exact fOpen_no_freed | exact fOpen_no_is_over | exact fOpen_no_leased | exact fOpen_no_rested | exact fOpen_no_told | exact fOpen_no_word | exact fOver_no_count_fails | exact fOver_no_cut_off | exact fOver_no_ended | exact fOver_no_failed | exact fOver_no_freed | exact fOver_no_is_over | exact fOver_no_leased | exact fOver_no_rested | exact fOver_no_told | exact fOver_no_word | exact fBlocked_left | exact fBlocked_no_count_fails | exact fBlocked_no_cut_off | exact fBlocked_no_ended | exact fBlocked_no_failed | exact fBlocked_no_freed | exact fBlocked_no_is_over | exact fBlocked_no_leased | exact fBlocked_no_rested | exact fBlocked_no_told | exact fBlocked_no_word | exact fReady_fails | exact fReady_no_count_fails | exact fReady_no_cut_off | exact fReady_no_ended | exact fReady_no_failed | exact fReady_no_freed | exact fReady_no_is_over | exact fReady_no_leased | exact fReady_no_rested | exact fReady_no_told | exact fReady_no_word | exact fLeased_fails | exact fLeased_number | exact fLeased_no_count_fails | exact fLeased_no_cut_off | exact fLeased_no_ended | exact fLeased_no_failed | exact fLeased_no_freed | exact fLeased_no_is_over | exact fLeased_no_leased | exact fLeased_no_rested | exact fLeased_no_told | exact fLeased_no_word | exact fResting_fails | exact fResting_until | exact fResting_no_count_fails | exact fResting_no_cut_off | exact fResting_no_ended | exact fResting_no_failed | exact fResting_no_freed | exact fResting_no_is_over | exact fResting_no_leased | exact fResting_no_rested | exact fResting_no_told | exact fResting_no_word | exact fDone_fails | exact fDone_number | exact fDone_turn | exact fDone_no_count_fails | exact fDone_no_cut_off | exact fDone_no_ended | exact fDone_no_failed | exact fDone_no_freed | exact fDone_no_is_over | exact fDone_no_leased | exact fDone_no_rested | exact fDone_no_told | exact fDone_no_word | exact fBroken_fails | exact fBroken_why | exact fBroken_no_count_fails | exact fBroken_no_cut_off | exact fBroken_no_ended | exact fBroken_no_failed | exact fBroken_no_freed | exact fBroken_no_is_over | exact fBroken_no_leased | exact fBroken_no_rested | exact fBroken_no_told | exact fBroken_no_word | exact fCut_need | exact fCut_no_count_fails | exact fCut_no_cut_off | exact fCut_no_ended | exact fCut_no_failed | exact fCut_no_freed | exact fCut_no_is_over | exact fCut_no_leased | exact fCut_no_rested | exact fCut_no_told | exact fCut_no_word | exact fJob_name | exact fJob_needs | exact fJob_rank | exact fJob_span | exact fJob_tries | exact fJob_wait | exact fJob_grow | exact lk_put | (apply lk_ne (by decide +kernel); walk_at "lk") | exact lk_nil | (apply lk_no (by decide +kernel); walk_at "lk"))
local macro_rules | `(tactic| walk_at "pf") => `(tactic| with_reducible first | exact fBlocked_put_left | exact fBlocked_all | exact fReady_put_fails | exact fReady_all | exact fLeased_put_fails | exact fLeased_all | exact fLeased_put_number | exact fLeased_of_Ready | exact fResting_put_fails | exact fResting_all | exact fResting_put_until | exact fResting_of_Ready | exact fDone_put_fails | exact fDone_all | exact fDone_put_number | exact fDone_put_turn | exact fDone_of_Leased | exact fBroken_put_fails | exact fBroken_all | exact fBroken_put_why | exact fBroken_of_Ready | exact fCut_put_need | exact fCut_all | exact fJob_put_name | exact fJob_all | exact fJob_put_needs | exact fJob_put_rank | exact fJob_put_span | exact fJob_put_tries | exact fJob_put_wait | exact fJob_put_grow | exact rfl)
local macro_rules | `(tactic| walk_at "ins") => `(tactic| with_reducible first | exact Txt.i_State (by assumption) | exact Txt.i_Open (by assumption) | exact Txt.i_Over (by assumption) | exact Txt.i_Blocked (by assumption) | exact Txt.i_Ready (by assumption) | exact Txt.i_Leased (by assumption) | exact Txt.i_Resting (by assumption) | exact Txt.i_Done (by assumption) | exact Txt.i_Broken (by assumption) | exact Txt.i_Cut (by assumption) | exact Txt.i_Job (by assumption))
local macro_rules | `(tactic| walk_at "fl") => `(tactic| first | (rw [fBlocked_len]; decide) | (rw [fReady_len]; decide) | (rw [fLeased_len]; decide) | (rw [fResting_len]; decide) | (rw [fDone_len]; decide) | (rw [fBroken_len]; decide) | (rw [fCut_len]; decide) | (rw [fJob_len]; decide) | exact fl_of (by repeat (first | exact fl0 | apply fl1)) (by decide))

theorem in_strs {x : Str} {xs : List Str} : inV (.str x) (xs.map V.str) = decide (x ∈ xs) := by
  unfold inV
  rw [List.any_map, Bool.eq_iff_iff, List.any_eq_true, decide_eq_true_iff]
  constructor
  · rintro ⟨y, hy, e⟩
    have e2 : y = x := by simpa [Function.comp, eqV] using e
    rwa [e2] at hy
  · intro h
    exact ⟨x, h, by simp [Function.comp, eqV]⟩
theorem flat_strs (xs : List Str) : (xs.map V.str).all flatV = true := by simp [flatV]
theorem take_more {α : Type} : ∀ {l : List α} {i : Nat} {x : α}, l[i]? = some x → l.take (i + 1) = l.take i ++ [x] := by
  intro l i x h
  rw [List.take_add_one, h]
  rfl
theorem not_taken {α : Type} {l : List α} {i : Nat} {x : α} (n : l.Nodup) (h : l[i]? = some x) : x ∉ l.take i := fun m => by
  have hi := (List.getElem?_eq_some_iff.mp h).1
  have e : l = l.take i ++ x :: l.drop (i + 1) := by
    have := (List.take_append_drop i l).symm
    rw [List.drop_eq_getElem_cons hi] at this
    have e2 : l[i] = x := by
      rw [List.getElem?_eq_getElem hi] at h
      exact Option.some.inj h
    rwa [e2] at this
  rw [e] at n
  exact (List.nodup_append.mp n).2.2 x m x (.head _) rfl
theorem at_map {α β : Type} {f : α → β} {l : List α} {i : Nat} {x : β} (h : (l.map f)[i]? = some x) : ∃ a, l[i]? = some a ∧ x = f a := by
  rw [List.getElem?_map] at h
  cases e : l[i]? with
  | none => rw [e] at h; cases h
  | some a => rw [e] at h; exact ⟨a, rfl, (Option.some.inj h).symm⟩
theorem restF_b {w g : Int} (h0 : 0 ≤ w) (h1 : w ≤ 100000) (h2 : 0 ≤ g) : ∀ n, 0 ≤ restF w g n ∧ restF w g n ≤ 100000
  | 0 => ⟨h0, h1⟩
  | n + 1 => by
    have ih := restF_b h0 h1 h2 n
    show 0 ≤ min (restF w g n * g) 100000 ∧ min (restF w g n * g) 100000 ≤ 100000
    have := Int.mul_nonneg ih.1 h2
    omega
section
variable {K : PySem.W.Frag} {mg : Str → Option Value} {a : Ad} {A : SH} {vs : List V} {Φ : V → SH → Prop} {Ψ : Value → Option Addr → SH → Prop} {Ψ' : Value → Option Addr → L2.St → SH → Prop} {W : WX}
theorem w_law_mixed (T : Txt K mg a) (h : S_law_mixed K a vs A Φ Ψ) (hx : WPost Ψ' W) : GS (t_law_mixed K a W) (AEf Φ) (L2.start ["_law_cell", "_law_k", "_law_number"] vs) A := by
  obtain ⟨c, k, rfl, h0, h1, q⟩ := h
  show GS _ _ [some (.int c), some (.int k), none] A
  unfold t_law_mixed
  walk_at "go"
  exact Cl.of q
theorem w_law_cell_at (T : Txt K mg a) (h : S_law_cell_at K a vs A Φ Ψ) (hx : WPost Ψ' W) : GS (t_law_cell_at K a W) (AEf Φ) (L2.start ["_law_script", "_law_k"] vs) A := by
  obtain ⟨p, ns, k, rfl, hr, hn, h0, h1, q⟩ := h
  show GS _ _ [some (.ref p), some (.int k)] A
  unfold t_law_cell_at
  walk_at "go"
  · exact Cl.of q
  · refine Cl.of ?_
    rw [List.getD_eq_getElem?_getD, List.getElem?_eq_none (by omega)] at q
    exact q
theorem w_is_whole (T : Txt K mg a) (h : S_is_whole K a vs A Φ Ψ) (hx : WPost Ψ' W) : GS (t_is_whole K a W) (AEf Φ) (L2.start ["thing"] vs) A := by
  obtain ⟨i, rfl, q⟩ := h
  show GS _ _ [some (.int i)] A
  unfold t_is_whole
  walk_at "go"
  exact Cl.of q
theorem w_law_whole (T : Txt K mg a) (h : S_law_whole K a vs A Φ Ψ) (hx : WPost Ψ' W) : GS (t_law_whole K a W) (AEf Φ) (L2.start ["_law_thing"] vs) A := by
  obtain ⟨i, rfl, q⟩ := h
  show GS _ _ [some (.int i)] A
  unfold t_law_whole
  walk_at "go"
  exact Cl.of q
theorem w_is_made_of (T : Txt K mg a) (h : S_is_made_of K a vs A Φ Ψ) (hx : WPost Ψ' W) : GS (t_is_made_of K a W) (AEf Φ) (L2.start ["thing", "signs", "most", "sign"] vs) A := by
  obtain ⟨z, s, m, rfl, hz, q⟩ := h
  show GS _ _ [some (.str z), some (.str s), some (.int m), none] A
  unfold t_is_made_of
  walk_at "go"
  · rename_i c1 c2
    have e : madeOf z s m = false := by simp [madeOf, c1, c2]
    rw [e] at q
    exact Cl.of q
  · rename_i c1 c2
    refine gf_str (fun i σ A' => ∃ v, σ = [some (.str z), some (.str s), some (.int m), v] ∧ Le A A' ∧ (z.cps.toList.take i).all (fun c => decide (c ∈ s.cps.toList)) = true) (Cl.of ⟨none, rfl, Le.refl, rfl⟩) ?_ ?_
    · rintro i c σ A' hc ⟨v, rfl, hle, hall⟩
      have hc' : z.cps.toList[i]? = some c := by simpa using hc
      walk_at "go"
      · rename_i c3
        have e : madeOf z s m = false := by
          have : z.cps.toList.all (fun c => decide (c ∈ s.cps.toList)) = false := by
            rw [List.all_eq_false]
            exact ⟨c, List.mem_of_getElem? hc', by simpa using c3⟩
          simp only [madeOf, this, Bool.and_false]
        rw [e] at q
        exact Cl.le hle q
      · rename_i c3
        walk_at "cl"
        refine ⟨_, rfl, hle, ?_⟩
        rw [take_more hc', List.all_append, hall]
        simpa using c3
    · rintro σ A' ⟨v, rfl, hle, hall⟩
      walk_at "go"
      have e : madeOf z s m = true := by
        have h3 : z.cps.toList.take z.cps.size = z.cps.toList := List.take_of_length_le (by simp)
        rw [h3] at hall
        simp only [madeOf, hall, c1, c2, decide_true, Bool.and_true]
      rw [e] at q
      exact Cl.le hle q
  · rename_i c1
    have e : madeOf z s m = false := by simp [madeOf, c1]
    rw [e] at q
    exact Cl.of q
theorem w_is_among (T : Txt K mg a) (h : S_is_among K a vs A Φ Ψ) (hx : WPost Ψ' W) : GS (t_is_among K a W) (AEf Φ) (L2.start ["thing", "least", "most"] vs) A := by
  obtain ⟨i, l, m, rfl, q1, q2⟩ := h
  show GS _ _ [some (.int i), some (.int l), some (.int m)] A
  unfold t_is_among
  walk_at "go"
  refine ge_cal hx ?_
  walk_at "go"
  refine ⟨_, rfl, ?_⟩
  walk_at "go"
  · rename_i c
    by_cases c2 : i ≤ m
    · rw [decide_eq_true c2]
      exact Cl.of (q1 ⟨c, c2⟩)
    · rw [decide_eq_false c2]
      exact Cl.of (q2 fun z => c2 z.2)
  · rename_i c
    exact Cl.of (q2 fun z => c z.1)
theorem w_is_name (T : Txt K mg a) (h : S_is_name K a vs A Φ Ψ) (hx : WPost Ψ' W) : GS (t_is_name K a W) (AEf Φ) (L2.start ["thing"] vs) A := by
  obtain ⟨z, rfl, hz, q⟩ := h
  show GS _ _ [some (.str z)] A
  unfold t_is_name
  walk_at "go"
  refine ge_cal hx ?_
  walk_at "go"
  exact ⟨_, _, _, rfl, hz, Cl.of q⟩
theorem w_wait_after (T : Txt K mg a) (h : S_wait_after K a vs A Φ Ψ) (hx : WPost Ψ' W) : GS (t_wait_after K a W) (AEf Φ) (L2.start ["job", "fails", "turns", "turn"] vs) A := by
  obtain ⟨p, j, fails, rfl, ⟨dx, nd, hj, hn⟩, ok, h0, h1, q⟩ := h
  obtain ⟨_, _, _, _, _, _, o1, o2, o3, o4⟩ := ok
  show GS _ _ [some (.ref p), some (.int fails), none, none] A
  unfold t_wait_after
  walk_at "go"
  refine gf_range (fun i σ A' => ∃ v, σ = [some (.ref p), some (.int fails), some (.int (restF j.wait j.grow i)), v] ∧ Le A A') ?_ ?_ ?_
  · exact Cl.of ⟨none, rfl, Le.refl⟩
  · rintro i σ A' hi ⟨v, rfl, hle⟩
    have hb := restF_b o1 (by omega) (by omega) i
    walk_at "go"
    walk_at "cl"
    exact ⟨_, rfl, hle⟩
  · rintro σ A' ⟨v, rfl, hle⟩
    walk_at "go"
    exact Cl.le hle q
theorem w_need_numbers (T : Txt K mg a) (h : S_need_numbers K a vs A Φ Ψ) (hx : WPost Ψ' W) : GS (t_need_numbers K a W) (AEf Φ) (L2.start ["numbers", "k", "number"] vs) A := by
  obtain ⟨l, r, s, t, w, g, rfl, hl, b⟩ := h
  obtain ⟨b1, b2, b3, b4, b5, b6, b7, b8, b9, b10, q⟩ := b
  show GS _ _ [some (.ref l), none, none] A
  unfold t_need_numbers
  walk_at "go"
  refine gf_enum (xs := [.int r, .int s, .int t, .int w, .int g]) (fun i σ A' => ∃ u v, σ = [some (.ref l), u, v] ∧ Le A A') (Cl.of ⟨none, none, rfl, Le.refl⟩) (fun i σ A' _ ⟨_, _, _, hle⟩ => RL.le hle (RL.ro hl)) ?_ ?_
  · rintro i x σ A' p hi ⟨u, v, rfl, hle⟩
    have kL : ∀ A, RT K A a.gLEAST [.int 0, .int 1, .int 1, .int 0, .int 1] := fun A => RT.k T.k_LEAST
    have kM : ∀ A, RT K A a.gMOST [.int 99, .int 1000, .int 20, .int 1000, .int 4] := fun A => RT.k T.k_MOST
    have h5 : i < 5 := (List.getElem?_eq_some_iff.mp hi).1
    obtain rfl | rfl | rfl | rfl | rfl : i = 0 ∨ i = 1 ∨ i = 2 ∨ i = 3 ∨ i = 4 := by omega
    all_goals cases hi
    all_goals
      walk_at "go"
      refine ge_cal hx ?_
      walk_at "go"
      refine gr_ixT (kL _) (by with_unfolding_all rfl) ?_
      walk_at "go"
      refine gr_ixT (kM _) (by with_unfolding_all rfl) ?_
      walk_at "go"
      refine ⟨_, _, _, rfl, fun _ => ?_, fun c => absurd (by omega) c⟩
      walk_at "go"
      walk_at "cl"
      exact ⟨_, _, rfl, hle.drop⟩
  · rintro σ A' ⟨u, v, rfl, hle⟩
    exact Cl.le hle q
theorem w_own_needs (T : Txt K mg a) (h : S_own_needs K a vs A Φ Ψ) (hx : WPost Ψ' W) : GS (t_own_needs K a W) (AEf Φ) (L2.start ["name", "needs", "found", "need"] vs) A := by
  obtain ⟨z, x, ns, rfl, hl, ⟨n8, hn, nd⟩, q⟩ := h
  show GS _ _ [some (.str z), some x, none, none] A
  unfold t_own_needs
  rcases hl with ⟨rfl, rfl⟩ | ⟨l, rfl, hl⟩
  · walk_at "go"
    exact Cl.of (q _)
  · have hl8 : (ns.map V.str).length ≤ 8 := by rw [List.length_map]; exact n8
    walk_at "go"
    rename_i p1 p2
    refine gf_list (xs := ns.map V.str) (fun i σ A' => ∃ v, sg p2 (HO.lst ((ns.take i).map V.str)) :: sg p1 (HO.tup [V.ty "list", V.ty "tuple"]) :: A = A' ∧ σ = [some (.str z), some (.ref l), some (.ref p2), v]) (Cl.of ⟨none, rfl, rfl⟩) (fun i σ A' _ ⟨_, h, _⟩ => by rw [← h]; exact (RL.ro hl).tail.tail) ?_ ?_
    · rintro i x σ A' hi ⟨v, rfl, rfl⟩
      obtain ⟨y, hy, rfl⟩ := at_map hi
      obtain ⟨y1, y2, y3⟩ := hn y (List.mem_of_getElem? hy)
      have hlt := (List.getElem?_eq_some_iff.mp hy).1
      have hll : ((ns.take i).map V.str).length ≤ 8 := by rw [List.length_map, List.length_take]; omega
      walk_at "go"
      refine ge_cal hx ?_
      walk_at "go"
      refine ⟨y, rfl, y3, ?_⟩
      rw [y1]
      walk_at "go"
      refine gr_inL0 RL.head rfl (flat_strs _) ?_
      rw [in_strs, decide_eq_false (not_taken nd hy)]
      walk_at "go"
      walk_at "cl"
      exact ⟨_, by rw [take_more hy, List.map_append]; rfl, rfl⟩
    · rintro σ A' ⟨v, rfl, rfl⟩
      rw [List.length_map, List.take_length]
      walk_at "go"
      exact Cl.le (by walk_at "le") (q p2)
theorem NeedsAt.tail {B : SH} {h : Hp} {x : V} {ns : List Str} (n : NeedsAt B x ns) : NeedsAt (h :: B) x ns := n.elim .inl fun ⟨l, e, r⟩ => .inr ⟨l, e, r.tail⟩
theorem w_Job_init (T : Txt K mg a) (h : S_Job_init K a vs A Φ Ψ) (hx : WPost Ψ' W) : GS (t_Job_init K a W) (AEf Φ) (L2.start ["self", "name", "needs", "rank", "span", "tries", "wait", "grow"] vs) A := by
  obtain ⟨p, dx, x, j, B, rfl, hp, hl, hnd, o1, hn, ok, q⟩ := h
  obtain ⟨o2, o3, o4, o5, o6, o7, o8, o9, o10, o11⟩ := id ok
  show GS _ _ [some (.ref p), some (.str j.name), some x, some (.int j.rank), some (.int j.span), some (.int j.tries), some (.int j.wait), some (.int j.grow)] A
  refine gs_as fun H h => ⟨_, hp.has h, ?_⟩
  unfold t_Job_init
  walk_at "go"
  refine ge_cal hx ?_
  walk_at "go"
  refine ⟨_, rfl, hn, ?_⟩
  rw [o1]
  walk_at "go"
  refine ge_cal hx ?_
  walk_at "go"
  refine ⟨_, _, j.needs, rfl, hl.tail, hnd, fun nd => ?_⟩
  walk_at "go"
  refine ge_cal hx ?_
  walk_at "go"
  refine ⟨_, _, _, _, _, _, rfl, .head, o2, o3, o4, o5, o6, o7, o8, o9, o10, o11, ?_⟩
  walk_at "go"
  exact Cl.le (by walk_at "le") (q nd)
end

section
variable {K : PySem.W.Frag} {mg : Str → Option Value} {a : Ad} {A : SH} {vs : List V} {Φ : V → SH → Prop} {Ψ : Value → Option Addr → SH → Prop} {Ψ' : Value → Option Addr → L2.St → SH → Prop} {W : WX}
theorem w_State_is_over (T : Txt K mg a) (h : S_State_is_over K a vs A Φ Ψ) (hx : WPost Ψ' W) : GS (t_State_is_over K a W) (AEf Φ) (L2.start ["self"] vs) A := by
  obtain ⟨x, rfl, q⟩ := h
  show GS _ _ [some x] A
  unfold t_State_is_over
  walk_at "go"
  exact Cl.of q
theorem w_State_count_fails (T : Txt K mg a) (h : S_State_count_fails K a vs A Φ Ψ) (hx : WPost Ψ' W) : GS (t_State_count_fails K a W) (AEf Φ) (L2.start ["self"] vs) A := by
  obtain ⟨x, rfl, q⟩ := h
  show GS _ _ [some x] A
  unfold t_State_count_fails
  walk_at "go"
  exact Cl.of q
theorem w_Over_is_over (T : Txt K mg a) (h : S_Over_is_over K a vs A Φ Ψ) (hx : WPost Ψ' W) : GS (t_Over_is_over K a W) (AEf Φ) (L2.start ["self"] vs) A := by
  obtain ⟨x, rfl, q⟩ := h
  show GS _ _ [some x] A
  unfold t_Over_is_over
  walk_at "go"
  exact Cl.of q
theorem w_Blocked_init (T : Txt K mg a) (h : S_Blocked_init K a vs A Φ Ψ) (hx : WPost Ψ' W) : GS (t_Blocked_init K a W) (AEf Φ) (L2.start ["self", "left"] vs) A := by
  obtain ⟨p, dx, l, B, rfl, hp, q⟩ := h
  show GS _ _ [some (.ref p), some (.int l)] A
  refine gs_as fun H h => ⟨_, hp.has h, ?_⟩
  unfold t_Blocked_init
  walk_at "go"
  exact Cl.le (by walk_at "le") q
theorem w_Blocked_word (T : Txt K mg a) (h : S_Blocked_word K a vs A Φ Ψ) (hx : WPost Ψ' W) : GS (t_Blocked_word K a W) (AEf Φ) (L2.start ["self"] vs) A := by
  obtain ⟨x, rfl, q⟩ := h
  show GS _ _ [some x] A
  unfold t_Blocked_word
  walk_at "go"
  exact Cl.of q
theorem w_Blocked_told (T : Txt K mg a) (h : S_Blocked_told K a vs A Φ Ψ) (hx : WPost Ψ' W) : GS (t_Blocked_told K a W) (AEf Φ) (L2.start ["self"] vs) A := by
  obtain ⟨p, dx, l, rfl, hp, q⟩ := h
  show GS _ _ [some (.ref p)] A
  unfold t_Blocked_told
  walk_at "go"
  refine ge_met' hx ?_
  walk_at "go"
  refine ⟨_, rfl, ?_⟩
  walk_at "go"
  exact Cl.of (q _)
theorem w_Ready_init (T : Txt K mg a) (h : S_Ready_init K a vs A Φ Ψ) (hx : WPost Ψ' W) : GS (t_Ready_init K a W) (AEf Φ) (L2.start ["self", "fails"] vs) A := by
  obtain ⟨p, dx, f, B, rfl, hp, q⟩ := h
  show GS _ _ [some (.ref p), some (.int f)] A
  refine gs_as fun H h => ⟨_, hp.has h, ?_⟩
  unfold t_Ready_init
  walk_at "go"
  exact Cl.le (by walk_at "le") q
theorem w_Ready_word (T : Txt K mg a) (h : S_Ready_word K a vs A Φ Ψ) (hx : WPost Ψ' W) : GS (t_Ready_word K a W) (AEf Φ) (L2.start ["self"] vs) A := by
  obtain ⟨x, rfl, q⟩ := h
  show GS _ _ [some x] A
  unfold t_Ready_word
  walk_at "go"
  exact Cl.of q
theorem w_Ready_told (T : Txt K mg a) (h : S_Ready_told K a vs A Φ Ψ) (hx : WPost Ψ' W) : GS (t_Ready_told K a W) (AEf Φ) (L2.start ["self"] vs) A := by
  obtain ⟨p, dx, f, rfl, hp, q⟩ := h
  show GS _ _ [some (.ref p)] A
  unfold t_Ready_told
  walk_at "go"
  refine ge_met' hx ?_
  walk_at "go"
  refine ⟨_, rfl, ?_⟩
  walk_at "go"
  exact Cl.of (q _)
theorem w_Ready_count_fails (T : Txt K mg a) (h : S_Ready_count_fails K a vs A Φ Ψ) (hx : WPost Ψ' W) : GS (t_Ready_count_fails K a W) (AEf Φ) (L2.start ["self"] vs) A := by
  obtain ⟨p, dx, f, rfl, hp, q⟩ := h
  show GS _ _ [some (.ref p)] A
  unfold t_Ready_count_fails
  walk_at "go"
  exact Cl.of q
theorem w_Leased_init (T : Txt K mg a) (h : S_Leased_init K a vs A Φ Ψ) (hx : WPost Ψ' W) : GS (t_Leased_init K a W) (AEf Φ) (L2.start ["self", "fails", "number"] vs) A := by
  obtain ⟨p, dx, f, n, B, rfl, hp, q⟩ := h
  show GS _ _ [some (.ref p), some (.int f), some (.int n)] A
  refine gs_as fun H h => ⟨_, hp.has h, ?_⟩
  unfold t_Leased_init
  walk_at "go"
  exact Cl.le (by walk_at "le") q
theorem w_Leased_word (T : Txt K mg a) (h : S_Leased_word K a vs A Φ Ψ) (hx : WPost Ψ' W) : GS (t_Leased_word K a W) (AEf Φ) (L2.start ["self"] vs) A := by
  obtain ⟨x, rfl, q⟩ := h
  show GS _ _ [some x] A
  unfold t_Leased_word
  walk_at "go"
  exact Cl.of q
theorem w_Leased_told (T : Txt K mg a) (h : S_Leased_told K a vs A Φ Ψ) (hx : WPost Ψ' W) : GS (t_Leased_told K a W) (AEf Φ) (L2.start ["self"] vs) A := by
  obtain ⟨p, dx, f, n, rfl, hp, q⟩ := h
  show GS _ _ [some (.ref p)] A
  unfold t_Leased_told
  walk_at "go"
  refine ge_met' hx ?_
  walk_at "go"
  refine ⟨_, rfl, ?_⟩
  walk_at "go"
  exact Cl.of (q _)
theorem w_Leased_count_fails (T : Txt K mg a) (h : S_Leased_count_fails K a vs A Φ Ψ) (hx : WPost Ψ' W) : GS (t_Leased_count_fails K a W) (AEf Φ) (L2.start ["self"] vs) A := by
  obtain ⟨p, dx, f, n, rfl, hp, q⟩ := h
  show GS _ _ [some (.ref p)] A
  unfold t_Leased_count_fails
  walk_at "go"
  exact Cl.of q
theorem w_Resting_init (T : Txt K mg a) (h : S_Resting_init K a vs A Φ Ψ) (hx : WPost Ψ' W) : GS (t_Resting_init K a W) (AEf Φ) (L2.start ["self", "fails", "until"] vs) A := by
  obtain ⟨p, dx, f, u, B, rfl, hp, q⟩ := h
  show GS _ _ [some (.ref p), some (.int f), some (.int u)] A
  refine gs_as fun H h => ⟨_, hp.has h, ?_⟩
  unfold t_Resting_init
  walk_at "go"
  exact Cl.le (by walk_at "le") q
theorem w_Resting_word (T : Txt K mg a) (h : S_Resting_word K a vs A Φ Ψ) (hx : WPost Ψ' W) : GS (t_Resting_word K a W) (AEf Φ) (L2.start ["self"] vs) A := by
  obtain ⟨x, rfl, q⟩ := h
  show GS _ _ [some x] A
  unfold t_Resting_word
  walk_at "go"
  exact Cl.of q
theorem w_Resting_told (T : Txt K mg a) (h : S_Resting_told K a vs A Φ Ψ) (hx : WPost Ψ' W) : GS (t_Resting_told K a W) (AEf Φ) (L2.start ["self"] vs) A := by
  obtain ⟨p, dx, f, u, rfl, hp, q⟩ := h
  show GS _ _ [some (.ref p)] A
  unfold t_Resting_told
  walk_at "go"
  refine ge_met' hx ?_
  walk_at "go"
  refine ⟨_, rfl, ?_⟩
  walk_at "go"
  exact Cl.of (q _)
theorem w_Resting_count_fails (T : Txt K mg a) (h : S_Resting_count_fails K a vs A Φ Ψ) (hx : WPost Ψ' W) : GS (t_Resting_count_fails K a W) (AEf Φ) (L2.start ["self"] vs) A := by
  obtain ⟨p, dx, f, u, rfl, hp, q⟩ := h
  show GS _ _ [some (.ref p)] A
  unfold t_Resting_count_fails
  walk_at "go"
  exact Cl.of q
theorem w_Done_init (T : Txt K mg a) (h : S_Done_init K a vs A Φ Ψ) (hx : WPost Ψ' W) : GS (t_Done_init K a W) (AEf Φ) (L2.start ["self", "fails", "number", "turn"] vs) A := by
  obtain ⟨p, dx, f, n, t, B, rfl, hp, q⟩ := h
  show GS _ _ [some (.ref p), some (.int f), some (.int n), some (.int t)] A
  refine gs_as fun H h => ⟨_, hp.has h, ?_⟩
  unfold t_Done_init
  walk_at "go"
  exact Cl.le (by walk_at "le") q
theorem w_Done_word (T : Txt K mg a) (h : S_Done_word K a vs A Φ Ψ) (hx : WPost Ψ' W) : GS (t_Done_word K a W) (AEf Φ) (L2.start ["self"] vs) A := by
  obtain ⟨x, rfl, q⟩ := h
  show GS _ _ [some x] A
  unfold t_Done_word
  walk_at "go"
  exact Cl.of q
theorem w_Done_told (T : Txt K mg a) (h : S_Done_told K a vs A Φ Ψ) (hx : WPost Ψ' W) : GS (t_Done_told K a W) (AEf Φ) (L2.start ["self"] vs) A := by
  obtain ⟨p, dx, f, n, t, rfl, hp, q⟩ := h
  show GS _ _ [some (.ref p)] A
  unfold t_Done_told
  walk_at "go"
  refine ge_met' hx ?_
  walk_at "go"
  refine ⟨_, rfl, ?_⟩
  walk_at "go"
  exact Cl.of (q _)
theorem w_Done_count_fails (T : Txt K mg a) (h : S_Done_count_fails K a vs A Φ Ψ) (hx : WPost Ψ' W) : GS (t_Done_count_fails K a W) (AEf Φ) (L2.start ["self"] vs) A := by
  obtain ⟨p, dx, f, n, t, rfl, hp, q⟩ := h
  show GS _ _ [some (.ref p)] A
  unfold t_Done_count_fails
  walk_at "go"
  exact Cl.of q
theorem w_Broken_init (T : Txt K mg a) (h : S_Broken_init K a vs A Φ Ψ) (hx : WPost Ψ' W) : GS (t_Broken_init K a W) (AEf Φ) (L2.start ["self", "fails", "why"] vs) A := by
  obtain ⟨p, dx, f, w, B, rfl, hp, q⟩ := h
  show GS _ _ [some (.ref p), some (.int f), some (.str w)] A
  refine gs_as fun H h => ⟨_, hp.has h, ?_⟩
  unfold t_Broken_init
  walk_at "go"
  exact Cl.le (by walk_at "le") q
theorem w_Broken_word (T : Txt K mg a) (h : S_Broken_word K a vs A Φ Ψ) (hx : WPost Ψ' W) : GS (t_Broken_word K a W) (AEf Φ) (L2.start ["self"] vs) A := by
  obtain ⟨x, rfl, q⟩ := h
  show GS _ _ [some x] A
  unfold t_Broken_word
  walk_at "go"
  exact Cl.of q
theorem w_Broken_told (T : Txt K mg a) (h : S_Broken_told K a vs A Φ Ψ) (hx : WPost Ψ' W) : GS (t_Broken_told K a W) (AEf Φ) (L2.start ["self"] vs) A := by
  obtain ⟨p, dx, f, w, rfl, hp, q⟩ := h
  show GS _ _ [some (.ref p)] A
  unfold t_Broken_told
  walk_at "go"
  refine ge_met' hx ?_
  walk_at "go"
  refine ⟨_, rfl, ?_⟩
  walk_at "go"
  exact Cl.of (q _)
theorem w_Broken_count_fails (T : Txt K mg a) (h : S_Broken_count_fails K a vs A Φ Ψ) (hx : WPost Ψ' W) : GS (t_Broken_count_fails K a W) (AEf Φ) (L2.start ["self"] vs) A := by
  obtain ⟨p, dx, f, w, rfl, hp, q⟩ := h
  show GS _ _ [some (.ref p)] A
  unfold t_Broken_count_fails
  walk_at "go"
  exact Cl.of q
theorem w_Cut_init (T : Txt K mg a) (h : S_Cut_init K a vs A Φ Ψ) (hx : WPost Ψ' W) : GS (t_Cut_init K a W) (AEf Φ) (L2.start ["self", "need"] vs) A := by
  obtain ⟨p, dx, n, B, rfl, hp, q⟩ := h
  show GS _ _ [some (.ref p), some (.int n)] A
  refine gs_as fun H h => ⟨_, hp.has h, ?_⟩
  unfold t_Cut_init
  walk_at "go"
  exact Cl.le (by walk_at "le") q
theorem w_Cut_word (T : Txt K mg a) (h : S_Cut_word K a vs A Φ Ψ) (hx : WPost Ψ' W) : GS (t_Cut_word K a W) (AEf Φ) (L2.start ["self"] vs) A := by
  obtain ⟨x, rfl, q⟩ := h
  show GS _ _ [some x] A
  unfold t_Cut_word
  walk_at "go"
  exact Cl.of q
theorem w_Cut_told (T : Txt K mg a) (h : S_Cut_told K a vs A Φ Ψ) (hx : WPost Ψ' W) : GS (t_Cut_told K a W) (AEf Φ) (L2.start ["self"] vs) A := by
  obtain ⟨p, dx, n, rfl, hp, q⟩ := h
  show GS _ _ [some (.ref p)] A
  unfold t_Cut_told
  walk_at "go"
  refine ge_met' hx ?_
  walk_at "go"
  refine ⟨_, rfl, ?_⟩
  walk_at "go"
  exact Cl.of (q _)
theorem w_Blocked_freed (T : Txt K mg a) (h : S_Blocked_freed K a vs A Φ Ψ) (hx : WPost Ψ' W) : GS (t_Blocked_freed K a W) (AEf Φ) (L2.start ["self"] vs) A := by
  obtain ⟨p, dx, l, rfl, hp, q0, q1⟩ := h
  show GS _ _ [some (.ref p)] A
  unfold t_Blocked_freed
  walk_at "go"
  · refine ge_mak' hx ?_
    walk_at "go"
    intro x ex
    refine ⟨x, ex, _, _, rfl, .head, rfl, ?_⟩
    refine Cl.le ?_ (q0 (by omega) x ex)
    dsimp only [stO]
    walk_at "le"
  · refine ge_mak' hx ?_
    walk_at "go"
    intro x ex
    refine ⟨x, ex, _, _, rfl, .head, rfl, ?_⟩
    refine Cl.le ?_ (q1 (by omega) x ex)
    dsimp only [stO]
    walk_at "le"
theorem w_Blocked_cut_off (T : Txt K mg a) (h : S_Blocked_cut_off K a vs A Φ Ψ) (hx : WPost Ψ' W) : GS (t_Blocked_cut_off K a W) (AEf Φ) (L2.start ["self", "need"] vs) A := by
  obtain ⟨p, dx, l, m, rfl, hp, q⟩ := h
  show GS _ _ [some (.ref p), some (.int m)] A
  unfold t_Blocked_cut_off
  walk_at "go"
  refine ge_mak' hx ?_
  walk_at "go"
  intro x ex
  refine ⟨x, ex, _, _, rfl, .head, rfl, ?_⟩
  refine Cl.le ?_ (q x ex)
  dsimp only [stO]
  walk_at "le"
theorem w_Ready_leased (T : Txt K mg a) (h : S_Ready_leased K a vs A Φ Ψ) (hx : WPost Ψ' W) : GS (t_Ready_leased K a W) (AEf Φ) (L2.start ["self", "number"] vs) A := by
  obtain ⟨p, dx, f, m, rfl, hp, q⟩ := h
  show GS _ _ [some (.ref p), some (.int m)] A
  unfold t_Ready_leased
  walk_at "go"
  refine ge_mak' hx ?_
  walk_at "go"
  intro x ex
  refine ⟨x, ex, _, _, _, rfl, .head, rfl, ?_⟩
  refine Cl.le ?_ (q x ex)
  dsimp only [stO]
  walk_at "le"
theorem w_Leased_ended (T : Txt K mg a) (h : S_Leased_ended K a vs A Φ Ψ) (hx : WPost Ψ' W) : GS (t_Leased_ended K a W) (AEf Φ) (L2.start ["self", "turn"] vs) A := by
  obtain ⟨p, dx, f, n, t, rfl, hp, q⟩ := h
  show GS _ _ [some (.ref p), some (.int t)] A
  unfold t_Leased_ended
  walk_at "go"
  refine ge_mak' hx ?_
  walk_at "go"
  intro x ex
  refine ⟨x, ex, _, _, _, _, rfl, .head, rfl, ?_⟩
  refine Cl.le ?_ (q x ex)
  dsimp only [stO]
  walk_at "le"
theorem w_Resting_rested (T : Txt K mg a) (h : S_Resting_rested K a vs A Φ Ψ) (hx : WPost Ψ' W) : GS (t_Resting_rested K a W) (AEf Φ) (L2.start ["self"] vs) A := by
  obtain ⟨p, dx, f, u, rfl, hp, q⟩ := h
  show GS _ _ [some (.ref p)] A
  unfold t_Resting_rested
  walk_at "go"
  refine ge_mak' hx ?_
  walk_at "go"
  intro x ex
  refine ⟨x, ex, _, _, rfl, .head, rfl, ?_⟩
  refine Cl.le ?_ (q x ex)
  dsimp only [stO]
  walk_at "le"
theorem w_Leased_failed (T : Txt K mg a) (h : S_Leased_failed K a vs A Φ Ψ) (hx : WPost Ψ' W) : GS (t_Leased_failed K a W) (AEf Φ) (L2.start ["self", "job", "turn", "why", "fails", "rest"] vs) A := by
  obtain ⟨p, dx, r, j, f, n, t, w, rfl, hp, hj, ok, f0, f1, q⟩ := h
  obtain ⟨ex, nd, j1, j2⟩ := id hj
  show GS _ _ [some (.ref p), some (.ref r), some (.int t), some (.str w), none, none] A
  unfold failF at q
  unfold t_Leased_failed
  walk_at "go"
  · rw [if_pos (by assumption)] at q
    refine ge_mak' hx ?_
    walk_at "go"
    intro x ex
    refine ⟨x, ex, _, _, _, rfl, .head, rfl, ?_⟩
    refine Cl.le ?_ (q x ex)
    dsimp only [stO]
    walk_at "le"
  · rw [if_neg (by assumption)] at q
    refine ge_cal hx ?_
    walk_at "go"
    refine ⟨r, j, f + 1, rfl, hj, ok, by omega, by omega, ?_⟩
    have e : (f + 1 - 1).toNat = f.toNat := by omega
    rw [e]
    walk_at "go"
    · rw [if_pos (by assumption)] at q
      refine ge_mak' hx ?_
      walk_at "go"
      intro x ex
      refine ⟨x, ex, _, _, rfl, .head, rfl, ?_⟩
      refine Cl.le ?_ (q x ex)
      dsimp only [stO]
      walk_at "le"
    · rw [if_neg (by assumption)] at q
      refine ge_mak' hx ?_
      walk_at "go"
      intro x ex
      refine ⟨x, ex, _, _, _, rfl, .head, rfl, ?_⟩
      refine Cl.le ?_ (q x ex)
      dsimp only [stO]
      walk_at "le"
theorem w_first_state (T : Txt K mg a) (h : S_first_state K a vs A Φ Ψ) (hx : WPost Ψ' W) : GS (t_first_state K a W) (AEf Φ) (L2.start ["job"] vs) A := by
  obtain ⟨r, j, rfl, hj, q⟩ := h
  obtain ⟨ex, nd, j1, j2⟩ := id hj
  show GS _ _ [some (.ref r)] A
  unfold t_first_state
  walk_at "go"
  · rename_i c
    rw [if_pos (by simpa using c)] at q
    refine ge_mak' hx ?_
    walk_at "go"
    intro x ex
    refine ⟨x, ex, _, _, rfl, .head, rfl, ?_⟩
    refine Cl.le ?_ (q x ex)
    dsimp only [stO]
    walk_at "le"
  · rename_i c
    rw [if_neg (by simpa using c)] at q
    refine ge_mak' hx ?_
    walk_at "go"
    intro x ex
    refine ⟨x, ex, _, _, rfl, .head, rfl, ?_⟩
    refine Cl.le ?_ (q x ex)
    dsimp only [stO]
    walk_at "le"
end

section
variable {K : PySem.W.Frag} {mg : Str → Option Value} {a : Ad} {A : SH} {vs : List V} {Φ : V → SH → Prop} {Ψ : Value → Option Addr → SH → Prop} {Ψ' : Value → Option Addr → L2.St → SH → Prop} {W : WX}
theorem StAt.le {A B : SH} {a : Ad} {p : Addr} {s : Stt} (l : Le A B) (h : StAt A a p s) : StAt B a p s := h.imp fun _ r => r.le l
theorem StAt.tail {A : SH} {h : Hp} {a : Ad} {p : Addr} {s : Stt} (x : StAt A a p s) : StAt (h :: A) a p s := x.le (Le.drop Le.refl)
theorem JobAt.le {A B : SH} {a : Ad} {p : Addr} {j : Jb} (l : Le A B) (h : JobAt A a p j) : JobAt B a p j := by
  obtain ⟨dx, nd, h1, h2⟩ := h
  exact ⟨dx, nd, RO.le l h1, RO.le l h2⟩
theorem w_law_same (T : Txt K mg a) (h : S_law_same K a vs A Φ Ψ) (hx : WPost Ψ' W) : GS (t_law_same K a W) (AEf Φ) (L2.start ["_law_found", "_law_due", "_law_one", "_law_other"] vs) A := by
  obtain ⟨p, q, xs, rfl, h1, h2, hx1, q0⟩ := h
  show GS _ _ [some (.ref p), some (.ref q), none, none] A
  unfold t_law_same
  walk_at "go"
  refine gf_zipT (xs := xs) (ys := xs) rfl (fun i σ A' => Le A A' ∧ ∃ u v, σ = [some (.ref p), some (.ref q), u, v]) (Cl.of ⟨Le.refl, none, none, rfl⟩) (fun i σ A' ⟨l, _⟩ => ⟨h1.le l, h2.le l⟩) ?_ ?_
  · rintro i x y t σ A' hx2 hy2 ⟨l, u, v, rfl⟩
    rw [hx2] at hy2
    cases hy2
    have hi := hx1 x (List.mem_of_getElem? hx2)
    cases x with
    | int i =>
      walk_at "go"
      exact Cl.of ⟨l.drop, _, _, rfl⟩
    | str z =>
      walk_at "go"
      exact Cl.of ⟨l.drop, _, _, rfl⟩
    | _ => cases hi
  · rintro σ A' ⟨l, u, v, rfl⟩
    walk_at "go"
    exact Cl.le l q0
theorem w_law_over (T : Txt K mg a) (h : S_law_over K a vs A Φ Ψ) (hx : WPost Ψ' W) : GS (t_law_over K a W) (AEf Φ) (L2.start ["_law_state"] vs) A := by
  obtain ⟨p, s, rfl, ⟨dx, hs⟩, q⟩ := h
  show GS _ _ [some (.ref p)] A
  unfold t_law_over
  cases s
  all_goals
    dsimp only [stO] at hs
    dsimp only [overF] at q
    walk_at "go"
    refine ge_met' hx ?_
    walk_at "go"
    refine ⟨_, rfl, ?_⟩
    walk_at "go"
    refine ge_met' hx ?_
    walk_at "go"
    refine ⟨_, rfl, ?_⟩
    walk_at "go"
    exact Cl.of q
theorem w_law_is (T : Txt K mg a) (h : S_law_is K a vs A Φ Ψ) (hx : WPost Ψ' W) : GS (t_law_is K a W) (AEf Φ) (L2.start ["_law_word", "_law_state", "_law_some"] vs) A := by
  obtain ⟨p, s, rfl, ⟨dx, hs⟩, q⟩ := h
  show GS _ _ [some (.str _), some (.ref p), none] A
  unfold t_law_is
  cases s
  all_goals
    dsimp only [stO] at hs
    dsimp only [wordF]
    walk_at "go"
    refine gr_eqR (n := 1) (dp_lst (by walk_at "rl") (by walk_at "dps")) (dp_lst (by walk_at "rl") (by walk_at "dps")) (by walk_at "shp") (by decide) ?_
    walk_at "go"
    exact Cl.le (by walk_at "le") q
end

def oneF : Stt → Int
  | .blocked l => l
  | .ready f => f
  | .leased f _ => f
  | .resting f _ => f
  | .done f _ _ => f
  | .broken f _ => f
  | .cut n => n
def failsF : Stt → Int
  | .blocked _ => 0
  | .cut _ => 0
  | s => oneF s
def bcF : Stt → Bool
  | .blocked _ => true
  | .cut _ => true
  | _ => false
theorem told0 (s : Stt) : atI (toldF s) 0 = some (.str (wordF s)) := by cases s <;> rfl
theorem told1 (s : Stt) : atI (toldF s) 1 = some (.int (oneF s)) := by cases s <;> rfl
theorem told_i (s : Stt) : ∀ x ∈ toldF s, istV x = true := by
  intro x hx
  cases s <;> simp only [toldF, List.mem_cons, List.not_mem_nil, or_false] at hx <;> rcases hx with rfl | rfl | rfl | rfl <;> rfl
theorem over_in (s : Stt) : (flatV (.str (wordF s)) && ([.str "done", .str "broken", .str "cut"] : List V).all flatV) = true ∧ inV (.str (wordF s)) [.str "done", .str "broken", .str "cut"] = overF s := by cases s <;> dsimp only [wordF, overF, bcF] <;> decide +kernel
theorem bc_in (s : Stt) : inV (.str (wordF s)) [.str "blocked", .str "cut"] = bcF s := by cases s <;> dsimp only [wordF, overF, bcF] <;> decide +kernel
theorem bc_t {s : Stt} (h : bcF s = true) : failsF s = 0 := by cases s <;> first | rfl | cases h
theorem bc_f {s : Stt} (h : bcF s = false) : failsF s = oneF s := by cases s <;> first | rfl | cases h
section
variable {K : PySem.W.Frag} {mg : Str → Option Value} {a : Ad} {A : SH} {vs : List V} {Φ : V → SH → Prop} {Ψ : Value → Option Addr → SH → Prop} {Ψ' : Value → Option Addr → L2.St → SH → Prop} {W : WX}
theorem nm_told {p : Addr} {s : Stt} {σ : L2.St} (hs : StAt A a p s) (k : ∀ t, Φ (.ref t) (sg t (.tup (toldF s)) :: A)) : NMet (MT K a "told") "told" Ψ' tNil σ Φ (.ref p) A := by
  obtain ⟨dx, h⟩ := hs
  cases s
  all_goals
    refine nmet h (by constructor) (by walk_at "lk") ?_
    walk_at "go"
  · exact ⟨p, dx, _, rfl, h, k⟩
  · exact ⟨p, dx, _, rfl, h, k⟩
  · exact ⟨p, dx, _, _, rfl, h, k⟩
  · exact ⟨p, dx, _, _, rfl, h, k⟩
  · exact ⟨p, dx, _, _, _, rfl, h, k⟩
  · exact ⟨p, dx, _, _, rfl, h, k⟩
  · exact ⟨p, dx, _, rfl, h, k⟩
theorem nm_word {p : Addr} {s : Stt} {σ : L2.St} (hs : StAt A a p s) (k : Φ (.str (wordF s)) A) : NMet (MT K a "word") "word" Ψ' tNil σ Φ (.ref p) A := by
  obtain ⟨dx, h⟩ := hs
  cases s
  all_goals
    refine nmet h (by constructor) (by walk_at "lk") ?_
    walk_at "go"
    exact ⟨_, rfl, k⟩
theorem nm_count {p : Addr} {s : Stt} {σ : L2.St} (hs : StAt A a p s) (k : Φ (.int (failsF s)) A) : NMet (MT K a "count_fails") "count_fails" Ψ' tNil σ Φ (.ref p) A := by
  obtain ⟨dx, h⟩ := hs
  cases s
  all_goals
    refine nmet h (by constructor) (by walk_at "lk") ?_
    walk_at "go"
  · exact ⟨_, rfl, k⟩
  · exact ⟨p, dx, _, rfl, h, k⟩
  · exact ⟨p, dx, _, _, rfl, h, k⟩
  · exact ⟨p, dx, _, _, rfl, h, k⟩
  · exact ⟨p, dx, _, _, _, rfl, h, k⟩
  · exact ⟨p, dx, _, _, rfl, h, k⟩
  · exact ⟨_, rfl, k⟩
theorem ty_st {p : Addr} {s : Stt} (T : Txt K mg a) (hs : StAt A a p s) : ∃ t, TyG K A (.ref p) t ∧ PySem.W.kitOne K t (.ref a.cState) = some true := by
  obtain ⟨dx, h⟩ := hs
  cases s
  · exact ⟨_, ty_ins T.i_Blocked h, T.q_Blocked_State⟩
  · exact ⟨_, ty_ins T.i_Ready h, T.q_Ready_State⟩
  · exact ⟨_, ty_ins T.i_Leased h, T.q_Leased_State⟩
  · exact ⟨_, ty_ins T.i_Resting h, T.q_Resting_State⟩
  · exact ⟨_, ty_ins T.i_Done h, T.q_Done_State⟩
  · exact ⟨_, ty_ins T.i_Broken h, T.q_Broken_State⟩
  · exact ⟨_, ty_ins T.i_Cut h, T.q_Cut_State⟩
theorem gr_over {p : Addr} {s : Stt} (k : Φ (.bl (overF s)) A) (r : RT K A p [.str "done", .str "broken", .str "cut"]) : GR (dIn K false) (.str (wordF s)) (.ref p) A Φ := by
  obtain ⟨h1, h2⟩ := over_in s
  obtain ⟨h3, h4⟩ := Bool.and_eq_true_iff.mp h1
  exact gr_inT0 r h3 h4 (by rw [h2]; exact k)
theorem w_law_stands (T : Txt K mg a) (h : S_law_stands K a vs A Φ Ψ) (hx : WPost Ψ' W) : GS (t_law_stands K a W) (AEf Φ) (L2.start ["_law_state", "_law_due", "_law_cell", "_law_k", "_law_which", "_law_fails"] vs) A := by
  obtain ⟨p, d, s, c, rfl, hst, hd, q⟩ := h
  obtain ⟨ty, t1, t2⟩ := ty_st T hst
  show GS _ _ [some (.ref p), some (.ref d), some (.int c), none, none, none] A
  unfold t_law_stands
  walk_at "go"
  refine gc_isi (ClsV.own _) t1 t2 ?_
  walk_at "go"
  refine ge_cal hx ?_
  walk_at "go"
  refine gr_ixT hd (told0 s) ?_
  walk_at "go"
  refine ⟨p, s, rfl, hst, ?_⟩
  walk_at "go"
  refine gf_range (fun i σ A' => Le A A' ∧ ∃ u v w, σ = [some (.ref p), some (.ref d), some (.int c), u, v, w]) (Cl.of ⟨Le.refl, none, none, none, rfl⟩) ?_ ?_
  · rintro i σ A' hi ⟨l, u, v, w, rfl⟩
    have hd2 := hd.le l
    have hst2 := hst.le l
    clear hd hst t1
    walk_at "go"
    · refine ge_cal hx ?_
      walk_at "go"
      refine ge_met' hx ?_
      walk_at "ge"
      refine nm_told hst2 fun tp => ?_
      walk_at "go"
      refine ⟨_, _, _, rfl, RT.head, hd2.tail, told_i s, ?_⟩
      walk_at "go"
      exact Cl.of ⟨l.drop, _, _, _, rfl⟩
    · refine ge_met' hx ?_
      walk_at "ge"
      refine nm_word hst2 ?_
      walk_at "go"
      refine gr_ixT hd2 (told0 s) ?_
      walk_at "go"
      exact Cl.of ⟨l, _, _, _, rfl⟩
    · refine ge_cal hx ?_
      walk_at "go"
      refine ⟨p, s, rfl, hst2, ?_⟩
      walk_at "go"
      refine gr_ixT hd2 (told0 s) ?_
      walk_at "go"
      refine gr_over ?_ RT.head
      walk_at "go"
      exact Cl.le (by walk_at "le") ⟨l, _, _, _, rfl⟩
    · refine gr_ixT hd2 (told1 s) ?_
      walk_at "go"
      refine gr_ixT hd2 (told0 s) ?_
      walk_at "go"
      refine gr_inT0 RT.head rfl rfl ?_
      rw [bc_in]
      cases e : bcF s with
      | true =>
        walk_at "go"
        refine ge_cal hx ?_
        walk_at "go"
        refine ge_met' hx ?_
        walk_at "ge"
        refine nm_count hst2.tail ?_
        walk_at "go"
        refine ⟨_, rfl, ?_⟩
        walk_at "go"
        refine ge_met' hx ?_
        walk_at "ge"
        refine nm_count hst2.tail ?_
        rw [bc_t e]
        walk_at "go"
        exact Cl.le (by walk_at "le") ⟨l, _, _, _, rfl⟩
      | false =>
        walk_at "go"
        refine ge_cal hx ?_
        walk_at "go"
        refine ge_met' hx ?_
        walk_at "ge"
        refine nm_count hst2.tail ?_
        walk_at "go"
        refine ⟨_, rfl, ?_⟩
        walk_at "go"
        refine ge_met' hx ?_
        walk_at "ge"
        refine nm_count hst2.tail ?_
        rw [bc_f e]
        walk_at "go"
        exact Cl.le (by walk_at "le") ⟨l, _, _, _, rfl⟩
  · rintro σ A' ⟨l, u, v, w, rfl⟩
    walk_at "go"
    exact Cl.le l q
end

theorem get4 {x y z w : Int} {P : Int → Prop} (i : Int) (h : 0 ≤ i) (h3 : i < 4) (hx : P x) (hy : P y) (hz : P z) (hw : P w) : P ([x, y, z, w].getD i.toNat 0) := by
  obtain rfl | rfl | rfl | rfl : i = 0 ∨ i = 1 ∨ i = 2 ∨ i = 3 := by omega
  · exact hx
  · exact hy
  · exact hz
  · exact hw
theorem get5 {x y z w v : Int} {P : Int → Prop} (i : Int) (h : 0 ≤ i) (h3 : i < 5) (hx : P x) (hy : P y) (hz : P z) (hw : P w) (hv : P v) : P ([x, y, z, w, v].getD i.toNat 0) := by
  obtain rfl | rfl | rfl | rfl | rfl : i = 0 ∨ i = 1 ∨ i = 2 ∨ i = 3 ∨ i = 4 := by omega
  · exact hx
  · exact hy
  · exact hz
  · exact hw
  · exact hv
theorem lawJob_num (c : Int) : numOk (lawJob c) := by
  have h1 := get5 (P := fun x => 1 ≤ x ∧ x ≤ 20) (x := 1) (y := 2) (z := 3) (w := 20) (v := 1 + mixF c 1 / 9 % 20) (mixF c 1 / 180 % 5) (by omega) (by omega) (by omega) (by omega) (by omega) (by omega) (by omega)
  have h2 := get4 (P := fun x => 0 ≤ x ∧ x ≤ 1000) (x := 0) (y := 1) (z := 1000) (w := mixF c 1 / 900 % 1001) (mixF c 1 / 9000 % 4) (by omega) (by omega) (by omega) (by omega) (by omega) (by omega)
  refine ⟨?_, ?_, ?_, ?_, h1.1, h1.2, h2.1, h2.2, ?_, ?_⟩ <;> simp only [lawJob] <;> omega
theorem needs_all : ((List.range 8).all fun k => isName (needK k) && decide (needK k ≠ ("job" : Str)) && decide ((needK k).length ≤ 1000)) = true := by decide +kernel
theorem needs_nd : ((List.range 8).map needK).Nodup := by decide +kernel
theorem lawJob_needs (c : Int) : needsOk (lawJob c).name (lawJob c).needs := by
  have hm : 0 ≤ mixF c 1 % 9 ∧ mixF c 1 % 9 ≤ 8 := by omega
  have hN : (mixF c 1 % 9).toNat ≤ 8 := by omega
  show needsOk "job" ((List.range (mixF c 1 % 9).toNat).map needK)
  generalize (mixF c 1 % 9).toNat = N at hN
  refine ⟨by simpa using hN, fun y hy => ?_, ?_⟩
  · obtain ⟨k, hk, rfl⟩ := List.mem_map.mp hy
    have h := List.all_eq_true.mp needs_all k (List.mem_range.mpr (by have := List.mem_range.mp hk; omega))
    simp only [Bool.and_eq_true, decide_eq_true_eq] at h
    exact ⟨h.1.1, h.1.2, h.2⟩
  · have : List.Sublist ((List.range N).map needK) ((List.range 8).map needK) := by
      refine List.Sublist.map _ ?_
      rw [show (8 : Nat) = N + (8 - N) by omega, List.range_add]
      exact List.sublist_append_left _ _
    exact List.Nodup.sublist this needs_nd
theorem wx0 : WPost (fun _ _ _ _ => False) (fun _ _ _ _ => False) := fun _ _ _ _ _ _ z => z
section
variable {K : PySem.W.Frag} {mg : Str → Option Value} {a : Ad} {A : SH} {vs : List V} {Φ : V → SH → Prop} {Ψ : Value → Option Addr → SH → Prop} {Ψ' : Value → Option Addr → L2.St → SH → Prop} {W : WX}
theorem w_law_turn (T : Txt K mg a) (h : S_law_turn K a vs A Φ Ψ) (hx : WPost Ψ' W) : GS (t_law_turn K a W) (AEf Φ) (L2.start ["_law_number"] vs) A := by
  obtain ⟨n, rfl, q⟩ := h
  show GS _ _ [some (.int n)] A
  unfold t_law_turn
  walk_at "go"
  exact Cl.le (by walk_at "le") q
theorem w_law_first (T : Txt K mg a) (h : S_law_first K a vs A Φ Ψ) (hx : WPost Ψ' W) : GS (t_law_first K a W) (AEf Φ) (L2.start ["_law_own"] vs) A := by
  obtain ⟨o, j, rfl, ho, q⟩ := h
  unfold ownF at ho
  unfold firstF at q
  show GS _ _ [some (.ref o)] A
  unfold t_law_first
  walk_at "go"
  · rename_i c
    rw [if_pos (by omega)] at q
    exact Cl.of (q _)
  · rename_i c
    rw [if_neg (by omega)] at q
    exact Cl.of (q _)
theorem w_law_rest (T : Txt K mg a) (h : S_law_rest K a vs A Φ Ψ) (hx : WPost Ψ' W) : GS (t_law_rest K a W) (AEf Φ) (L2.start ["_law_own", "_law_fails", "_law_rest_here", "_law_k"] vs) A := by
  obtain ⟨o, j, f, rfl, ho, ok, f0, f1, q⟩ := h
  obtain ⟨_, _, _, _, _, _, w0, w1, g0, g1⟩ := ok
  unfold ownF at ho
  show GS _ _ [some (.ref o), some (.int f), none, none] A
  unfold t_law_rest
  walk_at "go"
  refine gf_range (fun i σ A' => A = A' ∧ ∃ v, σ = [some (.ref o), some (.int f), some (.int (restF j.wait j.grow i)), v]) (Cl.of ⟨rfl, none, rfl⟩) ?_ ?_
  · rintro i σ A' hi ⟨rfl, v, rfl⟩
    have hb := restF_b w0 (by omega) (by omega) i
    walk_at "go"
    walk_at "cl"
    exact ⟨rfl, _, by rw [Int.min_comm]; rfl⟩
  · rintro σ A' ⟨rfl, v, rfl⟩
    walk_at "go"
    exact Cl.of q
theorem w_law_job (T : Txt K mg a) (h : S_law_job K a vs A Φ Ψ) (hx : WPost Ψ' W) : GS (t_law_job K a W) (AEf Φ) (L2.start ["_law_cell", "_law_own", "_law_number", "_law_k", "_law_needs", "_law_tries", "_law_wait", "_law_grow"] vs) A := by
  obtain ⟨c, o, xs, B, rfl, hp, q⟩ := h
  refine gs_as fun H h => ⟨_, hp.has h, ?_⟩
  have l8 : ("abcdefgh" : Str).length = 8 := by decide +kernel
  have l1 : ("n" : Str).length = 1 := by decide +kernel
  show GS _ _ [some (.int c), some (.ref o), none, none, none, none, none, none] _
  unfold t_law_job
  walk_at "go"
  refine ge_cal hx ?_
  walk_at "go"
  refine ⟨c, 1, rfl, by omega, by omega, ?_⟩
  walk_at "go"
  refine glc_range (σw := [some (.int c), some (.ref o), some (.int (mixF c 1)), none, none, none, none, none]) (fun i acc A' => acc = ((List.range i).map needK).map V.str ∧ sg o (.lst xs) :: B = A') rfl ⟨rfl, rfl⟩ (sz1 (by omega)) ?_ ?_
  · rintro i acc A' D hi hacc ⟨rfl, rfl⟩
    unfold Turn1
    walk_at "go"
    refine ⟨rfl, ?_⟩
    walk_at "go"
    refine CT.pull (by walk_at "pull") ⟨?_, rfl⟩
    have e : (0 + (i : Int)).toNat = i := by omega
    rw [e, List.range_succ, List.map_append, List.map_append]
    rfl
  · rintro acc A' D _ ⟨rfl, rfl⟩
    walk_at "go"
    refine gm_clear (by walk_at "pull") ?_
    walk_at "go"
    refine gm_extend (by walk_at "pull") (by walk_at "ro") (by show 0 + 4 ≤ _; decide) ?_
    walk_at "go"
    refine ge_mak' hx ?_
    walk_at "go"
    intro x dx
    refine ⟨x, dx, .ref D, lawJob c, _, rfl, .head, .inr ⟨D, rfl, show RO _ D (.lst (((List.range (mixF c 1 % 9).toNat).map needK).map V.str)) by walk_at "ro"⟩, lawJob_needs c, by show isName "job" = true; decide +kernel, by show ("job" : Str).length ≤ 1000; decide +kernel, lawJob_num c, fun nd => ⟨rfl, ?_⟩⟩
    have e : ([] : List V) ++ [V.int (((List.range (mixF c 1 % 9).toNat).map needK).length : Nat), V.int ([1, 2, 3, 20, 1 + mixF c 1 / 9 % 20].getD (mixF c 1 / 180 % 5).toNat 0), V.int ([0, 1, 1000, mixF c 1 / 900 % 1001].getD (mixF c 1 / 9000 % 4).toNat 0), V.int (1 + mixF c 1 / 36000 % 4)] = ownF (lawJob c) := rfl
    rw [e]
    exact Cl.le (B := sg o (.lst (ownF (lawJob c))) :: sg x (.ins a.cJob dx (fJb (lawJob c) nd)) :: sg nd (.lst ((lawJob c).needs.map V.str)) :: B) (by walk_at "le") (q x [sg x (.ins a.cJob dx (fJb (lawJob c) nd)), sg nd (.lst ((lawJob c).needs.map V.str))] ⟨dx, nd, .head, .tail .head⟩)
end

section
variable {K : PySem.W.Frag} {mg : Str → Option Value} {a : Ad} {A : SH} {vs : List V} {Φ : V → SH → Prop} {Ψ : Value → Option Addr → SH → Prop} {Ψ' : Value → Option Addr → L2.St → SH → Prop} {W : WX}
theorem gr_why {p : Addr} {n : Int} (r : RL K A p [.str "out", .str "fell", .str "a", .str "abcdefghijkl"]) (h0 : 0 ≤ n) (h1 : n < 4) (k : Φ (.str (whyF n)) A) : GR (rIx K) (.ref p) (.int n) A Φ := by
  obtain rfl | rfl | rfl | rfl : n = 0 ∨ n = 1 ∨ n = 2 ∨ n = 3 := by omega
  · exact gl0 r k
  · exact gl1 r k
  · exact gl2 r k
  · exact gl3 r k
theorem w_law_stepped (T : Txt K mg a) (h : S_law_stepped K a vs A Φ Ψ) (hx : WPost Ψ' W) : GS (t_law_stepped K a W) (AEf Φ) (L2.start ["_law_state", "_law_job_here", "_law_due", "_law_own", "_law_number", "_law_turn_here", "_law_why", "_law_fails", "_law_found", "_law_rest_here"] vs) A := by
  obtain ⟨ps, r, pd, po, s, j, n, rfl, ⟨dx, hs⟩, hj, hd, ho, ok, so, ov, q⟩ := h
  obtain ⟨_, _, _, _, t0, t1, w0, w1, g0, g1⟩ := id ok
  unfold ownF at ho
  show GS _ _ [some (.ref ps), some (.ref r), some (.ref pd), some (.ref po), some (.int n), none, none, none, none, none] A
  unfold t_law_stepped
  walk_at "go"
  refine ge_cal hx ?_
  walk_at "go"
  refine ⟨_, rfl, ?_⟩
  generalize hT : turnF (n / 6) = tu
  walk_at "go"
  refine gr_why RL.head (by omega) (by omega) ?_
  generalize hY : whyF (n / 30 % 4) = wy
  cases s with
  | blocked l =>
    obtain ⟨l0, l1⟩ := so
    dsimp only [stO] at hs
    dsimp only [toldF] at hd
    dsimp only [stepF] at q
    rw [hT] at q
    walk_at "go"
    · rw [if_pos (by assumption)] at q
      refine ge_met' hx ?_
      walk_at "go"
      refine ⟨ps, dx, l, _, rfl, by walk_at "ro", fun x ex => ?_⟩
      walk_at "go"
      dsimp only [stO, toldF] at q ⊢
      exact Cl.le (by walk_at "le") (q _ _ _ ex)
    · rw [if_neg (by assumption)] at q
      refine ge_met' hx ?_
      walk_at "go"
      refine ⟨ps, dx, l, rfl, by walk_at "ro", fun c x ex => ?_, fun c x ex => ?_⟩
      · rw [if_pos c] at q
        subst c
        walk_at "go"
        dsimp only [stO, toldF] at q ⊢
        exact Cl.le (by walk_at "le") (q _ _ _ ex)
      · rw [if_neg c] at q
        walk_at "go"
        dsimp only [stO, toldF] at q ⊢
        exact Cl.le (by walk_at "le") (q _ _ _ ex)
  | ready f =>
    dsimp only [stO] at hs
    dsimp only [toldF] at hd
    dsimp only [stepF] at q
    rw [hT] at q
    walk_at "go"
    refine ge_met' hx ?_
    walk_at "go"
    refine ⟨ps, dx, f, _, rfl, by walk_at "ro", fun x ex => ?_⟩
    walk_at "go"
    dsimp only [stO, toldF] at q ⊢
    exact Cl.le (by walk_at "le") (q _ _ _ ex)
  | resting f u =>
    dsimp only [stO] at hs
    dsimp only [toldF] at hd
    dsimp only [stepF] at q
    walk_at "go"
    refine ge_met' hx ?_
    walk_at "go"
    refine ⟨ps, dx, f, u, rfl, by walk_at "ro", fun x ex => ?_⟩
    walk_at "go"
    dsimp only [stO, toldF] at q ⊢
    exact Cl.le (by walk_at "le") (q _ _ _ ex)
  | leased f k =>
    obtain ⟨f0, f1⟩ := so
    dsimp only [stO] at hs
    dsimp only [toldF] at hd
    dsimp only [stepF] at q
    rw [hT, hY] at q
    walk_at "go"
    · rw [if_pos (by assumption)] at q
      refine ge_met' hx ?_
      walk_at "go"
      refine ⟨ps, dx, f, k, _, rfl, by walk_at "ro", fun x ex => ?_⟩
      walk_at "go"
      dsimp only [stO, toldF] at q ⊢
      exact Cl.le (by walk_at "le") (q _ _ _ ex)
    · rw [if_neg (by assumption)] at q
      refine ge_met' hx ?_
      walk_at "go"
      refine ⟨ps, dx, r, j, f, k, tu, wy, rfl, by walk_at "ro", hj.le (by walk_at "le"), ok, f0, by omega, fun x ex => ?_⟩
      unfold failF at q ⊢
      walk_at "go"
      · rw [if_pos (by assumption)] at q ⊢
        dsimp only [stO, toldF] at q ⊢
        exact Cl.le (by walk_at "le") (q _ _ _ ex)
      · rw [if_neg (by assumption)] at q ⊢
        refine ge_cal hx ?_
        walk_at "go"
        refine ⟨po, j, f + 1, rfl, ho.le (by walk_at "le"), ok, by omega, by omega, ?_⟩
        have e : (f + 1 - 1).toNat = f.toNat := by omega
        rw [e]
        have rb := restF_b w0 (by omega) (by omega) f.toNat (w := j.wait) (g := j.grow)
        by_cases z : restF j.wait j.grow f.toNat = 0
        · rw [if_pos z] at q ⊢
          walk_at "go"
          dsimp only [stO, toldF] at q ⊢
          exact Cl.le (by walk_at "le") (q _ _ _ ex)
        · rw [if_neg z] at q ⊢
          walk_at "go"
          dsimp only [stO, toldF] at q ⊢
          exact Cl.le (by walk_at "le") (q _ _ _ ex)
  | done f k u => cases ov
  | broken f w => cases ov
  | cut m => cases ov
end

def cutI (ns : List Int) (lo hi : Option Int) : List Int := (ns.drop (HT.sIx ns.length 0 lo)).take (HT.sIx ns.length ns.length hi - HT.sIx ns.length 0 lo)
theorem cut_map (ns : List Int) (lo hi : Option Int) : cutV (ns.map V.int) lo hi = (cutI ns lo hi).map V.int := by
  unfold cutV cutI
  rw [List.length_map, List.map_take, List.map_drop]
theorem cutI_len (ns : List Int) (lo hi : Option Int) : (cutI ns lo hi).length ≤ ns.length := by
  unfold cutI
  rw [List.length_take, List.length_drop]
  omega
theorem at_last {xs : List V} {x : V} : atI (xs ++ [x]) (-1) = some x := by
  unfold atI ixN
  rw [if_neg (by decide), if_pos (by rw [List.length_append]; simp; omega)]
  have e : (-1 + ((xs ++ [x]).length : Int)).toNat = xs.length := by rw [List.length_append]; simp; omega
  show (some (-1 + ((xs ++ [x]).length : Int)).toNat).bind _ = _
  rw [e]
  simp
def HeldAt (K : PySem.W.Frag) (A : SH) (a : Ad) (p : Addr) : Prop := ∃ x t s, RO A p (.tup [.ref x, .ref t]) ∧ StAt A a x s ∧ RT K A t (toldF s)
theorem HeldAt.le {K : PySem.W.Frag} {A B : SH} {a : Ad} {p : Addr} (l : Le A B) (h : HeldAt K A a p) : HeldAt K B a p := let ⟨x, t, s, h1, h2, h3⟩ := h; ⟨x, t, s, h1.le l, h2.le l, h3.le l⟩
theorem failF_ok {j : Jb} {f t : Int} {w : Str} (f0 : 0 ≤ f) (f1 : f < j.tries) : SOk j (failF j f t w) := by
  unfold failF
  split
  · trivial
  · split
    · exact ⟨by omega, by omega⟩
    · exact ⟨by omega, by omega⟩
theorem step_ok {j : Jb} {s : Stt} {n : Int} (ok : numOk j) (h : SOk j s) : SOk j (stepF j s n) := by
  obtain ⟨_, _, _, _, t0, t1, _⟩ := ok
  cases s with
  | blocked l =>
    obtain ⟨l0, l1⟩ := h
    dsimp only [stepF]
    split
    · trivial
    · split
      · exact ⟨by omega, by omega⟩
      · exact ⟨by omega, by omega⟩
  | ready f => exact h
  | resting f u => exact h
  | leased f k =>
    dsimp only [stepF]
    split
    · trivial
    · exact failF_ok h.1 h.2
  | done f k u => trivial
  | broken f w => trivial
  | cut m => trivial
theorem first_ok {j : Jb} (ok : numOk j) (h : j.needs.length ≤ 8) : SOk j (firstF j) := by
  obtain ⟨_, _, _, _, t0, t1, _⟩ := ok
  unfold firstF
  split
  · exact ⟨by omega, by omega⟩
  · exact ⟨by omega, by omega⟩
section
variable {K : PySem.W.Frag} {mg : Str → Option Value} {a : Ad} {A : SH} {vs : List V} {Φ : V → SH → Prop} {Ψ : Value → Option Addr → SH → Prop} {Ψ' : Value → Option Addr → L2.St → SH → Prop} {W : WX}
theorem w_law (T : Txt K mg a) (h : S_law K a vs A Φ Ψ) (hx : WPost Ψ' W) : GS (t_law K a W) (AEf Φ) (L2.start ["_law_script", "_law_own", "_law_job_here", "_law_state", "_law_due", "_law_held", "_law_k", "_law_cell", "_law_number", "_law_one", "_law_kept"] vs) A := by
  obtain ⟨p, ns, rfl, hr, hn, q⟩ := h
  show GS _ _ [some (.ref p), none, none, none, none, none, none, none, none, none, none] A
  unfold t_law
  walk_at "go"
  rename_i o
  refine ge_cal hx ?_
  walk_at "go"
  refine ge_cal hx ?_
  walk_at "go"
  refine ⟨p, ns, 0, rfl, hr.tail, hn, by omega, by omega, ?_⟩
  walk_at "go"
  refine ⟨_, o, _, _, rfl, by walk_at "pull", fun r G hj => ?_⟩
  have n0 := lawJob_num (ns.getD (Int.toNat 0) 0)
  have d0 := (lawJob_needs (ns.getD (Int.toNat 0) 0)).1
  generalize lawJob (ns.getD (Int.toNat 0) 0) = j at hj n0 d0
  walk_at "go"
  refine ge_cal hx ?_
  walk_at "go"
  refine ⟨r, j, rfl, hj.le (by walk_at "le"), fun x ex => ?_⟩
  walk_at "go"
  refine ge_cal hx ?_
  walk_at "go"
  refine ⟨o, j, rfl, by walk_at "ro", fun t => ?_⟩
  walk_at "go"
  refine ge_cal hx ?_
  walk_at "go"
  refine ge_cal hx ?_
  walk_at "go"
  refine ⟨p, ns, 1, rfl, by walk_at "rl", hn, by omega, by omega, ?_⟩
  walk_at "go"
  have hfs : (if j.needs.length = 0 then Stt.ready 0 else Stt.blocked j.needs.length) = firstF j := rfl
  rw [hfs]
  refine ⟨x, t, firstF j, _, rfl, ⟨ex, by walk_at "ro"⟩, by walk_at "rt", ?_⟩
  walk_at "go"
  rename_i t0 hl
  refine gsl_list (by walk_at "rl") fun sl => ?_
  rw [cut_map]
  have hcl := cutI_len ns (some 1) (some 41)
  generalize cutI ns (some 1) (some 41) = ms at hcl
  walk_at "go"
  refine gf_enum (xs := ms.map V.int) (fun i σ A' => ∃ G r x t j s vk vc vn hs e, A' = sg hl (.lst ((hs ++ [e]).map V.ref)) :: sg o (.lst (ownF j)) :: (G ++ A) ∧ RL K G sl (ms.map V.int) ∧ JobAt G a r j ∧ StAt G a x s ∧ RT K G t (toldF s) ∧ numOk j ∧ SOk j s ∧ hs.length = i ∧ (∀ z ∈ hs ++ [e], HeldAt K G a z) ∧
      σ = [some (.ref p), some (.ref o), some (.ref r), some (.ref x), some (.ref t), some (.ref hl), vk, vc, vn, none, none])
    (Cl.le (B := sg hl (.lst [V.ref t0]) :: sg o (.lst (ownF j)) :: ((sg t0 (.tup [V.ref x, V.ref t]) :: sg t (.tup (toldF (firstF j))) :: sg x (stO a ex (firstF j)) :: sg sl (.lst (ms.map V.int)) :: G) ++ A)) ?_
      ⟨sg t0 (.tup [V.ref x, V.ref t]) :: sg t (.tup (toldF (firstF j))) :: sg x (stO a ex (firstF j)) :: sg sl (.lst (ms.map V.int)) :: G, r, x, t, j, firstF j, none, none, none, [], t0, rfl, by walk_at "rl", hj.le (by walk_at "le"), ⟨ex, by walk_at "ro"⟩, by walk_at "rt", n0, first_ok n0 d0, rfl, ?_, rfl⟩) ?_ ?_ ?_
  · simp only [List.cons_append]
    walk_at "le"
  · intro z hz
    have : z = t0 := by simpa using hz
    subst this
    exact ⟨x, t, firstF j, .head, ⟨ex, by walk_at "ro"⟩, by walk_at "rt"⟩
  · rintro i σ A' _ ⟨G, r, x, t, j, s, vk, vc, vn, hs, e, rfl, hsl, _⟩
    exact (hsl.le Le.pre).tail.tail
  · rintro i y σ A' pp hi ⟨G, r, x, t, j, s, vk, vc, vn, hs, e, rfl, hsl, hj, hst, ht, n0, so, hl0, hh, rfl⟩
    obtain ⟨c, hc, rfl⟩ := at_map hi
    have hlt := (List.getElem?_eq_some_iff.mp hc).1
    have hB : ∀ B : SH, Le G (G ++ B) := fun B => Le.pre
    walk_at "go"
    refine ge_cal hx ?_
    walk_at "go"
    refine ⟨c, _, rfl, by omega, by omega, ?_⟩
    walk_at "go"
    refine gs_mid (fun σ A' => ∃ G r x t j s, A' = sg hl (.lst ((hs ++ [e]).map V.ref)) :: sg o (.lst (ownF j)) :: (G ++ A) ∧ RL K G sl (ms.map V.int) ∧ JobAt G a r j ∧ StAt G a x s ∧ RT K G t (toldF s) ∧ numOk j ∧ SOk j s ∧ (∀ z ∈ hs ++ [e], HeldAt K G a z) ∧
      σ = [some (.ref p), some (.ref o), some (.ref r), some (.ref x), some (.ref t), some (.ref hl), some (.int (i : Int)), some (.int c), some (.int (mixF c i)), none, none]) ?_ ?_
    · walk_at "go"
      refine gr_ixT ((ht.le (hB _)).tail.tail.tail) (told0 s) ?_
      walk_at "go"
      rename_i dt
      refine gr_over ?_ RT.head
      cases ov : overF s with
      | true =>
        walk_at "go"
        refine ge_cal hx ?_
        walk_at "go"
        refine ⟨c, o, _, _, rfl, by walk_at "pull", fun r2 G2 hj2 => ?_⟩
        have n2 := lawJob_num c
        have d2 := (lawJob_needs c).1
        generalize lawJob c = j2 at hj2 n2 d2
        walk_at "go"
        refine ge_cal hx ?_
        walk_at "go"
        refine ⟨r2, j2, rfl, hj2.le (by walk_at "le"), fun x2 ex2 => ?_⟩
        walk_at "go"
        refine ge_cal hx ?_
        walk_at "go"
        refine ⟨o, j2, rfl, by walk_at "ro", fun t2 => ?_⟩
        walk_at "go"
        have hfs : (if j2.needs.length = 0 then Stt.ready 0 else Stt.blocked j2.needs.length) = firstF j2 := rfl
        rw [hfs]
        have lG : Le G (sg t2 (.tup (toldF (firstF j2))) :: sg x2 (stO a ex2 (firstF j2)) :: (G2 ++ (sg dt (.tup [.str "done", .str "broken", .str "cut"]) :: sg pp (.tup [.int (i : Int), .int c]) :: G))) := by walk_at "le"
        have lG2 : Le G2 (sg t2 (.tup (toldF (firstF j2))) :: sg x2 (stO a ex2 (firstF j2)) :: (G2 ++ (sg dt (.tup [.str "done", .str "broken", .str "cut"]) :: sg pp (.tup [.int (i : Int), .int c]) :: G))) := by walk_at "le"
        refine Cl.le (B := sg hl (.lst ((hs ++ [e]).map V.ref)) :: sg o (.lst (ownF j2)) :: sg t2 (.tup (toldF (firstF j2))) :: sg x2 (stO a ex2 (firstF j2)) :: (G2 ++ (sg dt (.tup [.str "done", .str "broken", .str "cut"]) :: sg pp (.tup [.int (i : Int), .int c]) :: (G ++ A)))) (by walk_at "le") ?_
        exact ⟨sg t2 (.tup (toldF (firstF j2))) :: sg x2 (stO a ex2 (firstF j2)) :: (G2 ++ (sg dt (.tup [.str "done", .str "broken", .str "cut"]) :: sg pp (.tup [.int (i : Int), .int c]) :: G)), r2, x2, t2, j2, firstF j2,
          by simp only [List.cons_append, List.append_assoc], hsl.le lG, hj2.le lG2, ⟨ex2, by walk_at "ro"⟩, by walk_at "rt", n2, first_ok n2 d2, fun z hz => (hh z hz).le lG, rfl⟩
      | false =>
        walk_at "go"
        refine ge_cal hx ?_
        walk_at "go"
        refine ⟨x, r, t, o, s, j, _, rfl, (hst.le (hB _)).le (by walk_at "le"), (hj.le (hB _)).le (by walk_at "le"), (ht.le (hB _)).le (by walk_at "le"), by walk_at "ro", n0, so, ov, fun x2 t2 p2 ex2 => ?_⟩
        walk_at "go"
        have lG : Le G (sg p2 (.tup [.ref x2, .ref t2]) :: sg t2 (.tup (toldF (stepF j s (mixF c i)))) :: sg x2 (stO a ex2 (stepF j s (mixF c i))) :: sg dt (.tup [.str "done", .str "broken", .str "cut"]) :: sg pp (.tup [.int (i : Int), .int c]) :: G) := by walk_at "le"
        refine Cl.le (B := sg hl (.lst ((hs ++ [e]).map V.ref)) :: sg o (.lst (ownF j)) :: sg p2 (.tup [.ref x2, .ref t2]) :: sg t2 (.tup (toldF (stepF j s (mixF c i)))) :: sg x2 (stO a ex2 (stepF j s (mixF c i))) :: sg dt (.tup [.str "done", .str "broken", .str "cut"]) :: sg pp (.tup [.int (i : Int), .int c]) :: (G ++ A)) (by walk_at "le") ?_
        exact ⟨sg p2 (.tup [.ref x2, .ref t2]) :: sg t2 (.tup (toldF (stepF j s (mixF c i)))) :: sg x2 (stO a ex2 (stepF j s (mixF c i))) :: sg dt (.tup [.str "done", .str "broken", .str "cut"]) :: sg pp (.tup [.int (i : Int), .int c]) :: G, r, x2, t2, j, stepF j s (mixF c i), rfl, hsl.le lG, hj.le lG, ⟨ex2, by walk_at "ro"⟩, by walk_at "rt", n0, step_ok n0 so, fun z hz => (hh z hz).le lG, rfl⟩
    · clear hsl hj hst ht n0 so hh
      rintro σ A' ⟨G, r, x, t, j, s, rfl, hsl, hj, hst, ht, n0, so, hh, rfl⟩
      have hB : ∀ B : SH, Le G (G ++ B) := fun B => Le.pre
      walk_at "go"
      refine ge_cal hx ?_
      walk_at "go"
      refine ⟨x, t, s, _, rfl, (hst.le (hB _)).le (by walk_at "le"), (ht.le (hB _)).le (by walk_at "le"), ?_⟩
      walk_at "go"
      refine ge_cal hx ?_
      walk_at "go"
      refine ge_met' hx ?_
      walk_at "go"
      have he := hh e (by simp)
      obtain ⟨x1, t1, s1, k1, k2, k3⟩ := he
      have k1' := k1.le (hB A)
      have k2' := k2.le (hB A)
      have k3' := k3.le (hB A)
      refine gr_ixL RL.head (by rw [List.map_append]; exact at_last) ?_
      walk_at "go"
      refine nm_told k2'.tail.tail fun tp => ?_
      walk_at "go"
      refine gr_ixL RL.head.tail (by rw [List.map_append]; exact at_last) ?_
      walk_at "go"
      refine ⟨tp, t1, _, rfl, RT.head, k3'.tail.tail.tail, told_i s1, ?_⟩
      walk_at "go"
      rename_i np
      have lG : Le G (sg np (.tup [.ref x, .ref t]) :: sg tp (.tup (toldF s1)) :: G) := by walk_at "le"
      refine Cl.le (B := sg hl (.lst ((hs ++ [e]).map V.ref ++ [.ref np])) :: sg o (.lst (ownF j)) :: sg np (.tup [.ref x, .ref t]) :: sg tp (.tup (toldF s1)) :: (G ++ A)) (by walk_at "le") ?_
      refine ⟨sg np (.tup [.ref x, .ref t]) :: sg tp (.tup (toldF s1)) :: G, r, x, t, j, s, _, _, _, hs ++ [e], np, by simp only [List.map_append, List.map_cons, List.map_nil, List.cons_append], hsl.le lG, hj.le lG, hst.le lG, ht.le lG, n0, so, by rw [List.length_append, hl0]; rfl, fun z hz => ?_, rfl⟩
      rcases List.mem_append.mp hz with h | h
      · exact (hh z h).le lG
      · rw [List.mem_singleton.mp h]
        exact ⟨x, t, s, .head, hst.le lG, ht.le lG⟩
  · rintro σ A' ⟨G, r, x, t, j, s, vk, vc, vn, hs, e, rfl, hsl, hj, hst, ht, n0, so, hl0, hh, rfl⟩
    walk_at "go"
    rw [List.length_map] at hl0
    have hB : ∀ B : SH, Le G (G ++ B) := fun B => Le.pre
    refine glc_list (xs := (hs ++ [e]).map V.ref) (σw := [some (.ref p), some (.ref o), some (.ref r), some (.ref x), some (.ref t), some (.ref hl), vk, vc, vn, none, none]) (fun i acc A' => acc = [] ∧ ∃ G2, G2 ++ (sg hl (.lst ((hs ++ [e]).map V.ref)) :: sg o (.lst (ownF j)) :: (G ++ A)) = A') rfl ⟨rfl, [], rfl⟩ (sz1 (by rw [List.length_map, List.length_append, List.length_singleton]; omega)) ?_ ?_ ?_
    · rintro i acc A' _ ⟨_, G2, rfl⟩
      exact RL.app RL.head
    · rintro i y acc A' D hi hacc ⟨rfl, G2, rfl⟩
      obtain ⟨z, hz, rfl⟩ := at_map hi
      obtain ⟨x1, t1, s1, k1, k2, k3⟩ := hh z (List.mem_of_getElem? hz)
      have k1' := (((k1.le (hB A)).tail.tail.app : RO (G2 ++ (sg hl (.lst ((hs ++ [e]).map V.ref)) :: sg o (.lst (ownF j)) :: (G ++ A))) z _))
      have k2' : StAt (G2 ++ (sg hl (.lst ((hs ++ [e]).map V.ref)) :: sg o (.lst (ownF j)) :: (G ++ A))) a x1 s1 := ((k2.le (hB A)).tail.tail).le Le.app
      have k3' : RT K (G2 ++ (sg hl (.lst ((hs ++ [e]).map V.ref)) :: sg o (.lst (ownF j)) :: (G ++ A))) t1 (toldF s1) := ((k3.le (hB A)).tail.tail).le Le.app
      unfold Turn1
      walk_at "go"
      refine ⟨rfl, ?_⟩
      walk_at "go"
      refine ge_cal wx0 ?_
      walk_at "go"
      refine ge_met' wx0 ?_
      walk_at "ge"
      refine nm_told k2'.tail fun tp => ?_
      walk_at "go"
      refine ⟨tp, t1, _, rfl, RT.head, k3'.tail.tail, told_i s1, ?_⟩
      walk_at "go"
      exact CT.pull (B := sg tp (.tup (toldF s1)) :: (G2 ++ (sg hl (.lst ((hs ++ [e]).map V.ref)) :: sg o (.lst (ownF j)) :: (G ++ A)))) (by walk_at "pull") ⟨rfl, sg tp (.tup (toldF s1)) :: G2, rfl⟩
    · rintro acc A' D _ ⟨rfl, G2, rfl⟩
      walk_at "go"
      refine gr_eqE0 (by walk_at "rl") (by walk_at "rl") ?_
      walk_at "go"
      exact Cl.le (Sl.le (Sl.drop (Sl.drop (Sl.app' (Sl.drop (Sl.drop Sl.app)))))) q
end

theorem hd_some {K : PySem.W.Frag} {C : Addr} (h : PySem.W.hasDictIn K C = true) : (PySem.W.clsIn K C).isSome = true := by
  obtain ⟨cd, hc, _⟩ := PySem.W.any_some h
  rw [hc]
  rfl
theorem kit_mk {K : PySem.W.Frag} {D C : Addr} {b : Bool} (n : (Value.ref D == Value.ref C) = false) (c : (PySem.W.clsIn K C).isSome = true) (t : PySem.W.typeIn K (.ref C) = some (.type "type")) (s : PySem.W.subIn K (.ref D) (.ref C) = some b) : PySem.W.kitOne K (.ref D) (.ref C) = some b := by
  unfold PySem.W.kitOne
  rw [if_neg (by rw [n]; decide)]
  unfold PySem.W.kitCls
  simp only [c, t, s, Bool.true_and, beq_self_eq_true, if_true]
theorem len_ex {α : Sort _} {p : α → Prop} {q : Prop} (h : ∀ x, p x → q) : (∃ x, p x) → q := fun ⟨x, z⟩ => h x z
theorem len_or {p r q : Prop} (h : p → q) (k : r → q) : (p ∨ r) → q := fun z => z.elim h k
local macro_rules | `(tactic| walk_at "len") => `(tactic| first | exact False.elim | (rintro ⟨e, _⟩; subst e; rfl) | (intro e; subst e; rfl) | (refine len_ex ?_; intro _; walk_at "len") | (refine len_or ?_ ?_ <;> walk_at "len"))
theorem mt_is_over {K : PySem.W.Frag} {a : Ad} {m : Str} {C : Addr} {sp : Spec} (hm : m = "is_over") (h : MT K a m C sp) : (C = a.cState ∧ sp = S_State_is_over K a) ∨ (C = a.cOpen ∧ sp = S_State_is_over K a) ∨ (C = a.cOver ∧ sp = S_Over_is_over K a) ∨ (C = a.cBlocked ∧ sp = S_State_is_over K a) ∨ (C = a.cReady ∧ sp = S_State_is_over K a) ∨ (C = a.cLeased ∧ sp = S_State_is_over K a) ∨ (C = a.cResting ∧ sp = S_State_is_over K a) ∨ (C = a.cDone ∧ sp = S_Over_is_over K a) ∨ (C = a.cBroken ∧ sp = S_Over_is_over K a) ∨ (C = a.cCut ∧ sp = S_Over_is_over K a) := by
  cases h <;> first | exact absurd hm (by decide +kernel) | exact .inl ⟨rfl, rfl⟩ | exact .inr (.inl ⟨rfl, rfl⟩) | exact .inr (.inr (.inl ⟨rfl, rfl⟩)) | exact .inr (.inr (.inr (.inl ⟨rfl, rfl⟩))) | exact .inr (.inr (.inr (.inr (.inl ⟨rfl, rfl⟩)))) | exact .inr (.inr (.inr (.inr (.inr (.inl ⟨rfl, rfl⟩))))) | exact .inr (.inr (.inr (.inr (.inr (.inr (.inl ⟨rfl, rfl⟩)))))) | exact .inr (.inr (.inr (.inr (.inr (.inr (.inr (.inl ⟨rfl, rfl⟩))))))) | exact .inr (.inr (.inr (.inr (.inr (.inr (.inr (.inr (.inl ⟨rfl, rfl⟩)))))))) | exact .inr (.inr (.inr (.inr (.inr (.inr (.inr (.inr (.inr (⟨rfl, rfl⟩)))))))))
theorem mt_count_fails {K : PySem.W.Frag} {a : Ad} {m : Str} {C : Addr} {sp : Spec} (hm : m = "count_fails") (h : MT K a m C sp) : (C = a.cState ∧ sp = S_State_count_fails K a) ∨ (C = a.cOpen ∧ sp = S_State_count_fails K a) ∨ (C = a.cOver ∧ sp = S_State_count_fails K a) ∨ (C = a.cBlocked ∧ sp = S_State_count_fails K a) ∨ (C = a.cReady ∧ sp = S_Ready_count_fails K a) ∨ (C = a.cLeased ∧ sp = S_Leased_count_fails K a) ∨ (C = a.cResting ∧ sp = S_Resting_count_fails K a) ∨ (C = a.cDone ∧ sp = S_Done_count_fails K a) ∨ (C = a.cBroken ∧ sp = S_Broken_count_fails K a) ∨ (C = a.cCut ∧ sp = S_State_count_fails K a) := by
  cases h <;> first | exact absurd hm (by decide +kernel) | exact .inl ⟨rfl, rfl⟩ | exact .inr (.inl ⟨rfl, rfl⟩) | exact .inr (.inr (.inl ⟨rfl, rfl⟩)) | exact .inr (.inr (.inr (.inl ⟨rfl, rfl⟩))) | exact .inr (.inr (.inr (.inr (.inl ⟨rfl, rfl⟩)))) | exact .inr (.inr (.inr (.inr (.inr (.inl ⟨rfl, rfl⟩))))) | exact .inr (.inr (.inr (.inr (.inr (.inr (.inl ⟨rfl, rfl⟩)))))) | exact .inr (.inr (.inr (.inr (.inr (.inr (.inr (.inl ⟨rfl, rfl⟩))))))) | exact .inr (.inr (.inr (.inr (.inr (.inr (.inr (.inr (.inl ⟨rfl, rfl⟩)))))))) | exact .inr (.inr (.inr (.inr (.inr (.inr (.inr (.inr (.inr (⟨rfl, rfl⟩)))))))))
theorem mt_word {K : PySem.W.Frag} {a : Ad} {m : Str} {C : Addr} {sp : Spec} (hm : m = "word") (h : MT K a m C sp) : (C = a.cBlocked ∧ sp = S_Blocked_word K a) ∨ (C = a.cReady ∧ sp = S_Ready_word K a) ∨ (C = a.cLeased ∧ sp = S_Leased_word K a) ∨ (C = a.cResting ∧ sp = S_Resting_word K a) ∨ (C = a.cDone ∧ sp = S_Done_word K a) ∨ (C = a.cBroken ∧ sp = S_Broken_word K a) ∨ (C = a.cCut ∧ sp = S_Cut_word K a) := by
  cases h <;> first | exact absurd hm (by decide +kernel) | exact .inl ⟨rfl, rfl⟩ | exact .inr (.inl ⟨rfl, rfl⟩) | exact .inr (.inr (.inl ⟨rfl, rfl⟩)) | exact .inr (.inr (.inr (.inl ⟨rfl, rfl⟩))) | exact .inr (.inr (.inr (.inr (.inl ⟨rfl, rfl⟩)))) | exact .inr (.inr (.inr (.inr (.inr (.inl ⟨rfl, rfl⟩))))) | exact .inr (.inr (.inr (.inr (.inr (.inr (⟨rfl, rfl⟩))))))
theorem mt_told {K : PySem.W.Frag} {a : Ad} {m : Str} {C : Addr} {sp : Spec} (hm : m = "told") (h : MT K a m C sp) : (C = a.cBlocked ∧ sp = S_Blocked_told K a) ∨ (C = a.cReady ∧ sp = S_Ready_told K a) ∨ (C = a.cLeased ∧ sp = S_Leased_told K a) ∨ (C = a.cResting ∧ sp = S_Resting_told K a) ∨ (C = a.cDone ∧ sp = S_Done_told K a) ∨ (C = a.cBroken ∧ sp = S_Broken_told K a) ∨ (C = a.cCut ∧ sp = S_Cut_told K a) := by
  cases h <;> first | exact absurd hm (by decide +kernel) | exact .inl ⟨rfl, rfl⟩ | exact .inr (.inl ⟨rfl, rfl⟩) | exact .inr (.inr (.inl ⟨rfl, rfl⟩)) | exact .inr (.inr (.inr (.inl ⟨rfl, rfl⟩))) | exact .inr (.inr (.inr (.inr (.inl ⟨rfl, rfl⟩)))) | exact .inr (.inr (.inr (.inr (.inr (.inl ⟨rfl, rfl⟩))))) | exact .inr (.inr (.inr (.inr (.inr (.inr (⟨rfl, rfl⟩))))))
theorem mt_freed {K : PySem.W.Frag} {a : Ad} {m : Str} {C : Addr} {sp : Spec} (hm : m = "freed") (h : MT K a m C sp) : (C = a.cBlocked ∧ sp = S_Blocked_freed K a) := by
  cases h <;> first | exact absurd hm (by decide +kernel) | exact ⟨rfl, rfl⟩
theorem mt_cut_off {K : PySem.W.Frag} {a : Ad} {m : Str} {C : Addr} {sp : Spec} (hm : m = "cut_off") (h : MT K a m C sp) : (C = a.cBlocked ∧ sp = S_Blocked_cut_off K a) := by
  cases h <;> first | exact absurd hm (by decide +kernel) | exact ⟨rfl, rfl⟩
theorem mt_leased {K : PySem.W.Frag} {a : Ad} {m : Str} {C : Addr} {sp : Spec} (hm : m = "leased") (h : MT K a m C sp) : (C = a.cReady ∧ sp = S_Ready_leased K a) := by
  cases h <;> first | exact absurd hm (by decide +kernel) | exact ⟨rfl, rfl⟩
theorem mt_ended {K : PySem.W.Frag} {a : Ad} {m : Str} {C : Addr} {sp : Spec} (hm : m = "ended") (h : MT K a m C sp) : (C = a.cLeased ∧ sp = S_Leased_ended K a) := by
  cases h <;> first | exact absurd hm (by decide +kernel) | exact ⟨rfl, rfl⟩
theorem mt_failed {K : PySem.W.Frag} {a : Ad} {m : Str} {C : Addr} {sp : Spec} (hm : m = "failed") (h : MT K a m C sp) : (C = a.cLeased ∧ sp = S_Leased_failed K a) := by
  cases h <;> first | exact absurd hm (by decide +kernel) | exact ⟨rfl, rfl⟩
theorem mt_rested {K : PySem.W.Frag} {a : Ad} {m : Str} {C : Addr} {sp : Spec} (hm : m = "rested") (h : MT K a m C sp) : (C = a.cResting ∧ sp = S_Resting_rested K a) := by
  cases h <;> first | exact absurd hm (by decide +kernel) | exact ⟨rfl, rfl⟩
theorem all_mk' {l : PySem.W.OpenLaw} {w : World} {K : PySem.W.Frag} {h : Heap} {mg : Str → Option Value} {fa : Addr} {a : Ad} {tk_MOST_WAIT : Tok} {tk_LETTERS : Tok} {tk_MOST_LETTERS : Tok} {tk_MOST_NEEDS : Tok} {tk_LEAST_0 : Tok} {tk_LEAST_1 : Tok} {tk_LEAST_2 : Tok} {tk_LEAST_3 : Tok} {tk_LEAST_4 : Tok} {od_LEAST : Option Addr} {sz_LEAST : Nat} {sl_LEAST : Array (Option Value)} {tk_MOST_0 : Tok} {tk_MOST_1 : Tok} {tk_MOST_2 : Tok} {tk_MOST_3 : Tok} {tk_MOST_4 : Tok} {od_MOST : Option Addr} {sz_MOST : Nat} {sl_MOST : Array (Option Value)} {oc_wait_after : Value} {od_wait_after : Option Addr} {kV_wait_after : Value} {dc_wait_after : Value} {pm_wait_after : Value} {an_wait_after : Option Addr} {cd_wait_after : Value} {ct_wait_after : Value} {sl_wait_after : Array (Option Value)} {f_wait_after : Addr} {oc_is_whole : Value} {od_is_whole : Option Addr} {kV_is_whole : Value} {dc_is_whole : Value} {pm_is_whole : Value} {an_is_whole : Option Addr} {cd_is_whole : Value} {ct_is_whole : Value} {sl_is_whole : Array (Option Value)} {f_is_whole : Addr} {oc_is_among : Value} {od_is_among : Option Addr} {kV_is_among : Value} {dc_is_among : Value} {pm_is_among : Value} {an_is_among : Option Addr} {cd_is_among : Value} {ct_is_among : Value} {sl_is_among : Array (Option Value)} {f_is_among : Addr} {oc_is_made_of : Value} {od_is_made_of : Option Addr} {kV_is_made_of : Value} {dc_is_made_of : Value} {pm_is_made_of : Value} {an_is_made_of : Option Addr} {cd_is_made_of : Value} {ct_is_made_of : Value} {sl_is_made_of : Array (Option Value)} {f_is_made_of : Addr} {oc_is_name : Value} {od_is_name : Option Addr} {kV_is_name : Value} {dc_is_name : Value} {pm_is_name : Value} {an_is_name : Option Addr} {cd_is_name : Value} {ct_is_name : Value} {sl_is_name : Array (Option Value)} {f_is_name : Addr} {oc_State_is_over : Value} {od_State_is_over : Option Addr} {kV_State_is_over : Value} {dc_State_is_over : Value} {pm_State_is_over : Value} {an_State_is_over : Option Addr} {cd_State_is_over : Value} {ct_State_is_over : Value} {sl_State_is_over : Array (Option Value)} {f_State_is_over : Addr} {oc_State_count_fails : Value} {od_State_count_fails : Option Addr} {kV_State_count_fails : Value} {dc_State_count_fails : Value} {pm_State_count_fails : Value} {an_State_count_fails : Option Addr} {cd_State_count_fails : Value} {ct_State_count_fails : Value} {sl_State_count_fails : Array (Option Value)} {f_State_count_fails : Addr} {oc_Over_is_over : Value} {od_Over_is_over : Option Addr} {kV_Over_is_over : Value} {dc_Over_is_over : Value} {pm_Over_is_over : Value} {an_Over_is_over : Option Addr} {cd_Over_is_over : Value} {ct_Over_is_over : Value} {sl_Over_is_over : Array (Option Value)} {f_Over_is_over : Addr} {oc_Blocked_init : Value} {od_Blocked_init : Option Addr} {kV_Blocked_init : Value} {dc_Blocked_init : Value} {pm_Blocked_init : Value} {an_Blocked_init : Option Addr} {cd_Blocked_init : Value} {ct_Blocked_init : Value} {sl_Blocked_init : Array (Option Value)} {f_Blocked_init : Addr} {oc_Blocked_word : Value} {od_Blocked_word : Option Addr} {kV_Blocked_word : Value} {dc_Blocked_word : Value} {pm_Blocked_word : Value} {an_Blocked_word : Option Addr} {cd_Blocked_word : Value} {ct_Blocked_word : Value} {sl_Blocked_word : Array (Option Value)} {f_Blocked_word : Addr} {oc_Blocked_told : Value} {od_Blocked_told : Option Addr} {kV_Blocked_told : Value} {dc_Blocked_told : Value} {pm_Blocked_told : Value} {an_Blocked_told : Option Addr} {cd_Blocked_told : Value} {ct_Blocked_told : Value} {sl_Blocked_told : Array (Option Value)} {f_Blocked_told : Addr} {oc_Blocked_freed : Value} {od_Blocked_freed : Option Addr} {kV_Blocked_freed : Value} {dc_Blocked_freed : Value} {pm_Blocked_freed : Value} {an_Blocked_freed : Option Addr} {cd_Blocked_freed : Value} {ct_Blocked_freed : Value} {sl_Blocked_freed : Array (Option Value)} {f_Blocked_freed : Addr} {oc_Blocked_cut_off : Value} {od_Blocked_cut_off : Option Addr} {kV_Blocked_cut_off : Value} {dc_Blocked_cut_off : Value} {pm_Blocked_cut_off : Value} {an_Blocked_cut_off : Option Addr} {cd_Blocked_cut_off : Value} {ct_Blocked_cut_off : Value} {sl_Blocked_cut_off : Array (Option Value)} {f_Blocked_cut_off : Addr} {oc_Ready_init : Value} {od_Ready_init : Option Addr} {kV_Ready_init : Value} {dc_Ready_init : Value} {pm_Ready_init : Value} {an_Ready_init : Option Addr} {cd_Ready_init : Value} {ct_Ready_init : Value} {sl_Ready_init : Array (Option Value)} {f_Ready_init : Addr} {oc_Ready_word : Value} {od_Ready_word : Option Addr} {kV_Ready_word : Value} {dc_Ready_word : Value} {pm_Ready_word : Value} {an_Ready_word : Option Addr} {cd_Ready_word : Value} {ct_Ready_word : Value} {sl_Ready_word : Array (Option Value)} {f_Ready_word : Addr} {oc_Ready_count_fails : Value} {od_Ready_count_fails : Option Addr} {kV_Ready_count_fails : Value} {dc_Ready_count_fails : Value} {pm_Ready_count_fails : Value} {an_Ready_count_fails : Option Addr} {cd_Ready_count_fails : Value} {ct_Ready_count_fails : Value} {sl_Ready_count_fails : Array (Option Value)} {f_Ready_count_fails : Addr} {oc_Ready_told : Value} {od_Ready_told : Option Addr} {kV_Ready_told : Value} {dc_Ready_told : Value} {pm_Ready_told : Value} {an_Ready_told : Option Addr} {cd_Ready_told : Value} {ct_Ready_told : Value} {sl_Ready_told : Array (Option Value)} {f_Ready_told : Addr} {oc_Ready_leased : Value} {od_Ready_leased : Option Addr} {kV_Ready_leased : Value} {dc_Ready_leased : Value} {pm_Ready_leased : Value} {an_Ready_leased : Option Addr} {cd_Ready_leased : Value} {ct_Ready_leased : Value} {sl_Ready_leased : Array (Option Value)} {f_Ready_leased : Addr} {oc_Leased_init : Value} {od_Leased_init : Option Addr} {kV_Leased_init : Value} {dc_Leased_init : Value} {pm_Leased_init : Value} {an_Leased_init : Option Addr} {cd_Leased_init : Value} {ct_Leased_init : Value} {sl_Leased_init : Array (Option Value)} {f_Leased_init : Addr} {oc_Leased_word : Value} {od_Leased_word : Option Addr} {kV_Leased_word : Value} {dc_Leased_word : Value} {pm_Leased_word : Value} {an_Leased_word : Option Addr} {cd_Leased_word : Value} {ct_Leased_word : Value} {sl_Leased_word : Array (Option Value)} {f_Leased_word : Addr} {oc_Leased_count_fails : Value} {od_Leased_count_fails : Option Addr} {kV_Leased_count_fails : Value} {dc_Leased_count_fails : Value} {pm_Leased_count_fails : Value} {an_Leased_count_fails : Option Addr} {cd_Leased_count_fails : Value} {ct_Leased_count_fails : Value} {sl_Leased_count_fails : Array (Option Value)} {f_Leased_count_fails : Addr} {oc_Leased_told : Value} {od_Leased_told : Option Addr} {kV_Leased_told : Value} {dc_Leased_told : Value} {pm_Leased_told : Value} {an_Leased_told : Option Addr} {cd_Leased_told : Value} {ct_Leased_told : Value} {sl_Leased_told : Array (Option Value)} {f_Leased_told : Addr} {oc_Leased_ended : Value} {od_Leased_ended : Option Addr} {kV_Leased_ended : Value} {dc_Leased_ended : Value} {pm_Leased_ended : Value} {an_Leased_ended : Option Addr} {cd_Leased_ended : Value} {ct_Leased_ended : Value} {sl_Leased_ended : Array (Option Value)} {f_Leased_ended : Addr} {oc_Leased_failed : Value} {od_Leased_failed : Option Addr} {kV_Leased_failed : Value} {dc_Leased_failed : Value} {pm_Leased_failed : Value} {an_Leased_failed : Option Addr} {cd_Leased_failed : Value} {ct_Leased_failed : Value} {sl_Leased_failed : Array (Option Value)} {f_Leased_failed : Addr} {oc_Resting_init : Value} {od_Resting_init : Option Addr} {kV_Resting_init : Value} {dc_Resting_init : Value} {pm_Resting_init : Value} {an_Resting_init : Option Addr} {cd_Resting_init : Value} {ct_Resting_init : Value} {sl_Resting_init : Array (Option Value)} {f_Resting_init : Addr} {oc_Resting_word : Value} {od_Resting_word : Option Addr} {kV_Resting_word : Value} {dc_Resting_word : Value} {pm_Resting_word : Value} {an_Resting_word : Option Addr} {cd_Resting_word : Value} {ct_Resting_word : Value} {sl_Resting_word : Array (Option Value)} {f_Resting_word : Addr} {oc_Resting_count_fails : Value} {od_Resting_count_fails : Option Addr} {kV_Resting_count_fails : Value} {dc_Resting_count_fails : Value} {pm_Resting_count_fails : Value} {an_Resting_count_fails : Option Addr} {cd_Resting_count_fails : Value} {ct_Resting_count_fails : Value} {sl_Resting_count_fails : Array (Option Value)} {f_Resting_count_fails : Addr} {oc_Resting_told : Value} {od_Resting_told : Option Addr} {kV_Resting_told : Value} {dc_Resting_told : Value} {pm_Resting_told : Value} {an_Resting_told : Option Addr} {cd_Resting_told : Value} {ct_Resting_told : Value} {sl_Resting_told : Array (Option Value)} {f_Resting_told : Addr} {oc_Resting_rested : Value} {od_Resting_rested : Option Addr} {kV_Resting_rested : Value} {dc_Resting_rested : Value} {pm_Resting_rested : Value} {an_Resting_rested : Option Addr} {cd_Resting_rested : Value} {ct_Resting_rested : Value} {sl_Resting_rested : Array (Option Value)} {f_Resting_rested : Addr} {oc_Done_init : Value} {od_Done_init : Option Addr} {kV_Done_init : Value} {dc_Done_init : Value} {pm_Done_init : Value} {an_Done_init : Option Addr} {cd_Done_init : Value} {ct_Done_init : Value} {sl_Done_init : Array (Option Value)} {f_Done_init : Addr} {oc_Done_word : Value} {od_Done_word : Option Addr} {kV_Done_word : Value} {dc_Done_word : Value} {pm_Done_word : Value} {an_Done_word : Option Addr} {cd_Done_word : Value} {ct_Done_word : Value} {sl_Done_word : Array (Option Value)} {f_Done_word : Addr} {oc_Done_count_fails : Value} {od_Done_count_fails : Option Addr} {kV_Done_count_fails : Value} {dc_Done_count_fails : Value} {pm_Done_count_fails : Value} {an_Done_count_fails : Option Addr} {cd_Done_count_fails : Value} {ct_Done_count_fails : Value} {sl_Done_count_fails : Array (Option Value)} {f_Done_count_fails : Addr} {oc_Done_told : Value} {od_Done_told : Option Addr} {kV_Done_told : Value} {dc_Done_told : Value} {pm_Done_told : Value} {an_Done_told : Option Addr} {cd_Done_told : Value} {ct_Done_told : Value} {sl_Done_told : Array (Option Value)} {f_Done_told : Addr} {oc_Broken_init : Value} {od_Broken_init : Option Addr} {kV_Broken_init : Value} {dc_Broken_init : Value} {pm_Broken_init : Value} {an_Broken_init : Option Addr} {cd_Broken_init : Value} {ct_Broken_init : Value} {sl_Broken_init : Array (Option Value)} {f_Broken_init : Addr} {oc_Broken_word : Value} {od_Broken_word : Option Addr} {kV_Broken_word : Value} {dc_Broken_word : Value} {pm_Broken_word : Value} {an_Broken_word : Option Addr} {cd_Broken_word : Value} {ct_Broken_word : Value} {sl_Broken_word : Array (Option Value)} {f_Broken_word : Addr} {oc_Broken_count_fails : Value} {od_Broken_count_fails : Option Addr} {kV_Broken_count_fails : Value} {dc_Broken_count_fails : Value} {pm_Broken_count_fails : Value} {an_Broken_count_fails : Option Addr} {cd_Broken_count_fails : Value} {ct_Broken_count_fails : Value} {sl_Broken_count_fails : Array (Option Value)} {f_Broken_count_fails : Addr} {oc_Broken_told : Value} {od_Broken_told : Option Addr} {kV_Broken_told : Value} {dc_Broken_told : Value} {pm_Broken_told : Value} {an_Broken_told : Option Addr} {cd_Broken_told : Value} {ct_Broken_told : Value} {sl_Broken_told : Array (Option Value)} {f_Broken_told : Addr} {oc_Cut_init : Value} {od_Cut_init : Option Addr} {kV_Cut_init : Value} {dc_Cut_init : Value} {pm_Cut_init : Value} {an_Cut_init : Option Addr} {cd_Cut_init : Value} {ct_Cut_init : Value} {sl_Cut_init : Array (Option Value)} {f_Cut_init : Addr} {oc_Cut_word : Value} {od_Cut_word : Option Addr} {kV_Cut_word : Value} {dc_Cut_word : Value} {pm_Cut_word : Value} {an_Cut_word : Option Addr} {cd_Cut_word : Value} {ct_Cut_word : Value} {sl_Cut_word : Array (Option Value)} {f_Cut_word : Addr} {oc_Cut_told : Value} {od_Cut_told : Option Addr} {kV_Cut_told : Value} {dc_Cut_told : Value} {pm_Cut_told : Value} {an_Cut_told : Option Addr} {cd_Cut_told : Value} {ct_Cut_told : Value} {sl_Cut_told : Array (Option Value)} {f_Cut_told : Addr} {oc_first_state : Value} {od_first_state : Option Addr} {kV_first_state : Value} {dc_first_state : Value} {pm_first_state : Value} {an_first_state : Option Addr} {cd_first_state : Value} {ct_first_state : Value} {sl_first_state : Array (Option Value)} {f_first_state : Addr} {oc_own_needs : Value} {od_own_needs : Option Addr} {kV_own_needs : Value} {dc_own_needs : Value} {pm_own_needs : Value} {an_own_needs : Option Addr} {cd_own_needs : Value} {ct_own_needs : Value} {sl_own_needs : Array (Option Value)} {f_own_needs : Addr} {oc_need_numbers : Value} {od_need_numbers : Option Addr} {kV_need_numbers : Value} {dc_need_numbers : Value} {pm_need_numbers : Value} {an_need_numbers : Option Addr} {cd_need_numbers : Value} {ct_need_numbers : Value} {sl_need_numbers : Array (Option Value)} {f_need_numbers : Addr} {D_Job_init : Addr} {oc_Job_init : Value} {od_Job_init : Option Addr} {kV_Job_init : Value} {dc_Job_init : Value} {pm_Job_init : Value} {an_Job_init : Option Addr} {cd_Job_init : Value} {ct_Job_init : Value} {sl_Job_init : Array (Option Value)} {f_Job_init : Addr} {dt_Job_init_1 : Tok} {dt_Job_init_2 : Tok} {dt_Job_init_3 : Tok} {dt_Job_init_4 : Tok} {dt_Job_init_5 : Tok} {doc_Job_init : Value} {dod_Job_init : Option Addr} {dn_Job_init : Nat} {dsl_Job_init : Array (Option Value)} {oc_law_cell_at : Value} {od_law_cell_at : Option Addr} {kV_law_cell_at : Value} {dc_law_cell_at : Value} {pm_law_cell_at : Value} {an_law_cell_at : Option Addr} {cd_law_cell_at : Value} {ct_law_cell_at : Value} {sl_law_cell_at : Array (Option Value)} {f_law_cell_at : Addr} {oc_law_mixed : Value} {od_law_mixed : Option Addr} {kV_law_mixed : Value} {dc_law_mixed : Value} {pm_law_mixed : Value} {an_law_mixed : Option Addr} {cd_law_mixed : Value} {ct_law_mixed : Value} {sl_law_mixed : Array (Option Value)} {f_law_mixed : Addr} {oc_law_whole : Value} {od_law_whole : Option Addr} {kV_law_whole : Value} {dc_law_whole : Value} {pm_law_whole : Value} {an_law_whole : Option Addr} {cd_law_whole : Value} {ct_law_whole : Value} {sl_law_whole : Array (Option Value)} {f_law_whole : Addr} {oc_law_same : Value} {od_law_same : Option Addr} {kV_law_same : Value} {dc_law_same : Value} {pm_law_same : Value} {an_law_same : Option Addr} {cd_law_same : Value} {ct_law_same : Value} {sl_law_same : Array (Option Value)} {f_law_same : Addr} {oc_law_is : Value} {od_law_is : Option Addr} {kV_law_is : Value} {dc_law_is : Value} {pm_law_is : Value} {an_law_is : Option Addr} {cd_law_is : Value} {ct_law_is : Value} {sl_law_is : Array (Option Value)} {f_law_is : Addr} {oc_law_over : Value} {od_law_over : Option Addr} {kV_law_over : Value} {dc_law_over : Value} {pm_law_over : Value} {an_law_over : Option Addr} {cd_law_over : Value} {ct_law_over : Value} {sl_law_over : Array (Option Value)} {f_law_over : Addr} {oc_law_stands : Value} {od_law_stands : Option Addr} {kV_law_stands : Value} {dc_law_stands : Value} {pm_law_stands : Value} {an_law_stands : Option Addr} {cd_law_stands : Value} {ct_law_stands : Value} {sl_law_stands : Array (Option Value)} {f_law_stands : Addr} {oc_law_job : Value} {od_law_job : Option Addr} {kV_law_job : Value} {dc_law_job : Value} {pm_law_job : Value} {an_law_job : Option Addr} {cd_law_job : Value} {ct_law_job : Value} {sl_law_job : Array (Option Value)} {f_law_job : Addr} {oc_law_rest : Value} {od_law_rest : Option Addr} {kV_law_rest : Value} {dc_law_rest : Value} {pm_law_rest : Value} {an_law_rest : Option Addr} {cd_law_rest : Value} {ct_law_rest : Value} {sl_law_rest : Array (Option Value)} {f_law_rest : Addr} {oc_law_first : Value} {od_law_first : Option Addr} {kV_law_first : Value} {dc_law_first : Value} {pm_law_first : Value} {an_law_first : Option Addr} {cd_law_first : Value} {ct_law_first : Value} {sl_law_first : Array (Option Value)} {f_law_first : Addr} {oc_law_turn : Value} {od_law_turn : Option Addr} {kV_law_turn : Value} {dc_law_turn : Value} {pm_law_turn : Value} {an_law_turn : Option Addr} {cd_law_turn : Value} {ct_law_turn : Value} {sl_law_turn : Array (Option Value)} {f_law_turn : Addr} {oc_law_stepped : Value} {od_law_stepped : Option Addr} {kV_law_stepped : Value} {dc_law_stepped : Value} {pm_law_stepped : Value} {an_law_stepped : Option Addr} {cd_law_stepped : Value} {ct_law_stepped : Value} {sl_law_stepped : Array (Option Value)} {f_law_stepped : Addr} {oc_law : Value} {od_law : Option Addr} {kV_law : Value} {dc_law : Value} {pm_law : Value} {an_law : Option Addr} {cd_law : Value} {ct_law : Value} {sl_law : Array (Option Value)} {f_law : Addr} (X : K.In h) (G : h.Ns mainGlobals mg) (hfa : mg "law" = some (.ref fa))
    (g_MOST_WAIT : PySem.W.nsIn K mainGlobals "MOST_WAIT" = some (some (.int (100000) tk_MOST_WAIT)))
    (g_LETTERS : PySem.W.nsIn K mainGlobals "LETTERS" = some (some (.str "abcdefghijklmnopqrstuvwxyz" tk_LETTERS)))
    (g_MOST_LETTERS : PySem.W.nsIn K mainGlobals "MOST_LETTERS" = some (some (.int (12) tk_MOST_LETTERS)))
    (g_MOST_NEEDS : PySem.W.nsIn K mainGlobals "MOST_NEEDS" = some (some (.int (8) tk_MOST_NEEDS)))
    (g_LEAST : PySem.W.nsIn K mainGlobals "LEAST" = some (some (.ref a.gLEAST)))
    (k_LEAST : K.lookup a.gLEAST = some ⟨.type "tuple", od_LEAST, .seq (List.toArray [.int (0) tk_LEAST_0, .int (1) tk_LEAST_1, .int (1) tk_LEAST_2, .int (0) tk_LEAST_3, .int (1) tk_LEAST_4]) sz_LEAST, sl_LEAST⟩)
    (g_MOST : PySem.W.nsIn K mainGlobals "MOST" = some (some (.ref a.gMOST)))
    (k_MOST : K.lookup a.gMOST = some ⟨.type "tuple", od_MOST, .seq (List.toArray [.int (99) tk_MOST_0, .int (1000) tk_MOST_1, .int (20) tk_MOST_2, .int (1000) tk_MOST_3, .int (4) tk_MOST_4]) sz_MOST, sl_MOST⟩)
    (b_bool : PySem.W.nsIn K mainGlobals "bool" = some none)
    (b_enumerate : PySem.W.nsIn K mainGlobals "enumerate" = some none)
    (b_int : PySem.W.nsIn K mainGlobals "int" = some none)
    (b_isinstance : PySem.W.nsIn K mainGlobals "isinstance" = some none)
    (b_len : PySem.W.nsIn K mainGlobals "len" = some none)
    (b_list : PySem.W.nsIn K mainGlobals "list" = some none)
    (b_min : PySem.W.nsIn K mainGlobals "min" = some none)
    (b_range : PySem.W.nsIn K mainGlobals "range" = some none)
    (b_str : PySem.W.nsIn K mainGlobals "str" = some none)
    (b_tuple : PySem.W.nsIn K mainGlobals "tuple" = some none)
    (b_zip : PySem.W.nsIn K mainGlobals "zip" = some none)
    (m_State : PySem.W.nsIn K mainGlobals "State" = some (some (.ref a.cState)))
    (pg_State : PySem.W.plainGet K a.cState Str.empty = true)
    (hd_State : PySem.W.hasDictIn K a.cState = true)
    (po_State : PySem.W.plainOver K a.cState = true)
    (sa_State : PySem.W.findIn K (.ref a.cState) "__setattr__" = some (some (.builtin "object.__setattr__")))
    (tq_State : PySem.W.typeIn K (.ref a.cState) = some (.type "type"))
    (ia_State : PySem.W.findIn K (.ref a.cState) "__class__" = some (some (.builtin "object.__class__")))
    (im_State : PySem.W.mroIn K a.cState (.type "object") = some true)
    (m_Open : PySem.W.nsIn K mainGlobals "Open" = some (some (.ref a.cOpen)))
    (pg_Open : PySem.W.plainGet K a.cOpen Str.empty = true)
    (hd_Open : PySem.W.hasDictIn K a.cOpen = true)
    (po_Open : PySem.W.plainOver K a.cOpen = true)
    (sa_Open : PySem.W.findIn K (.ref a.cOpen) "__setattr__" = some (some (.builtin "object.__setattr__")))
    (tq_Open : PySem.W.typeIn K (.ref a.cOpen) = some (.type "type"))
    (ia_Open : PySem.W.findIn K (.ref a.cOpen) "__class__" = some (some (.builtin "object.__class__")))
    (im_Open : PySem.W.mroIn K a.cOpen (.type "object") = some true)
    (m_Over : PySem.W.nsIn K mainGlobals "Over" = some (some (.ref a.cOver)))
    (pg_Over : PySem.W.plainGet K a.cOver Str.empty = true)
    (hd_Over : PySem.W.hasDictIn K a.cOver = true)
    (po_Over : PySem.W.plainOver K a.cOver = true)
    (sa_Over : PySem.W.findIn K (.ref a.cOver) "__setattr__" = some (some (.builtin "object.__setattr__")))
    (tq_Over : PySem.W.typeIn K (.ref a.cOver) = some (.type "type"))
    (ia_Over : PySem.W.findIn K (.ref a.cOver) "__class__" = some (some (.builtin "object.__class__")))
    (im_Over : PySem.W.mroIn K a.cOver (.type "object") = some true)
    (m_Blocked : PySem.W.nsIn K mainGlobals "Blocked" = some (some (.ref a.cBlocked)))
    (pg_Blocked : PySem.W.plainGet K a.cBlocked Str.empty = true)
    (hd_Blocked : PySem.W.hasDictIn K a.cBlocked = true)
    (po_Blocked : PySem.W.plainOver K a.cBlocked = true)
    (sa_Blocked : PySem.W.findIn K (.ref a.cBlocked) "__setattr__" = some (some (.builtin "object.__setattr__")))
    (mk_Blocked : PySem.W.makesIn K a.cBlocked = true)
    (kc_Blocked : PySem.W.keepIn K (.ref a.cBlocked) = true)
    (tq_Blocked : PySem.W.typeIn K (.ref a.cBlocked) = some (.type "type"))
    (ia_Blocked : PySem.W.findIn K (.ref a.cBlocked) "__class__" = some (some (.builtin "object.__class__")))
    (im_Blocked : PySem.W.mroIn K a.cBlocked (.type "object") = some true)
    (n_Blocked_left : PySem.W.findIn K (.ref a.cBlocked) "left" = some none)
    (m_Ready : PySem.W.nsIn K mainGlobals "Ready" = some (some (.ref a.cReady)))
    (pg_Ready : PySem.W.plainGet K a.cReady Str.empty = true)
    (hd_Ready : PySem.W.hasDictIn K a.cReady = true)
    (po_Ready : PySem.W.plainOver K a.cReady = true)
    (sa_Ready : PySem.W.findIn K (.ref a.cReady) "__setattr__" = some (some (.builtin "object.__setattr__")))
    (mk_Ready : PySem.W.makesIn K a.cReady = true)
    (kc_Ready : PySem.W.keepIn K (.ref a.cReady) = true)
    (tq_Ready : PySem.W.typeIn K (.ref a.cReady) = some (.type "type"))
    (ia_Ready : PySem.W.findIn K (.ref a.cReady) "__class__" = some (some (.builtin "object.__class__")))
    (im_Ready : PySem.W.mroIn K a.cReady (.type "object") = some true)
    (n_Ready_fails : PySem.W.findIn K (.ref a.cReady) "fails" = some none)
    (m_Leased : PySem.W.nsIn K mainGlobals "Leased" = some (some (.ref a.cLeased)))
    (pg_Leased : PySem.W.plainGet K a.cLeased Str.empty = true)
    (hd_Leased : PySem.W.hasDictIn K a.cLeased = true)
    (po_Leased : PySem.W.plainOver K a.cLeased = true)
    (sa_Leased : PySem.W.findIn K (.ref a.cLeased) "__setattr__" = some (some (.builtin "object.__setattr__")))
    (mk_Leased : PySem.W.makesIn K a.cLeased = true)
    (kc_Leased : PySem.W.keepIn K (.ref a.cLeased) = true)
    (tq_Leased : PySem.W.typeIn K (.ref a.cLeased) = some (.type "type"))
    (ia_Leased : PySem.W.findIn K (.ref a.cLeased) "__class__" = some (some (.builtin "object.__class__")))
    (im_Leased : PySem.W.mroIn K a.cLeased (.type "object") = some true)
    (n_Leased_fails : PySem.W.findIn K (.ref a.cLeased) "fails" = some none)
    (n_Leased_number : PySem.W.findIn K (.ref a.cLeased) "number" = some none)
    (m_Resting : PySem.W.nsIn K mainGlobals "Resting" = some (some (.ref a.cResting)))
    (pg_Resting : PySem.W.plainGet K a.cResting Str.empty = true)
    (hd_Resting : PySem.W.hasDictIn K a.cResting = true)
    (po_Resting : PySem.W.plainOver K a.cResting = true)
    (sa_Resting : PySem.W.findIn K (.ref a.cResting) "__setattr__" = some (some (.builtin "object.__setattr__")))
    (mk_Resting : PySem.W.makesIn K a.cResting = true)
    (kc_Resting : PySem.W.keepIn K (.ref a.cResting) = true)
    (tq_Resting : PySem.W.typeIn K (.ref a.cResting) = some (.type "type"))
    (ia_Resting : PySem.W.findIn K (.ref a.cResting) "__class__" = some (some (.builtin "object.__class__")))
    (im_Resting : PySem.W.mroIn K a.cResting (.type "object") = some true)
    (n_Resting_fails : PySem.W.findIn K (.ref a.cResting) "fails" = some none)
    (n_Resting_until : PySem.W.findIn K (.ref a.cResting) "until" = some none)
    (m_Done : PySem.W.nsIn K mainGlobals "Done" = some (some (.ref a.cDone)))
    (pg_Done : PySem.W.plainGet K a.cDone Str.empty = true)
    (hd_Done : PySem.W.hasDictIn K a.cDone = true)
    (po_Done : PySem.W.plainOver K a.cDone = true)
    (sa_Done : PySem.W.findIn K (.ref a.cDone) "__setattr__" = some (some (.builtin "object.__setattr__")))
    (mk_Done : PySem.W.makesIn K a.cDone = true)
    (kc_Done : PySem.W.keepIn K (.ref a.cDone) = true)
    (tq_Done : PySem.W.typeIn K (.ref a.cDone) = some (.type "type"))
    (ia_Done : PySem.W.findIn K (.ref a.cDone) "__class__" = some (some (.builtin "object.__class__")))
    (im_Done : PySem.W.mroIn K a.cDone (.type "object") = some true)
    (n_Done_fails : PySem.W.findIn K (.ref a.cDone) "fails" = some none)
    (n_Done_number : PySem.W.findIn K (.ref a.cDone) "number" = some none)
    (n_Done_turn : PySem.W.findIn K (.ref a.cDone) "turn" = some none)
    (m_Broken : PySem.W.nsIn K mainGlobals "Broken" = some (some (.ref a.cBroken)))
    (pg_Broken : PySem.W.plainGet K a.cBroken Str.empty = true)
    (hd_Broken : PySem.W.hasDictIn K a.cBroken = true)
    (po_Broken : PySem.W.plainOver K a.cBroken = true)
    (sa_Broken : PySem.W.findIn K (.ref a.cBroken) "__setattr__" = some (some (.builtin "object.__setattr__")))
    (mk_Broken : PySem.W.makesIn K a.cBroken = true)
    (kc_Broken : PySem.W.keepIn K (.ref a.cBroken) = true)
    (tq_Broken : PySem.W.typeIn K (.ref a.cBroken) = some (.type "type"))
    (ia_Broken : PySem.W.findIn K (.ref a.cBroken) "__class__" = some (some (.builtin "object.__class__")))
    (im_Broken : PySem.W.mroIn K a.cBroken (.type "object") = some true)
    (n_Broken_fails : PySem.W.findIn K (.ref a.cBroken) "fails" = some none)
    (n_Broken_why : PySem.W.findIn K (.ref a.cBroken) "why" = some none)
    (m_Cut : PySem.W.nsIn K mainGlobals "Cut" = some (some (.ref a.cCut)))
    (pg_Cut : PySem.W.plainGet K a.cCut Str.empty = true)
    (hd_Cut : PySem.W.hasDictIn K a.cCut = true)
    (po_Cut : PySem.W.plainOver K a.cCut = true)
    (sa_Cut : PySem.W.findIn K (.ref a.cCut) "__setattr__" = some (some (.builtin "object.__setattr__")))
    (mk_Cut : PySem.W.makesIn K a.cCut = true)
    (kc_Cut : PySem.W.keepIn K (.ref a.cCut) = true)
    (tq_Cut : PySem.W.typeIn K (.ref a.cCut) = some (.type "type"))
    (ia_Cut : PySem.W.findIn K (.ref a.cCut) "__class__" = some (some (.builtin "object.__class__")))
    (im_Cut : PySem.W.mroIn K a.cCut (.type "object") = some true)
    (n_Cut_need : PySem.W.findIn K (.ref a.cCut) "need" = some none)
    (m_Job : PySem.W.nsIn K mainGlobals "Job" = some (some (.ref a.cJob)))
    (pg_Job : PySem.W.plainGet K a.cJob Str.empty = true)
    (hd_Job : PySem.W.hasDictIn K a.cJob = true)
    (po_Job : PySem.W.plainOver K a.cJob = true)
    (sa_Job : PySem.W.findIn K (.ref a.cJob) "__setattr__" = some (some (.builtin "object.__setattr__")))
    (mk_Job : PySem.W.makesIn K a.cJob = true)
    (kc_Job : PySem.W.keepIn K (.ref a.cJob) = true)
    (ia_Job : PySem.W.findIn K (.ref a.cJob) "__class__" = some (some (.builtin "object.__class__")))
    (im_Job : PySem.W.mroIn K a.cJob (.type "object") = some true)
    (n_Job_name : PySem.W.findIn K (.ref a.cJob) "name" = some none)
    (n_Job_needs : PySem.W.findIn K (.ref a.cJob) "needs" = some none)
    (n_Job_rank : PySem.W.findIn K (.ref a.cJob) "rank" = some none)
    (n_Job_span : PySem.W.findIn K (.ref a.cJob) "span" = some none)
    (n_Job_tries : PySem.W.findIn K (.ref a.cJob) "tries" = some none)
    (n_Job_wait : PySem.W.findIn K (.ref a.cJob) "wait" = some none)
    (n_Job_grow : PySem.W.findIn K (.ref a.cJob) "grow" = some none)
    (zz_n : PySem.W.specialIn K (.builtin "object.__class__") "__get__" = some (some (.builtin "getset_descriptor.__get__")))
    (zz_t : PySem.W.takesIn K (.builtin "object.__class__") = some true)
    (a_wait_after : PySem.W.nsIn K mainGlobals "wait_after" = some (some (.ref f_wait_after)))
    (l_wait_after : K.lookup f_wait_after = some ⟨oc_wait_after, od_wait_after, .func (PySem.W.fnOf "wait_after" "wait_after" (defArgs s_wait_after) (defBody s_wait_after) (defScope s_wait_after) .none kV_wait_after dc_wait_after pm_wait_after an_wait_after cd_wait_after ct_wait_after), sl_wait_after⟩)
    (c_wait_after : PySem.W.codeIn K cd_wait_after "wait_after" = true)
    (k_wait_after : PySem.W.keepIn K (.ref f_wait_after) = true)
    (a_is_whole : PySem.W.nsIn K mainGlobals "is_whole" = some (some (.ref f_is_whole)))
    (l_is_whole : K.lookup f_is_whole = some ⟨oc_is_whole, od_is_whole, .func (PySem.W.fnOf "is_whole" "is_whole" (defArgs s_is_whole) (defBody s_is_whole) (defScope s_is_whole) .none kV_is_whole dc_is_whole pm_is_whole an_is_whole cd_is_whole ct_is_whole), sl_is_whole⟩)
    (c_is_whole : PySem.W.codeIn K cd_is_whole "is_whole" = true)
    (k_is_whole : PySem.W.keepIn K (.ref f_is_whole) = true)
    (a_is_among : PySem.W.nsIn K mainGlobals "is_among" = some (some (.ref f_is_among)))
    (l_is_among : K.lookup f_is_among = some ⟨oc_is_among, od_is_among, .func (PySem.W.fnOf "is_among" "is_among" (defArgs s_is_among) (defBody s_is_among) (defScope s_is_among) .none kV_is_among dc_is_among pm_is_among an_is_among cd_is_among ct_is_among), sl_is_among⟩)
    (c_is_among : PySem.W.codeIn K cd_is_among "is_among" = true)
    (k_is_among : PySem.W.keepIn K (.ref f_is_among) = true)
    (a_is_made_of : PySem.W.nsIn K mainGlobals "is_made_of" = some (some (.ref f_is_made_of)))
    (l_is_made_of : K.lookup f_is_made_of = some ⟨oc_is_made_of, od_is_made_of, .func (PySem.W.fnOf "is_made_of" "is_made_of" (defArgs s_is_made_of) (defBody s_is_made_of) (defScope s_is_made_of) .none kV_is_made_of dc_is_made_of pm_is_made_of an_is_made_of cd_is_made_of ct_is_made_of), sl_is_made_of⟩)
    (c_is_made_of : PySem.W.codeIn K cd_is_made_of "is_made_of" = true)
    (k_is_made_of : PySem.W.keepIn K (.ref f_is_made_of) = true)
    (a_is_name : PySem.W.nsIn K mainGlobals "is_name" = some (some (.ref f_is_name)))
    (l_is_name : K.lookup f_is_name = some ⟨oc_is_name, od_is_name, .func (PySem.W.fnOf "is_name" "is_name" (defArgs s_is_name) (defBody s_is_name) (defScope s_is_name) .none kV_is_name dc_is_name pm_is_name an_is_name cd_is_name ct_is_name), sl_is_name⟩)
    (c_is_name : PySem.W.codeIn K cd_is_name "is_name" = true)
    (k_is_name : PySem.W.keepIn K (.ref f_is_name) = true)
    (a_State_is_over : PySem.W.findIn K (.ref a.cState) "is_over" = some (some (.ref f_State_is_over)))
    (i_State_is_over : PySem.W.isFn K (.ref f_State_is_over) = true)
    (l_State_is_over : K.lookup f_State_is_over = some ⟨oc_State_is_over, od_State_is_over, .func (PySem.W.fnOf "is_over" "State.is_over" (defArgs s_State_is_over) (defBody s_State_is_over) (defScope s_State_is_over) .none kV_State_is_over dc_State_is_over pm_State_is_over an_State_is_over cd_State_is_over ct_State_is_over), sl_State_is_over⟩)
    (c_State_is_over : PySem.W.codeIn K cd_State_is_over "State.is_over" = true)
    (k_State_is_over : PySem.W.keepIn K (.ref f_State_is_over) = true)
    (a_State_count_fails : PySem.W.findIn K (.ref a.cState) "count_fails" = some (some (.ref f_State_count_fails)))
    (i_State_count_fails : PySem.W.isFn K (.ref f_State_count_fails) = true)
    (l_State_count_fails : K.lookup f_State_count_fails = some ⟨oc_State_count_fails, od_State_count_fails, .func (PySem.W.fnOf "count_fails" "State.count_fails" (defArgs s_State_count_fails) (defBody s_State_count_fails) (defScope s_State_count_fails) .none kV_State_count_fails dc_State_count_fails pm_State_count_fails an_State_count_fails cd_State_count_fails ct_State_count_fails), sl_State_count_fails⟩)
    (c_State_count_fails : PySem.W.codeIn K cd_State_count_fails "State.count_fails" = true)
    (k_State_count_fails : PySem.W.keepIn K (.ref f_State_count_fails) = true)
    (a_Over_is_over : PySem.W.findIn K (.ref a.cOver) "is_over" = some (some (.ref f_Over_is_over)))
    (i_Over_is_over : PySem.W.isFn K (.ref f_Over_is_over) = true)
    (l_Over_is_over : K.lookup f_Over_is_over = some ⟨oc_Over_is_over, od_Over_is_over, .func (PySem.W.fnOf "is_over" "Over.is_over" (defArgs s_Over_is_over) (defBody s_Over_is_over) (defScope s_Over_is_over) .none kV_Over_is_over dc_Over_is_over pm_Over_is_over an_Over_is_over cd_Over_is_over ct_Over_is_over), sl_Over_is_over⟩)
    (c_Over_is_over : PySem.W.codeIn K cd_Over_is_over "Over.is_over" = true)
    (k_Over_is_over : PySem.W.keepIn K (.ref f_Over_is_over) = true)
    (a_Blocked_init : PySem.W.findIn K (.ref a.cBlocked) "__init__" = some (some (.ref f_Blocked_init)))
    (i_Blocked_init : PySem.W.isFn K (.ref f_Blocked_init) = true)
    (l_Blocked_init : K.lookup f_Blocked_init = some ⟨oc_Blocked_init, od_Blocked_init, .func (PySem.W.fnOf "__init__" "Blocked.__init__" (defArgs s_Blocked_init) (defBody s_Blocked_init) (defScope s_Blocked_init) .none kV_Blocked_init dc_Blocked_init pm_Blocked_init an_Blocked_init cd_Blocked_init ct_Blocked_init), sl_Blocked_init⟩)
    (c_Blocked_init : PySem.W.codeIn K cd_Blocked_init "Blocked.__init__" = true)
    (k_Blocked_init : PySem.W.keepIn K (.ref f_Blocked_init) = true)
    (a_Blocked_word : PySem.W.findIn K (.ref a.cBlocked) "word" = some (some (.ref f_Blocked_word)))
    (i_Blocked_word : PySem.W.isFn K (.ref f_Blocked_word) = true)
    (l_Blocked_word : K.lookup f_Blocked_word = some ⟨oc_Blocked_word, od_Blocked_word, .func (PySem.W.fnOf "word" "Blocked.word" (defArgs s_Blocked_word) (defBody s_Blocked_word) (defScope s_Blocked_word) .none kV_Blocked_word dc_Blocked_word pm_Blocked_word an_Blocked_word cd_Blocked_word ct_Blocked_word), sl_Blocked_word⟩)
    (c_Blocked_word : PySem.W.codeIn K cd_Blocked_word "Blocked.word" = true)
    (k_Blocked_word : PySem.W.keepIn K (.ref f_Blocked_word) = true)
    (a_Blocked_told : PySem.W.findIn K (.ref a.cBlocked) "told" = some (some (.ref f_Blocked_told)))
    (i_Blocked_told : PySem.W.isFn K (.ref f_Blocked_told) = true)
    (l_Blocked_told : K.lookup f_Blocked_told = some ⟨oc_Blocked_told, od_Blocked_told, .func (PySem.W.fnOf "told" "Blocked.told" (defArgs s_Blocked_told) (defBody s_Blocked_told) (defScope s_Blocked_told) .none kV_Blocked_told dc_Blocked_told pm_Blocked_told an_Blocked_told cd_Blocked_told ct_Blocked_told), sl_Blocked_told⟩)
    (c_Blocked_told : PySem.W.codeIn K cd_Blocked_told "Blocked.told" = true)
    (k_Blocked_told : PySem.W.keepIn K (.ref f_Blocked_told) = true)
    (a_Blocked_freed : PySem.W.findIn K (.ref a.cBlocked) "freed" = some (some (.ref f_Blocked_freed)))
    (i_Blocked_freed : PySem.W.isFn K (.ref f_Blocked_freed) = true)
    (l_Blocked_freed : K.lookup f_Blocked_freed = some ⟨oc_Blocked_freed, od_Blocked_freed, .func (PySem.W.fnOf "freed" "Blocked.freed" (defArgs s_Blocked_freed) (defBody s_Blocked_freed) (defScope s_Blocked_freed) .none kV_Blocked_freed dc_Blocked_freed pm_Blocked_freed an_Blocked_freed cd_Blocked_freed ct_Blocked_freed), sl_Blocked_freed⟩)
    (c_Blocked_freed : PySem.W.codeIn K cd_Blocked_freed "Blocked.freed" = true)
    (k_Blocked_freed : PySem.W.keepIn K (.ref f_Blocked_freed) = true)
    (a_Blocked_cut_off : PySem.W.findIn K (.ref a.cBlocked) "cut_off" = some (some (.ref f_Blocked_cut_off)))
    (i_Blocked_cut_off : PySem.W.isFn K (.ref f_Blocked_cut_off) = true)
    (l_Blocked_cut_off : K.lookup f_Blocked_cut_off = some ⟨oc_Blocked_cut_off, od_Blocked_cut_off, .func (PySem.W.fnOf "cut_off" "Blocked.cut_off" (defArgs s_Blocked_cut_off) (defBody s_Blocked_cut_off) (defScope s_Blocked_cut_off) .none kV_Blocked_cut_off dc_Blocked_cut_off pm_Blocked_cut_off an_Blocked_cut_off cd_Blocked_cut_off ct_Blocked_cut_off), sl_Blocked_cut_off⟩)
    (c_Blocked_cut_off : PySem.W.codeIn K cd_Blocked_cut_off "Blocked.cut_off" = true)
    (k_Blocked_cut_off : PySem.W.keepIn K (.ref f_Blocked_cut_off) = true)
    (a_Ready_init : PySem.W.findIn K (.ref a.cReady) "__init__" = some (some (.ref f_Ready_init)))
    (i_Ready_init : PySem.W.isFn K (.ref f_Ready_init) = true)
    (l_Ready_init : K.lookup f_Ready_init = some ⟨oc_Ready_init, od_Ready_init, .func (PySem.W.fnOf "__init__" "Ready.__init__" (defArgs s_Ready_init) (defBody s_Ready_init) (defScope s_Ready_init) .none kV_Ready_init dc_Ready_init pm_Ready_init an_Ready_init cd_Ready_init ct_Ready_init), sl_Ready_init⟩)
    (c_Ready_init : PySem.W.codeIn K cd_Ready_init "Ready.__init__" = true)
    (k_Ready_init : PySem.W.keepIn K (.ref f_Ready_init) = true)
    (a_Ready_word : PySem.W.findIn K (.ref a.cReady) "word" = some (some (.ref f_Ready_word)))
    (i_Ready_word : PySem.W.isFn K (.ref f_Ready_word) = true)
    (l_Ready_word : K.lookup f_Ready_word = some ⟨oc_Ready_word, od_Ready_word, .func (PySem.W.fnOf "word" "Ready.word" (defArgs s_Ready_word) (defBody s_Ready_word) (defScope s_Ready_word) .none kV_Ready_word dc_Ready_word pm_Ready_word an_Ready_word cd_Ready_word ct_Ready_word), sl_Ready_word⟩)
    (c_Ready_word : PySem.W.codeIn K cd_Ready_word "Ready.word" = true)
    (k_Ready_word : PySem.W.keepIn K (.ref f_Ready_word) = true)
    (a_Ready_count_fails : PySem.W.findIn K (.ref a.cReady) "count_fails" = some (some (.ref f_Ready_count_fails)))
    (i_Ready_count_fails : PySem.W.isFn K (.ref f_Ready_count_fails) = true)
    (l_Ready_count_fails : K.lookup f_Ready_count_fails = some ⟨oc_Ready_count_fails, od_Ready_count_fails, .func (PySem.W.fnOf "count_fails" "Ready.count_fails" (defArgs s_Ready_count_fails) (defBody s_Ready_count_fails) (defScope s_Ready_count_fails) .none kV_Ready_count_fails dc_Ready_count_fails pm_Ready_count_fails an_Ready_count_fails cd_Ready_count_fails ct_Ready_count_fails), sl_Ready_count_fails⟩)
    (c_Ready_count_fails : PySem.W.codeIn K cd_Ready_count_fails "Ready.count_fails" = true)
    (k_Ready_count_fails : PySem.W.keepIn K (.ref f_Ready_count_fails) = true)
    (a_Ready_told : PySem.W.findIn K (.ref a.cReady) "told" = some (some (.ref f_Ready_told)))
    (i_Ready_told : PySem.W.isFn K (.ref f_Ready_told) = true)
    (l_Ready_told : K.lookup f_Ready_told = some ⟨oc_Ready_told, od_Ready_told, .func (PySem.W.fnOf "told" "Ready.told" (defArgs s_Ready_told) (defBody s_Ready_told) (defScope s_Ready_told) .none kV_Ready_told dc_Ready_told pm_Ready_told an_Ready_told cd_Ready_told ct_Ready_told), sl_Ready_told⟩)
    (c_Ready_told : PySem.W.codeIn K cd_Ready_told "Ready.told" = true)
    (k_Ready_told : PySem.W.keepIn K (.ref f_Ready_told) = true)
    (a_Ready_leased : PySem.W.findIn K (.ref a.cReady) "leased" = some (some (.ref f_Ready_leased)))
    (i_Ready_leased : PySem.W.isFn K (.ref f_Ready_leased) = true)
    (l_Ready_leased : K.lookup f_Ready_leased = some ⟨oc_Ready_leased, od_Ready_leased, .func (PySem.W.fnOf "leased" "Ready.leased" (defArgs s_Ready_leased) (defBody s_Ready_leased) (defScope s_Ready_leased) .none kV_Ready_leased dc_Ready_leased pm_Ready_leased an_Ready_leased cd_Ready_leased ct_Ready_leased), sl_Ready_leased⟩)
    (c_Ready_leased : PySem.W.codeIn K cd_Ready_leased "Ready.leased" = true)
    (k_Ready_leased : PySem.W.keepIn K (.ref f_Ready_leased) = true)
    (a_Leased_init : PySem.W.findIn K (.ref a.cLeased) "__init__" = some (some (.ref f_Leased_init)))
    (i_Leased_init : PySem.W.isFn K (.ref f_Leased_init) = true)
    (l_Leased_init : K.lookup f_Leased_init = some ⟨oc_Leased_init, od_Leased_init, .func (PySem.W.fnOf "__init__" "Leased.__init__" (defArgs s_Leased_init) (defBody s_Leased_init) (defScope s_Leased_init) .none kV_Leased_init dc_Leased_init pm_Leased_init an_Leased_init cd_Leased_init ct_Leased_init), sl_Leased_init⟩)
    (c_Leased_init : PySem.W.codeIn K cd_Leased_init "Leased.__init__" = true)
    (k_Leased_init : PySem.W.keepIn K (.ref f_Leased_init) = true)
    (a_Leased_word : PySem.W.findIn K (.ref a.cLeased) "word" = some (some (.ref f_Leased_word)))
    (i_Leased_word : PySem.W.isFn K (.ref f_Leased_word) = true)
    (l_Leased_word : K.lookup f_Leased_word = some ⟨oc_Leased_word, od_Leased_word, .func (PySem.W.fnOf "word" "Leased.word" (defArgs s_Leased_word) (defBody s_Leased_word) (defScope s_Leased_word) .none kV_Leased_word dc_Leased_word pm_Leased_word an_Leased_word cd_Leased_word ct_Leased_word), sl_Leased_word⟩)
    (c_Leased_word : PySem.W.codeIn K cd_Leased_word "Leased.word" = true)
    (k_Leased_word : PySem.W.keepIn K (.ref f_Leased_word) = true)
    (a_Leased_count_fails : PySem.W.findIn K (.ref a.cLeased) "count_fails" = some (some (.ref f_Leased_count_fails)))
    (i_Leased_count_fails : PySem.W.isFn K (.ref f_Leased_count_fails) = true)
    (l_Leased_count_fails : K.lookup f_Leased_count_fails = some ⟨oc_Leased_count_fails, od_Leased_count_fails, .func (PySem.W.fnOf "count_fails" "Leased.count_fails" (defArgs s_Leased_count_fails) (defBody s_Leased_count_fails) (defScope s_Leased_count_fails) .none kV_Leased_count_fails dc_Leased_count_fails pm_Leased_count_fails an_Leased_count_fails cd_Leased_count_fails ct_Leased_count_fails), sl_Leased_count_fails⟩)
    (c_Leased_count_fails : PySem.W.codeIn K cd_Leased_count_fails "Leased.count_fails" = true)
    (k_Leased_count_fails : PySem.W.keepIn K (.ref f_Leased_count_fails) = true)
    (a_Leased_told : PySem.W.findIn K (.ref a.cLeased) "told" = some (some (.ref f_Leased_told)))
    (i_Leased_told : PySem.W.isFn K (.ref f_Leased_told) = true)
    (l_Leased_told : K.lookup f_Leased_told = some ⟨oc_Leased_told, od_Leased_told, .func (PySem.W.fnOf "told" "Leased.told" (defArgs s_Leased_told) (defBody s_Leased_told) (defScope s_Leased_told) .none kV_Leased_told dc_Leased_told pm_Leased_told an_Leased_told cd_Leased_told ct_Leased_told), sl_Leased_told⟩)
    (c_Leased_told : PySem.W.codeIn K cd_Leased_told "Leased.told" = true)
    (k_Leased_told : PySem.W.keepIn K (.ref f_Leased_told) = true)
    (a_Leased_ended : PySem.W.findIn K (.ref a.cLeased) "ended" = some (some (.ref f_Leased_ended)))
    (i_Leased_ended : PySem.W.isFn K (.ref f_Leased_ended) = true)
    (l_Leased_ended : K.lookup f_Leased_ended = some ⟨oc_Leased_ended, od_Leased_ended, .func (PySem.W.fnOf "ended" "Leased.ended" (defArgs s_Leased_ended) (defBody s_Leased_ended) (defScope s_Leased_ended) .none kV_Leased_ended dc_Leased_ended pm_Leased_ended an_Leased_ended cd_Leased_ended ct_Leased_ended), sl_Leased_ended⟩)
    (c_Leased_ended : PySem.W.codeIn K cd_Leased_ended "Leased.ended" = true)
    (k_Leased_ended : PySem.W.keepIn K (.ref f_Leased_ended) = true)
    (a_Leased_failed : PySem.W.findIn K (.ref a.cLeased) "failed" = some (some (.ref f_Leased_failed)))
    (i_Leased_failed : PySem.W.isFn K (.ref f_Leased_failed) = true)
    (l_Leased_failed : K.lookup f_Leased_failed = some ⟨oc_Leased_failed, od_Leased_failed, .func (PySem.W.fnOf "failed" "Leased.failed" (defArgs s_Leased_failed) (defBody s_Leased_failed) (defScope s_Leased_failed) .none kV_Leased_failed dc_Leased_failed pm_Leased_failed an_Leased_failed cd_Leased_failed ct_Leased_failed), sl_Leased_failed⟩)
    (c_Leased_failed : PySem.W.codeIn K cd_Leased_failed "Leased.failed" = true)
    (k_Leased_failed : PySem.W.keepIn K (.ref f_Leased_failed) = true)
    (a_Resting_init : PySem.W.findIn K (.ref a.cResting) "__init__" = some (some (.ref f_Resting_init)))
    (i_Resting_init : PySem.W.isFn K (.ref f_Resting_init) = true)
    (l_Resting_init : K.lookup f_Resting_init = some ⟨oc_Resting_init, od_Resting_init, .func (PySem.W.fnOf "__init__" "Resting.__init__" (defArgs s_Resting_init) (defBody s_Resting_init) (defScope s_Resting_init) .none kV_Resting_init dc_Resting_init pm_Resting_init an_Resting_init cd_Resting_init ct_Resting_init), sl_Resting_init⟩)
    (c_Resting_init : PySem.W.codeIn K cd_Resting_init "Resting.__init__" = true)
    (k_Resting_init : PySem.W.keepIn K (.ref f_Resting_init) = true)
    (a_Resting_word : PySem.W.findIn K (.ref a.cResting) "word" = some (some (.ref f_Resting_word)))
    (i_Resting_word : PySem.W.isFn K (.ref f_Resting_word) = true)
    (l_Resting_word : K.lookup f_Resting_word = some ⟨oc_Resting_word, od_Resting_word, .func (PySem.W.fnOf "word" "Resting.word" (defArgs s_Resting_word) (defBody s_Resting_word) (defScope s_Resting_word) .none kV_Resting_word dc_Resting_word pm_Resting_word an_Resting_word cd_Resting_word ct_Resting_word), sl_Resting_word⟩)
    (c_Resting_word : PySem.W.codeIn K cd_Resting_word "Resting.word" = true)
    (k_Resting_word : PySem.W.keepIn K (.ref f_Resting_word) = true)
    (a_Resting_count_fails : PySem.W.findIn K (.ref a.cResting) "count_fails" = some (some (.ref f_Resting_count_fails)))
    (i_Resting_count_fails : PySem.W.isFn K (.ref f_Resting_count_fails) = true)
    (l_Resting_count_fails : K.lookup f_Resting_count_fails = some ⟨oc_Resting_count_fails, od_Resting_count_fails, .func (PySem.W.fnOf "count_fails" "Resting.count_fails" (defArgs s_Resting_count_fails) (defBody s_Resting_count_fails) (defScope s_Resting_count_fails) .none kV_Resting_count_fails dc_Resting_count_fails pm_Resting_count_fails an_Resting_count_fails cd_Resting_count_fails ct_Resting_count_fails), sl_Resting_count_fails⟩)
    (c_Resting_count_fails : PySem.W.codeIn K cd_Resting_count_fails "Resting.count_fails" = true)
    (k_Resting_count_fails : PySem.W.keepIn K (.ref f_Resting_count_fails) = true)
    (a_Resting_told : PySem.W.findIn K (.ref a.cResting) "told" = some (some (.ref f_Resting_told)))
    (i_Resting_told : PySem.W.isFn K (.ref f_Resting_told) = true)
    (l_Resting_told : K.lookup f_Resting_told = some ⟨oc_Resting_told, od_Resting_told, .func (PySem.W.fnOf "told" "Resting.told" (defArgs s_Resting_told) (defBody s_Resting_told) (defScope s_Resting_told) .none kV_Resting_told dc_Resting_told pm_Resting_told an_Resting_told cd_Resting_told ct_Resting_told), sl_Resting_told⟩)
    (c_Resting_told : PySem.W.codeIn K cd_Resting_told "Resting.told" = true)
    (k_Resting_told : PySem.W.keepIn K (.ref f_Resting_told) = true)
    (a_Resting_rested : PySem.W.findIn K (.ref a.cResting) "rested" = some (some (.ref f_Resting_rested)))
    (i_Resting_rested : PySem.W.isFn K (.ref f_Resting_rested) = true)
    (l_Resting_rested : K.lookup f_Resting_rested = some ⟨oc_Resting_rested, od_Resting_rested, .func (PySem.W.fnOf "rested" "Resting.rested" (defArgs s_Resting_rested) (defBody s_Resting_rested) (defScope s_Resting_rested) .none kV_Resting_rested dc_Resting_rested pm_Resting_rested an_Resting_rested cd_Resting_rested ct_Resting_rested), sl_Resting_rested⟩)
    (c_Resting_rested : PySem.W.codeIn K cd_Resting_rested "Resting.rested" = true)
    (k_Resting_rested : PySem.W.keepIn K (.ref f_Resting_rested) = true)
    (a_Done_init : PySem.W.findIn K (.ref a.cDone) "__init__" = some (some (.ref f_Done_init)))
    (i_Done_init : PySem.W.isFn K (.ref f_Done_init) = true)
    (l_Done_init : K.lookup f_Done_init = some ⟨oc_Done_init, od_Done_init, .func (PySem.W.fnOf "__init__" "Done.__init__" (defArgs s_Done_init) (defBody s_Done_init) (defScope s_Done_init) .none kV_Done_init dc_Done_init pm_Done_init an_Done_init cd_Done_init ct_Done_init), sl_Done_init⟩)
    (c_Done_init : PySem.W.codeIn K cd_Done_init "Done.__init__" = true)
    (k_Done_init : PySem.W.keepIn K (.ref f_Done_init) = true)
    (a_Done_word : PySem.W.findIn K (.ref a.cDone) "word" = some (some (.ref f_Done_word)))
    (i_Done_word : PySem.W.isFn K (.ref f_Done_word) = true)
    (l_Done_word : K.lookup f_Done_word = some ⟨oc_Done_word, od_Done_word, .func (PySem.W.fnOf "word" "Done.word" (defArgs s_Done_word) (defBody s_Done_word) (defScope s_Done_word) .none kV_Done_word dc_Done_word pm_Done_word an_Done_word cd_Done_word ct_Done_word), sl_Done_word⟩)
    (c_Done_word : PySem.W.codeIn K cd_Done_word "Done.word" = true)
    (k_Done_word : PySem.W.keepIn K (.ref f_Done_word) = true)
    (a_Done_count_fails : PySem.W.findIn K (.ref a.cDone) "count_fails" = some (some (.ref f_Done_count_fails)))
    (i_Done_count_fails : PySem.W.isFn K (.ref f_Done_count_fails) = true)
    (l_Done_count_fails : K.lookup f_Done_count_fails = some ⟨oc_Done_count_fails, od_Done_count_fails, .func (PySem.W.fnOf "count_fails" "Done.count_fails" (defArgs s_Done_count_fails) (defBody s_Done_count_fails) (defScope s_Done_count_fails) .none kV_Done_count_fails dc_Done_count_fails pm_Done_count_fails an_Done_count_fails cd_Done_count_fails ct_Done_count_fails), sl_Done_count_fails⟩)
    (c_Done_count_fails : PySem.W.codeIn K cd_Done_count_fails "Done.count_fails" = true)
    (k_Done_count_fails : PySem.W.keepIn K (.ref f_Done_count_fails) = true)
    (a_Done_told : PySem.W.findIn K (.ref a.cDone) "told" = some (some (.ref f_Done_told)))
    (i_Done_told : PySem.W.isFn K (.ref f_Done_told) = true)
    (l_Done_told : K.lookup f_Done_told = some ⟨oc_Done_told, od_Done_told, .func (PySem.W.fnOf "told" "Done.told" (defArgs s_Done_told) (defBody s_Done_told) (defScope s_Done_told) .none kV_Done_told dc_Done_told pm_Done_told an_Done_told cd_Done_told ct_Done_told), sl_Done_told⟩)
    (c_Done_told : PySem.W.codeIn K cd_Done_told "Done.told" = true)
    (k_Done_told : PySem.W.keepIn K (.ref f_Done_told) = true)
    (a_Broken_init : PySem.W.findIn K (.ref a.cBroken) "__init__" = some (some (.ref f_Broken_init)))
    (i_Broken_init : PySem.W.isFn K (.ref f_Broken_init) = true)
    (l_Broken_init : K.lookup f_Broken_init = some ⟨oc_Broken_init, od_Broken_init, .func (PySem.W.fnOf "__init__" "Broken.__init__" (defArgs s_Broken_init) (defBody s_Broken_init) (defScope s_Broken_init) .none kV_Broken_init dc_Broken_init pm_Broken_init an_Broken_init cd_Broken_init ct_Broken_init), sl_Broken_init⟩)
    (c_Broken_init : PySem.W.codeIn K cd_Broken_init "Broken.__init__" = true)
    (k_Broken_init : PySem.W.keepIn K (.ref f_Broken_init) = true)
    (a_Broken_word : PySem.W.findIn K (.ref a.cBroken) "word" = some (some (.ref f_Broken_word)))
    (i_Broken_word : PySem.W.isFn K (.ref f_Broken_word) = true)
    (l_Broken_word : K.lookup f_Broken_word = some ⟨oc_Broken_word, od_Broken_word, .func (PySem.W.fnOf "word" "Broken.word" (defArgs s_Broken_word) (defBody s_Broken_word) (defScope s_Broken_word) .none kV_Broken_word dc_Broken_word pm_Broken_word an_Broken_word cd_Broken_word ct_Broken_word), sl_Broken_word⟩)
    (c_Broken_word : PySem.W.codeIn K cd_Broken_word "Broken.word" = true)
    (k_Broken_word : PySem.W.keepIn K (.ref f_Broken_word) = true)
    (a_Broken_count_fails : PySem.W.findIn K (.ref a.cBroken) "count_fails" = some (some (.ref f_Broken_count_fails)))
    (i_Broken_count_fails : PySem.W.isFn K (.ref f_Broken_count_fails) = true)
    (l_Broken_count_fails : K.lookup f_Broken_count_fails = some ⟨oc_Broken_count_fails, od_Broken_count_fails, .func (PySem.W.fnOf "count_fails" "Broken.count_fails" (defArgs s_Broken_count_fails) (defBody s_Broken_count_fails) (defScope s_Broken_count_fails) .none kV_Broken_count_fails dc_Broken_count_fails pm_Broken_count_fails an_Broken_count_fails cd_Broken_count_fails ct_Broken_count_fails), sl_Broken_count_fails⟩)
    (c_Broken_count_fails : PySem.W.codeIn K cd_Broken_count_fails "Broken.count_fails" = true)
    (k_Broken_count_fails : PySem.W.keepIn K (.ref f_Broken_count_fails) = true)
    (a_Broken_told : PySem.W.findIn K (.ref a.cBroken) "told" = some (some (.ref f_Broken_told)))
    (i_Broken_told : PySem.W.isFn K (.ref f_Broken_told) = true)
    (l_Broken_told : K.lookup f_Broken_told = some ⟨oc_Broken_told, od_Broken_told, .func (PySem.W.fnOf "told" "Broken.told" (defArgs s_Broken_told) (defBody s_Broken_told) (defScope s_Broken_told) .none kV_Broken_told dc_Broken_told pm_Broken_told an_Broken_told cd_Broken_told ct_Broken_told), sl_Broken_told⟩)
    (c_Broken_told : PySem.W.codeIn K cd_Broken_told "Broken.told" = true)
    (k_Broken_told : PySem.W.keepIn K (.ref f_Broken_told) = true)
    (a_Cut_init : PySem.W.findIn K (.ref a.cCut) "__init__" = some (some (.ref f_Cut_init)))
    (i_Cut_init : PySem.W.isFn K (.ref f_Cut_init) = true)
    (l_Cut_init : K.lookup f_Cut_init = some ⟨oc_Cut_init, od_Cut_init, .func (PySem.W.fnOf "__init__" "Cut.__init__" (defArgs s_Cut_init) (defBody s_Cut_init) (defScope s_Cut_init) .none kV_Cut_init dc_Cut_init pm_Cut_init an_Cut_init cd_Cut_init ct_Cut_init), sl_Cut_init⟩)
    (c_Cut_init : PySem.W.codeIn K cd_Cut_init "Cut.__init__" = true)
    (k_Cut_init : PySem.W.keepIn K (.ref f_Cut_init) = true)
    (a_Cut_word : PySem.W.findIn K (.ref a.cCut) "word" = some (some (.ref f_Cut_word)))
    (i_Cut_word : PySem.W.isFn K (.ref f_Cut_word) = true)
    (l_Cut_word : K.lookup f_Cut_word = some ⟨oc_Cut_word, od_Cut_word, .func (PySem.W.fnOf "word" "Cut.word" (defArgs s_Cut_word) (defBody s_Cut_word) (defScope s_Cut_word) .none kV_Cut_word dc_Cut_word pm_Cut_word an_Cut_word cd_Cut_word ct_Cut_word), sl_Cut_word⟩)
    (c_Cut_word : PySem.W.codeIn K cd_Cut_word "Cut.word" = true)
    (k_Cut_word : PySem.W.keepIn K (.ref f_Cut_word) = true)
    (a_Cut_told : PySem.W.findIn K (.ref a.cCut) "told" = some (some (.ref f_Cut_told)))
    (i_Cut_told : PySem.W.isFn K (.ref f_Cut_told) = true)
    (l_Cut_told : K.lookup f_Cut_told = some ⟨oc_Cut_told, od_Cut_told, .func (PySem.W.fnOf "told" "Cut.told" (defArgs s_Cut_told) (defBody s_Cut_told) (defScope s_Cut_told) .none kV_Cut_told dc_Cut_told pm_Cut_told an_Cut_told cd_Cut_told ct_Cut_told), sl_Cut_told⟩)
    (c_Cut_told : PySem.W.codeIn K cd_Cut_told "Cut.told" = true)
    (k_Cut_told : PySem.W.keepIn K (.ref f_Cut_told) = true)
    (a_first_state : PySem.W.nsIn K mainGlobals "first_state" = some (some (.ref f_first_state)))
    (l_first_state : K.lookup f_first_state = some ⟨oc_first_state, od_first_state, .func (PySem.W.fnOf "first_state" "first_state" (defArgs s_first_state) (defBody s_first_state) (defScope s_first_state) .none kV_first_state dc_first_state pm_first_state an_first_state cd_first_state ct_first_state), sl_first_state⟩)
    (c_first_state : PySem.W.codeIn K cd_first_state "first_state" = true)
    (k_first_state : PySem.W.keepIn K (.ref f_first_state) = true)
    (a_own_needs : PySem.W.nsIn K mainGlobals "own_needs" = some (some (.ref f_own_needs)))
    (l_own_needs : K.lookup f_own_needs = some ⟨oc_own_needs, od_own_needs, .func (PySem.W.fnOf "own_needs" "own_needs" (defArgs s_own_needs) (defBody s_own_needs) (defScope s_own_needs) .none kV_own_needs dc_own_needs pm_own_needs an_own_needs cd_own_needs ct_own_needs), sl_own_needs⟩)
    (c_own_needs : PySem.W.codeIn K cd_own_needs "own_needs" = true)
    (k_own_needs : PySem.W.keepIn K (.ref f_own_needs) = true)
    (a_need_numbers : PySem.W.nsIn K mainGlobals "need_numbers" = some (some (.ref f_need_numbers)))
    (l_need_numbers : K.lookup f_need_numbers = some ⟨oc_need_numbers, od_need_numbers, .func (PySem.W.fnOf "need_numbers" "need_numbers" (defArgs s_need_numbers) (defBody s_need_numbers) (defScope s_need_numbers) .none kV_need_numbers dc_need_numbers pm_need_numbers an_need_numbers cd_need_numbers ct_need_numbers), sl_need_numbers⟩)
    (c_need_numbers : PySem.W.codeIn K cd_need_numbers "need_numbers" = true)
    (k_need_numbers : PySem.W.keepIn K (.ref f_need_numbers) = true)
    (a_Job_init : PySem.W.findIn K (.ref a.cJob) "__init__" = some (some (.ref f_Job_init)))
    (i_Job_init : PySem.W.isFn K (.ref f_Job_init) = true)
    (l_Job_init : K.lookup f_Job_init = some ⟨oc_Job_init, od_Job_init, .func (PySem.W.fnOf "__init__" "Job.__init__" (defArgs s_Job_init) (defBody s_Job_init) (defScope s_Job_init) (.ref D_Job_init) kV_Job_init dc_Job_init pm_Job_init an_Job_init cd_Job_init ct_Job_init), sl_Job_init⟩)
    (c_Job_init : PySem.W.codeIn K cd_Job_init "Job.__init__" = true)
    (k_Job_init : PySem.W.keepIn K (.ref f_Job_init) = true)
    (dl_Job_init : K.lookup D_Job_init = some ⟨doc_Job_init, dod_Job_init, .seq (List.toArray [.none, .int (0) dt_Job_init_1, .int (1) dt_Job_init_2, .int (1) dt_Job_init_3, .int (0) dt_Job_init_4, .int (1) dt_Job_init_5]) dn_Job_init, dsl_Job_init⟩)
    (a_law_cell_at : PySem.W.nsIn K mainGlobals "_law_cell_at" = some (some (.ref f_law_cell_at)))
    (l_law_cell_at : K.lookup f_law_cell_at = some ⟨oc_law_cell_at, od_law_cell_at, .func (PySem.W.fnOf "_law_cell_at" "_law_cell_at" (defArgs s_law_cell_at) (defBody s_law_cell_at) (defScope s_law_cell_at) .none kV_law_cell_at dc_law_cell_at pm_law_cell_at an_law_cell_at cd_law_cell_at ct_law_cell_at), sl_law_cell_at⟩)
    (c_law_cell_at : PySem.W.codeIn K cd_law_cell_at "_law_cell_at" = true)
    (k_law_cell_at : PySem.W.keepIn K (.ref f_law_cell_at) = true)
    (a_law_mixed : PySem.W.nsIn K mainGlobals "_law_mixed" = some (some (.ref f_law_mixed)))
    (l_law_mixed : K.lookup f_law_mixed = some ⟨oc_law_mixed, od_law_mixed, .func (PySem.W.fnOf "_law_mixed" "_law_mixed" (defArgs s_law_mixed) (defBody s_law_mixed) (defScope s_law_mixed) .none kV_law_mixed dc_law_mixed pm_law_mixed an_law_mixed cd_law_mixed ct_law_mixed), sl_law_mixed⟩)
    (c_law_mixed : PySem.W.codeIn K cd_law_mixed "_law_mixed" = true)
    (k_law_mixed : PySem.W.keepIn K (.ref f_law_mixed) = true)
    (a_law_whole : PySem.W.nsIn K mainGlobals "_law_whole" = some (some (.ref f_law_whole)))
    (l_law_whole : K.lookup f_law_whole = some ⟨oc_law_whole, od_law_whole, .func (PySem.W.fnOf "_law_whole" "_law_whole" (defArgs s_law_whole) (defBody s_law_whole) (defScope s_law_whole) .none kV_law_whole dc_law_whole pm_law_whole an_law_whole cd_law_whole ct_law_whole), sl_law_whole⟩)
    (c_law_whole : PySem.W.codeIn K cd_law_whole "_law_whole" = true)
    (k_law_whole : PySem.W.keepIn K (.ref f_law_whole) = true)
    (a_law_same : PySem.W.nsIn K mainGlobals "_law_same" = some (some (.ref f_law_same)))
    (l_law_same : K.lookup f_law_same = some ⟨oc_law_same, od_law_same, .func (PySem.W.fnOf "_law_same" "_law_same" (defArgs s_law_same) (defBody s_law_same) (defScope s_law_same) .none kV_law_same dc_law_same pm_law_same an_law_same cd_law_same ct_law_same), sl_law_same⟩)
    (c_law_same : PySem.W.codeIn K cd_law_same "_law_same" = true)
    (k_law_same : PySem.W.keepIn K (.ref f_law_same) = true)
    (a_law_is : PySem.W.nsIn K mainGlobals "_law_is" = some (some (.ref f_law_is)))
    (l_law_is : K.lookup f_law_is = some ⟨oc_law_is, od_law_is, .func (PySem.W.fnOf "_law_is" "_law_is" (defArgs s_law_is) (defBody s_law_is) (defScope s_law_is) .none kV_law_is dc_law_is pm_law_is an_law_is cd_law_is ct_law_is), sl_law_is⟩)
    (c_law_is : PySem.W.codeIn K cd_law_is "_law_is" = true)
    (k_law_is : PySem.W.keepIn K (.ref f_law_is) = true)
    (a_law_over : PySem.W.nsIn K mainGlobals "_law_over" = some (some (.ref f_law_over)))
    (l_law_over : K.lookup f_law_over = some ⟨oc_law_over, od_law_over, .func (PySem.W.fnOf "_law_over" "_law_over" (defArgs s_law_over) (defBody s_law_over) (defScope s_law_over) .none kV_law_over dc_law_over pm_law_over an_law_over cd_law_over ct_law_over), sl_law_over⟩)
    (c_law_over : PySem.W.codeIn K cd_law_over "_law_over" = true)
    (k_law_over : PySem.W.keepIn K (.ref f_law_over) = true)
    (a_law_stands : PySem.W.nsIn K mainGlobals "_law_stands" = some (some (.ref f_law_stands)))
    (l_law_stands : K.lookup f_law_stands = some ⟨oc_law_stands, od_law_stands, .func (PySem.W.fnOf "_law_stands" "_law_stands" (defArgs s_law_stands) (defBody s_law_stands) (defScope s_law_stands) .none kV_law_stands dc_law_stands pm_law_stands an_law_stands cd_law_stands ct_law_stands), sl_law_stands⟩)
    (c_law_stands : PySem.W.codeIn K cd_law_stands "_law_stands" = true)
    (k_law_stands : PySem.W.keepIn K (.ref f_law_stands) = true)
    (a_law_job : PySem.W.nsIn K mainGlobals "_law_job" = some (some (.ref f_law_job)))
    (l_law_job : K.lookup f_law_job = some ⟨oc_law_job, od_law_job, .func (PySem.W.fnOf "_law_job" "_law_job" (defArgs s_law_job) (defBody s_law_job) (defScope s_law_job) .none kV_law_job dc_law_job pm_law_job an_law_job cd_law_job ct_law_job), sl_law_job⟩)
    (c_law_job : PySem.W.codeIn K cd_law_job "_law_job" = true)
    (k_law_job : PySem.W.keepIn K (.ref f_law_job) = true)
    (a_law_rest : PySem.W.nsIn K mainGlobals "_law_rest" = some (some (.ref f_law_rest)))
    (l_law_rest : K.lookup f_law_rest = some ⟨oc_law_rest, od_law_rest, .func (PySem.W.fnOf "_law_rest" "_law_rest" (defArgs s_law_rest) (defBody s_law_rest) (defScope s_law_rest) .none kV_law_rest dc_law_rest pm_law_rest an_law_rest cd_law_rest ct_law_rest), sl_law_rest⟩)
    (c_law_rest : PySem.W.codeIn K cd_law_rest "_law_rest" = true)
    (k_law_rest : PySem.W.keepIn K (.ref f_law_rest) = true)
    (a_law_first : PySem.W.nsIn K mainGlobals "_law_first" = some (some (.ref f_law_first)))
    (l_law_first : K.lookup f_law_first = some ⟨oc_law_first, od_law_first, .func (PySem.W.fnOf "_law_first" "_law_first" (defArgs s_law_first) (defBody s_law_first) (defScope s_law_first) .none kV_law_first dc_law_first pm_law_first an_law_first cd_law_first ct_law_first), sl_law_first⟩)
    (c_law_first : PySem.W.codeIn K cd_law_first "_law_first" = true)
    (k_law_first : PySem.W.keepIn K (.ref f_law_first) = true)
    (a_law_turn : PySem.W.nsIn K mainGlobals "_law_turn" = some (some (.ref f_law_turn)))
    (l_law_turn : K.lookup f_law_turn = some ⟨oc_law_turn, od_law_turn, .func (PySem.W.fnOf "_law_turn" "_law_turn" (defArgs s_law_turn) (defBody s_law_turn) (defScope s_law_turn) .none kV_law_turn dc_law_turn pm_law_turn an_law_turn cd_law_turn ct_law_turn), sl_law_turn⟩)
    (c_law_turn : PySem.W.codeIn K cd_law_turn "_law_turn" = true)
    (k_law_turn : PySem.W.keepIn K (.ref f_law_turn) = true)
    (a_law_stepped : PySem.W.nsIn K mainGlobals "_law_stepped" = some (some (.ref f_law_stepped)))
    (l_law_stepped : K.lookup f_law_stepped = some ⟨oc_law_stepped, od_law_stepped, .func (PySem.W.fnOf "_law_stepped" "_law_stepped" (defArgs s_law_stepped) (defBody s_law_stepped) (defScope s_law_stepped) .none kV_law_stepped dc_law_stepped pm_law_stepped an_law_stepped cd_law_stepped ct_law_stepped), sl_law_stepped⟩)
    (c_law_stepped : PySem.W.codeIn K cd_law_stepped "_law_stepped" = true)
    (k_law_stepped : PySem.W.keepIn K (.ref f_law_stepped) = true)
    (a_law : PySem.W.nsIn K mainGlobals "law" = some (some (.ref f_law)))
    (l_law : K.lookup f_law = some ⟨oc_law, od_law, .func (PySem.W.fnOf "law" "law" (defArgs s_law) (defBody s_law) (defScope s_law) .none kV_law dc_law pm_law an_law cd_law ct_law), sl_law⟩)
    (c_law : PySem.W.codeIn K cd_law "law" = true)
    (k_law : PySem.W.keepIn K (.ref f_law) = true)
    (a_Open_State_is_over : PySem.W.findIn K (.ref a.cOpen) "is_over" = some (some (.ref f_State_is_over)))
    (a_Open_State_count_fails : PySem.W.findIn K (.ref a.cOpen) "count_fails" = some (some (.ref f_State_count_fails)))
    (a_Over_State_count_fails : PySem.W.findIn K (.ref a.cOver) "count_fails" = some (some (.ref f_State_count_fails)))
    (a_Blocked_State_is_over : PySem.W.findIn K (.ref a.cBlocked) "is_over" = some (some (.ref f_State_is_over)))
    (a_Blocked_State_count_fails : PySem.W.findIn K (.ref a.cBlocked) "count_fails" = some (some (.ref f_State_count_fails)))
    (a_Ready_State_is_over : PySem.W.findIn K (.ref a.cReady) "is_over" = some (some (.ref f_State_is_over)))
    (a_Leased_State_is_over : PySem.W.findIn K (.ref a.cLeased) "is_over" = some (some (.ref f_State_is_over)))
    (a_Resting_State_is_over : PySem.W.findIn K (.ref a.cResting) "is_over" = some (some (.ref f_State_is_over)))
    (a_Done_Over_is_over : PySem.W.findIn K (.ref a.cDone) "is_over" = some (some (.ref f_Over_is_over)))
    (a_Broken_Over_is_over : PySem.W.findIn K (.ref a.cBroken) "is_over" = some (some (.ref f_Over_is_over)))
    (a_Cut_Over_is_over : PySem.W.findIn K (.ref a.cCut) "is_over" = some (some (.ref f_Over_is_over)))
    (a_Cut_State_count_fails : PySem.W.findIn K (.ref a.cCut) "count_fails" = some (some (.ref f_State_count_fails)))
    (sq_State_Blocked : PySem.W.subIn K (.ref a.cState) (.ref a.cBlocked) = some false)
    (sq_State_Broken : PySem.W.subIn K (.ref a.cState) (.ref a.cBroken) = some false)
    (sq_State_Cut : PySem.W.subIn K (.ref a.cState) (.ref a.cCut) = some false)
    (sq_State_Done : PySem.W.subIn K (.ref a.cState) (.ref a.cDone) = some false)
    (sq_State_Leased : PySem.W.subIn K (.ref a.cState) (.ref a.cLeased) = some false)
    (sq_State_Open : PySem.W.subIn K (.ref a.cState) (.ref a.cOpen) = some false)
    (sq_State_Over : PySem.W.subIn K (.ref a.cState) (.ref a.cOver) = some false)
    (sq_State_Ready : PySem.W.subIn K (.ref a.cState) (.ref a.cReady) = some false)
    (sq_State_Resting : PySem.W.subIn K (.ref a.cState) (.ref a.cResting) = some false)
    (sq_Open_Blocked : PySem.W.subIn K (.ref a.cOpen) (.ref a.cBlocked) = some false)
    (sq_Open_Broken : PySem.W.subIn K (.ref a.cOpen) (.ref a.cBroken) = some false)
    (sq_Open_Cut : PySem.W.subIn K (.ref a.cOpen) (.ref a.cCut) = some false)
    (sq_Open_Done : PySem.W.subIn K (.ref a.cOpen) (.ref a.cDone) = some false)
    (sq_Open_Leased : PySem.W.subIn K (.ref a.cOpen) (.ref a.cLeased) = some false)
    (sq_Open_Over : PySem.W.subIn K (.ref a.cOpen) (.ref a.cOver) = some false)
    (sq_Open_Ready : PySem.W.subIn K (.ref a.cOpen) (.ref a.cReady) = some false)
    (sq_Open_Resting : PySem.W.subIn K (.ref a.cOpen) (.ref a.cResting) = some false)
    (sq_Open_State : PySem.W.subIn K (.ref a.cOpen) (.ref a.cState) = some true)
    (sq_Over_Blocked : PySem.W.subIn K (.ref a.cOver) (.ref a.cBlocked) = some false)
    (sq_Over_Broken : PySem.W.subIn K (.ref a.cOver) (.ref a.cBroken) = some false)
    (sq_Over_Cut : PySem.W.subIn K (.ref a.cOver) (.ref a.cCut) = some false)
    (sq_Over_Done : PySem.W.subIn K (.ref a.cOver) (.ref a.cDone) = some false)
    (sq_Over_Leased : PySem.W.subIn K (.ref a.cOver) (.ref a.cLeased) = some false)
    (sq_Over_Open : PySem.W.subIn K (.ref a.cOver) (.ref a.cOpen) = some false)
    (sq_Over_Ready : PySem.W.subIn K (.ref a.cOver) (.ref a.cReady) = some false)
    (sq_Over_Resting : PySem.W.subIn K (.ref a.cOver) (.ref a.cResting) = some false)
    (sq_Over_State : PySem.W.subIn K (.ref a.cOver) (.ref a.cState) = some true)
    (sq_Blocked_Broken : PySem.W.subIn K (.ref a.cBlocked) (.ref a.cBroken) = some false)
    (sq_Blocked_Cut : PySem.W.subIn K (.ref a.cBlocked) (.ref a.cCut) = some false)
    (sq_Blocked_Done : PySem.W.subIn K (.ref a.cBlocked) (.ref a.cDone) = some false)
    (sq_Blocked_Leased : PySem.W.subIn K (.ref a.cBlocked) (.ref a.cLeased) = some false)
    (sq_Blocked_Open : PySem.W.subIn K (.ref a.cBlocked) (.ref a.cOpen) = some true)
    (sq_Blocked_Over : PySem.W.subIn K (.ref a.cBlocked) (.ref a.cOver) = some false)
    (sq_Blocked_Ready : PySem.W.subIn K (.ref a.cBlocked) (.ref a.cReady) = some false)
    (sq_Blocked_Resting : PySem.W.subIn K (.ref a.cBlocked) (.ref a.cResting) = some false)
    (sq_Blocked_State : PySem.W.subIn K (.ref a.cBlocked) (.ref a.cState) = some true)
    (sq_Ready_Blocked : PySem.W.subIn K (.ref a.cReady) (.ref a.cBlocked) = some false)
    (sq_Ready_Broken : PySem.W.subIn K (.ref a.cReady) (.ref a.cBroken) = some false)
    (sq_Ready_Cut : PySem.W.subIn K (.ref a.cReady) (.ref a.cCut) = some false)
    (sq_Ready_Done : PySem.W.subIn K (.ref a.cReady) (.ref a.cDone) = some false)
    (sq_Ready_Leased : PySem.W.subIn K (.ref a.cReady) (.ref a.cLeased) = some false)
    (sq_Ready_Open : PySem.W.subIn K (.ref a.cReady) (.ref a.cOpen) = some true)
    (sq_Ready_Over : PySem.W.subIn K (.ref a.cReady) (.ref a.cOver) = some false)
    (sq_Ready_Resting : PySem.W.subIn K (.ref a.cReady) (.ref a.cResting) = some false)
    (sq_Ready_State : PySem.W.subIn K (.ref a.cReady) (.ref a.cState) = some true)
    (sq_Leased_Blocked : PySem.W.subIn K (.ref a.cLeased) (.ref a.cBlocked) = some false)
    (sq_Leased_Broken : PySem.W.subIn K (.ref a.cLeased) (.ref a.cBroken) = some false)
    (sq_Leased_Cut : PySem.W.subIn K (.ref a.cLeased) (.ref a.cCut) = some false)
    (sq_Leased_Done : PySem.W.subIn K (.ref a.cLeased) (.ref a.cDone) = some false)
    (sq_Leased_Open : PySem.W.subIn K (.ref a.cLeased) (.ref a.cOpen) = some true)
    (sq_Leased_Over : PySem.W.subIn K (.ref a.cLeased) (.ref a.cOver) = some false)
    (sq_Leased_Ready : PySem.W.subIn K (.ref a.cLeased) (.ref a.cReady) = some false)
    (sq_Leased_Resting : PySem.W.subIn K (.ref a.cLeased) (.ref a.cResting) = some false)
    (sq_Leased_State : PySem.W.subIn K (.ref a.cLeased) (.ref a.cState) = some true)
    (sq_Resting_Blocked : PySem.W.subIn K (.ref a.cResting) (.ref a.cBlocked) = some false)
    (sq_Resting_Broken : PySem.W.subIn K (.ref a.cResting) (.ref a.cBroken) = some false)
    (sq_Resting_Cut : PySem.W.subIn K (.ref a.cResting) (.ref a.cCut) = some false)
    (sq_Resting_Done : PySem.W.subIn K (.ref a.cResting) (.ref a.cDone) = some false)
    (sq_Resting_Leased : PySem.W.subIn K (.ref a.cResting) (.ref a.cLeased) = some false)
    (sq_Resting_Open : PySem.W.subIn K (.ref a.cResting) (.ref a.cOpen) = some true)
    (sq_Resting_Over : PySem.W.subIn K (.ref a.cResting) (.ref a.cOver) = some false)
    (sq_Resting_Ready : PySem.W.subIn K (.ref a.cResting) (.ref a.cReady) = some false)
    (sq_Resting_State : PySem.W.subIn K (.ref a.cResting) (.ref a.cState) = some true)
    (sq_Done_Blocked : PySem.W.subIn K (.ref a.cDone) (.ref a.cBlocked) = some false)
    (sq_Done_Broken : PySem.W.subIn K (.ref a.cDone) (.ref a.cBroken) = some false)
    (sq_Done_Cut : PySem.W.subIn K (.ref a.cDone) (.ref a.cCut) = some false)
    (sq_Done_Leased : PySem.W.subIn K (.ref a.cDone) (.ref a.cLeased) = some false)
    (sq_Done_Open : PySem.W.subIn K (.ref a.cDone) (.ref a.cOpen) = some false)
    (sq_Done_Over : PySem.W.subIn K (.ref a.cDone) (.ref a.cOver) = some true)
    (sq_Done_Ready : PySem.W.subIn K (.ref a.cDone) (.ref a.cReady) = some false)
    (sq_Done_Resting : PySem.W.subIn K (.ref a.cDone) (.ref a.cResting) = some false)
    (sq_Done_State : PySem.W.subIn K (.ref a.cDone) (.ref a.cState) = some true)
    (sq_Broken_Blocked : PySem.W.subIn K (.ref a.cBroken) (.ref a.cBlocked) = some false)
    (sq_Broken_Cut : PySem.W.subIn K (.ref a.cBroken) (.ref a.cCut) = some false)
    (sq_Broken_Done : PySem.W.subIn K (.ref a.cBroken) (.ref a.cDone) = some false)
    (sq_Broken_Leased : PySem.W.subIn K (.ref a.cBroken) (.ref a.cLeased) = some false)
    (sq_Broken_Open : PySem.W.subIn K (.ref a.cBroken) (.ref a.cOpen) = some false)
    (sq_Broken_Over : PySem.W.subIn K (.ref a.cBroken) (.ref a.cOver) = some true)
    (sq_Broken_Ready : PySem.W.subIn K (.ref a.cBroken) (.ref a.cReady) = some false)
    (sq_Broken_Resting : PySem.W.subIn K (.ref a.cBroken) (.ref a.cResting) = some false)
    (sq_Broken_State : PySem.W.subIn K (.ref a.cBroken) (.ref a.cState) = some true)
    (sq_Cut_Blocked : PySem.W.subIn K (.ref a.cCut) (.ref a.cBlocked) = some false)
    (sq_Cut_Broken : PySem.W.subIn K (.ref a.cCut) (.ref a.cBroken) = some false)
    (sq_Cut_Done : PySem.W.subIn K (.ref a.cCut) (.ref a.cDone) = some false)
    (sq_Cut_Leased : PySem.W.subIn K (.ref a.cCut) (.ref a.cLeased) = some false)
    (sq_Cut_Open : PySem.W.subIn K (.ref a.cCut) (.ref a.cOpen) = some false)
    (sq_Cut_Over : PySem.W.subIn K (.ref a.cCut) (.ref a.cOver) = some true)
    (sq_Cut_Ready : PySem.W.subIn K (.ref a.cCut) (.ref a.cReady) = some false)
    (sq_Cut_Resting : PySem.W.subIn K (.ref a.cCut) (.ref a.cResting) = some false)
    (sq_Cut_State : PySem.W.subIn K (.ref a.cCut) (.ref a.cState) = some true)
    (sq_Job_Blocked : PySem.W.subIn K (.ref a.cJob) (.ref a.cBlocked) = some false)
    (sq_Job_Broken : PySem.W.subIn K (.ref a.cJob) (.ref a.cBroken) = some false)
    (sq_Job_Cut : PySem.W.subIn K (.ref a.cJob) (.ref a.cCut) = some false)
    (sq_Job_Done : PySem.W.subIn K (.ref a.cJob) (.ref a.cDone) = some false)
    (sq_Job_Leased : PySem.W.subIn K (.ref a.cJob) (.ref a.cLeased) = some false)
    (sq_Job_Open : PySem.W.subIn K (.ref a.cJob) (.ref a.cOpen) = some false)
    (sq_Job_Over : PySem.W.subIn K (.ref a.cJob) (.ref a.cOver) = some false)
    (sq_Job_Ready : PySem.W.subIn K (.ref a.cJob) (.ref a.cReady) = some false)
    (sq_Job_Resting : PySem.W.subIn K (.ref a.cJob) (.ref a.cResting) = some false)
    (sq_Job_State : PySem.W.subIn K (.ref a.cJob) (.ref a.cState) = some false)
    (nq_State_Blocked : (Value.ref a.cState == Value.ref a.cBlocked) = false)
    (nq_State_Broken : (Value.ref a.cState == Value.ref a.cBroken) = false)
    (nq_State_Cut : (Value.ref a.cState == Value.ref a.cCut) = false)
    (nq_State_Done : (Value.ref a.cState == Value.ref a.cDone) = false)
    (nq_State_Leased : (Value.ref a.cState == Value.ref a.cLeased) = false)
    (nq_State_Open : (Value.ref a.cState == Value.ref a.cOpen) = false)
    (nq_State_Over : (Value.ref a.cState == Value.ref a.cOver) = false)
    (nq_State_Ready : (Value.ref a.cState == Value.ref a.cReady) = false)
    (nq_State_Resting : (Value.ref a.cState == Value.ref a.cResting) = false)
    (nq_Open_Blocked : (Value.ref a.cOpen == Value.ref a.cBlocked) = false)
    (nq_Open_Broken : (Value.ref a.cOpen == Value.ref a.cBroken) = false)
    (nq_Open_Cut : (Value.ref a.cOpen == Value.ref a.cCut) = false)
    (nq_Open_Done : (Value.ref a.cOpen == Value.ref a.cDone) = false)
    (nq_Open_Leased : (Value.ref a.cOpen == Value.ref a.cLeased) = false)
    (nq_Open_Over : (Value.ref a.cOpen == Value.ref a.cOver) = false)
    (nq_Open_Ready : (Value.ref a.cOpen == Value.ref a.cReady) = false)
    (nq_Open_Resting : (Value.ref a.cOpen == Value.ref a.cResting) = false)
    (nq_Open_State : (Value.ref a.cOpen == Value.ref a.cState) = false)
    (nq_Over_Blocked : (Value.ref a.cOver == Value.ref a.cBlocked) = false)
    (nq_Over_Broken : (Value.ref a.cOver == Value.ref a.cBroken) = false)
    (nq_Over_Cut : (Value.ref a.cOver == Value.ref a.cCut) = false)
    (nq_Over_Done : (Value.ref a.cOver == Value.ref a.cDone) = false)
    (nq_Over_Leased : (Value.ref a.cOver == Value.ref a.cLeased) = false)
    (nq_Over_Open : (Value.ref a.cOver == Value.ref a.cOpen) = false)
    (nq_Over_Ready : (Value.ref a.cOver == Value.ref a.cReady) = false)
    (nq_Over_Resting : (Value.ref a.cOver == Value.ref a.cResting) = false)
    (nq_Over_State : (Value.ref a.cOver == Value.ref a.cState) = false)
    (nq_Blocked_Broken : (Value.ref a.cBlocked == Value.ref a.cBroken) = false)
    (nq_Blocked_Cut : (Value.ref a.cBlocked == Value.ref a.cCut) = false)
    (nq_Blocked_Done : (Value.ref a.cBlocked == Value.ref a.cDone) = false)
    (nq_Blocked_Leased : (Value.ref a.cBlocked == Value.ref a.cLeased) = false)
    (nq_Blocked_Open : (Value.ref a.cBlocked == Value.ref a.cOpen) = false)
    (nq_Blocked_Over : (Value.ref a.cBlocked == Value.ref a.cOver) = false)
    (nq_Blocked_Ready : (Value.ref a.cBlocked == Value.ref a.cReady) = false)
    (nq_Blocked_Resting : (Value.ref a.cBlocked == Value.ref a.cResting) = false)
    (nq_Blocked_State : (Value.ref a.cBlocked == Value.ref a.cState) = false)
    (nq_Ready_Blocked : (Value.ref a.cReady == Value.ref a.cBlocked) = false)
    (nq_Ready_Broken : (Value.ref a.cReady == Value.ref a.cBroken) = false)
    (nq_Ready_Cut : (Value.ref a.cReady == Value.ref a.cCut) = false)
    (nq_Ready_Done : (Value.ref a.cReady == Value.ref a.cDone) = false)
    (nq_Ready_Leased : (Value.ref a.cReady == Value.ref a.cLeased) = false)
    (nq_Ready_Open : (Value.ref a.cReady == Value.ref a.cOpen) = false)
    (nq_Ready_Over : (Value.ref a.cReady == Value.ref a.cOver) = false)
    (nq_Ready_Resting : (Value.ref a.cReady == Value.ref a.cResting) = false)
    (nq_Ready_State : (Value.ref a.cReady == Value.ref a.cState) = false)
    (nq_Leased_Blocked : (Value.ref a.cLeased == Value.ref a.cBlocked) = false)
    (nq_Leased_Broken : (Value.ref a.cLeased == Value.ref a.cBroken) = false)
    (nq_Leased_Cut : (Value.ref a.cLeased == Value.ref a.cCut) = false)
    (nq_Leased_Done : (Value.ref a.cLeased == Value.ref a.cDone) = false)
    (nq_Leased_Open : (Value.ref a.cLeased == Value.ref a.cOpen) = false)
    (nq_Leased_Over : (Value.ref a.cLeased == Value.ref a.cOver) = false)
    (nq_Leased_Ready : (Value.ref a.cLeased == Value.ref a.cReady) = false)
    (nq_Leased_Resting : (Value.ref a.cLeased == Value.ref a.cResting) = false)
    (nq_Leased_State : (Value.ref a.cLeased == Value.ref a.cState) = false)
    (nq_Resting_Blocked : (Value.ref a.cResting == Value.ref a.cBlocked) = false)
    (nq_Resting_Broken : (Value.ref a.cResting == Value.ref a.cBroken) = false)
    (nq_Resting_Cut : (Value.ref a.cResting == Value.ref a.cCut) = false)
    (nq_Resting_Done : (Value.ref a.cResting == Value.ref a.cDone) = false)
    (nq_Resting_Leased : (Value.ref a.cResting == Value.ref a.cLeased) = false)
    (nq_Resting_Open : (Value.ref a.cResting == Value.ref a.cOpen) = false)
    (nq_Resting_Over : (Value.ref a.cResting == Value.ref a.cOver) = false)
    (nq_Resting_Ready : (Value.ref a.cResting == Value.ref a.cReady) = false)
    (nq_Resting_State : (Value.ref a.cResting == Value.ref a.cState) = false)
    (nq_Done_Blocked : (Value.ref a.cDone == Value.ref a.cBlocked) = false)
    (nq_Done_Broken : (Value.ref a.cDone == Value.ref a.cBroken) = false)
    (nq_Done_Cut : (Value.ref a.cDone == Value.ref a.cCut) = false)
    (nq_Done_Leased : (Value.ref a.cDone == Value.ref a.cLeased) = false)
    (nq_Done_Open : (Value.ref a.cDone == Value.ref a.cOpen) = false)
    (nq_Done_Over : (Value.ref a.cDone == Value.ref a.cOver) = false)
    (nq_Done_Ready : (Value.ref a.cDone == Value.ref a.cReady) = false)
    (nq_Done_Resting : (Value.ref a.cDone == Value.ref a.cResting) = false)
    (nq_Done_State : (Value.ref a.cDone == Value.ref a.cState) = false)
    (nq_Broken_Blocked : (Value.ref a.cBroken == Value.ref a.cBlocked) = false)
    (nq_Broken_Cut : (Value.ref a.cBroken == Value.ref a.cCut) = false)
    (nq_Broken_Done : (Value.ref a.cBroken == Value.ref a.cDone) = false)
    (nq_Broken_Leased : (Value.ref a.cBroken == Value.ref a.cLeased) = false)
    (nq_Broken_Open : (Value.ref a.cBroken == Value.ref a.cOpen) = false)
    (nq_Broken_Over : (Value.ref a.cBroken == Value.ref a.cOver) = false)
    (nq_Broken_Ready : (Value.ref a.cBroken == Value.ref a.cReady) = false)
    (nq_Broken_Resting : (Value.ref a.cBroken == Value.ref a.cResting) = false)
    (nq_Broken_State : (Value.ref a.cBroken == Value.ref a.cState) = false)
    (nq_Cut_Blocked : (Value.ref a.cCut == Value.ref a.cBlocked) = false)
    (nq_Cut_Broken : (Value.ref a.cCut == Value.ref a.cBroken) = false)
    (nq_Cut_Done : (Value.ref a.cCut == Value.ref a.cDone) = false)
    (nq_Cut_Leased : (Value.ref a.cCut == Value.ref a.cLeased) = false)
    (nq_Cut_Open : (Value.ref a.cCut == Value.ref a.cOpen) = false)
    (nq_Cut_Over : (Value.ref a.cCut == Value.ref a.cOver) = false)
    (nq_Cut_Ready : (Value.ref a.cCut == Value.ref a.cReady) = false)
    (nq_Cut_Resting : (Value.ref a.cCut == Value.ref a.cResting) = false)
    (nq_Cut_State : (Value.ref a.cCut == Value.ref a.cState) = false)
    (nq_Job_Blocked : (Value.ref a.cJob == Value.ref a.cBlocked) = false)
    (nq_Job_Broken : (Value.ref a.cJob == Value.ref a.cBroken) = false)
    (nq_Job_Cut : (Value.ref a.cJob == Value.ref a.cCut) = false)
    (nq_Job_Done : (Value.ref a.cJob == Value.ref a.cDone) = false)
    (nq_Job_Leased : (Value.ref a.cJob == Value.ref a.cLeased) = false)
    (nq_Job_Open : (Value.ref a.cJob == Value.ref a.cOpen) = false)
    (nq_Job_Over : (Value.ref a.cJob == Value.ref a.cOver) = false)
    (nq_Job_Ready : (Value.ref a.cJob == Value.ref a.cReady) = false)
    (nq_Job_Resting : (Value.ref a.cJob == Value.ref a.cResting) = false)
    (nq_Job_State : (Value.ref a.cJob == Value.ref a.cState) = false) :
    ∃ fd : FuncData, (∀ (s : Shared) (v : Value), BindsTo s fd ⟨[v], []⟩ [("_law_script", v)]) ∧ ∀ base : Heap, K.In base → base.Ns mainGlobals mg → FnOk l.prog w K mg base (L2.CX l.prog w) 7 fa fd ["_law_script"] (lift (S_law K a)) := by
  have e := hfa.symm.trans (PySem.W.mg_of X G a_law)
  cases e
  have T : Txt K mg a := {
    b_bool := PySem.W.mg_none_of X G b_bool
    b_enumerate := PySem.W.mg_none_of X G b_enumerate
    b_int := PySem.W.mg_none_of X G b_int
    b_isinstance := PySem.W.mg_none_of X G b_isinstance
    b_len := PySem.W.mg_none_of X G b_len
    b_list := PySem.W.mg_none_of X G b_list
    b_min := PySem.W.mg_none_of X G b_min
    b_range := PySem.W.mg_none_of X G b_range
    b_str := PySem.W.mg_none_of X G b_str
    b_tuple := PySem.W.mg_none_of X G b_tuple
    b_zip := PySem.W.mg_none_of X G b_zip
    g_MOST_WAIT := ⟨_, PySem.W.mg_of X G g_MOST_WAIT, ⟨_, rfl⟩⟩
    g_LETTERS := ⟨_, PySem.W.mg_of X G g_LETTERS, ⟨_, rfl⟩⟩
    g_MOST_LETTERS := ⟨_, PySem.W.mg_of X G g_MOST_LETTERS, ⟨_, rfl⟩⟩
    g_MOST_NEEDS := ⟨_, PySem.W.mg_of X G g_MOST_NEEDS, ⟨_, rfl⟩⟩
    g_LEAST := ⟨_, PySem.W.mg_of X G g_LEAST, rfl⟩
    k_LEAST := sqT_k k_LEAST (Nat.le_of_ble_eq_true rfl) (.cons ⟨_, rfl⟩ (.cons ⟨_, rfl⟩ (.cons ⟨_, rfl⟩ (.cons ⟨_, rfl⟩ (.cons ⟨_, rfl⟩ (.nil))))))
    g_MOST := ⟨_, PySem.W.mg_of X G g_MOST, rfl⟩
    k_MOST := sqT_k k_MOST (Nat.le_of_ble_eq_true rfl) (.cons ⟨_, rfl⟩ (.cons ⟨_, rfl⟩ (.cons ⟨_, rfl⟩ (.cons ⟨_, rfl⟩ (.cons ⟨_, rfl⟩ (.nil))))))
    m_State := PySem.W.mg_of X G m_State
    i_State := ⟨⟨pg_State, hd_State, po_State, sa_State⟩, ia_State, zz_n, zz_t, im_State⟩
    q_State_Blocked := kit_mk nq_State_Blocked (hd_some hd_Blocked) tq_Blocked sq_State_Blocked
    q_State_Broken := kit_mk nq_State_Broken (hd_some hd_Broken) tq_Broken sq_State_Broken
    q_State_Cut := kit_mk nq_State_Cut (hd_some hd_Cut) tq_Cut sq_State_Cut
    q_State_Done := kit_mk nq_State_Done (hd_some hd_Done) tq_Done sq_State_Done
    q_State_Leased := kit_mk nq_State_Leased (hd_some hd_Leased) tq_Leased sq_State_Leased
    q_State_Open := kit_mk nq_State_Open (hd_some hd_Open) tq_Open sq_State_Open
    q_State_Over := kit_mk nq_State_Over (hd_some hd_Over) tq_Over sq_State_Over
    q_State_Ready := kit_mk nq_State_Ready (hd_some hd_Ready) tq_Ready sq_State_Ready
    q_State_Resting := kit_mk nq_State_Resting (hd_some hd_Resting) tq_Resting sq_State_Resting
    m_Open := PySem.W.mg_of X G m_Open
    i_Open := ⟨⟨pg_Open, hd_Open, po_Open, sa_Open⟩, ia_Open, zz_n, zz_t, im_Open⟩
    q_Open_Blocked := kit_mk nq_Open_Blocked (hd_some hd_Blocked) tq_Blocked sq_Open_Blocked
    q_Open_Broken := kit_mk nq_Open_Broken (hd_some hd_Broken) tq_Broken sq_Open_Broken
    q_Open_Cut := kit_mk nq_Open_Cut (hd_some hd_Cut) tq_Cut sq_Open_Cut
    q_Open_Done := kit_mk nq_Open_Done (hd_some hd_Done) tq_Done sq_Open_Done
    q_Open_Leased := kit_mk nq_Open_Leased (hd_some hd_Leased) tq_Leased sq_Open_Leased
    q_Open_Over := kit_mk nq_Open_Over (hd_some hd_Over) tq_Over sq_Open_Over
    q_Open_Ready := kit_mk nq_Open_Ready (hd_some hd_Ready) tq_Ready sq_Open_Ready
    q_Open_Resting := kit_mk nq_Open_Resting (hd_some hd_Resting) tq_Resting sq_Open_Resting
    q_Open_State := kit_mk nq_Open_State (hd_some hd_State) tq_State sq_Open_State
    m_Over := PySem.W.mg_of X G m_Over
    i_Over := ⟨⟨pg_Over, hd_Over, po_Over, sa_Over⟩, ia_Over, zz_n, zz_t, im_Over⟩
    q_Over_Blocked := kit_mk nq_Over_Blocked (hd_some hd_Blocked) tq_Blocked sq_Over_Blocked
    q_Over_Broken := kit_mk nq_Over_Broken (hd_some hd_Broken) tq_Broken sq_Over_Broken
    q_Over_Cut := kit_mk nq_Over_Cut (hd_some hd_Cut) tq_Cut sq_Over_Cut
    q_Over_Done := kit_mk nq_Over_Done (hd_some hd_Done) tq_Done sq_Over_Done
    q_Over_Leased := kit_mk nq_Over_Leased (hd_some hd_Leased) tq_Leased sq_Over_Leased
    q_Over_Open := kit_mk nq_Over_Open (hd_some hd_Open) tq_Open sq_Over_Open
    q_Over_Ready := kit_mk nq_Over_Ready (hd_some hd_Ready) tq_Ready sq_Over_Ready
    q_Over_Resting := kit_mk nq_Over_Resting (hd_some hd_Resting) tq_Resting sq_Over_Resting
    q_Over_State := kit_mk nq_Over_State (hd_some hd_State) tq_State sq_Over_State
    m_Blocked := PySem.W.mg_of X G m_Blocked
    i_Blocked := ⟨⟨pg_Blocked, hd_Blocked, po_Blocked, sa_Blocked⟩, ia_Blocked, zz_n, zz_t, im_Blocked⟩
    q_Blocked_Broken := kit_mk nq_Blocked_Broken (hd_some hd_Broken) tq_Broken sq_Blocked_Broken
    q_Blocked_Cut := kit_mk nq_Blocked_Cut (hd_some hd_Cut) tq_Cut sq_Blocked_Cut
    q_Blocked_Done := kit_mk nq_Blocked_Done (hd_some hd_Done) tq_Done sq_Blocked_Done
    q_Blocked_Leased := kit_mk nq_Blocked_Leased (hd_some hd_Leased) tq_Leased sq_Blocked_Leased
    q_Blocked_Open := kit_mk nq_Blocked_Open (hd_some hd_Open) tq_Open sq_Blocked_Open
    q_Blocked_Over := kit_mk nq_Blocked_Over (hd_some hd_Over) tq_Over sq_Blocked_Over
    q_Blocked_Ready := kit_mk nq_Blocked_Ready (hd_some hd_Ready) tq_Ready sq_Blocked_Ready
    q_Blocked_Resting := kit_mk nq_Blocked_Resting (hd_some hd_Resting) tq_Resting sq_Blocked_Resting
    q_Blocked_State := kit_mk nq_Blocked_State (hd_some hd_State) tq_State sq_Blocked_State
    n_Blocked_left := n_Blocked_left
    m_Ready := PySem.W.mg_of X G m_Ready
    i_Ready := ⟨⟨pg_Ready, hd_Ready, po_Ready, sa_Ready⟩, ia_Ready, zz_n, zz_t, im_Ready⟩
    q_Ready_Blocked := kit_mk nq_Ready_Blocked (hd_some hd_Blocked) tq_Blocked sq_Ready_Blocked
    q_Ready_Broken := kit_mk nq_Ready_Broken (hd_some hd_Broken) tq_Broken sq_Ready_Broken
    q_Ready_Cut := kit_mk nq_Ready_Cut (hd_some hd_Cut) tq_Cut sq_Ready_Cut
    q_Ready_Done := kit_mk nq_Ready_Done (hd_some hd_Done) tq_Done sq_Ready_Done
    q_Ready_Leased := kit_mk nq_Ready_Leased (hd_some hd_Leased) tq_Leased sq_Ready_Leased
    q_Ready_Open := kit_mk nq_Ready_Open (hd_some hd_Open) tq_Open sq_Ready_Open
    q_Ready_Over := kit_mk nq_Ready_Over (hd_some hd_Over) tq_Over sq_Ready_Over
    q_Ready_Resting := kit_mk nq_Ready_Resting (hd_some hd_Resting) tq_Resting sq_Ready_Resting
    q_Ready_State := kit_mk nq_Ready_State (hd_some hd_State) tq_State sq_Ready_State
    n_Ready_fails := n_Ready_fails
    m_Leased := PySem.W.mg_of X G m_Leased
    i_Leased := ⟨⟨pg_Leased, hd_Leased, po_Leased, sa_Leased⟩, ia_Leased, zz_n, zz_t, im_Leased⟩
    q_Leased_Blocked := kit_mk nq_Leased_Blocked (hd_some hd_Blocked) tq_Blocked sq_Leased_Blocked
    q_Leased_Broken := kit_mk nq_Leased_Broken (hd_some hd_Broken) tq_Broken sq_Leased_Broken
    q_Leased_Cut := kit_mk nq_Leased_Cut (hd_some hd_Cut) tq_Cut sq_Leased_Cut
    q_Leased_Done := kit_mk nq_Leased_Done (hd_some hd_Done) tq_Done sq_Leased_Done
    q_Leased_Open := kit_mk nq_Leased_Open (hd_some hd_Open) tq_Open sq_Leased_Open
    q_Leased_Over := kit_mk nq_Leased_Over (hd_some hd_Over) tq_Over sq_Leased_Over
    q_Leased_Ready := kit_mk nq_Leased_Ready (hd_some hd_Ready) tq_Ready sq_Leased_Ready
    q_Leased_Resting := kit_mk nq_Leased_Resting (hd_some hd_Resting) tq_Resting sq_Leased_Resting
    q_Leased_State := kit_mk nq_Leased_State (hd_some hd_State) tq_State sq_Leased_State
    n_Leased_fails := n_Leased_fails
    n_Leased_number := n_Leased_number
    m_Resting := PySem.W.mg_of X G m_Resting
    i_Resting := ⟨⟨pg_Resting, hd_Resting, po_Resting, sa_Resting⟩, ia_Resting, zz_n, zz_t, im_Resting⟩
    q_Resting_Blocked := kit_mk nq_Resting_Blocked (hd_some hd_Blocked) tq_Blocked sq_Resting_Blocked
    q_Resting_Broken := kit_mk nq_Resting_Broken (hd_some hd_Broken) tq_Broken sq_Resting_Broken
    q_Resting_Cut := kit_mk nq_Resting_Cut (hd_some hd_Cut) tq_Cut sq_Resting_Cut
    q_Resting_Done := kit_mk nq_Resting_Done (hd_some hd_Done) tq_Done sq_Resting_Done
    q_Resting_Leased := kit_mk nq_Resting_Leased (hd_some hd_Leased) tq_Leased sq_Resting_Leased
    q_Resting_Open := kit_mk nq_Resting_Open (hd_some hd_Open) tq_Open sq_Resting_Open
    q_Resting_Over := kit_mk nq_Resting_Over (hd_some hd_Over) tq_Over sq_Resting_Over
    q_Resting_Ready := kit_mk nq_Resting_Ready (hd_some hd_Ready) tq_Ready sq_Resting_Ready
    q_Resting_State := kit_mk nq_Resting_State (hd_some hd_State) tq_State sq_Resting_State
    n_Resting_fails := n_Resting_fails
    n_Resting_until := n_Resting_until
    m_Done := PySem.W.mg_of X G m_Done
    i_Done := ⟨⟨pg_Done, hd_Done, po_Done, sa_Done⟩, ia_Done, zz_n, zz_t, im_Done⟩
    q_Done_Blocked := kit_mk nq_Done_Blocked (hd_some hd_Blocked) tq_Blocked sq_Done_Blocked
    q_Done_Broken := kit_mk nq_Done_Broken (hd_some hd_Broken) tq_Broken sq_Done_Broken
    q_Done_Cut := kit_mk nq_Done_Cut (hd_some hd_Cut) tq_Cut sq_Done_Cut
    q_Done_Leased := kit_mk nq_Done_Leased (hd_some hd_Leased) tq_Leased sq_Done_Leased
    q_Done_Open := kit_mk nq_Done_Open (hd_some hd_Open) tq_Open sq_Done_Open
    q_Done_Over := kit_mk nq_Done_Over (hd_some hd_Over) tq_Over sq_Done_Over
    q_Done_Ready := kit_mk nq_Done_Ready (hd_some hd_Ready) tq_Ready sq_Done_Ready
    q_Done_Resting := kit_mk nq_Done_Resting (hd_some hd_Resting) tq_Resting sq_Done_Resting
    q_Done_State := kit_mk nq_Done_State (hd_some hd_State) tq_State sq_Done_State
    n_Done_fails := n_Done_fails
    n_Done_number := n_Done_number
    n_Done_turn := n_Done_turn
    m_Broken := PySem.W.mg_of X G m_Broken
    i_Broken := ⟨⟨pg_Broken, hd_Broken, po_Broken, sa_Broken⟩, ia_Broken, zz_n, zz_t, im_Broken⟩
    q_Broken_Blocked := kit_mk nq_Broken_Blocked (hd_some hd_Blocked) tq_Blocked sq_Broken_Blocked
    q_Broken_Cut := kit_mk nq_Broken_Cut (hd_some hd_Cut) tq_Cut sq_Broken_Cut
    q_Broken_Done := kit_mk nq_Broken_Done (hd_some hd_Done) tq_Done sq_Broken_Done
    q_Broken_Leased := kit_mk nq_Broken_Leased (hd_some hd_Leased) tq_Leased sq_Broken_Leased
    q_Broken_Open := kit_mk nq_Broken_Open (hd_some hd_Open) tq_Open sq_Broken_Open
    q_Broken_Over := kit_mk nq_Broken_Over (hd_some hd_Over) tq_Over sq_Broken_Over
    q_Broken_Ready := kit_mk nq_Broken_Ready (hd_some hd_Ready) tq_Ready sq_Broken_Ready
    q_Broken_Resting := kit_mk nq_Broken_Resting (hd_some hd_Resting) tq_Resting sq_Broken_Resting
    q_Broken_State := kit_mk nq_Broken_State (hd_some hd_State) tq_State sq_Broken_State
    n_Broken_fails := n_Broken_fails
    n_Broken_why := n_Broken_why
    m_Cut := PySem.W.mg_of X G m_Cut
    i_Cut := ⟨⟨pg_Cut, hd_Cut, po_Cut, sa_Cut⟩, ia_Cut, zz_n, zz_t, im_Cut⟩
    q_Cut_Blocked := kit_mk nq_Cut_Blocked (hd_some hd_Blocked) tq_Blocked sq_Cut_Blocked
    q_Cut_Broken := kit_mk nq_Cut_Broken (hd_some hd_Broken) tq_Broken sq_Cut_Broken
    q_Cut_Done := kit_mk nq_Cut_Done (hd_some hd_Done) tq_Done sq_Cut_Done
    q_Cut_Leased := kit_mk nq_Cut_Leased (hd_some hd_Leased) tq_Leased sq_Cut_Leased
    q_Cut_Open := kit_mk nq_Cut_Open (hd_some hd_Open) tq_Open sq_Cut_Open
    q_Cut_Over := kit_mk nq_Cut_Over (hd_some hd_Over) tq_Over sq_Cut_Over
    q_Cut_Ready := kit_mk nq_Cut_Ready (hd_some hd_Ready) tq_Ready sq_Cut_Ready
    q_Cut_Resting := kit_mk nq_Cut_Resting (hd_some hd_Resting) tq_Resting sq_Cut_Resting
    q_Cut_State := kit_mk nq_Cut_State (hd_some hd_State) tq_State sq_Cut_State
    n_Cut_need := n_Cut_need
    m_Job := PySem.W.mg_of X G m_Job
    i_Job := ⟨⟨pg_Job, hd_Job, po_Job, sa_Job⟩, ia_Job, zz_n, zz_t, im_Job⟩
    q_Job_Blocked := kit_mk nq_Job_Blocked (hd_some hd_Blocked) tq_Blocked sq_Job_Blocked
    q_Job_Broken := kit_mk nq_Job_Broken (hd_some hd_Broken) tq_Broken sq_Job_Broken
    q_Job_Cut := kit_mk nq_Job_Cut (hd_some hd_Cut) tq_Cut sq_Job_Cut
    q_Job_Done := kit_mk nq_Job_Done (hd_some hd_Done) tq_Done sq_Job_Done
    q_Job_Leased := kit_mk nq_Job_Leased (hd_some hd_Leased) tq_Leased sq_Job_Leased
    q_Job_Open := kit_mk nq_Job_Open (hd_some hd_Open) tq_Open sq_Job_Open
    q_Job_Over := kit_mk nq_Job_Over (hd_some hd_Over) tq_Over sq_Job_Over
    q_Job_Ready := kit_mk nq_Job_Ready (hd_some hd_Ready) tq_Ready sq_Job_Ready
    q_Job_Resting := kit_mk nq_Job_Resting (hd_some hd_Resting) tq_Resting sq_Job_Resting
    q_Job_State := kit_mk nq_Job_State (hd_some hd_State) tq_State sq_Job_State
    n_Job_name := n_Job_name
    n_Job_needs := n_Job_needs
    n_Job_rank := n_Job_rank
    n_Job_span := n_Job_span
    n_Job_tries := n_Job_tries
    n_Job_wait := n_Job_wait
    n_Job_grow := n_Job_grow }
  have F_wait_after := funD_mk (st := s_wait_after) l_wait_after c_wait_after k_wait_after
  have B_wait_after := F_wait_after.bindsN (ps := ["job", "fails"]) fun _ _ _ _ _ _ us hl => match us, hl with | [_, _], _ => rfl
  have F_is_whole := funD_mk (st := s_is_whole) l_is_whole c_is_whole k_is_whole
  have B_is_whole := F_is_whole.bindsN (ps := ["thing"]) fun _ _ _ _ _ _ us hl => match us, hl with | [_], _ => rfl
  have F_is_among := funD_mk (st := s_is_among) l_is_among c_is_among k_is_among
  have B_is_among := F_is_among.bindsN (ps := ["thing", "least", "most"]) fun _ _ _ _ _ _ us hl => match us, hl with | [_, _, _], _ => rfl
  have F_is_made_of := funD_mk (st := s_is_made_of) l_is_made_of c_is_made_of k_is_made_of
  have B_is_made_of := F_is_made_of.bindsN (ps := ["thing", "signs", "most"]) fun _ _ _ _ _ _ us hl => match us, hl with | [_, _, _], _ => rfl
  have F_is_name := funD_mk (st := s_is_name) l_is_name c_is_name k_is_name
  have B_is_name := F_is_name.bindsN (ps := ["thing"]) fun _ _ _ _ _ _ us hl => match us, hl with | [_], _ => rfl
  have F_State_is_over := funD_mk (st := s_State_is_over) l_State_is_over c_State_is_over k_State_is_over
  have B_State_is_over := F_State_is_over.bindsN (ps := ["self"]) fun _ _ _ _ _ _ us hl => match us, hl with | [_], _ => rfl
  have F_State_count_fails := funD_mk (st := s_State_count_fails) l_State_count_fails c_State_count_fails k_State_count_fails
  have B_State_count_fails := F_State_count_fails.bindsN (ps := ["self"]) fun _ _ _ _ _ _ us hl => match us, hl with | [_], _ => rfl
  have F_Over_is_over := funD_mk (st := s_Over_is_over) l_Over_is_over c_Over_is_over k_Over_is_over
  have B_Over_is_over := F_Over_is_over.bindsN (ps := ["self"]) fun _ _ _ _ _ _ us hl => match us, hl with | [_], _ => rfl
  have F_Blocked_init := funD_mk (st := s_Blocked_init) l_Blocked_init c_Blocked_init k_Blocked_init
  have B_Blocked_init := F_Blocked_init.bindsN (ps := ["self", "left"]) fun _ _ _ _ _ _ us hl => match us, hl with | [_, _], _ => rfl
  have F_Blocked_word := funD_mk (st := s_Blocked_word) l_Blocked_word c_Blocked_word k_Blocked_word
  have B_Blocked_word := F_Blocked_word.bindsN (ps := ["self"]) fun _ _ _ _ _ _ us hl => match us, hl with | [_], _ => rfl
  have F_Blocked_told := funD_mk (st := s_Blocked_told) l_Blocked_told c_Blocked_told k_Blocked_told
  have B_Blocked_told := F_Blocked_told.bindsN (ps := ["self"]) fun _ _ _ _ _ _ us hl => match us, hl with | [_], _ => rfl
  have F_Blocked_freed := funD_mk (st := s_Blocked_freed) l_Blocked_freed c_Blocked_freed k_Blocked_freed
  have B_Blocked_freed := F_Blocked_freed.bindsN (ps := ["self"]) fun _ _ _ _ _ _ us hl => match us, hl with | [_], _ => rfl
  have F_Blocked_cut_off := funD_mk (st := s_Blocked_cut_off) l_Blocked_cut_off c_Blocked_cut_off k_Blocked_cut_off
  have B_Blocked_cut_off := F_Blocked_cut_off.bindsN (ps := ["self", "need"]) fun _ _ _ _ _ _ us hl => match us, hl with | [_, _], _ => rfl
  have F_Ready_init := funD_mk (st := s_Ready_init) l_Ready_init c_Ready_init k_Ready_init
  have B_Ready_init := F_Ready_init.bindsN (ps := ["self", "fails"]) fun _ _ _ _ _ _ us hl => match us, hl with | [_, _], _ => rfl
  have F_Ready_word := funD_mk (st := s_Ready_word) l_Ready_word c_Ready_word k_Ready_word
  have B_Ready_word := F_Ready_word.bindsN (ps := ["self"]) fun _ _ _ _ _ _ us hl => match us, hl with | [_], _ => rfl
  have F_Ready_count_fails := funD_mk (st := s_Ready_count_fails) l_Ready_count_fails c_Ready_count_fails k_Ready_count_fails
  have B_Ready_count_fails := F_Ready_count_fails.bindsN (ps := ["self"]) fun _ _ _ _ _ _ us hl => match us, hl with | [_], _ => rfl
  have F_Ready_told := funD_mk (st := s_Ready_told) l_Ready_told c_Ready_told k_Ready_told
  have B_Ready_told := F_Ready_told.bindsN (ps := ["self"]) fun _ _ _ _ _ _ us hl => match us, hl with | [_], _ => rfl
  have F_Ready_leased := funD_mk (st := s_Ready_leased) l_Ready_leased c_Ready_leased k_Ready_leased
  have B_Ready_leased := F_Ready_leased.bindsN (ps := ["self", "number"]) fun _ _ _ _ _ _ us hl => match us, hl with | [_, _], _ => rfl
  have F_Leased_init := funD_mk (st := s_Leased_init) l_Leased_init c_Leased_init k_Leased_init
  have B_Leased_init := F_Leased_init.bindsN (ps := ["self", "fails", "number"]) fun _ _ _ _ _ _ us hl => match us, hl with | [_, _, _], _ => rfl
  have F_Leased_word := funD_mk (st := s_Leased_word) l_Leased_word c_Leased_word k_Leased_word
  have B_Leased_word := F_Leased_word.bindsN (ps := ["self"]) fun _ _ _ _ _ _ us hl => match us, hl with | [_], _ => rfl
  have F_Leased_count_fails := funD_mk (st := s_Leased_count_fails) l_Leased_count_fails c_Leased_count_fails k_Leased_count_fails
  have B_Leased_count_fails := F_Leased_count_fails.bindsN (ps := ["self"]) fun _ _ _ _ _ _ us hl => match us, hl with | [_], _ => rfl
  have F_Leased_told := funD_mk (st := s_Leased_told) l_Leased_told c_Leased_told k_Leased_told
  have B_Leased_told := F_Leased_told.bindsN (ps := ["self"]) fun _ _ _ _ _ _ us hl => match us, hl with | [_], _ => rfl
  have F_Leased_ended := funD_mk (st := s_Leased_ended) l_Leased_ended c_Leased_ended k_Leased_ended
  have B_Leased_ended := F_Leased_ended.bindsN (ps := ["self", "turn"]) fun _ _ _ _ _ _ us hl => match us, hl with | [_, _], _ => rfl
  have F_Leased_failed := funD_mk (st := s_Leased_failed) l_Leased_failed c_Leased_failed k_Leased_failed
  have B_Leased_failed := F_Leased_failed.bindsN (ps := ["self", "job", "turn", "why"]) fun _ _ _ _ _ _ us hl => match us, hl with | [_, _, _, _], _ => rfl
  have F_Resting_init := funD_mk (st := s_Resting_init) l_Resting_init c_Resting_init k_Resting_init
  have B_Resting_init := F_Resting_init.bindsN (ps := ["self", "fails", "until"]) fun _ _ _ _ _ _ us hl => match us, hl with | [_, _, _], _ => rfl
  have F_Resting_word := funD_mk (st := s_Resting_word) l_Resting_word c_Resting_word k_Resting_word
  have B_Resting_word := F_Resting_word.bindsN (ps := ["self"]) fun _ _ _ _ _ _ us hl => match us, hl with | [_], _ => rfl
  have F_Resting_count_fails := funD_mk (st := s_Resting_count_fails) l_Resting_count_fails c_Resting_count_fails k_Resting_count_fails
  have B_Resting_count_fails := F_Resting_count_fails.bindsN (ps := ["self"]) fun _ _ _ _ _ _ us hl => match us, hl with | [_], _ => rfl
  have F_Resting_told := funD_mk (st := s_Resting_told) l_Resting_told c_Resting_told k_Resting_told
  have B_Resting_told := F_Resting_told.bindsN (ps := ["self"]) fun _ _ _ _ _ _ us hl => match us, hl with | [_], _ => rfl
  have F_Resting_rested := funD_mk (st := s_Resting_rested) l_Resting_rested c_Resting_rested k_Resting_rested
  have B_Resting_rested := F_Resting_rested.bindsN (ps := ["self"]) fun _ _ _ _ _ _ us hl => match us, hl with | [_], _ => rfl
  have F_Done_init := funD_mk (st := s_Done_init) l_Done_init c_Done_init k_Done_init
  have B_Done_init := F_Done_init.bindsN (ps := ["self", "fails", "number", "turn"]) fun _ _ _ _ _ _ us hl => match us, hl with | [_, _, _, _], _ => rfl
  have F_Done_word := funD_mk (st := s_Done_word) l_Done_word c_Done_word k_Done_word
  have B_Done_word := F_Done_word.bindsN (ps := ["self"]) fun _ _ _ _ _ _ us hl => match us, hl with | [_], _ => rfl
  have F_Done_count_fails := funD_mk (st := s_Done_count_fails) l_Done_count_fails c_Done_count_fails k_Done_count_fails
  have B_Done_count_fails := F_Done_count_fails.bindsN (ps := ["self"]) fun _ _ _ _ _ _ us hl => match us, hl with | [_], _ => rfl
  have F_Done_told := funD_mk (st := s_Done_told) l_Done_told c_Done_told k_Done_told
  have B_Done_told := F_Done_told.bindsN (ps := ["self"]) fun _ _ _ _ _ _ us hl => match us, hl with | [_], _ => rfl
  have F_Broken_init := funD_mk (st := s_Broken_init) l_Broken_init c_Broken_init k_Broken_init
  have B_Broken_init := F_Broken_init.bindsN (ps := ["self", "fails", "why"]) fun _ _ _ _ _ _ us hl => match us, hl with | [_, _, _], _ => rfl
  have F_Broken_word := funD_mk (st := s_Broken_word) l_Broken_word c_Broken_word k_Broken_word
  have B_Broken_word := F_Broken_word.bindsN (ps := ["self"]) fun _ _ _ _ _ _ us hl => match us, hl with | [_], _ => rfl
  have F_Broken_count_fails := funD_mk (st := s_Broken_count_fails) l_Broken_count_fails c_Broken_count_fails k_Broken_count_fails
  have B_Broken_count_fails := F_Broken_count_fails.bindsN (ps := ["self"]) fun _ _ _ _ _ _ us hl => match us, hl with | [_], _ => rfl
  have F_Broken_told := funD_mk (st := s_Broken_told) l_Broken_told c_Broken_told k_Broken_told
  have B_Broken_told := F_Broken_told.bindsN (ps := ["self"]) fun _ _ _ _ _ _ us hl => match us, hl with | [_], _ => rfl
  have F_Cut_init := funD_mk (st := s_Cut_init) l_Cut_init c_Cut_init k_Cut_init
  have B_Cut_init := F_Cut_init.bindsN (ps := ["self", "need"]) fun _ _ _ _ _ _ us hl => match us, hl with | [_, _], _ => rfl
  have F_Cut_word := funD_mk (st := s_Cut_word) l_Cut_word c_Cut_word k_Cut_word
  have B_Cut_word := F_Cut_word.bindsN (ps := ["self"]) fun _ _ _ _ _ _ us hl => match us, hl with | [_], _ => rfl
  have F_Cut_told := funD_mk (st := s_Cut_told) l_Cut_told c_Cut_told k_Cut_told
  have B_Cut_told := F_Cut_told.bindsN (ps := ["self"]) fun _ _ _ _ _ _ us hl => match us, hl with | [_], _ => rfl
  have F_first_state := funD_mk (st := s_first_state) l_first_state c_first_state k_first_state
  have B_first_state := F_first_state.bindsN (ps := ["job"]) fun _ _ _ _ _ _ us hl => match us, hl with | [_], _ => rfl
  have F_own_needs := funD_mk (st := s_own_needs) l_own_needs c_own_needs k_own_needs
  have B_own_needs := F_own_needs.bindsN (ps := ["name", "needs"]) fun _ _ _ _ _ _ us hl => match us, hl with | [_, _], _ => rfl
  have F_need_numbers := funD_mk (st := s_need_numbers) l_need_numbers c_need_numbers k_need_numbers
  have B_need_numbers := F_need_numbers.bindsN (ps := ["numbers"]) fun _ _ _ _ _ _ us hl => match us, hl with | [_], _ => rfl
  have F_Job_init := funD_mkD (st := s_Job_init) (dvs := [.non, .int (0), .int (1), .int (1), .int (0), .int (1)]) l_Job_init c_Job_init k_Job_init dl_Job_init rfl (.cons rfl (.cons ⟨_, rfl⟩ (.cons ⟨_, rfl⟩ (.cons ⟨_, rfl⟩ (.cons ⟨_, rfl⟩ (.cons ⟨_, rfl⟩ (.nil))))))) (by decide)
  have B_Job_init := binds_all (ps := ["self", "name", "needs", "rank", "span", "tries", "wait", "grow"]) F_Job_init (by decide) fun _ _ _ _ _ _ _ us its hl hi => match us, its, hl, hi with | [_, _, _, _, _, _, _, _], [_, _, _, _, _, _], _, _ => ⟨_, rfl, rfl⟩
  have F_law_cell_at := funD_mk (st := s_law_cell_at) l_law_cell_at c_law_cell_at k_law_cell_at
  have B_law_cell_at := F_law_cell_at.bindsN (ps := ["_law_script", "_law_k"]) fun _ _ _ _ _ _ us hl => match us, hl with | [_, _], _ => rfl
  have F_law_mixed := funD_mk (st := s_law_mixed) l_law_mixed c_law_mixed k_law_mixed
  have B_law_mixed := F_law_mixed.bindsN (ps := ["_law_cell", "_law_k"]) fun _ _ _ _ _ _ us hl => match us, hl with | [_, _], _ => rfl
  have F_law_whole := funD_mk (st := s_law_whole) l_law_whole c_law_whole k_law_whole
  have B_law_whole := F_law_whole.bindsN (ps := ["_law_thing"]) fun _ _ _ _ _ _ us hl => match us, hl with | [_], _ => rfl
  have F_law_same := funD_mk (st := s_law_same) l_law_same c_law_same k_law_same
  have B_law_same := F_law_same.bindsN (ps := ["_law_found", "_law_due"]) fun _ _ _ _ _ _ us hl => match us, hl with | [_, _], _ => rfl
  have F_law_is := funD_mk (st := s_law_is) l_law_is c_law_is k_law_is
  have B_law_is := F_law_is.bindsN (ps := ["_law_word", "_law_state"]) fun _ _ _ _ _ _ us hl => match us, hl with | [_, _], _ => rfl
  have F_law_over := funD_mk (st := s_law_over) l_law_over c_law_over k_law_over
  have B_law_over := F_law_over.bindsN (ps := ["_law_state"]) fun _ _ _ _ _ _ us hl => match us, hl with | [_], _ => rfl
  have F_law_stands := funD_mk (st := s_law_stands) l_law_stands c_law_stands k_law_stands
  have B_law_stands := F_law_stands.bindsN (ps := ["_law_state", "_law_due", "_law_cell"]) fun _ _ _ _ _ _ us hl => match us, hl with | [_, _, _], _ => rfl
  have F_law_job := funD_mk (st := s_law_job) l_law_job c_law_job k_law_job
  have B_law_job := F_law_job.bindsN (ps := ["_law_cell", "_law_own"]) fun _ _ _ _ _ _ us hl => match us, hl with | [_, _], _ => rfl
  have F_law_rest := funD_mk (st := s_law_rest) l_law_rest c_law_rest k_law_rest
  have B_law_rest := F_law_rest.bindsN (ps := ["_law_own", "_law_fails"]) fun _ _ _ _ _ _ us hl => match us, hl with | [_, _], _ => rfl
  have F_law_first := funD_mk (st := s_law_first) l_law_first c_law_first k_law_first
  have B_law_first := F_law_first.bindsN (ps := ["_law_own"]) fun _ _ _ _ _ _ us hl => match us, hl with | [_], _ => rfl
  have F_law_turn := funD_mk (st := s_law_turn) l_law_turn c_law_turn k_law_turn
  have B_law_turn := F_law_turn.bindsN (ps := ["_law_number"]) fun _ _ _ _ _ _ us hl => match us, hl with | [_], _ => rfl
  have F_law_stepped := funD_mk (st := s_law_stepped) l_law_stepped c_law_stepped k_law_stepped
  have B_law_stepped := F_law_stepped.bindsN (ps := ["_law_state", "_law_job_here", "_law_due", "_law_own", "_law_number"]) fun _ _ _ _ _ _ us hl => match us, hl with | [_, _, _, _, _], _ => rfl
  have F_law := funD_mk (st := s_law) l_law c_law k_law
  have B_law := F_law.bindsN (ps := ["_law_script"]) fun _ _ _ _ _ _ us hl => match us, hl with | [_], _ => rfl
  refine ⟨PySem.W.fnOf "law" "law" (defArgs s_law) (defBody s_law) (defScope s_law) .none kV_law dc_law pm_law an_law cd_law ct_law, fun s v => .of_eq rfl, fun base hb hn => ?_⟩
  have O_wait_after := mk_fn (σ0 := fun _ => []) (P := l.prog) (w := w) (mg := mg) (base := base) (k := 0) (sp := S_wait_after K a) F_wait_after sc_wait_after (by intro vs A Φ Ψ; unfold S_wait_after; walk_at "len") (fun cdv A outer s H E hr => dv_wait_after T  hr) (fun vs A Φ Ψ E hx h => w_wait_after T h hx)
  have G_wait_after := defR_of F_wait_after (PySem.W.mg_of X G a_wait_after) B_wait_after O_wait_after
  have O_is_whole := mk_fn (σ0 := fun _ => []) (P := l.prog) (w := w) (mg := mg) (base := base) (k := 0) (sp := S_is_whole K a) F_is_whole sc_is_whole (by intro vs A Φ Ψ; unfold S_is_whole; walk_at "len") (fun cdv A outer s H E hr => dv_is_whole T  hr) (fun vs A Φ Ψ E hx h => w_is_whole T h hx)
  have G_is_whole := defR_of F_is_whole (PySem.W.mg_of X G a_is_whole) B_is_whole O_is_whole
  have O_is_made_of := mk_fn (σ0 := fun _ => []) (P := l.prog) (w := w) (mg := mg) (base := base) (k := 0) (sp := S_is_made_of K a) F_is_made_of sc_is_made_of (by intro vs A Φ Ψ; unfold S_is_made_of; walk_at "len") (fun cdv A outer s H E hr => dv_is_made_of T  hr) (fun vs A Φ Ψ E hx h => w_is_made_of T h hx)
  have G_is_made_of := defR_of F_is_made_of (PySem.W.mg_of X G a_is_made_of) B_is_made_of O_is_made_of
  have O_State_is_over := mk_fn (σ0 := fun _ => []) (P := l.prog) (w := w) (mg := mg) (base := base) (k := 0) (sp := S_State_is_over K a) F_State_is_over sc_State_is_over (by intro vs A Φ Ψ; unfold S_State_is_over; walk_at "len") (fun cdv A outer s H E hr => dv_State_is_over T  hr) (fun vs A Φ Ψ E hx h => w_State_is_over T h hx)
  have O_State_count_fails := mk_fn (σ0 := fun _ => []) (P := l.prog) (w := w) (mg := mg) (base := base) (k := 0) (sp := S_State_count_fails K a) F_State_count_fails sc_State_count_fails (by intro vs A Φ Ψ; unfold S_State_count_fails; walk_at "len") (fun cdv A outer s H E hr => dv_State_count_fails T  hr) (fun vs A Φ Ψ E hx h => w_State_count_fails T h hx)
  have O_Over_is_over := mk_fn (σ0 := fun _ => []) (P := l.prog) (w := w) (mg := mg) (base := base) (k := 0) (sp := S_Over_is_over K a) F_Over_is_over sc_Over_is_over (by intro vs A Φ Ψ; unfold S_Over_is_over; walk_at "len") (fun cdv A outer s H E hr => dv_Over_is_over T  hr) (fun vs A Φ Ψ E hx h => w_Over_is_over T h hx)
  have O_Blocked_init := mk_fn (σ0 := fun _ => []) (P := l.prog) (w := w) (mg := mg) (base := base) (k := 0) (sp := S_Blocked_init K a) F_Blocked_init sc_Blocked_init (by intro vs A Φ Ψ; unfold S_Blocked_init; walk_at "len") (fun cdv A outer s H E hr => dv_Blocked_init T  hr) (fun vs A Φ Ψ E hx h => w_Blocked_init T h hx)
  have G_Blocked_init := makR_of ⟨mk_Blocked, a_Blocked_init, i_Blocked_init, kc_Blocked⟩ T.m_Blocked B_Blocked_init O_Blocked_init
  have O_Blocked_word := mk_fn (σ0 := fun _ => []) (P := l.prog) (w := w) (mg := mg) (base := base) (k := 0) (sp := S_Blocked_word K a) F_Blocked_word sc_Blocked_word (by intro vs A Φ Ψ; unfold S_Blocked_word; walk_at "len") (fun cdv A outer s H E hr => dv_Blocked_word T  hr) (fun vs A Φ Ψ E hx h => w_Blocked_word T h hx)
  have O_Ready_init := mk_fn (σ0 := fun _ => []) (P := l.prog) (w := w) (mg := mg) (base := base) (k := 0) (sp := S_Ready_init K a) F_Ready_init sc_Ready_init (by intro vs A Φ Ψ; unfold S_Ready_init; walk_at "len") (fun cdv A outer s H E hr => dv_Ready_init T  hr) (fun vs A Φ Ψ E hx h => w_Ready_init T h hx)
  have G_Ready_init := makR_of ⟨mk_Ready, a_Ready_init, i_Ready_init, kc_Ready⟩ T.m_Ready B_Ready_init O_Ready_init
  have O_Ready_word := mk_fn (σ0 := fun _ => []) (P := l.prog) (w := w) (mg := mg) (base := base) (k := 0) (sp := S_Ready_word K a) F_Ready_word sc_Ready_word (by intro vs A Φ Ψ; unfold S_Ready_word; walk_at "len") (fun cdv A outer s H E hr => dv_Ready_word T  hr) (fun vs A Φ Ψ E hx h => w_Ready_word T h hx)
  have O_Ready_count_fails := mk_fn (σ0 := fun _ => []) (P := l.prog) (w := w) (mg := mg) (base := base) (k := 0) (sp := S_Ready_count_fails K a) F_Ready_count_fails sc_Ready_count_fails (by intro vs A Φ Ψ; unfold S_Ready_count_fails; walk_at "len") (fun cdv A outer s H E hr => dv_Ready_count_fails T  hr) (fun vs A Φ Ψ E hx h => w_Ready_count_fails T h hx)
  have O_Leased_init := mk_fn (σ0 := fun _ => []) (P := l.prog) (w := w) (mg := mg) (base := base) (k := 0) (sp := S_Leased_init K a) F_Leased_init sc_Leased_init (by intro vs A Φ Ψ; unfold S_Leased_init; walk_at "len") (fun cdv A outer s H E hr => dv_Leased_init T  hr) (fun vs A Φ Ψ E hx h => w_Leased_init T h hx)
  have G_Leased_init := makR_of ⟨mk_Leased, a_Leased_init, i_Leased_init, kc_Leased⟩ T.m_Leased B_Leased_init O_Leased_init
  have O_Leased_word := mk_fn (σ0 := fun _ => []) (P := l.prog) (w := w) (mg := mg) (base := base) (k := 0) (sp := S_Leased_word K a) F_Leased_word sc_Leased_word (by intro vs A Φ Ψ; unfold S_Leased_word; walk_at "len") (fun cdv A outer s H E hr => dv_Leased_word T  hr) (fun vs A Φ Ψ E hx h => w_Leased_word T h hx)
  have O_Leased_count_fails := mk_fn (σ0 := fun _ => []) (P := l.prog) (w := w) (mg := mg) (base := base) (k := 0) (sp := S_Leased_count_fails K a) F_Leased_count_fails sc_Leased_count_fails (by intro vs A Φ Ψ; unfold S_Leased_count_fails; walk_at "len") (fun cdv A outer s H E hr => dv_Leased_count_fails T  hr) (fun vs A Φ Ψ E hx h => w_Leased_count_fails T h hx)
  have O_Resting_init := mk_fn (σ0 := fun _ => []) (P := l.prog) (w := w) (mg := mg) (base := base) (k := 0) (sp := S_Resting_init K a) F_Resting_init sc_Resting_init (by intro vs A Φ Ψ; unfold S_Resting_init; walk_at "len") (fun cdv A outer s H E hr => dv_Resting_init T  hr) (fun vs A Φ Ψ E hx h => w_Resting_init T h hx)
  have G_Resting_init := makR_of ⟨mk_Resting, a_Resting_init, i_Resting_init, kc_Resting⟩ T.m_Resting B_Resting_init O_Resting_init
  have O_Resting_word := mk_fn (σ0 := fun _ => []) (P := l.prog) (w := w) (mg := mg) (base := base) (k := 0) (sp := S_Resting_word K a) F_Resting_word sc_Resting_word (by intro vs A Φ Ψ; unfold S_Resting_word; walk_at "len") (fun cdv A outer s H E hr => dv_Resting_word T  hr) (fun vs A Φ Ψ E hx h => w_Resting_word T h hx)
  have O_Resting_count_fails := mk_fn (σ0 := fun _ => []) (P := l.prog) (w := w) (mg := mg) (base := base) (k := 0) (sp := S_Resting_count_fails K a) F_Resting_count_fails sc_Resting_count_fails (by intro vs A Φ Ψ; unfold S_Resting_count_fails; walk_at "len") (fun cdv A outer s H E hr => dv_Resting_count_fails T  hr) (fun vs A Φ Ψ E hx h => w_Resting_count_fails T h hx)
  have O_Done_init := mk_fn (σ0 := fun _ => []) (P := l.prog) (w := w) (mg := mg) (base := base) (k := 0) (sp := S_Done_init K a) F_Done_init sc_Done_init (by intro vs A Φ Ψ; unfold S_Done_init; walk_at "len") (fun cdv A outer s H E hr => dv_Done_init T  hr) (fun vs A Φ Ψ E hx h => w_Done_init T h hx)
  have G_Done_init := makR_of ⟨mk_Done, a_Done_init, i_Done_init, kc_Done⟩ T.m_Done B_Done_init O_Done_init
  have O_Done_word := mk_fn (σ0 := fun _ => []) (P := l.prog) (w := w) (mg := mg) (base := base) (k := 0) (sp := S_Done_word K a) F_Done_word sc_Done_word (by intro vs A Φ Ψ; unfold S_Done_word; walk_at "len") (fun cdv A outer s H E hr => dv_Done_word T  hr) (fun vs A Φ Ψ E hx h => w_Done_word T h hx)
  have O_Done_count_fails := mk_fn (σ0 := fun _ => []) (P := l.prog) (w := w) (mg := mg) (base := base) (k := 0) (sp := S_Done_count_fails K a) F_Done_count_fails sc_Done_count_fails (by intro vs A Φ Ψ; unfold S_Done_count_fails; walk_at "len") (fun cdv A outer s H E hr => dv_Done_count_fails T  hr) (fun vs A Φ Ψ E hx h => w_Done_count_fails T h hx)
  have O_Broken_init := mk_fn (σ0 := fun _ => []) (P := l.prog) (w := w) (mg := mg) (base := base) (k := 0) (sp := S_Broken_init K a) F_Broken_init sc_Broken_init (by intro vs A Φ Ψ; unfold S_Broken_init; walk_at "len") (fun cdv A outer s H E hr => dv_Broken_init T  hr) (fun vs A Φ Ψ E hx h => w_Broken_init T h hx)
  have G_Broken_init := makR_of ⟨mk_Broken, a_Broken_init, i_Broken_init, kc_Broken⟩ T.m_Broken B_Broken_init O_Broken_init
  have O_Broken_word := mk_fn (σ0 := fun _ => []) (P := l.prog) (w := w) (mg := mg) (base := base) (k := 0) (sp := S_Broken_word K a) F_Broken_word sc_Broken_word (by intro vs A Φ Ψ; unfold S_Broken_word; walk_at "len") (fun cdv A outer s H E hr => dv_Broken_word T  hr) (fun vs A Φ Ψ E hx h => w_Broken_word T h hx)
  have O_Broken_count_fails := mk_fn (σ0 := fun _ => []) (P := l.prog) (w := w) (mg := mg) (base := base) (k := 0) (sp := S_Broken_count_fails K a) F_Broken_count_fails sc_Broken_count_fails (by intro vs A Φ Ψ; unfold S_Broken_count_fails; walk_at "len") (fun cdv A outer s H E hr => dv_Broken_count_fails T  hr) (fun vs A Φ Ψ E hx h => w_Broken_count_fails T h hx)
  have O_Cut_init := mk_fn (σ0 := fun _ => []) (P := l.prog) (w := w) (mg := mg) (base := base) (k := 0) (sp := S_Cut_init K a) F_Cut_init sc_Cut_init (by intro vs A Φ Ψ; unfold S_Cut_init; walk_at "len") (fun cdv A outer s H E hr => dv_Cut_init T  hr) (fun vs A Φ Ψ E hx h => w_Cut_init T h hx)
  have G_Cut_init := makR_of ⟨mk_Cut, a_Cut_init, i_Cut_init, kc_Cut⟩ T.m_Cut B_Cut_init O_Cut_init
  have O_Cut_word := mk_fn (σ0 := fun _ => []) (P := l.prog) (w := w) (mg := mg) (base := base) (k := 0) (sp := S_Cut_word K a) F_Cut_word sc_Cut_word (by intro vs A Φ Ψ; unfold S_Cut_word; walk_at "len") (fun cdv A outer s H E hr => dv_Cut_word T  hr) (fun vs A Φ Ψ E hx h => w_Cut_word T h hx)
  have O_law_cell_at := mk_fn (σ0 := fun _ => []) (P := l.prog) (w := w) (mg := mg) (base := base) (k := 0) (sp := S_law_cell_at K a) F_law_cell_at sc_law_cell_at (by intro vs A Φ Ψ; unfold S_law_cell_at; walk_at "len") (fun cdv A outer s H E hr => dv_law_cell_at T  hr) (fun vs A Φ Ψ E hx h => w_law_cell_at T h hx)
  have G_law_cell_at := defR_of F_law_cell_at (PySem.W.mg_of X G a_law_cell_at) B_law_cell_at O_law_cell_at
  have O_law_mixed := mk_fn (σ0 := fun _ => []) (P := l.prog) (w := w) (mg := mg) (base := base) (k := 0) (sp := S_law_mixed K a) F_law_mixed sc_law_mixed (by intro vs A Φ Ψ; unfold S_law_mixed; walk_at "len") (fun cdv A outer s H E hr => dv_law_mixed T  hr) (fun vs A Φ Ψ E hx h => w_law_mixed T h hx)
  have G_law_mixed := defR_of F_law_mixed (PySem.W.mg_of X G a_law_mixed) B_law_mixed O_law_mixed
  have O_law_whole := mk_fn (σ0 := fun _ => []) (P := l.prog) (w := w) (mg := mg) (base := base) (k := 0) (sp := S_law_whole K a) F_law_whole sc_law_whole (by intro vs A Φ Ψ; unfold S_law_whole; walk_at "len") (fun cdv A outer s H E hr => dv_law_whole T  hr) (fun vs A Φ Ψ E hx h => w_law_whole T h hx)
  have G_law_whole := defR_of F_law_whole (PySem.W.mg_of X G a_law_whole) B_law_whole O_law_whole
  have O_law_same := mk_fn (σ0 := fun _ => []) (P := l.prog) (w := w) (mg := mg) (base := base) (k := 0) (sp := S_law_same K a) F_law_same sc_law_same (by intro vs A Φ Ψ; unfold S_law_same; walk_at "len") (fun cdv A outer s H E hr => dv_law_same T  hr) (fun vs A Φ Ψ E hx h => w_law_same T h hx)
  have G_law_same := defR_of F_law_same (PySem.W.mg_of X G a_law_same) B_law_same O_law_same
  have O_law_is := mk_fn (σ0 := fun _ => []) (P := l.prog) (w := w) (mg := mg) (base := base) (k := 0) (sp := S_law_is K a) F_law_is sc_law_is (by intro vs A Φ Ψ; unfold S_law_is; walk_at "len") (fun cdv A outer s H E hr => dv_law_is T  hr) (fun vs A Φ Ψ E hx h => w_law_is T h hx)
  have G_law_is := defR_of F_law_is (PySem.W.mg_of X G a_law_is) B_law_is O_law_is
  have O_law_rest := mk_fn (σ0 := fun _ => []) (P := l.prog) (w := w) (mg := mg) (base := base) (k := 0) (sp := S_law_rest K a) F_law_rest sc_law_rest (by intro vs A Φ Ψ; unfold S_law_rest; walk_at "len") (fun cdv A outer s H E hr => dv_law_rest T  hr) (fun vs A Φ Ψ E hx h => w_law_rest T h hx)
  have G_law_rest := defR_of F_law_rest (PySem.W.mg_of X G a_law_rest) B_law_rest O_law_rest
  have O_law_first := mk_fn (σ0 := fun _ => []) (P := l.prog) (w := w) (mg := mg) (base := base) (k := 0) (sp := S_law_first K a) F_law_first sc_law_first (by intro vs A Φ Ψ; unfold S_law_first; walk_at "len") (fun cdv A outer s H E hr => dv_law_first T  hr) (fun vs A Φ Ψ E hx h => w_law_first T h hx)
  have G_law_first := defR_of F_law_first (PySem.W.mg_of X G a_law_first) B_law_first O_law_first
  have O_law_turn := mk_fn (σ0 := fun _ => []) (P := l.prog) (w := w) (mg := mg) (base := base) (k := 0) (sp := S_law_turn K a) F_law_turn sc_law_turn (by intro vs A Φ Ψ; unfold S_law_turn; walk_at "len") (fun cdv A outer s H E hr => dv_law_turn T  hr) (fun vs A Φ Ψ E hx h => w_law_turn T h hx)
  have G_law_turn := defR_of F_law_turn (PySem.W.mg_of X G a_law_turn) B_law_turn O_law_turn
  have O_is_among := mk_fn (σ0 := fun _ => []) (P := l.prog) (w := w) (mg := mg) (base := base) (k := 1) (sp := S_is_among K a) F_is_among sc_is_among (by intro vs A Φ Ψ; unfold S_is_among; walk_at "len") (fun cdv A outer s H E hr => dv_is_among T G_is_whole hr) (fun vs A Φ Ψ E hx h => w_is_among T h hx)
  have G_is_among := defR_of F_is_among (PySem.W.mg_of X G a_is_among) B_is_among O_is_among
  have O_is_name := mk_fn (σ0 := fun _ => []) (P := l.prog) (w := w) (mg := mg) (base := base) (k := 1) (sp := S_is_name K a) F_is_name sc_is_name (by intro vs A Φ Ψ; unfold S_is_name; walk_at "len") (fun cdv A outer s H E hr => dv_is_name T G_is_made_of hr) (fun vs A Φ Ψ E hx h => w_is_name T h hx)
  have G_is_name := defR_of F_is_name (PySem.W.mg_of X G a_is_name) B_is_name O_is_name
  have MM_word : ∀ C sp, MT K a "word" C sp → MethR l.prog w K mg base 1 C "word" (lift sp) := by
    intro C sp hm
    rcases mt_word rfl hm with ⟨rfl, rfl⟩ | ⟨rfl, rfl⟩ | ⟨rfl, rfl⟩ | ⟨rfl, rfl⟩ | ⟨rfl, rfl⟩ | ⟨rfl, rfl⟩ | ⟨rfl, rfl⟩
    · exact methR_mono (methR_of T.i_Blocked.c ⟨a_Blocked_word, i_Blocked_word, k_Blocked_word⟩ B_Blocked_word O_Blocked_word) (by decide)
    · exact methR_mono (methR_of T.i_Ready.c ⟨a_Ready_word, i_Ready_word, k_Ready_word⟩ B_Ready_word O_Ready_word) (by decide)
    · exact methR_mono (methR_of T.i_Leased.c ⟨a_Leased_word, i_Leased_word, k_Leased_word⟩ B_Leased_word O_Leased_word) (by decide)
    · exact methR_mono (methR_of T.i_Resting.c ⟨a_Resting_word, i_Resting_word, k_Resting_word⟩ B_Resting_word O_Resting_word) (by decide)
    · exact methR_mono (methR_of T.i_Done.c ⟨a_Done_word, i_Done_word, k_Done_word⟩ B_Done_word O_Done_word) (by decide)
    · exact methR_mono (methR_of T.i_Broken.c ⟨a_Broken_word, i_Broken_word, k_Broken_word⟩ B_Broken_word O_Broken_word) (by decide)
    · exact methR_mono (methR_of T.i_Cut.c ⟨a_Cut_word, i_Cut_word, k_Cut_word⟩ B_Cut_word O_Cut_word) (by decide)
  have O_Blocked_told := mk_fn (σ0 := fun _ => []) (P := l.prog) (w := w) (mg := mg) (base := base) (k := 1) (sp := S_Blocked_told K a) F_Blocked_told sc_Blocked_told (by intro vs A Φ Ψ; unfold S_Blocked_told; walk_at "len") (fun cdv A outer s H E hr => dv_Blocked_told T MM_word hr) (fun vs A Φ Ψ E hx h => w_Blocked_told T h hx)
  have O_Ready_told := mk_fn (σ0 := fun _ => []) (P := l.prog) (w := w) (mg := mg) (base := base) (k := 1) (sp := S_Ready_told K a) F_Ready_told sc_Ready_told (by intro vs A Φ Ψ; unfold S_Ready_told; walk_at "len") (fun cdv A outer s H E hr => dv_Ready_told T MM_word hr) (fun vs A Φ Ψ E hx h => w_Ready_told T h hx)
  have O_Leased_told := mk_fn (σ0 := fun _ => []) (P := l.prog) (w := w) (mg := mg) (base := base) (k := 1) (sp := S_Leased_told K a) F_Leased_told sc_Leased_told (by intro vs A Φ Ψ; unfold S_Leased_told; walk_at "len") (fun cdv A outer s H E hr => dv_Leased_told T MM_word hr) (fun vs A Φ Ψ E hx h => w_Leased_told T h hx)
  have O_Resting_told := mk_fn (σ0 := fun _ => []) (P := l.prog) (w := w) (mg := mg) (base := base) (k := 1) (sp := S_Resting_told K a) F_Resting_told sc_Resting_told (by intro vs A Φ Ψ; unfold S_Resting_told; walk_at "len") (fun cdv A outer s H E hr => dv_Resting_told T MM_word hr) (fun vs A Φ Ψ E hx h => w_Resting_told T h hx)
  have O_Done_told := mk_fn (σ0 := fun _ => []) (P := l.prog) (w := w) (mg := mg) (base := base) (k := 1) (sp := S_Done_told K a) F_Done_told sc_Done_told (by intro vs A Φ Ψ; unfold S_Done_told; walk_at "len") (fun cdv A outer s H E hr => dv_Done_told T MM_word hr) (fun vs A Φ Ψ E hx h => w_Done_told T h hx)
  have O_Broken_told := mk_fn (σ0 := fun _ => []) (P := l.prog) (w := w) (mg := mg) (base := base) (k := 1) (sp := S_Broken_told K a) F_Broken_told sc_Broken_told (by intro vs A Φ Ψ; unfold S_Broken_told; walk_at "len") (fun cdv A outer s H E hr => dv_Broken_told T MM_word hr) (fun vs A Φ Ψ E hx h => w_Broken_told T h hx)
  have O_Cut_told := mk_fn (σ0 := fun _ => []) (P := l.prog) (w := w) (mg := mg) (base := base) (k := 1) (sp := S_Cut_told K a) F_Cut_told sc_Cut_told (by intro vs A Φ Ψ; unfold S_Cut_told; walk_at "len") (fun cdv A outer s H E hr => dv_Cut_told T MM_word hr) (fun vs A Φ Ψ E hx h => w_Cut_told T h hx)
  have MM_is_over : ∀ C sp, MT K a "is_over" C sp → MethR l.prog w K mg base 1 C "is_over" (lift sp) := by
    intro C sp hm
    rcases mt_is_over rfl hm with ⟨rfl, rfl⟩ | ⟨rfl, rfl⟩ | ⟨rfl, rfl⟩ | ⟨rfl, rfl⟩ | ⟨rfl, rfl⟩ | ⟨rfl, rfl⟩ | ⟨rfl, rfl⟩ | ⟨rfl, rfl⟩ | ⟨rfl, rfl⟩ | ⟨rfl, rfl⟩
    · exact methR_mono (methR_of T.i_State.c ⟨a_State_is_over, i_State_is_over, k_State_is_over⟩ B_State_is_over O_State_is_over) (by decide)
    · exact methR_mono (methR_of T.i_Open.c ⟨a_Open_State_is_over, i_State_is_over, k_State_is_over⟩ B_State_is_over O_State_is_over) (by decide)
    · exact methR_mono (methR_of T.i_Over.c ⟨a_Over_is_over, i_Over_is_over, k_Over_is_over⟩ B_Over_is_over O_Over_is_over) (by decide)
    · exact methR_mono (methR_of T.i_Blocked.c ⟨a_Blocked_State_is_over, i_State_is_over, k_State_is_over⟩ B_State_is_over O_State_is_over) (by decide)
    · exact methR_mono (methR_of T.i_Ready.c ⟨a_Ready_State_is_over, i_State_is_over, k_State_is_over⟩ B_State_is_over O_State_is_over) (by decide)
    · exact methR_mono (methR_of T.i_Leased.c ⟨a_Leased_State_is_over, i_State_is_over, k_State_is_over⟩ B_State_is_over O_State_is_over) (by decide)
    · exact methR_mono (methR_of T.i_Resting.c ⟨a_Resting_State_is_over, i_State_is_over, k_State_is_over⟩ B_State_is_over O_State_is_over) (by decide)
    · exact methR_mono (methR_of T.i_Done.c ⟨a_Done_Over_is_over, i_Over_is_over, k_Over_is_over⟩ B_Over_is_over O_Over_is_over) (by decide)
    · exact methR_mono (methR_of T.i_Broken.c ⟨a_Broken_Over_is_over, i_Over_is_over, k_Over_is_over⟩ B_Over_is_over O_Over_is_over) (by decide)
    · exact methR_mono (methR_of T.i_Cut.c ⟨a_Cut_Over_is_over, i_Over_is_over, k_Over_is_over⟩ B_Over_is_over O_Over_is_over) (by decide)
  have O_law_over := mk_fn (σ0 := fun _ => []) (P := l.prog) (w := w) (mg := mg) (base := base) (k := 1) (sp := S_law_over K a) F_law_over sc_law_over (by intro vs A Φ Ψ; unfold S_law_over; walk_at "len") (fun cdv A outer s H E hr => dv_law_over T MM_is_over hr) (fun vs A Φ Ψ E hx h => w_law_over T h hx)
  have G_law_over := defR_of F_law_over (PySem.W.mg_of X G a_law_over) B_law_over O_law_over
  have O_Blocked_freed := mk_fn (σ0 := fun _ => []) (P := l.prog) (w := w) (mg := mg) (base := base) (k := 2) (sp := S_Blocked_freed K a) F_Blocked_freed sc_Blocked_freed (by intro vs A Φ Ψ; unfold S_Blocked_freed; walk_at "len") (fun cdv A outer s H E hr => dv_Blocked_freed T G_Blocked_init G_Ready_init hr) (fun vs A Φ Ψ E hx h => w_Blocked_freed T h hx)
  have O_Blocked_cut_off := mk_fn (σ0 := fun _ => []) (P := l.prog) (w := w) (mg := mg) (base := base) (k := 2) (sp := S_Blocked_cut_off K a) F_Blocked_cut_off sc_Blocked_cut_off (by intro vs A Φ Ψ; unfold S_Blocked_cut_off; walk_at "len") (fun cdv A outer s H E hr => dv_Blocked_cut_off T G_Cut_init hr) (fun vs A Φ Ψ E hx h => w_Blocked_cut_off T h hx)
  have O_Ready_leased := mk_fn (σ0 := fun _ => []) (P := l.prog) (w := w) (mg := mg) (base := base) (k := 2) (sp := S_Ready_leased K a) F_Ready_leased sc_Ready_leased (by intro vs A Φ Ψ; unfold S_Ready_leased; walk_at "len") (fun cdv A outer s H E hr => dv_Ready_leased T G_Leased_init hr) (fun vs A Φ Ψ E hx h => w_Ready_leased T h hx)
  have O_Leased_ended := mk_fn (σ0 := fun _ => []) (P := l.prog) (w := w) (mg := mg) (base := base) (k := 2) (sp := S_Leased_ended K a) F_Leased_ended sc_Leased_ended (by intro vs A Φ Ψ; unfold S_Leased_ended; walk_at "len") (fun cdv A outer s H E hr => dv_Leased_ended T G_Done_init hr) (fun vs A Φ Ψ E hx h => w_Leased_ended T h hx)
  have O_Leased_failed := mk_fn (σ0 := fun _ => []) (P := l.prog) (w := w) (mg := mg) (base := base) (k := 2) (sp := S_Leased_failed K a) F_Leased_failed sc_Leased_failed (by intro vs A Φ Ψ; unfold S_Leased_failed; walk_at "len") (fun cdv A outer s H E hr => dv_Leased_failed T G_Broken_init G_Ready_init G_Resting_init G_wait_after hr) (fun vs A Φ Ψ E hx h => w_Leased_failed T h hx)
  have O_Resting_rested := mk_fn (σ0 := fun _ => []) (P := l.prog) (w := w) (mg := mg) (base := base) (k := 2) (sp := S_Resting_rested K a) F_Resting_rested sc_Resting_rested (by intro vs A Φ Ψ; unfold S_Resting_rested; walk_at "len") (fun cdv A outer s H E hr => dv_Resting_rested T G_Ready_init hr) (fun vs A Φ Ψ E hx h => w_Resting_rested T h hx)
  have O_first_state := mk_fn (σ0 := fun _ => []) (P := l.prog) (w := w) (mg := mg) (base := base) (k := 2) (sp := S_first_state K a) F_first_state sc_first_state (by intro vs A Φ Ψ; unfold S_first_state; walk_at "len") (fun cdv A outer s H E hr => dv_first_state T G_Blocked_init G_Ready_init hr) (fun vs A Φ Ψ E hx h => w_first_state T h hx)
  have G_first_state := defR_of F_first_state (PySem.W.mg_of X G a_first_state) B_first_state O_first_state
  have O_own_needs := mk_fn (σ0 := fun _ => []) (P := l.prog) (w := w) (mg := mg) (base := base) (k := 2) (sp := S_own_needs K a) F_own_needs sc_own_needs (by intro vs A Φ Ψ; unfold S_own_needs; walk_at "len") (fun cdv A outer s H E hr => dv_own_needs T G_is_name hr) (fun vs A Φ Ψ E hx h => w_own_needs T h hx)
  have G_own_needs := defR_of F_own_needs (PySem.W.mg_of X G a_own_needs) B_own_needs O_own_needs
  have O_need_numbers := mk_fn (σ0 := fun _ => []) (P := l.prog) (w := w) (mg := mg) (base := base) (k := 2) (sp := S_need_numbers K a) F_need_numbers sc_need_numbers (by intro vs A Φ Ψ; unfold S_need_numbers; walk_at "len") (fun cdv A outer s H E hr => dv_need_numbers T G_is_among hr) (fun vs A Φ Ψ E hx h => w_need_numbers T h hx)
  have G_need_numbers := defR_of F_need_numbers (PySem.W.mg_of X G a_need_numbers) B_need_numbers O_need_numbers
  have MM_count_fails : ∀ C sp, MT K a "count_fails" C sp → MethR l.prog w K mg base 1 C "count_fails" (lift sp) := by
    intro C sp hm
    rcases mt_count_fails rfl hm with ⟨rfl, rfl⟩ | ⟨rfl, rfl⟩ | ⟨rfl, rfl⟩ | ⟨rfl, rfl⟩ | ⟨rfl, rfl⟩ | ⟨rfl, rfl⟩ | ⟨rfl, rfl⟩ | ⟨rfl, rfl⟩ | ⟨rfl, rfl⟩ | ⟨rfl, rfl⟩
    · exact methR_mono (methR_of T.i_State.c ⟨a_State_count_fails, i_State_count_fails, k_State_count_fails⟩ B_State_count_fails O_State_count_fails) (by decide)
    · exact methR_mono (methR_of T.i_Open.c ⟨a_Open_State_count_fails, i_State_count_fails, k_State_count_fails⟩ B_State_count_fails O_State_count_fails) (by decide)
    · exact methR_mono (methR_of T.i_Over.c ⟨a_Over_State_count_fails, i_State_count_fails, k_State_count_fails⟩ B_State_count_fails O_State_count_fails) (by decide)
    · exact methR_mono (methR_of T.i_Blocked.c ⟨a_Blocked_State_count_fails, i_State_count_fails, k_State_count_fails⟩ B_State_count_fails O_State_count_fails) (by decide)
    · exact methR_mono (methR_of T.i_Ready.c ⟨a_Ready_count_fails, i_Ready_count_fails, k_Ready_count_fails⟩ B_Ready_count_fails O_Ready_count_fails) (by decide)
    · exact methR_mono (methR_of T.i_Leased.c ⟨a_Leased_count_fails, i_Leased_count_fails, k_Leased_count_fails⟩ B_Leased_count_fails O_Leased_count_fails) (by decide)
    · exact methR_mono (methR_of T.i_Resting.c ⟨a_Resting_count_fails, i_Resting_count_fails, k_Resting_count_fails⟩ B_Resting_count_fails O_Resting_count_fails) (by decide)
    · exact methR_mono (methR_of T.i_Done.c ⟨a_Done_count_fails, i_Done_count_fails, k_Done_count_fails⟩ B_Done_count_fails O_Done_count_fails) (by decide)
    · exact methR_mono (methR_of T.i_Broken.c ⟨a_Broken_count_fails, i_Broken_count_fails, k_Broken_count_fails⟩ B_Broken_count_fails O_Broken_count_fails) (by decide)
    · exact methR_mono (methR_of T.i_Cut.c ⟨a_Cut_State_count_fails, i_State_count_fails, k_State_count_fails⟩ B_State_count_fails O_State_count_fails) (by decide)
  have MM_told : ∀ C sp, MT K a "told" C sp → MethR l.prog w K mg base 2 C "told" (lift sp) := by
    intro C sp hm
    rcases mt_told rfl hm with ⟨rfl, rfl⟩ | ⟨rfl, rfl⟩ | ⟨rfl, rfl⟩ | ⟨rfl, rfl⟩ | ⟨rfl, rfl⟩ | ⟨rfl, rfl⟩ | ⟨rfl, rfl⟩
    · exact methR_mono (methR_of T.i_Blocked.c ⟨a_Blocked_told, i_Blocked_told, k_Blocked_told⟩ B_Blocked_told O_Blocked_told) (by decide)
    · exact methR_mono (methR_of T.i_Ready.c ⟨a_Ready_told, i_Ready_told, k_Ready_told⟩ B_Ready_told O_Ready_told) (by decide)
    · exact methR_mono (methR_of T.i_Leased.c ⟨a_Leased_told, i_Leased_told, k_Leased_told⟩ B_Leased_told O_Leased_told) (by decide)
    · exact methR_mono (methR_of T.i_Resting.c ⟨a_Resting_told, i_Resting_told, k_Resting_told⟩ B_Resting_told O_Resting_told) (by decide)
    · exact methR_mono (methR_of T.i_Done.c ⟨a_Done_told, i_Done_told, k_Done_told⟩ B_Done_told O_Done_told) (by decide)
    · exact methR_mono (methR_of T.i_Broken.c ⟨a_Broken_told, i_Broken_told, k_Broken_told⟩ B_Broken_told O_Broken_told) (by decide)
    · exact methR_mono (methR_of T.i_Cut.c ⟨a_Cut_told, i_Cut_told, k_Cut_told⟩ B_Cut_told O_Cut_told) (by decide)
  have O_law_stands := mk_fn (σ0 := fun _ => []) (P := l.prog) (w := w) (mg := mg) (base := base) (k := 2) (sp := S_law_stands K a) F_law_stands sc_law_stands (by intro vs A Φ Ψ; unfold S_law_stands; walk_at "len") (fun cdv A outer s H E hr => dv_law_stands T G_law_is G_law_over G_law_same G_law_whole MM_count_fails MM_told MM_word hr) (fun vs A Φ Ψ E hx h => w_law_stands T h hx)
  have G_law_stands := defR_of F_law_stands (PySem.W.mg_of X G a_law_stands) B_law_stands O_law_stands
  have O_Job_init := mk_fn (σ0 := fun _ => []) (P := l.prog) (w := w) (mg := mg) (base := base) (k := 3) (sp := S_Job_init K a) F_Job_init sc_Job_init (by intro vs A Φ Ψ; unfold S_Job_init; walk_at "len") (fun cdv A outer s H E hr => dv_Job_init T G_is_name G_need_numbers G_own_needs hr) (fun vs A Φ Ψ E hx h => w_Job_init T h hx)
  have G_Job_init := makR_of ⟨mk_Job, a_Job_init, i_Job_init, kc_Job⟩ T.m_Job B_Job_init O_Job_init
  have MM_cut_off : ∀ C sp, MT K a "cut_off" C sp → MethR l.prog w K mg base 3 C "cut_off" (lift sp) := by
    intro C sp hm
    rcases mt_cut_off rfl hm with ⟨rfl, rfl⟩
    · exact methR_mono (methR_of T.i_Blocked.c ⟨a_Blocked_cut_off, i_Blocked_cut_off, k_Blocked_cut_off⟩ B_Blocked_cut_off O_Blocked_cut_off) (by decide)
  have MM_ended : ∀ C sp, MT K a "ended" C sp → MethR l.prog w K mg base 3 C "ended" (lift sp) := by
    intro C sp hm
    rcases mt_ended rfl hm with ⟨rfl, rfl⟩
    · exact methR_mono (methR_of T.i_Leased.c ⟨a_Leased_ended, i_Leased_ended, k_Leased_ended⟩ B_Leased_ended O_Leased_ended) (by decide)
  have MM_failed : ∀ C sp, MT K a "failed" C sp → MethR l.prog w K mg base 3 C "failed" (lift sp) := by
    intro C sp hm
    rcases mt_failed rfl hm with ⟨rfl, rfl⟩
    · exact methR_mono (methR_of T.i_Leased.c ⟨a_Leased_failed, i_Leased_failed, k_Leased_failed⟩ B_Leased_failed O_Leased_failed) (by decide)
  have MM_freed : ∀ C sp, MT K a "freed" C sp → MethR l.prog w K mg base 3 C "freed" (lift sp) := by
    intro C sp hm
    rcases mt_freed rfl hm with ⟨rfl, rfl⟩
    · exact methR_mono (methR_of T.i_Blocked.c ⟨a_Blocked_freed, i_Blocked_freed, k_Blocked_freed⟩ B_Blocked_freed O_Blocked_freed) (by decide)
  have MM_leased : ∀ C sp, MT K a "leased" C sp → MethR l.prog w K mg base 3 C "leased" (lift sp) := by
    intro C sp hm
    rcases mt_leased rfl hm with ⟨rfl, rfl⟩
    · exact methR_mono (methR_of T.i_Ready.c ⟨a_Ready_leased, i_Ready_leased, k_Ready_leased⟩ B_Ready_leased O_Ready_leased) (by decide)
  have MM_rested : ∀ C sp, MT K a "rested" C sp → MethR l.prog w K mg base 3 C "rested" (lift sp) := by
    intro C sp hm
    rcases mt_rested rfl hm with ⟨rfl, rfl⟩
    · exact methR_mono (methR_of T.i_Resting.c ⟨a_Resting_rested, i_Resting_rested, k_Resting_rested⟩ B_Resting_rested O_Resting_rested) (by decide)
  have O_law_stepped := mk_fn (σ0 := fun _ => []) (P := l.prog) (w := w) (mg := mg) (base := base) (k := 3) (sp := S_law_stepped K a) F_law_stepped sc_law_stepped (by intro vs A Φ Ψ; unfold S_law_stepped; walk_at "len") (fun cdv A outer s H E hr => dv_law_stepped T G_law_rest G_law_turn MM_cut_off MM_ended MM_failed MM_freed MM_leased MM_rested hr) (fun vs A Φ Ψ E hx h => w_law_stepped T h hx)
  have G_law_stepped := defR_of F_law_stepped (PySem.W.mg_of X G a_law_stepped) B_law_stepped O_law_stepped
  have O_law_job := mk_fn (σ0 := fun _ => []) (P := l.prog) (w := w) (mg := mg) (base := base) (k := 5) (sp := S_law_job K a) F_law_job sc_law_job (by intro vs A Φ Ψ; unfold S_law_job; walk_at "len") (fun cdv A outer s H E hr => dv_law_job T G_Job_init G_law_mixed hr) (fun vs A Φ Ψ E hx h => w_law_job T h hx)
  have G_law_job := defR_of F_law_job (PySem.W.mg_of X G a_law_job) B_law_job O_law_job
  have O_law := mk_fn (σ0 := fun _ => []) (P := l.prog) (w := w) (mg := mg) (base := base) (k := 6) (sp := S_law K a) F_law sc_law (by intro vs A Φ Ψ; unfold S_law; walk_at "len") (fun cdv A outer s H E hr => dv_law T G_law_cell_at G_law_first G_law_job G_law_mixed G_law_same G_law_stands G_law_stepped G_first_state MM_told hr) (fun vs A Φ Ψ E hx h => w_law T h hx)
  exact O_law
theorem all_mk {l : PySem.W.OpenLaw} {w : World} {K : PySem.W.Frag} {h : Heap} {mg : Str → Option Value} {fa : Addr} {cState : Addr} {cOpen : Addr} {cOver : Addr} {cBlocked : Addr} {cReady : Addr} {cLeased : Addr} {cResting : Addr} {cDone : Addr} {cBroken : Addr} {cCut : Addr} {cJob : Addr} {gLEAST : Addr} {gMOST : Addr}  {tk_MOST_WAIT : Tok} {tk_LETTERS : Tok} {tk_MOST_LETTERS : Tok} {tk_MOST_NEEDS : Tok} {tk_LEAST_0 : Tok} {tk_LEAST_1 : Tok} {tk_LEAST_2 : Tok} {tk_LEAST_3 : Tok} {tk_LEAST_4 : Tok} {od_LEAST : Option Addr} {sz_LEAST : Nat} {sl_LEAST : Array (Option Value)} {tk_MOST_0 : Tok} {tk_MOST_1 : Tok} {tk_MOST_2 : Tok} {tk_MOST_3 : Tok} {tk_MOST_4 : Tok} {od_MOST : Option Addr} {sz_MOST : Nat} {sl_MOST : Array (Option Value)} {oc_wait_after : Value} {od_wait_after : Option Addr} {kV_wait_after : Value} {dc_wait_after : Value} {pm_wait_after : Value} {an_wait_after : Option Addr} {cd_wait_after : Value} {ct_wait_after : Value} {sl_wait_after : Array (Option Value)} {f_wait_after : Addr} {oc_is_whole : Value} {od_is_whole : Option Addr} {kV_is_whole : Value} {dc_is_whole : Value} {pm_is_whole : Value} {an_is_whole : Option Addr} {cd_is_whole : Value} {ct_is_whole : Value} {sl_is_whole : Array (Option Value)} {f_is_whole : Addr} {oc_is_among : Value} {od_is_among : Option Addr} {kV_is_among : Value} {dc_is_among : Value} {pm_is_among : Value} {an_is_among : Option Addr} {cd_is_among : Value} {ct_is_among : Value} {sl_is_among : Array (Option Value)} {f_is_among : Addr} {oc_is_made_of : Value} {od_is_made_of : Option Addr} {kV_is_made_of : Value} {dc_is_made_of : Value} {pm_is_made_of : Value} {an_is_made_of : Option Addr} {cd_is_made_of : Value} {ct_is_made_of : Value} {sl_is_made_of : Array (Option Value)} {f_is_made_of : Addr} {oc_is_name : Value} {od_is_name : Option Addr} {kV_is_name : Value} {dc_is_name : Value} {pm_is_name : Value} {an_is_name : Option Addr} {cd_is_name : Value} {ct_is_name : Value} {sl_is_name : Array (Option Value)} {f_is_name : Addr} {oc_State_is_over : Value} {od_State_is_over : Option Addr} {kV_State_is_over : Value} {dc_State_is_over : Value} {pm_State_is_over : Value} {an_State_is_over : Option Addr} {cd_State_is_over : Value} {ct_State_is_over : Value} {sl_State_is_over : Array (Option Value)} {f_State_is_over : Addr} {oc_State_count_fails : Value} {od_State_count_fails : Option Addr} {kV_State_count_fails : Value} {dc_State_count_fails : Value} {pm_State_count_fails : Value} {an_State_count_fails : Option Addr} {cd_State_count_fails : Value} {ct_State_count_fails : Value} {sl_State_count_fails : Array (Option Value)} {f_State_count_fails : Addr} {oc_Over_is_over : Value} {od_Over_is_over : Option Addr} {kV_Over_is_over : Value} {dc_Over_is_over : Value} {pm_Over_is_over : Value} {an_Over_is_over : Option Addr} {cd_Over_is_over : Value} {ct_Over_is_over : Value} {sl_Over_is_over : Array (Option Value)} {f_Over_is_over : Addr} {oc_Blocked_init : Value} {od_Blocked_init : Option Addr} {kV_Blocked_init : Value} {dc_Blocked_init : Value} {pm_Blocked_init : Value} {an_Blocked_init : Option Addr} {cd_Blocked_init : Value} {ct_Blocked_init : Value} {sl_Blocked_init : Array (Option Value)} {f_Blocked_init : Addr} {oc_Blocked_word : Value} {od_Blocked_word : Option Addr} {kV_Blocked_word : Value} {dc_Blocked_word : Value} {pm_Blocked_word : Value} {an_Blocked_word : Option Addr} {cd_Blocked_word : Value} {ct_Blocked_word : Value} {sl_Blocked_word : Array (Option Value)} {f_Blocked_word : Addr} {oc_Blocked_told : Value} {od_Blocked_told : Option Addr} {kV_Blocked_told : Value} {dc_Blocked_told : Value} {pm_Blocked_told : Value} {an_Blocked_told : Option Addr} {cd_Blocked_told : Value} {ct_Blocked_told : Value} {sl_Blocked_told : Array (Option Value)} {f_Blocked_told : Addr} {oc_Blocked_freed : Value} {od_Blocked_freed : Option Addr} {kV_Blocked_freed : Value} {dc_Blocked_freed : Value} {pm_Blocked_freed : Value} {an_Blocked_freed : Option Addr} {cd_Blocked_freed : Value} {ct_Blocked_freed : Value} {sl_Blocked_freed : Array (Option Value)} {f_Blocked_freed : Addr} {oc_Blocked_cut_off : Value} {od_Blocked_cut_off : Option Addr} {kV_Blocked_cut_off : Value} {dc_Blocked_cut_off : Value} {pm_Blocked_cut_off : Value} {an_Blocked_cut_off : Option Addr} {cd_Blocked_cut_off : Value} {ct_Blocked_cut_off : Value} {sl_Blocked_cut_off : Array (Option Value)} {f_Blocked_cut_off : Addr} {oc_Ready_init : Value} {od_Ready_init : Option Addr} {kV_Ready_init : Value} {dc_Ready_init : Value} {pm_Ready_init : Value} {an_Ready_init : Option Addr} {cd_Ready_init : Value} {ct_Ready_init : Value} {sl_Ready_init : Array (Option Value)} {f_Ready_init : Addr} {oc_Ready_word : Value} {od_Ready_word : Option Addr} {kV_Ready_word : Value} {dc_Ready_word : Value} {pm_Ready_word : Value} {an_Ready_word : Option Addr} {cd_Ready_word : Value} {ct_Ready_word : Value} {sl_Ready_word : Array (Option Value)} {f_Ready_word : Addr} {oc_Ready_count_fails : Value} {od_Ready_count_fails : Option Addr} {kV_Ready_count_fails : Value} {dc_Ready_count_fails : Value} {pm_Ready_count_fails : Value} {an_Ready_count_fails : Option Addr} {cd_Ready_count_fails : Value} {ct_Ready_count_fails : Value} {sl_Ready_count_fails : Array (Option Value)} {f_Ready_count_fails : Addr} {oc_Ready_told : Value} {od_Ready_told : Option Addr} {kV_Ready_told : Value} {dc_Ready_told : Value} {pm_Ready_told : Value} {an_Ready_told : Option Addr} {cd_Ready_told : Value} {ct_Ready_told : Value} {sl_Ready_told : Array (Option Value)} {f_Ready_told : Addr} {oc_Ready_leased : Value} {od_Ready_leased : Option Addr} {kV_Ready_leased : Value} {dc_Ready_leased : Value} {pm_Ready_leased : Value} {an_Ready_leased : Option Addr} {cd_Ready_leased : Value} {ct_Ready_leased : Value} {sl_Ready_leased : Array (Option Value)} {f_Ready_leased : Addr} {oc_Leased_init : Value} {od_Leased_init : Option Addr} {kV_Leased_init : Value} {dc_Leased_init : Value} {pm_Leased_init : Value} {an_Leased_init : Option Addr} {cd_Leased_init : Value} {ct_Leased_init : Value} {sl_Leased_init : Array (Option Value)} {f_Leased_init : Addr} {oc_Leased_word : Value} {od_Leased_word : Option Addr} {kV_Leased_word : Value} {dc_Leased_word : Value} {pm_Leased_word : Value} {an_Leased_word : Option Addr} {cd_Leased_word : Value} {ct_Leased_word : Value} {sl_Leased_word : Array (Option Value)} {f_Leased_word : Addr} {oc_Leased_count_fails : Value} {od_Leased_count_fails : Option Addr} {kV_Leased_count_fails : Value} {dc_Leased_count_fails : Value} {pm_Leased_count_fails : Value} {an_Leased_count_fails : Option Addr} {cd_Leased_count_fails : Value} {ct_Leased_count_fails : Value} {sl_Leased_count_fails : Array (Option Value)} {f_Leased_count_fails : Addr} {oc_Leased_told : Value} {od_Leased_told : Option Addr} {kV_Leased_told : Value} {dc_Leased_told : Value} {pm_Leased_told : Value} {an_Leased_told : Option Addr} {cd_Leased_told : Value} {ct_Leased_told : Value} {sl_Leased_told : Array (Option Value)} {f_Leased_told : Addr} {oc_Leased_ended : Value} {od_Leased_ended : Option Addr} {kV_Leased_ended : Value} {dc_Leased_ended : Value} {pm_Leased_ended : Value} {an_Leased_ended : Option Addr} {cd_Leased_ended : Value} {ct_Leased_ended : Value} {sl_Leased_ended : Array (Option Value)} {f_Leased_ended : Addr} {oc_Leased_failed : Value} {od_Leased_failed : Option Addr} {kV_Leased_failed : Value} {dc_Leased_failed : Value} {pm_Leased_failed : Value} {an_Leased_failed : Option Addr} {cd_Leased_failed : Value} {ct_Leased_failed : Value} {sl_Leased_failed : Array (Option Value)} {f_Leased_failed : Addr} {oc_Resting_init : Value} {od_Resting_init : Option Addr} {kV_Resting_init : Value} {dc_Resting_init : Value} {pm_Resting_init : Value} {an_Resting_init : Option Addr} {cd_Resting_init : Value} {ct_Resting_init : Value} {sl_Resting_init : Array (Option Value)} {f_Resting_init : Addr} {oc_Resting_word : Value} {od_Resting_word : Option Addr} {kV_Resting_word : Value} {dc_Resting_word : Value} {pm_Resting_word : Value} {an_Resting_word : Option Addr} {cd_Resting_word : Value} {ct_Resting_word : Value} {sl_Resting_word : Array (Option Value)} {f_Resting_word : Addr} {oc_Resting_count_fails : Value} {od_Resting_count_fails : Option Addr} {kV_Resting_count_fails : Value} {dc_Resting_count_fails : Value} {pm_Resting_count_fails : Value} {an_Resting_count_fails : Option Addr} {cd_Resting_count_fails : Value} {ct_Resting_count_fails : Value} {sl_Resting_count_fails : Array (Option Value)} {f_Resting_count_fails : Addr} {oc_Resting_told : Value} {od_Resting_told : Option Addr} {kV_Resting_told : Value} {dc_Resting_told : Value} {pm_Resting_told : Value} {an_Resting_told : Option Addr} {cd_Resting_told : Value} {ct_Resting_told : Value} {sl_Resting_told : Array (Option Value)} {f_Resting_told : Addr} {oc_Resting_rested : Value} {od_Resting_rested : Option Addr} {kV_Resting_rested : Value} {dc_Resting_rested : Value} {pm_Resting_rested : Value} {an_Resting_rested : Option Addr} {cd_Resting_rested : Value} {ct_Resting_rested : Value} {sl_Resting_rested : Array (Option Value)} {f_Resting_rested : Addr} {oc_Done_init : Value} {od_Done_init : Option Addr} {kV_Done_init : Value} {dc_Done_init : Value} {pm_Done_init : Value} {an_Done_init : Option Addr} {cd_Done_init : Value} {ct_Done_init : Value} {sl_Done_init : Array (Option Value)} {f_Done_init : Addr} {oc_Done_word : Value} {od_Done_word : Option Addr} {kV_Done_word : Value} {dc_Done_word : Value} {pm_Done_word : Value} {an_Done_word : Option Addr} {cd_Done_word : Value} {ct_Done_word : Value} {sl_Done_word : Array (Option Value)} {f_Done_word : Addr} {oc_Done_count_fails : Value} {od_Done_count_fails : Option Addr} {kV_Done_count_fails : Value} {dc_Done_count_fails : Value} {pm_Done_count_fails : Value} {an_Done_count_fails : Option Addr} {cd_Done_count_fails : Value} {ct_Done_count_fails : Value} {sl_Done_count_fails : Array (Option Value)} {f_Done_count_fails : Addr} {oc_Done_told : Value} {od_Done_told : Option Addr} {kV_Done_told : Value} {dc_Done_told : Value} {pm_Done_told : Value} {an_Done_told : Option Addr} {cd_Done_told : Value} {ct_Done_told : Value} {sl_Done_told : Array (Option Value)} {f_Done_told : Addr} {oc_Broken_init : Value} {od_Broken_init : Option Addr} {kV_Broken_init : Value} {dc_Broken_init : Value} {pm_Broken_init : Value} {an_Broken_init : Option Addr} {cd_Broken_init : Value} {ct_Broken_init : Value} {sl_Broken_init : Array (Option Value)} {f_Broken_init : Addr} {oc_Broken_word : Value} {od_Broken_word : Option Addr} {kV_Broken_word : Value} {dc_Broken_word : Value} {pm_Broken_word : Value} {an_Broken_word : Option Addr} {cd_Broken_word : Value} {ct_Broken_word : Value} {sl_Broken_word : Array (Option Value)} {f_Broken_word : Addr} {oc_Broken_count_fails : Value} {od_Broken_count_fails : Option Addr} {kV_Broken_count_fails : Value} {dc_Broken_count_fails : Value} {pm_Broken_count_fails : Value} {an_Broken_count_fails : Option Addr} {cd_Broken_count_fails : Value} {ct_Broken_count_fails : Value} {sl_Broken_count_fails : Array (Option Value)} {f_Broken_count_fails : Addr} {oc_Broken_told : Value} {od_Broken_told : Option Addr} {kV_Broken_told : Value} {dc_Broken_told : Value} {pm_Broken_told : Value} {an_Broken_told : Option Addr} {cd_Broken_told : Value} {ct_Broken_told : Value} {sl_Broken_told : Array (Option Value)} {f_Broken_told : Addr} {oc_Cut_init : Value} {od_Cut_init : Option Addr} {kV_Cut_init : Value} {dc_Cut_init : Value} {pm_Cut_init : Value} {an_Cut_init : Option Addr} {cd_Cut_init : Value} {ct_Cut_init : Value} {sl_Cut_init : Array (Option Value)} {f_Cut_init : Addr} {oc_Cut_word : Value} {od_Cut_word : Option Addr} {kV_Cut_word : Value} {dc_Cut_word : Value} {pm_Cut_word : Value} {an_Cut_word : Option Addr} {cd_Cut_word : Value} {ct_Cut_word : Value} {sl_Cut_word : Array (Option Value)} {f_Cut_word : Addr} {oc_Cut_told : Value} {od_Cut_told : Option Addr} {kV_Cut_told : Value} {dc_Cut_told : Value} {pm_Cut_told : Value} {an_Cut_told : Option Addr} {cd_Cut_told : Value} {ct_Cut_told : Value} {sl_Cut_told : Array (Option Value)} {f_Cut_told : Addr} {oc_first_state : Value} {od_first_state : Option Addr} {kV_first_state : Value} {dc_first_state : Value} {pm_first_state : Value} {an_first_state : Option Addr} {cd_first_state : Value} {ct_first_state : Value} {sl_first_state : Array (Option Value)} {f_first_state : Addr} {oc_own_needs : Value} {od_own_needs : Option Addr} {kV_own_needs : Value} {dc_own_needs : Value} {pm_own_needs : Value} {an_own_needs : Option Addr} {cd_own_needs : Value} {ct_own_needs : Value} {sl_own_needs : Array (Option Value)} {f_own_needs : Addr} {oc_need_numbers : Value} {od_need_numbers : Option Addr} {kV_need_numbers : Value} {dc_need_numbers : Value} {pm_need_numbers : Value} {an_need_numbers : Option Addr} {cd_need_numbers : Value} {ct_need_numbers : Value} {sl_need_numbers : Array (Option Value)} {f_need_numbers : Addr} {D_Job_init : Addr} {oc_Job_init : Value} {od_Job_init : Option Addr} {kV_Job_init : Value} {dc_Job_init : Value} {pm_Job_init : Value} {an_Job_init : Option Addr} {cd_Job_init : Value} {ct_Job_init : Value} {sl_Job_init : Array (Option Value)} {f_Job_init : Addr} {dt_Job_init_1 : Tok} {dt_Job_init_2 : Tok} {dt_Job_init_3 : Tok} {dt_Job_init_4 : Tok} {dt_Job_init_5 : Tok} {doc_Job_init : Value} {dod_Job_init : Option Addr} {dn_Job_init : Nat} {dsl_Job_init : Array (Option Value)} {oc_law_cell_at : Value} {od_law_cell_at : Option Addr} {kV_law_cell_at : Value} {dc_law_cell_at : Value} {pm_law_cell_at : Value} {an_law_cell_at : Option Addr} {cd_law_cell_at : Value} {ct_law_cell_at : Value} {sl_law_cell_at : Array (Option Value)} {f_law_cell_at : Addr} {oc_law_mixed : Value} {od_law_mixed : Option Addr} {kV_law_mixed : Value} {dc_law_mixed : Value} {pm_law_mixed : Value} {an_law_mixed : Option Addr} {cd_law_mixed : Value} {ct_law_mixed : Value} {sl_law_mixed : Array (Option Value)} {f_law_mixed : Addr} {oc_law_whole : Value} {od_law_whole : Option Addr} {kV_law_whole : Value} {dc_law_whole : Value} {pm_law_whole : Value} {an_law_whole : Option Addr} {cd_law_whole : Value} {ct_law_whole : Value} {sl_law_whole : Array (Option Value)} {f_law_whole : Addr} {oc_law_same : Value} {od_law_same : Option Addr} {kV_law_same : Value} {dc_law_same : Value} {pm_law_same : Value} {an_law_same : Option Addr} {cd_law_same : Value} {ct_law_same : Value} {sl_law_same : Array (Option Value)} {f_law_same : Addr} {oc_law_is : Value} {od_law_is : Option Addr} {kV_law_is : Value} {dc_law_is : Value} {pm_law_is : Value} {an_law_is : Option Addr} {cd_law_is : Value} {ct_law_is : Value} {sl_law_is : Array (Option Value)} {f_law_is : Addr} {oc_law_over : Value} {od_law_over : Option Addr} {kV_law_over : Value} {dc_law_over : Value} {pm_law_over : Value} {an_law_over : Option Addr} {cd_law_over : Value} {ct_law_over : Value} {sl_law_over : Array (Option Value)} {f_law_over : Addr} {oc_law_stands : Value} {od_law_stands : Option Addr} {kV_law_stands : Value} {dc_law_stands : Value} {pm_law_stands : Value} {an_law_stands : Option Addr} {cd_law_stands : Value} {ct_law_stands : Value} {sl_law_stands : Array (Option Value)} {f_law_stands : Addr} {oc_law_job : Value} {od_law_job : Option Addr} {kV_law_job : Value} {dc_law_job : Value} {pm_law_job : Value} {an_law_job : Option Addr} {cd_law_job : Value} {ct_law_job : Value} {sl_law_job : Array (Option Value)} {f_law_job : Addr} {oc_law_rest : Value} {od_law_rest : Option Addr} {kV_law_rest : Value} {dc_law_rest : Value} {pm_law_rest : Value} {an_law_rest : Option Addr} {cd_law_rest : Value} {ct_law_rest : Value} {sl_law_rest : Array (Option Value)} {f_law_rest : Addr} {oc_law_first : Value} {od_law_first : Option Addr} {kV_law_first : Value} {dc_law_first : Value} {pm_law_first : Value} {an_law_first : Option Addr} {cd_law_first : Value} {ct_law_first : Value} {sl_law_first : Array (Option Value)} {f_law_first : Addr} {oc_law_turn : Value} {od_law_turn : Option Addr} {kV_law_turn : Value} {dc_law_turn : Value} {pm_law_turn : Value} {an_law_turn : Option Addr} {cd_law_turn : Value} {ct_law_turn : Value} {sl_law_turn : Array (Option Value)} {f_law_turn : Addr} {oc_law_stepped : Value} {od_law_stepped : Option Addr} {kV_law_stepped : Value} {dc_law_stepped : Value} {pm_law_stepped : Value} {an_law_stepped : Option Addr} {cd_law_stepped : Value} {ct_law_stepped : Value} {sl_law_stepped : Array (Option Value)} {f_law_stepped : Addr} {oc_law : Value} {od_law : Option Addr} {kV_law : Value} {dc_law : Value} {pm_law : Value} {an_law : Option Addr} {cd_law : Value} {ct_law : Value} {sl_law : Array (Option Value)} {f_law : Addr} (X : K.In h) (G : h.Ns mainGlobals mg) (hfa : mg "law" = some (.ref fa))
    (g_MOST_WAIT : PySem.W.nsIn K mainGlobals "MOST_WAIT" = some (some (.int (100000) tk_MOST_WAIT)))
    (g_LETTERS : PySem.W.nsIn K mainGlobals "LETTERS" = some (some (.str "abcdefghijklmnopqrstuvwxyz" tk_LETTERS)))
    (g_MOST_LETTERS : PySem.W.nsIn K mainGlobals "MOST_LETTERS" = some (some (.int (12) tk_MOST_LETTERS)))
    (g_MOST_NEEDS : PySem.W.nsIn K mainGlobals "MOST_NEEDS" = some (some (.int (8) tk_MOST_NEEDS)))
    (g_LEAST : PySem.W.nsIn K mainGlobals "LEAST" = some (some (.ref gLEAST)))
    (k_LEAST : K.lookup gLEAST = some ⟨.type "tuple", od_LEAST, .seq (List.toArray [.int (0) tk_LEAST_0, .int (1) tk_LEAST_1, .int (1) tk_LEAST_2, .int (0) tk_LEAST_3, .int (1) tk_LEAST_4]) sz_LEAST, sl_LEAST⟩)
    (g_MOST : PySem.W.nsIn K mainGlobals "MOST" = some (some (.ref gMOST)))
    (k_MOST : K.lookup gMOST = some ⟨.type "tuple", od_MOST, .seq (List.toArray [.int (99) tk_MOST_0, .int (1000) tk_MOST_1, .int (20) tk_MOST_2, .int (1000) tk_MOST_3, .int (4) tk_MOST_4]) sz_MOST, sl_MOST⟩)
    (b_bool : PySem.W.nsIn K mainGlobals "bool" = some none)
    (b_enumerate : PySem.W.nsIn K mainGlobals "enumerate" = some none)
    (b_int : PySem.W.nsIn K mainGlobals "int" = some none)
    (b_isinstance : PySem.W.nsIn K mainGlobals "isinstance" = some none)
    (b_len : PySem.W.nsIn K mainGlobals "len" = some none)
    (b_list : PySem.W.nsIn K mainGlobals "list" = some none)
    (b_min : PySem.W.nsIn K mainGlobals "min" = some none)
    (b_range : PySem.W.nsIn K mainGlobals "range" = some none)
    (b_str : PySem.W.nsIn K mainGlobals "str" = some none)
    (b_tuple : PySem.W.nsIn K mainGlobals "tuple" = some none)
    (b_zip : PySem.W.nsIn K mainGlobals "zip" = some none)
    (m_State : PySem.W.nsIn K mainGlobals "State" = some (some (.ref cState)))
    (pg_State : PySem.W.plainGet K cState Str.empty = true)
    (hd_State : PySem.W.hasDictIn K cState = true)
    (po_State : PySem.W.plainOver K cState = true)
    (sa_State : PySem.W.findIn K (.ref cState) "__setattr__" = some (some (.builtin "object.__setattr__")))
    (tq_State : PySem.W.typeIn K (.ref cState) = some (.type "type"))
    (ia_State : PySem.W.findIn K (.ref cState) "__class__" = some (some (.builtin "object.__class__")))
    (im_State : PySem.W.mroIn K cState (.type "object") = some true)
    (m_Open : PySem.W.nsIn K mainGlobals "Open" = some (some (.ref cOpen)))
    (pg_Open : PySem.W.plainGet K cOpen Str.empty = true)
    (hd_Open : PySem.W.hasDictIn K cOpen = true)
    (po_Open : PySem.W.plainOver K cOpen = true)
    (sa_Open : PySem.W.findIn K (.ref cOpen) "__setattr__" = some (some (.builtin "object.__setattr__")))
    (tq_Open : PySem.W.typeIn K (.ref cOpen) = some (.type "type"))
    (ia_Open : PySem.W.findIn K (.ref cOpen) "__class__" = some (some (.builtin "object.__class__")))
    (im_Open : PySem.W.mroIn K cOpen (.type "object") = some true)
    (m_Over : PySem.W.nsIn K mainGlobals "Over" = some (some (.ref cOver)))
    (pg_Over : PySem.W.plainGet K cOver Str.empty = true)
    (hd_Over : PySem.W.hasDictIn K cOver = true)
    (po_Over : PySem.W.plainOver K cOver = true)
    (sa_Over : PySem.W.findIn K (.ref cOver) "__setattr__" = some (some (.builtin "object.__setattr__")))
    (tq_Over : PySem.W.typeIn K (.ref cOver) = some (.type "type"))
    (ia_Over : PySem.W.findIn K (.ref cOver) "__class__" = some (some (.builtin "object.__class__")))
    (im_Over : PySem.W.mroIn K cOver (.type "object") = some true)
    (m_Blocked : PySem.W.nsIn K mainGlobals "Blocked" = some (some (.ref cBlocked)))
    (pg_Blocked : PySem.W.plainGet K cBlocked Str.empty = true)
    (hd_Blocked : PySem.W.hasDictIn K cBlocked = true)
    (po_Blocked : PySem.W.plainOver K cBlocked = true)
    (sa_Blocked : PySem.W.findIn K (.ref cBlocked) "__setattr__" = some (some (.builtin "object.__setattr__")))
    (mk_Blocked : PySem.W.makesIn K cBlocked = true)
    (kc_Blocked : PySem.W.keepIn K (.ref cBlocked) = true)
    (tq_Blocked : PySem.W.typeIn K (.ref cBlocked) = some (.type "type"))
    (ia_Blocked : PySem.W.findIn K (.ref cBlocked) "__class__" = some (some (.builtin "object.__class__")))
    (im_Blocked : PySem.W.mroIn K cBlocked (.type "object") = some true)
    (n_Blocked_left : PySem.W.findIn K (.ref cBlocked) "left" = some none)
    (m_Ready : PySem.W.nsIn K mainGlobals "Ready" = some (some (.ref cReady)))
    (pg_Ready : PySem.W.plainGet K cReady Str.empty = true)
    (hd_Ready : PySem.W.hasDictIn K cReady = true)
    (po_Ready : PySem.W.plainOver K cReady = true)
    (sa_Ready : PySem.W.findIn K (.ref cReady) "__setattr__" = some (some (.builtin "object.__setattr__")))
    (mk_Ready : PySem.W.makesIn K cReady = true)
    (kc_Ready : PySem.W.keepIn K (.ref cReady) = true)
    (tq_Ready : PySem.W.typeIn K (.ref cReady) = some (.type "type"))
    (ia_Ready : PySem.W.findIn K (.ref cReady) "__class__" = some (some (.builtin "object.__class__")))
    (im_Ready : PySem.W.mroIn K cReady (.type "object") = some true)
    (n_Ready_fails : PySem.W.findIn K (.ref cReady) "fails" = some none)
    (m_Leased : PySem.W.nsIn K mainGlobals "Leased" = some (some (.ref cLeased)))
    (pg_Leased : PySem.W.plainGet K cLeased Str.empty = true)
    (hd_Leased : PySem.W.hasDictIn K cLeased = true)
    (po_Leased : PySem.W.plainOver K cLeased = true)
    (sa_Leased : PySem.W.findIn K (.ref cLeased) "__setattr__" = some (some (.builtin "object.__setattr__")))
    (mk_Leased : PySem.W.makesIn K cLeased = true)
    (kc_Leased : PySem.W.keepIn K (.ref cLeased) = true)
    (tq_Leased : PySem.W.typeIn K (.ref cLeased) = some (.type "type"))
    (ia_Leased : PySem.W.findIn K (.ref cLeased) "__class__" = some (some (.builtin "object.__class__")))
    (im_Leased : PySem.W.mroIn K cLeased (.type "object") = some true)
    (n_Leased_fails : PySem.W.findIn K (.ref cLeased) "fails" = some none)
    (n_Leased_number : PySem.W.findIn K (.ref cLeased) "number" = some none)
    (m_Resting : PySem.W.nsIn K mainGlobals "Resting" = some (some (.ref cResting)))
    (pg_Resting : PySem.W.plainGet K cResting Str.empty = true)
    (hd_Resting : PySem.W.hasDictIn K cResting = true)
    (po_Resting : PySem.W.plainOver K cResting = true)
    (sa_Resting : PySem.W.findIn K (.ref cResting) "__setattr__" = some (some (.builtin "object.__setattr__")))
    (mk_Resting : PySem.W.makesIn K cResting = true)
    (kc_Resting : PySem.W.keepIn K (.ref cResting) = true)
    (tq_Resting : PySem.W.typeIn K (.ref cResting) = some (.type "type"))
    (ia_Resting : PySem.W.findIn K (.ref cResting) "__class__" = some (some (.builtin "object.__class__")))
    (im_Resting : PySem.W.mroIn K cResting (.type "object") = some true)
    (n_Resting_fails : PySem.W.findIn K (.ref cResting) "fails" = some none)
    (n_Resting_until : PySem.W.findIn K (.ref cResting) "until" = some none)
    (m_Done : PySem.W.nsIn K mainGlobals "Done" = some (some (.ref cDone)))
    (pg_Done : PySem.W.plainGet K cDone Str.empty = true)
    (hd_Done : PySem.W.hasDictIn K cDone = true)
    (po_Done : PySem.W.plainOver K cDone = true)
    (sa_Done : PySem.W.findIn K (.ref cDone) "__setattr__" = some (some (.builtin "object.__setattr__")))
    (mk_Done : PySem.W.makesIn K cDone = true)
    (kc_Done : PySem.W.keepIn K (.ref cDone) = true)
    (tq_Done : PySem.W.typeIn K (.ref cDone) = some (.type "type"))
    (ia_Done : PySem.W.findIn K (.ref cDone) "__class__" = some (some (.builtin "object.__class__")))
    (im_Done : PySem.W.mroIn K cDone (.type "object") = some true)
    (n_Done_fails : PySem.W.findIn K (.ref cDone) "fails" = some none)
    (n_Done_number : PySem.W.findIn K (.ref cDone) "number" = some none)
    (n_Done_turn : PySem.W.findIn K (.ref cDone) "turn" = some none)
    (m_Broken : PySem.W.nsIn K mainGlobals "Broken" = some (some (.ref cBroken)))
    (pg_Broken : PySem.W.plainGet K cBroken Str.empty = true)
    (hd_Broken : PySem.W.hasDictIn K cBroken = true)
    (po_Broken : PySem.W.plainOver K cBroken = true)
    (sa_Broken : PySem.W.findIn K (.ref cBroken) "__setattr__" = some (some (.builtin "object.__setattr__")))
    (mk_Broken : PySem.W.makesIn K cBroken = true)
    (kc_Broken : PySem.W.keepIn K (.ref cBroken) = true)
    (tq_Broken : PySem.W.typeIn K (.ref cBroken) = some (.type "type"))
    (ia_Broken : PySem.W.findIn K (.ref cBroken) "__class__" = some (some (.builtin "object.__class__")))
    (im_Broken : PySem.W.mroIn K cBroken (.type "object") = some true)
    (n_Broken_fails : PySem.W.findIn K (.ref cBroken) "fails" = some none)
    (n_Broken_why : PySem.W.findIn K (.ref cBroken) "why" = some none)
    (m_Cut : PySem.W.nsIn K mainGlobals "Cut" = some (some (.ref cCut)))
    (pg_Cut : PySem.W.plainGet K cCut Str.empty = true)
    (hd_Cut : PySem.W.hasDictIn K cCut = true)
    (po_Cut : PySem.W.plainOver K cCut = true)
    (sa_Cut : PySem.W.findIn K (.ref cCut) "__setattr__" = some (some (.builtin "object.__setattr__")))
    (mk_Cut : PySem.W.makesIn K cCut = true)
    (kc_Cut : PySem.W.keepIn K (.ref cCut) = true)
    (tq_Cut : PySem.W.typeIn K (.ref cCut) = some (.type "type"))
    (ia_Cut : PySem.W.findIn K (.ref cCut) "__class__" = some (some (.builtin "object.__class__")))
    (im_Cut : PySem.W.mroIn K cCut (.type "object") = some true)
    (n_Cut_need : PySem.W.findIn K (.ref cCut) "need" = some none)
    (m_Job : PySem.W.nsIn K mainGlobals "Job" = some (some (.ref cJob)))
    (pg_Job : PySem.W.plainGet K cJob Str.empty = true)
    (hd_Job : PySem.W.hasDictIn K cJob = true)
    (po_Job : PySem.W.plainOver K cJob = true)
    (sa_Job : PySem.W.findIn K (.ref cJob) "__setattr__" = some (some (.builtin "object.__setattr__")))
    (mk_Job : PySem.W.makesIn K cJob = true)
    (kc_Job : PySem.W.keepIn K (.ref cJob) = true)
    (ia_Job : PySem.W.findIn K (.ref cJob) "__class__" = some (some (.builtin "object.__class__")))
    (im_Job : PySem.W.mroIn K cJob (.type "object") = some true)
    (n_Job_name : PySem.W.findIn K (.ref cJob) "name" = some none)
    (n_Job_needs : PySem.W.findIn K (.ref cJob) "needs" = some none)
    (n_Job_rank : PySem.W.findIn K (.ref cJob) "rank" = some none)
    (n_Job_span : PySem.W.findIn K (.ref cJob) "span" = some none)
    (n_Job_tries : PySem.W.findIn K (.ref cJob) "tries" = some none)
    (n_Job_wait : PySem.W.findIn K (.ref cJob) "wait" = some none)
    (n_Job_grow : PySem.W.findIn K (.ref cJob) "grow" = some none)
    (zz_n : PySem.W.specialIn K (.builtin "object.__class__") "__get__" = some (some (.builtin "getset_descriptor.__get__")))
    (zz_t : PySem.W.takesIn K (.builtin "object.__class__") = some true)
    (a_wait_after : PySem.W.nsIn K mainGlobals "wait_after" = some (some (.ref f_wait_after)))
    (l_wait_after : K.lookup f_wait_after = some ⟨oc_wait_after, od_wait_after, .func (PySem.W.fnOf "wait_after" "wait_after" (defArgs s_wait_after) (defBody s_wait_after) (defScope s_wait_after) .none kV_wait_after dc_wait_after pm_wait_after an_wait_after cd_wait_after ct_wait_after), sl_wait_after⟩)
    (c_wait_after : PySem.W.codeIn K cd_wait_after "wait_after" = true)
    (k_wait_after : PySem.W.keepIn K (.ref f_wait_after) = true)
    (a_is_whole : PySem.W.nsIn K mainGlobals "is_whole" = some (some (.ref f_is_whole)))
    (l_is_whole : K.lookup f_is_whole = some ⟨oc_is_whole, od_is_whole, .func (PySem.W.fnOf "is_whole" "is_whole" (defArgs s_is_whole) (defBody s_is_whole) (defScope s_is_whole) .none kV_is_whole dc_is_whole pm_is_whole an_is_whole cd_is_whole ct_is_whole), sl_is_whole⟩)
    (c_is_whole : PySem.W.codeIn K cd_is_whole "is_whole" = true)
    (k_is_whole : PySem.W.keepIn K (.ref f_is_whole) = true)
    (a_is_among : PySem.W.nsIn K mainGlobals "is_among" = some (some (.ref f_is_among)))
    (l_is_among : K.lookup f_is_among = some ⟨oc_is_among, od_is_among, .func (PySem.W.fnOf "is_among" "is_among" (defArgs s_is_among) (defBody s_is_among) (defScope s_is_among) .none kV_is_among dc_is_among pm_is_among an_is_among cd_is_among ct_is_among), sl_is_among⟩)
    (c_is_among : PySem.W.codeIn K cd_is_among "is_among" = true)
    (k_is_among : PySem.W.keepIn K (.ref f_is_among) = true)
    (a_is_made_of : PySem.W.nsIn K mainGlobals "is_made_of" = some (some (.ref f_is_made_of)))
    (l_is_made_of : K.lookup f_is_made_of = some ⟨oc_is_made_of, od_is_made_of, .func (PySem.W.fnOf "is_made_of" "is_made_of" (defArgs s_is_made_of) (defBody s_is_made_of) (defScope s_is_made_of) .none kV_is_made_of dc_is_made_of pm_is_made_of an_is_made_of cd_is_made_of ct_is_made_of), sl_is_made_of⟩)
    (c_is_made_of : PySem.W.codeIn K cd_is_made_of "is_made_of" = true)
    (k_is_made_of : PySem.W.keepIn K (.ref f_is_made_of) = true)
    (a_is_name : PySem.W.nsIn K mainGlobals "is_name" = some (some (.ref f_is_name)))
    (l_is_name : K.lookup f_is_name = some ⟨oc_is_name, od_is_name, .func (PySem.W.fnOf "is_name" "is_name" (defArgs s_is_name) (defBody s_is_name) (defScope s_is_name) .none kV_is_name dc_is_name pm_is_name an_is_name cd_is_name ct_is_name), sl_is_name⟩)
    (c_is_name : PySem.W.codeIn K cd_is_name "is_name" = true)
    (k_is_name : PySem.W.keepIn K (.ref f_is_name) = true)
    (a_State_is_over : PySem.W.findIn K (.ref cState) "is_over" = some (some (.ref f_State_is_over)))
    (i_State_is_over : PySem.W.isFn K (.ref f_State_is_over) = true)
    (l_State_is_over : K.lookup f_State_is_over = some ⟨oc_State_is_over, od_State_is_over, .func (PySem.W.fnOf "is_over" "State.is_over" (defArgs s_State_is_over) (defBody s_State_is_over) (defScope s_State_is_over) .none kV_State_is_over dc_State_is_over pm_State_is_over an_State_is_over cd_State_is_over ct_State_is_over), sl_State_is_over⟩)
    (c_State_is_over : PySem.W.codeIn K cd_State_is_over "State.is_over" = true)
    (k_State_is_over : PySem.W.keepIn K (.ref f_State_is_over) = true)
    (a_State_count_fails : PySem.W.findIn K (.ref cState) "count_fails" = some (some (.ref f_State_count_fails)))
    (i_State_count_fails : PySem.W.isFn K (.ref f_State_count_fails) = true)
    (l_State_count_fails : K.lookup f_State_count_fails = some ⟨oc_State_count_fails, od_State_count_fails, .func (PySem.W.fnOf "count_fails" "State.count_fails" (defArgs s_State_count_fails) (defBody s_State_count_fails) (defScope s_State_count_fails) .none kV_State_count_fails dc_State_count_fails pm_State_count_fails an_State_count_fails cd_State_count_fails ct_State_count_fails), sl_State_count_fails⟩)
    (c_State_count_fails : PySem.W.codeIn K cd_State_count_fails "State.count_fails" = true)
    (k_State_count_fails : PySem.W.keepIn K (.ref f_State_count_fails) = true)
    (a_Over_is_over : PySem.W.findIn K (.ref cOver) "is_over" = some (some (.ref f_Over_is_over)))
    (i_Over_is_over : PySem.W.isFn K (.ref f_Over_is_over) = true)
    (l_Over_is_over : K.lookup f_Over_is_over = some ⟨oc_Over_is_over, od_Over_is_over, .func (PySem.W.fnOf "is_over" "Over.is_over" (defArgs s_Over_is_over) (defBody s_Over_is_over) (defScope s_Over_is_over) .none kV_Over_is_over dc_Over_is_over pm_Over_is_over an_Over_is_over cd_Over_is_over ct_Over_is_over), sl_Over_is_over⟩)
    (c_Over_is_over : PySem.W.codeIn K cd_Over_is_over "Over.is_over" = true)
    (k_Over_is_over : PySem.W.keepIn K (.ref f_Over_is_over) = true)
    (a_Blocked_init : PySem.W.findIn K (.ref cBlocked) "__init__" = some (some (.ref f_Blocked_init)))
    (i_Blocked_init : PySem.W.isFn K (.ref f_Blocked_init) = true)
    (l_Blocked_init : K.lookup f_Blocked_init = some ⟨oc_Blocked_init, od_Blocked_init, .func (PySem.W.fnOf "__init__" "Blocked.__init__" (defArgs s_Blocked_init) (defBody s_Blocked_init) (defScope s_Blocked_init) .none kV_Blocked_init dc_Blocked_init pm_Blocked_init an_Blocked_init cd_Blocked_init ct_Blocked_init), sl_Blocked_init⟩)
    (c_Blocked_init : PySem.W.codeIn K cd_Blocked_init "Blocked.__init__" = true)
    (k_Blocked_init : PySem.W.keepIn K (.ref f_Blocked_init) = true)
    (a_Blocked_word : PySem.W.findIn K (.ref cBlocked) "word" = some (some (.ref f_Blocked_word)))
    (i_Blocked_word : PySem.W.isFn K (.ref f_Blocked_word) = true)
    (l_Blocked_word : K.lookup f_Blocked_word = some ⟨oc_Blocked_word, od_Blocked_word, .func (PySem.W.fnOf "word" "Blocked.word" (defArgs s_Blocked_word) (defBody s_Blocked_word) (defScope s_Blocked_word) .none kV_Blocked_word dc_Blocked_word pm_Blocked_word an_Blocked_word cd_Blocked_word ct_Blocked_word), sl_Blocked_word⟩)
    (c_Blocked_word : PySem.W.codeIn K cd_Blocked_word "Blocked.word" = true)
    (k_Blocked_word : PySem.W.keepIn K (.ref f_Blocked_word) = true)
    (a_Blocked_told : PySem.W.findIn K (.ref cBlocked) "told" = some (some (.ref f_Blocked_told)))
    (i_Blocked_told : PySem.W.isFn K (.ref f_Blocked_told) = true)
    (l_Blocked_told : K.lookup f_Blocked_told = some ⟨oc_Blocked_told, od_Blocked_told, .func (PySem.W.fnOf "told" "Blocked.told" (defArgs s_Blocked_told) (defBody s_Blocked_told) (defScope s_Blocked_told) .none kV_Blocked_told dc_Blocked_told pm_Blocked_told an_Blocked_told cd_Blocked_told ct_Blocked_told), sl_Blocked_told⟩)
    (c_Blocked_told : PySem.W.codeIn K cd_Blocked_told "Blocked.told" = true)
    (k_Blocked_told : PySem.W.keepIn K (.ref f_Blocked_told) = true)
    (a_Blocked_freed : PySem.W.findIn K (.ref cBlocked) "freed" = some (some (.ref f_Blocked_freed)))
    (i_Blocked_freed : PySem.W.isFn K (.ref f_Blocked_freed) = true)
    (l_Blocked_freed : K.lookup f_Blocked_freed = some ⟨oc_Blocked_freed, od_Blocked_freed, .func (PySem.W.fnOf "freed" "Blocked.freed" (defArgs s_Blocked_freed) (defBody s_Blocked_freed) (defScope s_Blocked_freed) .none kV_Blocked_freed dc_Blocked_freed pm_Blocked_freed an_Blocked_freed cd_Blocked_freed ct_Blocked_freed), sl_Blocked_freed⟩)
    (c_Blocked_freed : PySem.W.codeIn K cd_Blocked_freed "Blocked.freed" = true)
    (k_Blocked_freed : PySem.W.keepIn K (.ref f_Blocked_freed) = true)
    (a_Blocked_cut_off : PySem.W.findIn K (.ref cBlocked) "cut_off" = some (some (.ref f_Blocked_cut_off)))
    (i_Blocked_cut_off : PySem.W.isFn K (.ref f_Blocked_cut_off) = true)
    (l_Blocked_cut_off : K.lookup f_Blocked_cut_off = some ⟨oc_Blocked_cut_off, od_Blocked_cut_off, .func (PySem.W.fnOf "cut_off" "Blocked.cut_off" (defArgs s_Blocked_cut_off) (defBody s_Blocked_cut_off) (defScope s_Blocked_cut_off) .none kV_Blocked_cut_off dc_Blocked_cut_off pm_Blocked_cut_off an_Blocked_cut_off cd_Blocked_cut_off ct_Blocked_cut_off), sl_Blocked_cut_off⟩)
    (c_Blocked_cut_off : PySem.W.codeIn K cd_Blocked_cut_off "Blocked.cut_off" = true)
    (k_Blocked_cut_off : PySem.W.keepIn K (.ref f_Blocked_cut_off) = true)
    (a_Ready_init : PySem.W.findIn K (.ref cReady) "__init__" = some (some (.ref f_Ready_init)))
    (i_Ready_init : PySem.W.isFn K (.ref f_Ready_init) = true)
    (l_Ready_init : K.lookup f_Ready_init = some ⟨oc_Ready_init, od_Ready_init, .func (PySem.W.fnOf "__init__" "Ready.__init__" (defArgs s_Ready_init) (defBody s_Ready_init) (defScope s_Ready_init) .none kV_Ready_init dc_Ready_init pm_Ready_init an_Ready_init cd_Ready_init ct_Ready_init), sl_Ready_init⟩)
    (c_Ready_init : PySem.W.codeIn K cd_Ready_init "Ready.__init__" = true)
    (k_Ready_init : PySem.W.keepIn K (.ref f_Ready_init) = true)
    (a_Ready_word : PySem.W.findIn K (.ref cReady) "word" = some (some (.ref f_Ready_word)))
    (i_Ready_word : PySem.W.isFn K (.ref f_Ready_word) = true)
    (l_Ready_word : K.lookup f_Ready_word = some ⟨oc_Ready_word, od_Ready_word, .func (PySem.W.fnOf "word" "Ready.word" (defArgs s_Ready_word) (defBody s_Ready_word) (defScope s_Ready_word) .none kV_Ready_word dc_Ready_word pm_Ready_word an_Ready_word cd_Ready_word ct_Ready_word), sl_Ready_word⟩)
    (c_Ready_word : PySem.W.codeIn K cd_Ready_word "Ready.word" = true)
    (k_Ready_word : PySem.W.keepIn K (.ref f_Ready_word) = true)
    (a_Ready_count_fails : PySem.W.findIn K (.ref cReady) "count_fails" = some (some (.ref f_Ready_count_fails)))
    (i_Ready_count_fails : PySem.W.isFn K (.ref f_Ready_count_fails) = true)
    (l_Ready_count_fails : K.lookup f_Ready_count_fails = some ⟨oc_Ready_count_fails, od_Ready_count_fails, .func (PySem.W.fnOf "count_fails" "Ready.count_fails" (defArgs s_Ready_count_fails) (defBody s_Ready_count_fails) (defScope s_Ready_count_fails) .none kV_Ready_count_fails dc_Ready_count_fails pm_Ready_count_fails an_Ready_count_fails cd_Ready_count_fails ct_Ready_count_fails), sl_Ready_count_fails⟩)
    (c_Ready_count_fails : PySem.W.codeIn K cd_Ready_count_fails "Ready.count_fails" = true)
    (k_Ready_count_fails : PySem.W.keepIn K (.ref f_Ready_count_fails) = true)
    (a_Ready_told : PySem.W.findIn K (.ref cReady) "told" = some (some (.ref f_Ready_told)))
    (i_Ready_told : PySem.W.isFn K (.ref f_Ready_told) = true)
    (l_Ready_told : K.lookup f_Ready_told = some ⟨oc_Ready_told, od_Ready_told, .func (PySem.W.fnOf "told" "Ready.told" (defArgs s_Ready_told) (defBody s_Ready_told) (defScope s_Ready_told) .none kV_Ready_told dc_Ready_told pm_Ready_told an_Ready_told cd_Ready_told ct_Ready_told), sl_Ready_told⟩)
    (c_Ready_told : PySem.W.codeIn K cd_Ready_told "Ready.told" = true)
    (k_Ready_told : PySem.W.keepIn K (.ref f_Ready_told) = true)
    (a_Ready_leased : PySem.W.findIn K (.ref cReady) "leased" = some (some (.ref f_Ready_leased)))
    (i_Ready_leased : PySem.W.isFn K (.ref f_Ready_leased) = true)
    (l_Ready_leased : K.lookup f_Ready_leased = some ⟨oc_Ready_leased, od_Ready_leased, .func (PySem.W.fnOf "leased" "Ready.leased" (defArgs s_Ready_leased) (defBody s_Ready_leased) (defScope s_Ready_leased) .none kV_Ready_leased dc_Ready_leased pm_Ready_leased an_Ready_leased cd_Ready_leased ct_Ready_leased), sl_Ready_leased⟩)
    (c_Ready_leased : PySem.W.codeIn K cd_Ready_leased "Ready.leased" = true)
    (k_Ready_leased : PySem.W.keepIn K (.ref f_Ready_leased) = true)
    (a_Leased_init : PySem.W.findIn K (.ref cLeased) "__init__" = some (some (.ref f_Leased_init)))
    (i_Leased_init : PySem.W.isFn K (.ref f_Leased_init) = true)
    (l_Leased_init : K.lookup f_Leased_init = some ⟨oc_Leased_init, od_Leased_init, .func (PySem.W.fnOf "__init__" "Leased.__init__" (defArgs s_Leased_init) (defBody s_Leased_init) (defScope s_Leased_init) .none kV_Leased_init dc_Leased_init pm_Leased_init an_Leased_init cd_Leased_init ct_Leased_init), sl_Leased_init⟩)
    (c_Leased_init : PySem.W.codeIn K cd_Leased_init "Leased.__init__" = true)
    (k_Leased_init : PySem.W.keepIn K (.ref f_Leased_init) = true)
    (a_Leased_word : PySem.W.findIn K (.ref cLeased) "word" = some (some (.ref f_Leased_word)))
    (i_Leased_word : PySem.W.isFn K (.ref f_Leased_word) = true)
    (l_Leased_word : K.lookup f_Leased_word = some ⟨oc_Leased_word, od_Leased_word, .func (PySem.W.fnOf "word" "Leased.word" (defArgs s_Leased_word) (defBody s_Leased_word) (defScope s_Leased_word) .none kV_Leased_word dc_Leased_word pm_Leased_word an_Leased_word cd_Leased_word ct_Leased_word), sl_Leased_word⟩)
    (c_Leased_word : PySem.W.codeIn K cd_Leased_word "Leased.word" = true)
    (k_Leased_word : PySem.W.keepIn K (.ref f_Leased_word) = true)
    (a_Leased_count_fails : PySem.W.findIn K (.ref cLeased) "count_fails" = some (some (.ref f_Leased_count_fails)))
    (i_Leased_count_fails : PySem.W.isFn K (.ref f_Leased_count_fails) = true)
    (l_Leased_count_fails : K.lookup f_Leased_count_fails = some ⟨oc_Leased_count_fails, od_Leased_count_fails, .func (PySem.W.fnOf "count_fails" "Leased.count_fails" (defArgs s_Leased_count_fails) (defBody s_Leased_count_fails) (defScope s_Leased_count_fails) .none kV_Leased_count_fails dc_Leased_count_fails pm_Leased_count_fails an_Leased_count_fails cd_Leased_count_fails ct_Leased_count_fails), sl_Leased_count_fails⟩)
    (c_Leased_count_fails : PySem.W.codeIn K cd_Leased_count_fails "Leased.count_fails" = true)
    (k_Leased_count_fails : PySem.W.keepIn K (.ref f_Leased_count_fails) = true)
    (a_Leased_told : PySem.W.findIn K (.ref cLeased) "told" = some (some (.ref f_Leased_told)))
    (i_Leased_told : PySem.W.isFn K (.ref f_Leased_told) = true)
    (l_Leased_told : K.lookup f_Leased_told = some ⟨oc_Leased_told, od_Leased_told, .func (PySem.W.fnOf "told" "Leased.told" (defArgs s_Leased_told) (defBody s_Leased_told) (defScope s_Leased_told) .none kV_Leased_told dc_Leased_told pm_Leased_told an_Leased_told cd_Leased_told ct_Leased_told), sl_Leased_told⟩)
    (c_Leased_told : PySem.W.codeIn K cd_Leased_told "Leased.told" = true)
    (k_Leased_told : PySem.W.keepIn K (.ref f_Leased_told) = true)
    (a_Leased_ended : PySem.W.findIn K (.ref cLeased) "ended" = some (some (.ref f_Leased_ended)))
    (i_Leased_ended : PySem.W.isFn K (.ref f_Leased_ended) = true)
    (l_Leased_ended : K.lookup f_Leased_ended = some ⟨oc_Leased_ended, od_Leased_ended, .func (PySem.W.fnOf "ended" "Leased.ended" (defArgs s_Leased_ended) (defBody s_Leased_ended) (defScope s_Leased_ended) .none kV_Leased_ended dc_Leased_ended pm_Leased_ended an_Leased_ended cd_Leased_ended ct_Leased_ended), sl_Leased_ended⟩)
    (c_Leased_ended : PySem.W.codeIn K cd_Leased_ended "Leased.ended" = true)
    (k_Leased_ended : PySem.W.keepIn K (.ref f_Leased_ended) = true)
    (a_Leased_failed : PySem.W.findIn K (.ref cLeased) "failed" = some (some (.ref f_Leased_failed)))
    (i_Leased_failed : PySem.W.isFn K (.ref f_Leased_failed) = true)
    (l_Leased_failed : K.lookup f_Leased_failed = some ⟨oc_Leased_failed, od_Leased_failed, .func (PySem.W.fnOf "failed" "Leased.failed" (defArgs s_Leased_failed) (defBody s_Leased_failed) (defScope s_Leased_failed) .none kV_Leased_failed dc_Leased_failed pm_Leased_failed an_Leased_failed cd_Leased_failed ct_Leased_failed), sl_Leased_failed⟩)
    (c_Leased_failed : PySem.W.codeIn K cd_Leased_failed "Leased.failed" = true)
    (k_Leased_failed : PySem.W.keepIn K (.ref f_Leased_failed) = true)
    (a_Resting_init : PySem.W.findIn K (.ref cResting) "__init__" = some (some (.ref f_Resting_init)))
    (i_Resting_init : PySem.W.isFn K (.ref f_Resting_init) = true)
    (l_Resting_init : K.lookup f_Resting_init = some ⟨oc_Resting_init, od_Resting_init, .func (PySem.W.fnOf "__init__" "Resting.__init__" (defArgs s_Resting_init) (defBody s_Resting_init) (defScope s_Resting_init) .none kV_Resting_init dc_Resting_init pm_Resting_init an_Resting_init cd_Resting_init ct_Resting_init), sl_Resting_init⟩)
    (c_Resting_init : PySem.W.codeIn K cd_Resting_init "Resting.__init__" = true)
    (k_Resting_init : PySem.W.keepIn K (.ref f_Resting_init) = true)
    (a_Resting_word : PySem.W.findIn K (.ref cResting) "word" = some (some (.ref f_Resting_word)))
    (i_Resting_word : PySem.W.isFn K (.ref f_Resting_word) = true)
    (l_Resting_word : K.lookup f_Resting_word = some ⟨oc_Resting_word, od_Resting_word, .func (PySem.W.fnOf "word" "Resting.word" (defArgs s_Resting_word) (defBody s_Resting_word) (defScope s_Resting_word) .none kV_Resting_word dc_Resting_word pm_Resting_word an_Resting_word cd_Resting_word ct_Resting_word), sl_Resting_word⟩)
    (c_Resting_word : PySem.W.codeIn K cd_Resting_word "Resting.word" = true)
    (k_Resting_word : PySem.W.keepIn K (.ref f_Resting_word) = true)
    (a_Resting_count_fails : PySem.W.findIn K (.ref cResting) "count_fails" = some (some (.ref f_Resting_count_fails)))
    (i_Resting_count_fails : PySem.W.isFn K (.ref f_Resting_count_fails) = true)
    (l_Resting_count_fails : K.lookup f_Resting_count_fails = some ⟨oc_Resting_count_fails, od_Resting_count_fails, .func (PySem.W.fnOf "count_fails" "Resting.count_fails" (defArgs s_Resting_count_fails) (defBody s_Resting_count_fails) (defScope s_Resting_count_fails) .none kV_Resting_count_fails dc_Resting_count_fails pm_Resting_count_fails an_Resting_count_fails cd_Resting_count_fails ct_Resting_count_fails), sl_Resting_count_fails⟩)
    (c_Resting_count_fails : PySem.W.codeIn K cd_Resting_count_fails "Resting.count_fails" = true)
    (k_Resting_count_fails : PySem.W.keepIn K (.ref f_Resting_count_fails) = true)
    (a_Resting_told : PySem.W.findIn K (.ref cResting) "told" = some (some (.ref f_Resting_told)))
    (i_Resting_told : PySem.W.isFn K (.ref f_Resting_told) = true)
    (l_Resting_told : K.lookup f_Resting_told = some ⟨oc_Resting_told, od_Resting_told, .func (PySem.W.fnOf "told" "Resting.told" (defArgs s_Resting_told) (defBody s_Resting_told) (defScope s_Resting_told) .none kV_Resting_told dc_Resting_told pm_Resting_told an_Resting_told cd_Resting_told ct_Resting_told), sl_Resting_told⟩)
    (c_Resting_told : PySem.W.codeIn K cd_Resting_told "Resting.told" = true)
    (k_Resting_told : PySem.W.keepIn K (.ref f_Resting_told) = true)
    (a_Resting_rested : PySem.W.findIn K (.ref cResting) "rested" = some (some (.ref f_Resting_rested)))
    (i_Resting_rested : PySem.W.isFn K (.ref f_Resting_rested) = true)
    (l_Resting_rested : K.lookup f_Resting_rested = some ⟨oc_Resting_rested, od_Resting_rested, .func (PySem.W.fnOf "rested" "Resting.rested" (defArgs s_Resting_rested) (defBody s_Resting_rested) (defScope s_Resting_rested) .none kV_Resting_rested dc_Resting_rested pm_Resting_rested an_Resting_rested cd_Resting_rested ct_Resting_rested), sl_Resting_rested⟩)
    (c_Resting_rested : PySem.W.codeIn K cd_Resting_rested "Resting.rested" = true)
    (k_Resting_rested : PySem.W.keepIn K (.ref f_Resting_rested) = true)
    (a_Done_init : PySem.W.findIn K (.ref cDone) "__init__" = some (some (.ref f_Done_init)))
    (i_Done_init : PySem.W.isFn K (.ref f_Done_init) = true)
    (l_Done_init : K.lookup f_Done_init = some ⟨oc_Done_init, od_Done_init, .func (PySem.W.fnOf "__init__" "Done.__init__" (defArgs s_Done_init) (defBody s_Done_init) (defScope s_Done_init) .none kV_Done_init dc_Done_init pm_Done_init an_Done_init cd_Done_init ct_Done_init), sl_Done_init⟩)
    (c_Done_init : PySem.W.codeIn K cd_Done_init "Done.__init__" = true)
    (k_Done_init : PySem.W.keepIn K (.ref f_Done_init) = true)
    (a_Done_word : PySem.W.findIn K (.ref cDone) "word" = some (some (.ref f_Done_word)))
    (i_Done_word : PySem.W.isFn K (.ref f_Done_word) = true)
    (l_Done_word : K.lookup f_Done_word = some ⟨oc_Done_word, od_Done_word, .func (PySem.W.fnOf "word" "Done.word" (defArgs s_Done_word) (defBody s_Done_word) (defScope s_Done_word) .none kV_Done_word dc_Done_word pm_Done_word an_Done_word cd_Done_word ct_Done_word), sl_Done_word⟩)
    (c_Done_word : PySem.W.codeIn K cd_Done_word "Done.word" = true)
    (k_Done_word : PySem.W.keepIn K (.ref f_Done_word) = true)
    (a_Done_count_fails : PySem.W.findIn K (.ref cDone) "count_fails" = some (some (.ref f_Done_count_fails)))
    (i_Done_count_fails : PySem.W.isFn K (.ref f_Done_count_fails) = true)
    (l_Done_count_fails : K.lookup f_Done_count_fails = some ⟨oc_Done_count_fails, od_Done_count_fails, .func (PySem.W.fnOf "count_fails" "Done.count_fails" (defArgs s_Done_count_fails) (defBody s_Done_count_fails) (defScope s_Done_count_fails) .none kV_Done_count_fails dc_Done_count_fails pm_Done_count_fails an_Done_count_fails cd_Done_count_fails ct_Done_count_fails), sl_Done_count_fails⟩)
    (c_Done_count_fails : PySem.W.codeIn K cd_Done_count_fails "Done.count_fails" = true)
    (k_Done_count_fails : PySem.W.keepIn K (.ref f_Done_count_fails) = true)
    (a_Done_told : PySem.W.findIn K (.ref cDone) "told" = some (some (.ref f_Done_told)))
    (i_Done_told : PySem.W.isFn K (.ref f_Done_told) = true)
    (l_Done_told : K.lookup f_Done_told = some ⟨oc_Done_told, od_Done_told, .func (PySem.W.fnOf "told" "Done.told" (defArgs s_Done_told) (defBody s_Done_told) (defScope s_Done_told) .none kV_Done_told dc_Done_told pm_Done_told an_Done_told cd_Done_told ct_Done_told), sl_Done_told⟩)
    (c_Done_told : PySem.W.codeIn K cd_Done_told "Done.told" = true)
    (k_Done_told : PySem.W.keepIn K (.ref f_Done_told) = true)
    (a_Broken_init : PySem.W.findIn K (.ref cBroken) "__init__" = some (some (.ref f_Broken_init)))
    (i_Broken_init : PySem.W.isFn K (.ref f_Broken_init) = true)
    (l_Broken_init : K.lookup f_Broken_init = some ⟨oc_Broken_init, od_Broken_init, .func (PySem.W.fnOf "__init__" "Broken.__init__" (defArgs s_Broken_init) (defBody s_Broken_init) (defScope s_Broken_init) .none kV_Broken_init dc_Broken_init pm_Broken_init an_Broken_init cd_Broken_init ct_Broken_init), sl_Broken_init⟩)
    (c_Broken_init : PySem.W.codeIn K cd_Broken_init "Broken.__init__" = true)
    (k_Broken_init : PySem.W.keepIn K (.ref f_Broken_init) = true)
    (a_Broken_word : PySem.W.findIn K (.ref cBroken) "word" = some (some (.ref f_Broken_word)))
    (i_Broken_word : PySem.W.isFn K (.ref f_Broken_word) = true)
    (l_Broken_word : K.lookup f_Broken_word = some ⟨oc_Broken_word, od_Broken_word, .func (PySem.W.fnOf "word" "Broken.word" (defArgs s_Broken_word) (defBody s_Broken_word) (defScope s_Broken_word) .none kV_Broken_word dc_Broken_word pm_Broken_word an_Broken_word cd_Broken_word ct_Broken_word), sl_Broken_word⟩)
    (c_Broken_word : PySem.W.codeIn K cd_Broken_word "Broken.word" = true)
    (k_Broken_word : PySem.W.keepIn K (.ref f_Broken_word) = true)
    (a_Broken_count_fails : PySem.W.findIn K (.ref cBroken) "count_fails" = some (some (.ref f_Broken_count_fails)))
    (i_Broken_count_fails : PySem.W.isFn K (.ref f_Broken_count_fails) = true)
    (l_Broken_count_fails : K.lookup f_Broken_count_fails = some ⟨oc_Broken_count_fails, od_Broken_count_fails, .func (PySem.W.fnOf "count_fails" "Broken.count_fails" (defArgs s_Broken_count_fails) (defBody s_Broken_count_fails) (defScope s_Broken_count_fails) .none kV_Broken_count_fails dc_Broken_count_fails pm_Broken_count_fails an_Broken_count_fails cd_Broken_count_fails ct_Broken_count_fails), sl_Broken_count_fails⟩)
    (c_Broken_count_fails : PySem.W.codeIn K cd_Broken_count_fails "Broken.count_fails" = true)
    (k_Broken_count_fails : PySem.W.keepIn K (.ref f_Broken_count_fails) = true)
    (a_Broken_told : PySem.W.findIn K (.ref cBroken) "told" = some (some (.ref f_Broken_told)))
    (i_Broken_told : PySem.W.isFn K (.ref f_Broken_told) = true)
    (l_Broken_told : K.lookup f_Broken_told = some ⟨oc_Broken_told, od_Broken_told, .func (PySem.W.fnOf "told" "Broken.told" (defArgs s_Broken_told) (defBody s_Broken_told) (defScope s_Broken_told) .none kV_Broken_told dc_Broken_told pm_Broken_told an_Broken_told cd_Broken_told ct_Broken_told), sl_Broken_told⟩)
    (c_Broken_told : PySem.W.codeIn K cd_Broken_told "Broken.told" = true)
    (k_Broken_told : PySem.W.keepIn K (.ref f_Broken_told) = true)
    (a_Cut_init : PySem.W.findIn K (.ref cCut) "__init__" = some (some (.ref f_Cut_init)))
    (i_Cut_init : PySem.W.isFn K (.ref f_Cut_init) = true)
    (l_Cut_init : K.lookup f_Cut_init = some ⟨oc_Cut_init, od_Cut_init, .func (PySem.W.fnOf "__init__" "Cut.__init__" (defArgs s_Cut_init) (defBody s_Cut_init) (defScope s_Cut_init) .none kV_Cut_init dc_Cut_init pm_Cut_init an_Cut_init cd_Cut_init ct_Cut_init), sl_Cut_init⟩)
    (c_Cut_init : PySem.W.codeIn K cd_Cut_init "Cut.__init__" = true)
    (k_Cut_init : PySem.W.keepIn K (.ref f_Cut_init) = true)
    (a_Cut_word : PySem.W.findIn K (.ref cCut) "word" = some (some (.ref f_Cut_word)))
    (i_Cut_word : PySem.W.isFn K (.ref f_Cut_word) = true)
    (l_Cut_word : K.lookup f_Cut_word = some ⟨oc_Cut_word, od_Cut_word, .func (PySem.W.fnOf "word" "Cut.word" (defArgs s_Cut_word) (defBody s_Cut_word) (defScope s_Cut_word) .none kV_Cut_word dc_Cut_word pm_Cut_word an_Cut_word cd_Cut_word ct_Cut_word), sl_Cut_word⟩)
    (c_Cut_word : PySem.W.codeIn K cd_Cut_word "Cut.word" = true)
    (k_Cut_word : PySem.W.keepIn K (.ref f_Cut_word) = true)
    (a_Cut_told : PySem.W.findIn K (.ref cCut) "told" = some (some (.ref f_Cut_told)))
    (i_Cut_told : PySem.W.isFn K (.ref f_Cut_told) = true)
    (l_Cut_told : K.lookup f_Cut_told = some ⟨oc_Cut_told, od_Cut_told, .func (PySem.W.fnOf "told" "Cut.told" (defArgs s_Cut_told) (defBody s_Cut_told) (defScope s_Cut_told) .none kV_Cut_told dc_Cut_told pm_Cut_told an_Cut_told cd_Cut_told ct_Cut_told), sl_Cut_told⟩)
    (c_Cut_told : PySem.W.codeIn K cd_Cut_told "Cut.told" = true)
    (k_Cut_told : PySem.W.keepIn K (.ref f_Cut_told) = true)
    (a_first_state : PySem.W.nsIn K mainGlobals "first_state" = some (some (.ref f_first_state)))
    (l_first_state : K.lookup f_first_state = some ⟨oc_first_state, od_first_state, .func (PySem.W.fnOf "first_state" "first_state" (defArgs s_first_state) (defBody s_first_state) (defScope s_first_state) .none kV_first_state dc_first_state pm_first_state an_first_state cd_first_state ct_first_state), sl_first_state⟩)
    (c_first_state : PySem.W.codeIn K cd_first_state "first_state" = true)
    (k_first_state : PySem.W.keepIn K (.ref f_first_state) = true)
    (a_own_needs : PySem.W.nsIn K mainGlobals "own_needs" = some (some (.ref f_own_needs)))
    (l_own_needs : K.lookup f_own_needs = some ⟨oc_own_needs, od_own_needs, .func (PySem.W.fnOf "own_needs" "own_needs" (defArgs s_own_needs) (defBody s_own_needs) (defScope s_own_needs) .none kV_own_needs dc_own_needs pm_own_needs an_own_needs cd_own_needs ct_own_needs), sl_own_needs⟩)
    (c_own_needs : PySem.W.codeIn K cd_own_needs "own_needs" = true)
    (k_own_needs : PySem.W.keepIn K (.ref f_own_needs) = true)
    (a_need_numbers : PySem.W.nsIn K mainGlobals "need_numbers" = some (some (.ref f_need_numbers)))
    (l_need_numbers : K.lookup f_need_numbers = some ⟨oc_need_numbers, od_need_numbers, .func (PySem.W.fnOf "need_numbers" "need_numbers" (defArgs s_need_numbers) (defBody s_need_numbers) (defScope s_need_numbers) .none kV_need_numbers dc_need_numbers pm_need_numbers an_need_numbers cd_need_numbers ct_need_numbers), sl_need_numbers⟩)
    (c_need_numbers : PySem.W.codeIn K cd_need_numbers "need_numbers" = true)
    (k_need_numbers : PySem.W.keepIn K (.ref f_need_numbers) = true)
    (a_Job_init : PySem.W.findIn K (.ref cJob) "__init__" = some (some (.ref f_Job_init)))
    (i_Job_init : PySem.W.isFn K (.ref f_Job_init) = true)
    (l_Job_init : K.lookup f_Job_init = some ⟨oc_Job_init, od_Job_init, .func (PySem.W.fnOf "__init__" "Job.__init__" (defArgs s_Job_init) (defBody s_Job_init) (defScope s_Job_init) (.ref D_Job_init) kV_Job_init dc_Job_init pm_Job_init an_Job_init cd_Job_init ct_Job_init), sl_Job_init⟩)
    (c_Job_init : PySem.W.codeIn K cd_Job_init "Job.__init__" = true)
    (k_Job_init : PySem.W.keepIn K (.ref f_Job_init) = true)
    (dl_Job_init : K.lookup D_Job_init = some ⟨doc_Job_init, dod_Job_init, .seq (List.toArray [.none, .int (0) dt_Job_init_1, .int (1) dt_Job_init_2, .int (1) dt_Job_init_3, .int (0) dt_Job_init_4, .int (1) dt_Job_init_5]) dn_Job_init, dsl_Job_init⟩)
    (a_law_cell_at : PySem.W.nsIn K mainGlobals "_law_cell_at" = some (some (.ref f_law_cell_at)))
    (l_law_cell_at : K.lookup f_law_cell_at = some ⟨oc_law_cell_at, od_law_cell_at, .func (PySem.W.fnOf "_law_cell_at" "_law_cell_at" (defArgs s_law_cell_at) (defBody s_law_cell_at) (defScope s_law_cell_at) .none kV_law_cell_at dc_law_cell_at pm_law_cell_at an_law_cell_at cd_law_cell_at ct_law_cell_at), sl_law_cell_at⟩)
    (c_law_cell_at : PySem.W.codeIn K cd_law_cell_at "_law_cell_at" = true)
    (k_law_cell_at : PySem.W.keepIn K (.ref f_law_cell_at) = true)
    (a_law_mixed : PySem.W.nsIn K mainGlobals "_law_mixed" = some (some (.ref f_law_mixed)))
    (l_law_mixed : K.lookup f_law_mixed = some ⟨oc_law_mixed, od_law_mixed, .func (PySem.W.fnOf "_law_mixed" "_law_mixed" (defArgs s_law_mixed) (defBody s_law_mixed) (defScope s_law_mixed) .none kV_law_mixed dc_law_mixed pm_law_mixed an_law_mixed cd_law_mixed ct_law_mixed), sl_law_mixed⟩)
    (c_law_mixed : PySem.W.codeIn K cd_law_mixed "_law_mixed" = true)
    (k_law_mixed : PySem.W.keepIn K (.ref f_law_mixed) = true)
    (a_law_whole : PySem.W.nsIn K mainGlobals "_law_whole" = some (some (.ref f_law_whole)))
    (l_law_whole : K.lookup f_law_whole = some ⟨oc_law_whole, od_law_whole, .func (PySem.W.fnOf "_law_whole" "_law_whole" (defArgs s_law_whole) (defBody s_law_whole) (defScope s_law_whole) .none kV_law_whole dc_law_whole pm_law_whole an_law_whole cd_law_whole ct_law_whole), sl_law_whole⟩)
    (c_law_whole : PySem.W.codeIn K cd_law_whole "_law_whole" = true)
    (k_law_whole : PySem.W.keepIn K (.ref f_law_whole) = true)
    (a_law_same : PySem.W.nsIn K mainGlobals "_law_same" = some (some (.ref f_law_same)))
    (l_law_same : K.lookup f_law_same = some ⟨oc_law_same, od_law_same, .func (PySem.W.fnOf "_law_same" "_law_same" (defArgs s_law_same) (defBody s_law_same) (defScope s_law_same) .none kV_law_same dc_law_same pm_law_same an_law_same cd_law_same ct_law_same), sl_law_same⟩)
    (c_law_same : PySem.W.codeIn K cd_law_same "_law_same" = true)
    (k_law_same : PySem.W.keepIn K (.ref f_law_same) = true)
    (a_law_is : PySem.W.nsIn K mainGlobals "_law_is" = some (some (.ref f_law_is)))
    (l_law_is : K.lookup f_law_is = some ⟨oc_law_is, od_law_is, .func (PySem.W.fnOf "_law_is" "_law_is" (defArgs s_law_is) (defBody s_law_is) (defScope s_law_is) .none kV_law_is dc_law_is pm_law_is an_law_is cd_law_is ct_law_is), sl_law_is⟩)
    (c_law_is : PySem.W.codeIn K cd_law_is "_law_is" = true)
    (k_law_is : PySem.W.keepIn K (.ref f_law_is) = true)
    (a_law_over : PySem.W.nsIn K mainGlobals "_law_over" = some (some (.ref f_law_over)))
    (l_law_over : K.lookup f_law_over = some ⟨oc_law_over, od_law_over, .func (PySem.W.fnOf "_law_over" "_law_over" (defArgs s_law_over) (defBody s_law_over) (defScope s_law_over) .none kV_law_over dc_law_over pm_law_over an_law_over cd_law_over ct_law_over), sl_law_over⟩)
    (c_law_over : PySem.W.codeIn K cd_law_over "_law_over" = true)
    (k_law_over : PySem.W.keepIn K (.ref f_law_over) = true)
    (a_law_stands : PySem.W.nsIn K mainGlobals "_law_stands" = some (some (.ref f_law_stands)))
    (l_law_stands : K.lookup f_law_stands = some ⟨oc_law_stands, od_law_stands, .func (PySem.W.fnOf "_law_stands" "_law_stands" (defArgs s_law_stands) (defBody s_law_stands) (defScope s_law_stands) .none kV_law_stands dc_law_stands pm_law_stands an_law_stands cd_law_stands ct_law_stands), sl_law_stands⟩)
    (c_law_stands : PySem.W.codeIn K cd_law_stands "_law_stands" = true)
    (k_law_stands : PySem.W.keepIn K (.ref f_law_stands) = true)
    (a_law_job : PySem.W.nsIn K mainGlobals "_law_job" = some (some (.ref f_law_job)))
    (l_law_job : K.lookup f_law_job = some ⟨oc_law_job, od_law_job, .func (PySem.W.fnOf "_law_job" "_law_job" (defArgs s_law_job) (defBody s_law_job) (defScope s_law_job) .none kV_law_job dc_law_job pm_law_job an_law_job cd_law_job ct_law_job), sl_law_job⟩)
    (c_law_job : PySem.W.codeIn K cd_law_job "_law_job" = true)
    (k_law_job : PySem.W.keepIn K (.ref f_law_job) = true)
    (a_law_rest : PySem.W.nsIn K mainGlobals "_law_rest" = some (some (.ref f_law_rest)))
    (l_law_rest : K.lookup f_law_rest = some ⟨oc_law_rest, od_law_rest, .func (PySem.W.fnOf "_law_rest" "_law_rest" (defArgs s_law_rest) (defBody s_law_rest) (defScope s_law_rest) .none kV_law_rest dc_law_rest pm_law_rest an_law_rest cd_law_rest ct_law_rest), sl_law_rest⟩)
    (c_law_rest : PySem.W.codeIn K cd_law_rest "_law_rest" = true)
    (k_law_rest : PySem.W.keepIn K (.ref f_law_rest) = true)
    (a_law_first : PySem.W.nsIn K mainGlobals "_law_first" = some (some (.ref f_law_first)))
    (l_law_first : K.lookup f_law_first = some ⟨oc_law_first, od_law_first, .func (PySem.W.fnOf "_law_first" "_law_first" (defArgs s_law_first) (defBody s_law_first) (defScope s_law_first) .none kV_law_first dc_law_first pm_law_first an_law_first cd_law_first ct_law_first), sl_law_first⟩)
    (c_law_first : PySem.W.codeIn K cd_law_first "_law_first" = true)
    (k_law_first : PySem.W.keepIn K (.ref f_law_first) = true)
    (a_law_turn : PySem.W.nsIn K mainGlobals "_law_turn" = some (some (.ref f_law_turn)))
    (l_law_turn : K.lookup f_law_turn = some ⟨oc_law_turn, od_law_turn, .func (PySem.W.fnOf "_law_turn" "_law_turn" (defArgs s_law_turn) (defBody s_law_turn) (defScope s_law_turn) .none kV_law_turn dc_law_turn pm_law_turn an_law_turn cd_law_turn ct_law_turn), sl_law_turn⟩)
    (c_law_turn : PySem.W.codeIn K cd_law_turn "_law_turn" = true)
    (k_law_turn : PySem.W.keepIn K (.ref f_law_turn) = true)
    (a_law_stepped : PySem.W.nsIn K mainGlobals "_law_stepped" = some (some (.ref f_law_stepped)))
    (l_law_stepped : K.lookup f_law_stepped = some ⟨oc_law_stepped, od_law_stepped, .func (PySem.W.fnOf "_law_stepped" "_law_stepped" (defArgs s_law_stepped) (defBody s_law_stepped) (defScope s_law_stepped) .none kV_law_stepped dc_law_stepped pm_law_stepped an_law_stepped cd_law_stepped ct_law_stepped), sl_law_stepped⟩)
    (c_law_stepped : PySem.W.codeIn K cd_law_stepped "_law_stepped" = true)
    (k_law_stepped : PySem.W.keepIn K (.ref f_law_stepped) = true)
    (a_law : PySem.W.nsIn K mainGlobals "law" = some (some (.ref f_law)))
    (l_law : K.lookup f_law = some ⟨oc_law, od_law, .func (PySem.W.fnOf "law" "law" (defArgs s_law) (defBody s_law) (defScope s_law) .none kV_law dc_law pm_law an_law cd_law ct_law), sl_law⟩)
    (c_law : PySem.W.codeIn K cd_law "law" = true)
    (k_law : PySem.W.keepIn K (.ref f_law) = true)
    (a_Open_State_is_over : PySem.W.findIn K (.ref cOpen) "is_over" = some (some (.ref f_State_is_over)))
    (a_Open_State_count_fails : PySem.W.findIn K (.ref cOpen) "count_fails" = some (some (.ref f_State_count_fails)))
    (a_Over_State_count_fails : PySem.W.findIn K (.ref cOver) "count_fails" = some (some (.ref f_State_count_fails)))
    (a_Blocked_State_is_over : PySem.W.findIn K (.ref cBlocked) "is_over" = some (some (.ref f_State_is_over)))
    (a_Blocked_State_count_fails : PySem.W.findIn K (.ref cBlocked) "count_fails" = some (some (.ref f_State_count_fails)))
    (a_Ready_State_is_over : PySem.W.findIn K (.ref cReady) "is_over" = some (some (.ref f_State_is_over)))
    (a_Leased_State_is_over : PySem.W.findIn K (.ref cLeased) "is_over" = some (some (.ref f_State_is_over)))
    (a_Resting_State_is_over : PySem.W.findIn K (.ref cResting) "is_over" = some (some (.ref f_State_is_over)))
    (a_Done_Over_is_over : PySem.W.findIn K (.ref cDone) "is_over" = some (some (.ref f_Over_is_over)))
    (a_Broken_Over_is_over : PySem.W.findIn K (.ref cBroken) "is_over" = some (some (.ref f_Over_is_over)))
    (a_Cut_Over_is_over : PySem.W.findIn K (.ref cCut) "is_over" = some (some (.ref f_Over_is_over)))
    (a_Cut_State_count_fails : PySem.W.findIn K (.ref cCut) "count_fails" = some (some (.ref f_State_count_fails)))
    (sq_State_Blocked : PySem.W.subIn K (.ref cState) (.ref cBlocked) = some false)
    (sq_State_Broken : PySem.W.subIn K (.ref cState) (.ref cBroken) = some false)
    (sq_State_Cut : PySem.W.subIn K (.ref cState) (.ref cCut) = some false)
    (sq_State_Done : PySem.W.subIn K (.ref cState) (.ref cDone) = some false)
    (sq_State_Leased : PySem.W.subIn K (.ref cState) (.ref cLeased) = some false)
    (sq_State_Open : PySem.W.subIn K (.ref cState) (.ref cOpen) = some false)
    (sq_State_Over : PySem.W.subIn K (.ref cState) (.ref cOver) = some false)
    (sq_State_Ready : PySem.W.subIn K (.ref cState) (.ref cReady) = some false)
    (sq_State_Resting : PySem.W.subIn K (.ref cState) (.ref cResting) = some false)
    (sq_Open_Blocked : PySem.W.subIn K (.ref cOpen) (.ref cBlocked) = some false)
    (sq_Open_Broken : PySem.W.subIn K (.ref cOpen) (.ref cBroken) = some false)
    (sq_Open_Cut : PySem.W.subIn K (.ref cOpen) (.ref cCut) = some false)
    (sq_Open_Done : PySem.W.subIn K (.ref cOpen) (.ref cDone) = some false)
    (sq_Open_Leased : PySem.W.subIn K (.ref cOpen) (.ref cLeased) = some false)
    (sq_Open_Over : PySem.W.subIn K (.ref cOpen) (.ref cOver) = some false)
    (sq_Open_Ready : PySem.W.subIn K (.ref cOpen) (.ref cReady) = some false)
    (sq_Open_Resting : PySem.W.subIn K (.ref cOpen) (.ref cResting) = some false)
    (sq_Open_State : PySem.W.subIn K (.ref cOpen) (.ref cState) = some true)
    (sq_Over_Blocked : PySem.W.subIn K (.ref cOver) (.ref cBlocked) = some false)
    (sq_Over_Broken : PySem.W.subIn K (.ref cOver) (.ref cBroken) = some false)
    (sq_Over_Cut : PySem.W.subIn K (.ref cOver) (.ref cCut) = some false)
    (sq_Over_Done : PySem.W.subIn K (.ref cOver) (.ref cDone) = some false)
    (sq_Over_Leased : PySem.W.subIn K (.ref cOver) (.ref cLeased) = some false)
    (sq_Over_Open : PySem.W.subIn K (.ref cOver) (.ref cOpen) = some false)
    (sq_Over_Ready : PySem.W.subIn K (.ref cOver) (.ref cReady) = some false)
    (sq_Over_Resting : PySem.W.subIn K (.ref cOver) (.ref cResting) = some false)
    (sq_Over_State : PySem.W.subIn K (.ref cOver) (.ref cState) = some true)
    (sq_Blocked_Broken : PySem.W.subIn K (.ref cBlocked) (.ref cBroken) = some false)
    (sq_Blocked_Cut : PySem.W.subIn K (.ref cBlocked) (.ref cCut) = some false)
    (sq_Blocked_Done : PySem.W.subIn K (.ref cBlocked) (.ref cDone) = some false)
    (sq_Blocked_Leased : PySem.W.subIn K (.ref cBlocked) (.ref cLeased) = some false)
    (sq_Blocked_Open : PySem.W.subIn K (.ref cBlocked) (.ref cOpen) = some true)
    (sq_Blocked_Over : PySem.W.subIn K (.ref cBlocked) (.ref cOver) = some false)
    (sq_Blocked_Ready : PySem.W.subIn K (.ref cBlocked) (.ref cReady) = some false)
    (sq_Blocked_Resting : PySem.W.subIn K (.ref cBlocked) (.ref cResting) = some false)
    (sq_Blocked_State : PySem.W.subIn K (.ref cBlocked) (.ref cState) = some true)
    (sq_Ready_Blocked : PySem.W.subIn K (.ref cReady) (.ref cBlocked) = some false)
    (sq_Ready_Broken : PySem.W.subIn K (.ref cReady) (.ref cBroken) = some false)
    (sq_Ready_Cut : PySem.W.subIn K (.ref cReady) (.ref cCut) = some false)
    (sq_Ready_Done : PySem.W.subIn K (.ref cReady) (.ref cDone) = some false)
    (sq_Ready_Leased : PySem.W.subIn K (.ref cReady) (.ref cLeased) = some false)
    (sq_Ready_Open : PySem.W.subIn K (.ref cReady) (.ref cOpen) = some true)
    (sq_Ready_Over : PySem.W.subIn K (.ref cReady) (.ref cOver) = some false)
    (sq_Ready_Resting : PySem.W.subIn K (.ref cReady) (.ref cResting) = some false)
    (sq_Ready_State : PySem.W.subIn K (.ref cReady) (.ref cState) = some true)
    (sq_Leased_Blocked : PySem.W.subIn K (.ref cLeased) (.ref cBlocked) = some false)
    (sq_Leased_Broken : PySem.W.subIn K (.ref cLeased) (.ref cBroken) = some false)
    (sq_Leased_Cut : PySem.W.subIn K (.ref cLeased) (.ref cCut) = some false)
    (sq_Leased_Done : PySem.W.subIn K (.ref cLeased) (.ref cDone) = some false)
    (sq_Leased_Open : PySem.W.subIn K (.ref cLeased) (.ref cOpen) = some true)
    (sq_Leased_Over : PySem.W.subIn K (.ref cLeased) (.ref cOver) = some false)
    (sq_Leased_Ready : PySem.W.subIn K (.ref cLeased) (.ref cReady) = some false)
    (sq_Leased_Resting : PySem.W.subIn K (.ref cLeased) (.ref cResting) = some false)
    (sq_Leased_State : PySem.W.subIn K (.ref cLeased) (.ref cState) = some true)
    (sq_Resting_Blocked : PySem.W.subIn K (.ref cResting) (.ref cBlocked) = some false)
    (sq_Resting_Broken : PySem.W.subIn K (.ref cResting) (.ref cBroken) = some false)
    (sq_Resting_Cut : PySem.W.subIn K (.ref cResting) (.ref cCut) = some false)
    (sq_Resting_Done : PySem.W.subIn K (.ref cResting) (.ref cDone) = some false)
    (sq_Resting_Leased : PySem.W.subIn K (.ref cResting) (.ref cLeased) = some false)
    (sq_Resting_Open : PySem.W.subIn K (.ref cResting) (.ref cOpen) = some true)
    (sq_Resting_Over : PySem.W.subIn K (.ref cResting) (.ref cOver) = some false)
    (sq_Resting_Ready : PySem.W.subIn K (.ref cResting) (.ref cReady) = some false)
    (sq_Resting_State : PySem.W.subIn K (.ref cResting) (.ref cState) = some true)
    (sq_Done_Blocked : PySem.W.subIn K (.ref cDone) (.ref cBlocked) = some false)
    (sq_Done_Broken : PySem.W.subIn K (.ref cDone) (.ref cBroken) = some false)
    (sq_Done_Cut : PySem.W.subIn K (.ref cDone) (.ref cCut) = some false)
    (sq_Done_Leased : PySem.W.subIn K (.ref cDone) (.ref cLeased) = some false)
    (sq_Done_Open : PySem.W.subIn K (.ref cDone) (.ref cOpen) = some false)
    (sq_Done_Over : PySem.W.subIn K (.ref cDone) (.ref cOver) = some true)
    (sq_Done_Ready : PySem.W.subIn K (.ref cDone) (.ref cReady) = some false)
    (sq_Done_Resting : PySem.W.subIn K (.ref cDone) (.ref cResting) = some false)
    (sq_Done_State : PySem.W.subIn K (.ref cDone) (.ref cState) = some true)
    (sq_Broken_Blocked : PySem.W.subIn K (.ref cBroken) (.ref cBlocked) = some false)
    (sq_Broken_Cut : PySem.W.subIn K (.ref cBroken) (.ref cCut) = some false)
    (sq_Broken_Done : PySem.W.subIn K (.ref cBroken) (.ref cDone) = some false)
    (sq_Broken_Leased : PySem.W.subIn K (.ref cBroken) (.ref cLeased) = some false)
    (sq_Broken_Open : PySem.W.subIn K (.ref cBroken) (.ref cOpen) = some false)
    (sq_Broken_Over : PySem.W.subIn K (.ref cBroken) (.ref cOver) = some true)
    (sq_Broken_Ready : PySem.W.subIn K (.ref cBroken) (.ref cReady) = some false)
    (sq_Broken_Resting : PySem.W.subIn K (.ref cBroken) (.ref cResting) = some false)
    (sq_Broken_State : PySem.W.subIn K (.ref cBroken) (.ref cState) = some true)
    (sq_Cut_Blocked : PySem.W.subIn K (.ref cCut) (.ref cBlocked) = some false)
    (sq_Cut_Broken : PySem.W.subIn K (.ref cCut) (.ref cBroken) = some false)
    (sq_Cut_Done : PySem.W.subIn K (.ref cCut) (.ref cDone) = some false)
    (sq_Cut_Leased : PySem.W.subIn K (.ref cCut) (.ref cLeased) = some false)
    (sq_Cut_Open : PySem.W.subIn K (.ref cCut) (.ref cOpen) = some false)
    (sq_Cut_Over : PySem.W.subIn K (.ref cCut) (.ref cOver) = some true)
    (sq_Cut_Ready : PySem.W.subIn K (.ref cCut) (.ref cReady) = some false)
    (sq_Cut_Resting : PySem.W.subIn K (.ref cCut) (.ref cResting) = some false)
    (sq_Cut_State : PySem.W.subIn K (.ref cCut) (.ref cState) = some true)
    (sq_Job_Blocked : PySem.W.subIn K (.ref cJob) (.ref cBlocked) = some false)
    (sq_Job_Broken : PySem.W.subIn K (.ref cJob) (.ref cBroken) = some false)
    (sq_Job_Cut : PySem.W.subIn K (.ref cJob) (.ref cCut) = some false)
    (sq_Job_Done : PySem.W.subIn K (.ref cJob) (.ref cDone) = some false)
    (sq_Job_Leased : PySem.W.subIn K (.ref cJob) (.ref cLeased) = some false)
    (sq_Job_Open : PySem.W.subIn K (.ref cJob) (.ref cOpen) = some false)
    (sq_Job_Over : PySem.W.subIn K (.ref cJob) (.ref cOver) = some false)
    (sq_Job_Ready : PySem.W.subIn K (.ref cJob) (.ref cReady) = some false)
    (sq_Job_Resting : PySem.W.subIn K (.ref cJob) (.ref cResting) = some false)
    (sq_Job_State : PySem.W.subIn K (.ref cJob) (.ref cState) = some false)
    (nq_State_Blocked : (Value.ref cState == Value.ref cBlocked) = false)
    (nq_State_Broken : (Value.ref cState == Value.ref cBroken) = false)
    (nq_State_Cut : (Value.ref cState == Value.ref cCut) = false)
    (nq_State_Done : (Value.ref cState == Value.ref cDone) = false)
    (nq_State_Leased : (Value.ref cState == Value.ref cLeased) = false)
    (nq_State_Open : (Value.ref cState == Value.ref cOpen) = false)
    (nq_State_Over : (Value.ref cState == Value.ref cOver) = false)
    (nq_State_Ready : (Value.ref cState == Value.ref cReady) = false)
    (nq_State_Resting : (Value.ref cState == Value.ref cResting) = false)
    (nq_Open_Blocked : (Value.ref cOpen == Value.ref cBlocked) = false)
    (nq_Open_Broken : (Value.ref cOpen == Value.ref cBroken) = false)
    (nq_Open_Cut : (Value.ref cOpen == Value.ref cCut) = false)
    (nq_Open_Done : (Value.ref cOpen == Value.ref cDone) = false)
    (nq_Open_Leased : (Value.ref cOpen == Value.ref cLeased) = false)
    (nq_Open_Over : (Value.ref cOpen == Value.ref cOver) = false)
    (nq_Open_Ready : (Value.ref cOpen == Value.ref cReady) = false)
    (nq_Open_Resting : (Value.ref cOpen == Value.ref cResting) = false)
    (nq_Open_State : (Value.ref cOpen == Value.ref cState) = false)
    (nq_Over_Blocked : (Value.ref cOver == Value.ref cBlocked) = false)
    (nq_Over_Broken : (Value.ref cOver == Value.ref cBroken) = false)
    (nq_Over_Cut : (Value.ref cOver == Value.ref cCut) = false)
    (nq_Over_Done : (Value.ref cOver == Value.ref cDone) = false)
    (nq_Over_Leased : (Value.ref cOver == Value.ref cLeased) = false)
    (nq_Over_Open : (Value.ref cOver == Value.ref cOpen) = false)
    (nq_Over_Ready : (Value.ref cOver == Value.ref cReady) = false)
    (nq_Over_Resting : (Value.ref cOver == Value.ref cResting) = false)
    (nq_Over_State : (Value.ref cOver == Value.ref cState) = false)
    (nq_Blocked_Broken : (Value.ref cBlocked == Value.ref cBroken) = false)
    (nq_Blocked_Cut : (Value.ref cBlocked == Value.ref cCut) = false)
    (nq_Blocked_Done : (Value.ref cBlocked == Value.ref cDone) = false)
    (nq_Blocked_Leased : (Value.ref cBlocked == Value.ref cLeased) = false)
    (nq_Blocked_Open : (Value.ref cBlocked == Value.ref cOpen) = false)
    (nq_Blocked_Over : (Value.ref cBlocked == Value.ref cOver) = false)
    (nq_Blocked_Ready : (Value.ref cBlocked == Value.ref cReady) = false)
    (nq_Blocked_Resting : (Value.ref cBlocked == Value.ref cResting) = false)
    (nq_Blocked_State : (Value.ref cBlocked == Value.ref cState) = false)
    (nq_Ready_Blocked : (Value.ref cReady == Value.ref cBlocked) = false)
    (nq_Ready_Broken : (Value.ref cReady == Value.ref cBroken) = false)
    (nq_Ready_Cut : (Value.ref cReady == Value.ref cCut) = false)
    (nq_Ready_Done : (Value.ref cReady == Value.ref cDone) = false)
    (nq_Ready_Leased : (Value.ref cReady == Value.ref cLeased) = false)
    (nq_Ready_Open : (Value.ref cReady == Value.ref cOpen) = false)
    (nq_Ready_Over : (Value.ref cReady == Value.ref cOver) = false)
    (nq_Ready_Resting : (Value.ref cReady == Value.ref cResting) = false)
    (nq_Ready_State : (Value.ref cReady == Value.ref cState) = false)
    (nq_Leased_Blocked : (Value.ref cLeased == Value.ref cBlocked) = false)
    (nq_Leased_Broken : (Value.ref cLeased == Value.ref cBroken) = false)
    (nq_Leased_Cut : (Value.ref cLeased == Value.ref cCut) = false)
    (nq_Leased_Done : (Value.ref cLeased == Value.ref cDone) = false)
    (nq_Leased_Open : (Value.ref cLeased == Value.ref cOpen) = false)
    (nq_Leased_Over : (Value.ref cLeased == Value.ref cOver) = false)
    (nq_Leased_Ready : (Value.ref cLeased == Value.ref cReady) = false)
    (nq_Leased_Resting : (Value.ref cLeased == Value.ref cResting) = false)
    (nq_Leased_State : (Value.ref cLeased == Value.ref cState) = false)
    (nq_Resting_Blocked : (Value.ref cResting == Value.ref cBlocked) = false)
    (nq_Resting_Broken : (Value.ref cResting == Value.ref cBroken) = false)
    (nq_Resting_Cut : (Value.ref cResting == Value.ref cCut) = false)
    (nq_Resting_Done : (Value.ref cResting == Value.ref cDone) = false)
    (nq_Resting_Leased : (Value.ref cResting == Value.ref cLeased) = false)
    (nq_Resting_Open : (Value.ref cResting == Value.ref cOpen) = false)
    (nq_Resting_Over : (Value.ref cResting == Value.ref cOver) = false)
    (nq_Resting_Ready : (Value.ref cResting == Value.ref cReady) = false)
    (nq_Resting_State : (Value.ref cResting == Value.ref cState) = false)
    (nq_Done_Blocked : (Value.ref cDone == Value.ref cBlocked) = false)
    (nq_Done_Broken : (Value.ref cDone == Value.ref cBroken) = false)
    (nq_Done_Cut : (Value.ref cDone == Value.ref cCut) = false)
    (nq_Done_Leased : (Value.ref cDone == Value.ref cLeased) = false)
    (nq_Done_Open : (Value.ref cDone == Value.ref cOpen) = false)
    (nq_Done_Over : (Value.ref cDone == Value.ref cOver) = false)
    (nq_Done_Ready : (Value.ref cDone == Value.ref cReady) = false)
    (nq_Done_Resting : (Value.ref cDone == Value.ref cResting) = false)
    (nq_Done_State : (Value.ref cDone == Value.ref cState) = false)
    (nq_Broken_Blocked : (Value.ref cBroken == Value.ref cBlocked) = false)
    (nq_Broken_Cut : (Value.ref cBroken == Value.ref cCut) = false)
    (nq_Broken_Done : (Value.ref cBroken == Value.ref cDone) = false)
    (nq_Broken_Leased : (Value.ref cBroken == Value.ref cLeased) = false)
    (nq_Broken_Open : (Value.ref cBroken == Value.ref cOpen) = false)
    (nq_Broken_Over : (Value.ref cBroken == Value.ref cOver) = false)
    (nq_Broken_Ready : (Value.ref cBroken == Value.ref cReady) = false)
    (nq_Broken_Resting : (Value.ref cBroken == Value.ref cResting) = false)
    (nq_Broken_State : (Value.ref cBroken == Value.ref cState) = false)
    (nq_Cut_Blocked : (Value.ref cCut == Value.ref cBlocked) = false)
    (nq_Cut_Broken : (Value.ref cCut == Value.ref cBroken) = false)
    (nq_Cut_Done : (Value.ref cCut == Value.ref cDone) = false)
    (nq_Cut_Leased : (Value.ref cCut == Value.ref cLeased) = false)
    (nq_Cut_Open : (Value.ref cCut == Value.ref cOpen) = false)
    (nq_Cut_Over : (Value.ref cCut == Value.ref cOver) = false)
    (nq_Cut_Ready : (Value.ref cCut == Value.ref cReady) = false)
    (nq_Cut_Resting : (Value.ref cCut == Value.ref cResting) = false)
    (nq_Cut_State : (Value.ref cCut == Value.ref cState) = false)
    (nq_Job_Blocked : (Value.ref cJob == Value.ref cBlocked) = false)
    (nq_Job_Broken : (Value.ref cJob == Value.ref cBroken) = false)
    (nq_Job_Cut : (Value.ref cJob == Value.ref cCut) = false)
    (nq_Job_Done : (Value.ref cJob == Value.ref cDone) = false)
    (nq_Job_Leased : (Value.ref cJob == Value.ref cLeased) = false)
    (nq_Job_Open : (Value.ref cJob == Value.ref cOpen) = false)
    (nq_Job_Over : (Value.ref cJob == Value.ref cOver) = false)
    (nq_Job_Ready : (Value.ref cJob == Value.ref cReady) = false)
    (nq_Job_Resting : (Value.ref cJob == Value.ref cResting) = false)
    (nq_Job_State : (Value.ref cJob == Value.ref cState) = false) :
    ∃ fd : FuncData, (∀ (s : Shared) (v : Value), BindsTo s fd ⟨[v], []⟩ [("_law_script", v)]) ∧ ∀ base : Heap, K.In base → base.Ns mainGlobals mg → FnOk l.prog w K mg base (L2.CX l.prog w) 7 fa fd ["_law_script"] (lift (S_law K ⟨0, 0, 0, 0, 0, 0, 0, 0, 0, 0, 0, 0, 0, 0, 0, 0, 0, 0⟩)) := by
  exact all_mk' (a := ⟨0, 0, 0, 0, 0, cState, cOpen, cOver, cBlocked, cReady, cLeased, cResting, cDone, cBroken, cCut, cJob, gLEAST, gMOST⟩) X G hfa g_MOST_WAIT g_LETTERS g_MOST_LETTERS g_MOST_NEEDS g_LEAST k_LEAST g_MOST k_MOST b_bool b_enumerate b_int b_isinstance b_len b_list b_min b_range b_str b_tuple b_zip m_State pg_State hd_State po_State sa_State tq_State ia_State im_State m_Open pg_Open hd_Open po_Open sa_Open tq_Open ia_Open im_Open m_Over pg_Over hd_Over po_Over sa_Over tq_Over ia_Over im_Over m_Blocked pg_Blocked hd_Blocked po_Blocked sa_Blocked mk_Blocked kc_Blocked tq_Blocked ia_Blocked im_Blocked n_Blocked_left m_Ready pg_Ready hd_Ready po_Ready sa_Ready mk_Ready kc_Ready tq_Ready ia_Ready im_Ready n_Ready_fails m_Leased pg_Leased hd_Leased po_Leased sa_Leased mk_Leased kc_Leased tq_Leased ia_Leased im_Leased n_Leased_fails n_Leased_number m_Resting pg_Resting hd_Resting po_Resting sa_Resting mk_Resting kc_Resting tq_Resting ia_Resting im_Resting n_Resting_fails n_Resting_until m_Done pg_Done hd_Done po_Done sa_Done mk_Done kc_Done tq_Done ia_Done im_Done n_Done_fails n_Done_number n_Done_turn m_Broken pg_Broken hd_Broken po_Broken sa_Broken mk_Broken kc_Broken tq_Broken ia_Broken im_Broken n_Broken_fails n_Broken_why m_Cut pg_Cut hd_Cut po_Cut sa_Cut mk_Cut kc_Cut tq_Cut ia_Cut im_Cut n_Cut_need m_Job pg_Job hd_Job po_Job sa_Job mk_Job kc_Job ia_Job im_Job n_Job_name n_Job_needs n_Job_rank n_Job_span n_Job_tries n_Job_wait n_Job_grow zz_n zz_t a_wait_after l_wait_after c_wait_after k_wait_after a_is_whole l_is_whole c_is_whole k_is_whole a_is_among l_is_among c_is_among k_is_among a_is_made_of l_is_made_of c_is_made_of k_is_made_of a_is_name l_is_name c_is_name k_is_name a_State_is_over i_State_is_over l_State_is_over c_State_is_over k_State_is_over a_State_count_fails i_State_count_fails l_State_count_fails c_State_count_fails k_State_count_fails a_Over_is_over i_Over_is_over l_Over_is_over c_Over_is_over k_Over_is_over a_Blocked_init i_Blocked_init l_Blocked_init c_Blocked_init k_Blocked_init a_Blocked_word i_Blocked_word l_Blocked_word c_Blocked_word k_Blocked_word a_Blocked_told i_Blocked_told l_Blocked_told c_Blocked_told k_Blocked_told a_Blocked_freed i_Blocked_freed l_Blocked_freed c_Blocked_freed k_Blocked_freed a_Blocked_cut_off i_Blocked_cut_off l_Blocked_cut_off c_Blocked_cut_off k_Blocked_cut_off a_Ready_init i_Ready_init l_Ready_init c_Ready_init k_Ready_init a_Ready_word i_Ready_word l_Ready_word c_Ready_word k_Ready_word a_Ready_count_fails i_Ready_count_fails l_Ready_count_fails c_Ready_count_fails k_Ready_count_fails a_Ready_told i_Ready_told l_Ready_told c_Ready_told k_Ready_told a_Ready_leased i_Ready_leased l_Ready_leased c_Ready_leased k_Ready_leased a_Leased_init i_Leased_init l_Leased_init c_Leased_init k_Leased_init a_Leased_word i_Leased_word l_Leased_word c_Leased_word k_Leased_word a_Leased_count_fails i_Leased_count_fails l_Leased_count_fails c_Leased_count_fails k_Leased_count_fails a_Leased_told i_Leased_told l_Leased_told c_Leased_told k_Leased_told a_Leased_ended i_Leased_ended l_Leased_ended c_Leased_ended k_Leased_ended a_Leased_failed i_Leased_failed l_Leased_failed c_Leased_failed k_Leased_failed a_Resting_init i_Resting_init l_Resting_init c_Resting_init k_Resting_init a_Resting_word i_Resting_word l_Resting_word c_Resting_word k_Resting_word a_Resting_count_fails i_Resting_count_fails l_Resting_count_fails c_Resting_count_fails k_Resting_count_fails a_Resting_told i_Resting_told l_Resting_told c_Resting_told k_Resting_told a_Resting_rested i_Resting_rested l_Resting_rested c_Resting_rested k_Resting_rested a_Done_init i_Done_init l_Done_init c_Done_init k_Done_init a_Done_word i_Done_word l_Done_word c_Done_word k_Done_word a_Done_count_fails i_Done_count_fails l_Done_count_fails c_Done_count_fails k_Done_count_fails a_Done_told i_Done_told l_Done_told c_Done_told k_Done_told a_Broken_init i_Broken_init l_Broken_init c_Broken_init k_Broken_init a_Broken_word i_Broken_word l_Broken_word c_Broken_word k_Broken_word a_Broken_count_fails i_Broken_count_fails l_Broken_count_fails c_Broken_count_fails k_Broken_count_fails a_Broken_told i_Broken_told l_Broken_told c_Broken_told k_Broken_told a_Cut_init i_Cut_init l_Cut_init c_Cut_init k_Cut_init a_Cut_word i_Cut_word l_Cut_word c_Cut_word k_Cut_word a_Cut_told i_Cut_told l_Cut_told c_Cut_told k_Cut_told a_first_state l_first_state c_first_state k_first_state a_own_needs l_own_needs c_own_needs k_own_needs a_need_numbers l_need_numbers c_need_numbers k_need_numbers a_Job_init i_Job_init l_Job_init c_Job_init k_Job_init dl_Job_init a_law_cell_at l_law_cell_at c_law_cell_at k_law_cell_at a_law_mixed l_law_mixed c_law_mixed k_law_mixed a_law_whole l_law_whole c_law_whole k_law_whole a_law_same l_law_same c_law_same k_law_same a_law_is l_law_is c_law_is k_law_is a_law_over l_law_over c_law_over k_law_over a_law_stands l_law_stands c_law_stands k_law_stands a_law_job l_law_job c_law_job k_law_job a_law_rest l_law_rest c_law_rest k_law_rest a_law_first l_law_first c_law_first k_law_first a_law_turn l_law_turn c_law_turn k_law_turn a_law_stepped l_law_stepped c_law_stepped k_law_stepped a_law l_law c_law k_law a_Open_State_is_over a_Open_State_count_fails a_Over_State_count_fails a_Blocked_State_is_over a_Blocked_State_count_fails a_Ready_State_is_over a_Leased_State_is_over a_Resting_State_is_over a_Done_Over_is_over a_Broken_Over_is_over a_Cut_Over_is_over a_Cut_State_count_fails sq_State_Blocked sq_State_Broken sq_State_Cut sq_State_Done sq_State_Leased sq_State_Open sq_State_Over sq_State_Ready sq_State_Resting sq_Open_Blocked sq_Open_Broken sq_Open_Cut sq_Open_Done sq_Open_Leased sq_Open_Over sq_Open_Ready sq_Open_Resting sq_Open_State sq_Over_Blocked sq_Over_Broken sq_Over_Cut sq_Over_Done sq_Over_Leased sq_Over_Open sq_Over_Ready sq_Over_Resting sq_Over_State sq_Blocked_Broken sq_Blocked_Cut sq_Blocked_Done sq_Blocked_Leased sq_Blocked_Open sq_Blocked_Over sq_Blocked_Ready sq_Blocked_Resting sq_Blocked_State sq_Ready_Blocked sq_Ready_Broken sq_Ready_Cut sq_Ready_Done sq_Ready_Leased sq_Ready_Open sq_Ready_Over sq_Ready_Resting sq_Ready_State sq_Leased_Blocked sq_Leased_Broken sq_Leased_Cut sq_Leased_Done sq_Leased_Open sq_Leased_Over sq_Leased_Ready sq_Leased_Resting sq_Leased_State sq_Resting_Blocked sq_Resting_Broken sq_Resting_Cut sq_Resting_Done sq_Resting_Leased sq_Resting_Open sq_Resting_Over sq_Resting_Ready sq_Resting_State sq_Done_Blocked sq_Done_Broken sq_Done_Cut sq_Done_Leased sq_Done_Open sq_Done_Over sq_Done_Ready sq_Done_Resting sq_Done_State sq_Broken_Blocked sq_Broken_Cut sq_Broken_Done sq_Broken_Leased sq_Broken_Open sq_Broken_Over sq_Broken_Ready sq_Broken_Resting sq_Broken_State sq_Cut_Blocked sq_Cut_Broken sq_Cut_Done sq_Cut_Leased sq_Cut_Open sq_Cut_Over sq_Cut_Ready sq_Cut_Resting sq_Cut_State sq_Job_Blocked sq_Job_Broken sq_Job_Cut sq_Job_Done sq_Job_Leased sq_Job_Open sq_Job_Over sq_Job_Ready sq_Job_Resting sq_Job_State nq_State_Blocked nq_State_Broken nq_State_Cut nq_State_Done nq_State_Leased nq_State_Open nq_State_Over nq_State_Ready nq_State_Resting nq_Open_Blocked nq_Open_Broken nq_Open_Cut nq_Open_Done nq_Open_Leased nq_Open_Over nq_Open_Ready nq_Open_Resting nq_Open_State nq_Over_Blocked nq_Over_Broken nq_Over_Cut nq_Over_Done nq_Over_Leased nq_Over_Open nq_Over_Ready nq_Over_Resting nq_Over_State nq_Blocked_Broken nq_Blocked_Cut nq_Blocked_Done nq_Blocked_Leased nq_Blocked_Open nq_Blocked_Over nq_Blocked_Ready nq_Blocked_Resting nq_Blocked_State nq_Ready_Blocked nq_Ready_Broken nq_Ready_Cut nq_Ready_Done nq_Ready_Leased nq_Ready_Open nq_Ready_Over nq_Ready_Resting nq_Ready_State nq_Leased_Blocked nq_Leased_Broken nq_Leased_Cut nq_Leased_Done nq_Leased_Open nq_Leased_Over nq_Leased_Ready nq_Leased_Resting nq_Leased_State nq_Resting_Blocked nq_Resting_Broken nq_Resting_Cut nq_Resting_Done nq_Resting_Leased nq_Resting_Open nq_Resting_Over nq_Resting_Ready nq_Resting_State nq_Done_Blocked nq_Done_Broken nq_Done_Cut nq_Done_Leased nq_Done_Open nq_Done_Over nq_Done_Ready nq_Done_Resting nq_Done_State nq_Broken_Blocked nq_Broken_Cut nq_Broken_Done nq_Broken_Leased nq_Broken_Open nq_Broken_Over nq_Broken_Ready nq_Broken_Resting nq_Broken_State nq_Cut_Blocked nq_Cut_Broken nq_Cut_Done nq_Cut_Leased nq_Cut_Open nq_Cut_Over nq_Cut_Ready nq_Cut_Resting nq_Cut_State nq_Job_Blocked nq_Job_Broken nq_Job_Cut nq_Job_Done nq_Job_Leased nq_Job_Open nq_Job_Over nq_Job_Ready nq_Job_Resting nq_Job_State
theorem walk {l : PySem.W.OpenLaw} {q : Program} {loose : List Str} {XP : (Str → Option Value) → Heap → Prop} {YP : World → Heap → Prop} {d : DefRec} {K : Params → PySem.W.Frag} (hn : l.most = some 63) (hdf : d.params.defaults = [])
    (hY : ∀ (w : World) (h : Heap), YP w h → (K w.params).In h)
    (F : ∀ (w : World) (mg : Str → Option Value) (fa : Addr) (h : Heap), (K w.params).In h → h.Ns mainGlobals mg → mg d.name = some (.ref fa) →
      ∃ fd : FuncData, (∀ (s : Shared) (u : Value), BindsTo s fd ⟨[u], []⟩ [("_law_script", u)]) ∧ ∀ base : Heap, (K w.params).In base → base.Ns mainGlobals mg → FnOk l.prog w (K w.params) mg base (L2.CX l.prog w) 7 fa fd ["_law_script"] (lift (S_law (K w.params) ⟨0, 0, 0, 0, 0, 0, 0, 0, 0, 0, 0, 0, 0, 0, 0, 0, 0, 0⟩))) :
    PySem.W.WalkO q loose XP YP l.row.toRowW d [] (fun f vs => PySem.call f vs) :=
  L2.walk_of (n := 63) (k := 7) (x := "_law_script") (CX := fun w => L2.CX l.prog w) (sp := fun w => lift (S_law (K w.params) ⟨0, 0, 0, 0, 0, 0, 0, 0, 0, 0, 0, 0, 0, 0, 0, 0, 0, 0⟩)) hn (by decide) hdf ⟨rfl, by decide, by decide⟩ hY F (fun w H a ns hl _ hS => law_in hS fun A hA => ⟨a, ns, rfl, hA, hl, rfl⟩) fun w H s e s' z => cx_no z

end S
open PySem PySem.W PyProof.Rows in
set_option maxRecDepth 100000 in
set_option maxHeartbeats 0 in
theorem PySem.Challenge.cw_buildhall_k12_states_step_by_step_holds : PySem.Challenge.rw_buildhall_k12_states_step_by_step.Holds := by
  w_on; o_law; k_head; (case hw => w_witness2)
  k_fill
  refine S.walk (l := PySem.Challenge.rw_buildhall_k12_states_step_by_step) rfl rfl (fun w h Y => PySem.W.kIn_of Y) ?F
  case F =>
    intro w mg fa h KX G hmg0
    have hmg : mg (PySem.Str.ofString "law") = some (.ref fa) := hmg0
    clear hmg0
    refine' S.all_mk KX G hmg ?g_MOST_WAIT ?g_LETTERS ?g_MOST_LETTERS ?g_MOST_NEEDS ?g_LEAST ?k_LEAST ?g_MOST ?k_MOST ?b_bool ?b_enumerate ?b_int ?b_isinstance ?b_len ?b_list ?b_min ?b_range ?b_str ?b_tuple ?b_zip ?m_State ?pg_State ?hd_State ?po_State ?sa_State ?tq_State ?ia_State ?im_State ?m_Open ?pg_Open ?hd_Open ?po_Open ?sa_Open ?tq_Open ?ia_Open ?im_Open ?m_Over ?pg_Over ?hd_Over ?po_Over ?sa_Over ?tq_Over ?ia_Over ?im_Over ?m_Blocked ?pg_Blocked ?hd_Blocked ?po_Blocked ?sa_Blocked ?mk_Blocked ?kc_Blocked ?tq_Blocked ?ia_Blocked ?im_Blocked ?n_Blocked_left ?m_Ready ?pg_Ready ?hd_Ready ?po_Ready ?sa_Ready ?mk_Ready ?kc_Ready ?tq_Ready ?ia_Ready ?im_Ready ?n_Ready_fails ?m_Leased ?pg_Leased ?hd_Leased ?po_Leased ?sa_Leased ?mk_Leased ?kc_Leased ?tq_Leased ?ia_Leased ?im_Leased ?n_Leased_fails ?n_Leased_number ?m_Resting ?pg_Resting ?hd_Resting ?po_Resting ?sa_Resting ?mk_Resting ?kc_Resting ?tq_Resting ?ia_Resting ?im_Resting ?n_Resting_fails ?n_Resting_until ?m_Done ?pg_Done ?hd_Done ?po_Done ?sa_Done ?mk_Done ?kc_Done ?tq_Done ?ia_Done ?im_Done ?n_Done_fails ?n_Done_number ?n_Done_turn ?m_Broken ?pg_Broken ?hd_Broken ?po_Broken ?sa_Broken ?mk_Broken ?kc_Broken ?tq_Broken ?ia_Broken ?im_Broken ?n_Broken_fails ?n_Broken_why ?m_Cut ?pg_Cut ?hd_Cut ?po_Cut ?sa_Cut ?mk_Cut ?kc_Cut ?tq_Cut ?ia_Cut ?im_Cut ?n_Cut_need ?m_Job ?pg_Job ?hd_Job ?po_Job ?sa_Job ?mk_Job ?kc_Job ?ia_Job ?im_Job ?n_Job_name ?n_Job_needs ?n_Job_rank ?n_Job_span ?n_Job_tries ?n_Job_wait ?n_Job_grow ?zz_n ?zz_t ?a_wait_after ?l_wait_after ?c_wait_after ?k_wait_after ?a_is_whole ?l_is_whole ?c_is_whole ?k_is_whole ?a_is_among ?l_is_among ?c_is_among ?k_is_among ?a_is_made_of ?l_is_made_of ?c_is_made_of ?k_is_made_of ?a_is_name ?l_is_name ?c_is_name ?k_is_name ?a_State_is_over ?i_State_is_over ?l_State_is_over ?c_State_is_over ?k_State_is_over ?a_State_count_fails ?i_State_count_fails ?l_State_count_fails ?c_State_count_fails ?k_State_count_fails ?a_Over_is_over ?i_Over_is_over ?l_Over_is_over ?c_Over_is_over ?k_Over_is_over ?a_Blocked_init ?i_Blocked_init ?l_Blocked_init ?c_Blocked_init ?k_Blocked_init ?a_Blocked_word ?i_Blocked_word ?l_Blocked_word ?c_Blocked_word ?k_Blocked_word ?a_Blocked_told ?i_Blocked_told ?l_Blocked_told ?c_Blocked_told ?k_Blocked_told ?a_Blocked_freed ?i_Blocked_freed ?l_Blocked_freed ?c_Blocked_freed ?k_Blocked_freed ?a_Blocked_cut_off ?i_Blocked_cut_off ?l_Blocked_cut_off ?c_Blocked_cut_off ?k_Blocked_cut_off ?a_Ready_init ?i_Ready_init ?l_Ready_init ?c_Ready_init ?k_Ready_init ?a_Ready_word ?i_Ready_word ?l_Ready_word ?c_Ready_word ?k_Ready_word ?a_Ready_count_fails ?i_Ready_count_fails ?l_Ready_count_fails ?c_Ready_count_fails ?k_Ready_count_fails ?a_Ready_told ?i_Ready_told ?l_Ready_told ?c_Ready_told ?k_Ready_told ?a_Ready_leased ?i_Ready_leased ?l_Ready_leased ?c_Ready_leased ?k_Ready_leased ?a_Leased_init ?i_Leased_init ?l_Leased_init ?c_Leased_init ?k_Leased_init ?a_Leased_word ?i_Leased_word ?l_Leased_word ?c_Leased_word ?k_Leased_word ?a_Leased_count_fails ?i_Leased_count_fails ?l_Leased_count_fails ?c_Leased_count_fails ?k_Leased_count_fails ?a_Leased_told ?i_Leased_told ?l_Leased_told ?c_Leased_told ?k_Leased_told ?a_Leased_ended ?i_Leased_ended ?l_Leased_ended ?c_Leased_ended ?k_Leased_ended ?a_Leased_failed ?i_Leased_failed ?l_Leased_failed ?c_Leased_failed ?k_Leased_failed ?a_Resting_init ?i_Resting_init ?l_Resting_init ?c_Resting_init ?k_Resting_init ?a_Resting_word ?i_Resting_word ?l_Resting_word ?c_Resting_word ?k_Resting_word ?a_Resting_count_fails ?i_Resting_count_fails ?l_Resting_count_fails ?c_Resting_count_fails ?k_Resting_count_fails ?a_Resting_told ?i_Resting_told ?l_Resting_told ?c_Resting_told ?k_Resting_told ?a_Resting_rested ?i_Resting_rested ?l_Resting_rested ?c_Resting_rested ?k_Resting_rested ?a_Done_init ?i_Done_init ?l_Done_init ?c_Done_init ?k_Done_init ?a_Done_word ?i_Done_word ?l_Done_word ?c_Done_word ?k_Done_word ?a_Done_count_fails ?i_Done_count_fails ?l_Done_count_fails ?c_Done_count_fails ?k_Done_count_fails ?a_Done_told ?i_Done_told ?l_Done_told ?c_Done_told ?k_Done_told ?a_Broken_init ?i_Broken_init ?l_Broken_init ?c_Broken_init ?k_Broken_init ?a_Broken_word ?i_Broken_word ?l_Broken_word ?c_Broken_word ?k_Broken_word ?a_Broken_count_fails ?i_Broken_count_fails ?l_Broken_count_fails ?c_Broken_count_fails ?k_Broken_count_fails ?a_Broken_told ?i_Broken_told ?l_Broken_told ?c_Broken_told ?k_Broken_told ?a_Cut_init ?i_Cut_init ?l_Cut_init ?c_Cut_init ?k_Cut_init ?a_Cut_word ?i_Cut_word ?l_Cut_word ?c_Cut_word ?k_Cut_word ?a_Cut_told ?i_Cut_told ?l_Cut_told ?c_Cut_told ?k_Cut_told ?a_first_state ?l_first_state ?c_first_state ?k_first_state ?a_own_needs ?l_own_needs ?c_own_needs ?k_own_needs ?a_need_numbers ?l_need_numbers ?c_need_numbers ?k_need_numbers ?a_Job_init ?i_Job_init ?l_Job_init ?c_Job_init ?k_Job_init ?dl_Job_init ?a_law_cell_at ?l_law_cell_at ?c_law_cell_at ?k_law_cell_at ?a_law_mixed ?l_law_mixed ?c_law_mixed ?k_law_mixed ?a_law_whole ?l_law_whole ?c_law_whole ?k_law_whole ?a_law_same ?l_law_same ?c_law_same ?k_law_same ?a_law_is ?l_law_is ?c_law_is ?k_law_is ?a_law_over ?l_law_over ?c_law_over ?k_law_over ?a_law_stands ?l_law_stands ?c_law_stands ?k_law_stands ?a_law_job ?l_law_job ?c_law_job ?k_law_job ?a_law_rest ?l_law_rest ?c_law_rest ?k_law_rest ?a_law_first ?l_law_first ?c_law_first ?k_law_first ?a_law_turn ?l_law_turn ?c_law_turn ?k_law_turn ?a_law_stepped ?l_law_stepped ?c_law_stepped ?k_law_stepped ?a_law ?l_law ?c_law ?k_law ?a_Open_State_is_over ?a_Open_State_count_fails ?a_Over_State_count_fails ?a_Blocked_State_is_over ?a_Blocked_State_count_fails ?a_Ready_State_is_over ?a_Leased_State_is_over ?a_Resting_State_is_over ?a_Done_Over_is_over ?a_Broken_Over_is_over ?a_Cut_Over_is_over ?a_Cut_State_count_fails ?sq_State_Blocked ?sq_State_Broken ?sq_State_Cut ?sq_State_Done ?sq_State_Leased ?sq_State_Open ?sq_State_Over ?sq_State_Ready ?sq_State_Resting ?sq_Open_Blocked ?sq_Open_Broken ?sq_Open_Cut ?sq_Open_Done ?sq_Open_Leased ?sq_Open_Over ?sq_Open_Ready ?sq_Open_Resting ?sq_Open_State ?sq_Over_Blocked ?sq_Over_Broken ?sq_Over_Cut ?sq_Over_Done ?sq_Over_Leased ?sq_Over_Open ?sq_Over_Ready ?sq_Over_Resting ?sq_Over_State ?sq_Blocked_Broken ?sq_Blocked_Cut ?sq_Blocked_Done ?sq_Blocked_Leased ?sq_Blocked_Open ?sq_Blocked_Over ?sq_Blocked_Ready ?sq_Blocked_Resting ?sq_Blocked_State ?sq_Ready_Blocked ?sq_Ready_Broken ?sq_Ready_Cut ?sq_Ready_Done ?sq_Ready_Leased ?sq_Ready_Open ?sq_Ready_Over ?sq_Ready_Resting ?sq_Ready_State ?sq_Leased_Blocked ?sq_Leased_Broken ?sq_Leased_Cut ?sq_Leased_Done ?sq_Leased_Open ?sq_Leased_Over ?sq_Leased_Ready ?sq_Leased_Resting ?sq_Leased_State ?sq_Resting_Blocked ?sq_Resting_Broken ?sq_Resting_Cut ?sq_Resting_Done ?sq_Resting_Leased ?sq_Resting_Open ?sq_Resting_Over ?sq_Resting_Ready ?sq_Resting_State ?sq_Done_Blocked ?sq_Done_Broken ?sq_Done_Cut ?sq_Done_Leased ?sq_Done_Open ?sq_Done_Over ?sq_Done_Ready ?sq_Done_Resting ?sq_Done_State ?sq_Broken_Blocked ?sq_Broken_Cut ?sq_Broken_Done ?sq_Broken_Leased ?sq_Broken_Open ?sq_Broken_Over ?sq_Broken_Ready ?sq_Broken_Resting ?sq_Broken_State ?sq_Cut_Blocked ?sq_Cut_Broken ?sq_Cut_Done ?sq_Cut_Leased ?sq_Cut_Open ?sq_Cut_Over ?sq_Cut_Ready ?sq_Cut_Resting ?sq_Cut_State ?sq_Job_Blocked ?sq_Job_Broken ?sq_Job_Cut ?sq_Job_Done ?sq_Job_Leased ?sq_Job_Open ?sq_Job_Over ?sq_Job_Ready ?sq_Job_Resting ?sq_Job_State ?nq_State_Blocked ?nq_State_Broken ?nq_State_Cut ?nq_State_Done ?nq_State_Leased ?nq_State_Open ?nq_State_Over ?nq_State_Ready ?nq_State_Resting ?nq_Open_Blocked ?nq_Open_Broken ?nq_Open_Cut ?nq_Open_Done ?nq_Open_Leased ?nq_Open_Over ?nq_Open_Ready ?nq_Open_Resting ?nq_Open_State ?nq_Over_Blocked ?nq_Over_Broken ?nq_Over_Cut ?nq_Over_Done ?nq_Over_Leased ?nq_Over_Open ?nq_Over_Ready ?nq_Over_Resting ?nq_Over_State ?nq_Blocked_Broken ?nq_Blocked_Cut ?nq_Blocked_Done ?nq_Blocked_Leased ?nq_Blocked_Open ?nq_Blocked_Over ?nq_Blocked_Ready ?nq_Blocked_Resting ?nq_Blocked_State ?nq_Ready_Blocked ?nq_Ready_Broken ?nq_Ready_Cut ?nq_Ready_Done ?nq_Ready_Leased ?nq_Ready_Open ?nq_Ready_Over ?nq_Ready_Resting ?nq_Ready_State ?nq_Leased_Blocked ?nq_Leased_Broken ?nq_Leased_Cut ?nq_Leased_Done ?nq_Leased_Open ?nq_Leased_Over ?nq_Leased_Ready ?nq_Leased_Resting ?nq_Leased_State ?nq_Resting_Blocked ?nq_Resting_Broken ?nq_Resting_Cut ?nq_Resting_Done ?nq_Resting_Leased ?nq_Resting_Open ?nq_Resting_Over ?nq_Resting_Ready ?nq_Resting_State ?nq_Done_Blocked ?nq_Done_Broken ?nq_Done_Cut ?nq_Done_Leased ?nq_Done_Open ?nq_Done_Over ?nq_Done_Ready ?nq_Done_Resting ?nq_Done_State ?nq_Broken_Blocked ?nq_Broken_Cut ?nq_Broken_Done ?nq_Broken_Leased ?nq_Broken_Open ?nq_Broken_Over ?nq_Broken_Ready ?nq_Broken_Resting ?nq_Broken_State ?nq_Cut_Blocked ?nq_Cut_Broken ?nq_Cut_Done ?nq_Cut_Leased ?nq_Cut_Open ?nq_Cut_Over ?nq_Cut_Ready ?nq_Cut_Resting ?nq_Cut_State ?nq_Job_Blocked ?nq_Job_Broken ?nq_Job_Cut ?nq_Job_Done ?nq_Job_Leased ?nq_Job_Open ?nq_Job_Over ?nq_Job_Ready ?nq_Job_Resting ?nq_Job_State
    (case g_MOST_WAIT => k_is)
    (case g_LETTERS => k_is)
    (case g_MOST_LETTERS => k_is)
    (case g_MOST_NEEDS => k_is)
    (case g_LEAST => k_is)
    (case k_LEAST => k_is)
    (case g_MOST => k_is)
    (case k_MOST => k_is)
    (case b_bool => k_is)
    (case b_enumerate => k_is)
    (case b_int => k_is)
    (case b_isinstance => k_is)
    (case b_len => k_is)
    (case b_list => k_is)
    (case b_min => k_is)
    (case b_range => k_is)
    (case b_str => k_is)
    (case b_tuple => k_is)
    (case b_zip => k_is)
    (case m_State => k_is)
    (case pg_State => k_is)
    (case hd_State => k_is)
    (case po_State => k_is)
    (case sa_State => k_is)
    (case tq_State => k_is)
    (case ia_State => k_is)
    (case im_State => k_is)
    (case m_Open => k_is)
    (case pg_Open => k_is)
    (case hd_Open => k_is)
    (case po_Open => k_is)
    (case sa_Open => k_is)
    (case tq_Open => k_is)
    (case ia_Open => k_is)
    (case im_Open => k_is)
    (case m_Over => k_is)
    (case pg_Over => k_is)
    (case hd_Over => k_is)
    (case po_Over => k_is)
    (case sa_Over => k_is)
    (case tq_Over => k_is)
    (case ia_Over => k_is)
    (case im_Over => k_is)
    (case m_Blocked => k_is)
    (case pg_Blocked => k_is)
    (case hd_Blocked => k_is)
    (case po_Blocked => k_is)
    (case sa_Blocked => k_is)
    (case mk_Blocked => k_is)
    (case kc_Blocked => k_is)
    (case tq_Blocked => k_is)
    (case ia_Blocked => k_is)
    (case im_Blocked => k_is)
    (case n_Blocked_left => k_is)
    (case m_Ready => k_is)
    (case pg_Ready => k_is)
    (case hd_Ready => k_is)
    (case po_Ready => k_is)
    (case sa_Ready => k_is)
    (case mk_Ready => k_is)
    (case kc_Ready => k_is)
    (case tq_Ready => k_is)
    (case ia_Ready => k_is)
    (case im_Ready => k_is)
    (case n_Ready_fails => k_is)
    (case m_Leased => k_is)
    (case pg_Leased => k_is)
    (case hd_Leased => k_is)
    (case po_Leased => k_is)
    (case sa_Leased => k_is)
    (case mk_Leased => k_is)
    (case kc_Leased => k_is)
    (case tq_Leased => k_is)
    (case ia_Leased => k_is)
    (case im_Leased => k_is)
    (case n_Leased_fails => k_is)
    (case n_Leased_number => k_is)
    (case m_Resting => k_is)
    (case pg_Resting => k_is)
    (case hd_Resting => k_is)
    (case po_Resting => k_is)
    (case sa_Resting => k_is)
    (case mk_Resting => k_is)
    (case kc_Resting => k_is)
    (case tq_Resting => k_is)
    (case ia_Resting => k_is)
    (case im_Resting => k_is)
    (case n_Resting_fails => k_is)
    (case n_Resting_until => k_is)
    (case m_Done => k_is)
    (case pg_Done => k_is)
    (case hd_Done => k_is)
    (case po_Done => k_is)
    (case sa_Done => k_is)
    (case mk_Done => k_is)
    (case kc_Done => k_is)
    (case tq_Done => k_is)
    (case ia_Done => k_is)
    (case im_Done => k_is)
    (case n_Done_fails => k_is)
    (case n_Done_number => k_is)
    (case n_Done_turn => k_is)
    (case m_Broken => k_is)
    (case pg_Broken => k_is)
    (case hd_Broken => k_is)
    (case po_Broken => k_is)
    (case sa_Broken => k_is)
    (case mk_Broken => k_is)
    (case kc_Broken => k_is)
    (case tq_Broken => k_is)
    (case ia_Broken => k_is)
    (case im_Broken => k_is)
    (case n_Broken_fails => k_is)
    (case n_Broken_why => k_is)
    (case m_Cut => k_is)
    (case pg_Cut => k_is)
    (case hd_Cut => k_is)
    (case po_Cut => k_is)
    (case sa_Cut => k_is)
    (case mk_Cut => k_is)
    (case kc_Cut => k_is)
    (case tq_Cut => k_is)
    (case ia_Cut => k_is)
    (case im_Cut => k_is)
    (case n_Cut_need => k_is)
    (case m_Job => k_is)
    (case pg_Job => k_is)
    (case hd_Job => k_is)
    (case po_Job => k_is)
    (case sa_Job => k_is)
    (case mk_Job => k_is)
    (case kc_Job => k_is)
    (case ia_Job => k_is)
    (case im_Job => k_is)
    (case n_Job_name => k_is)
    (case n_Job_needs => k_is)
    (case n_Job_rank => k_is)
    (case n_Job_span => k_is)
    (case n_Job_tries => k_is)
    (case n_Job_wait => k_is)
    (case n_Job_grow => k_is)
    (case zz_n => k_is)
    (case zz_t => k_is)
    (case a_wait_after => k_is)
    (case l_wait_after => k_is)
    (case c_wait_after => k_is)
    (case k_wait_after => k_is)
    (case a_is_whole => k_is)
    (case l_is_whole => k_is)
    (case c_is_whole => k_is)
    (case k_is_whole => k_is)
    (case a_is_among => k_is)
    (case l_is_among => k_is)
    (case c_is_among => k_is)
    (case k_is_among => k_is)
    (case a_is_made_of => k_is)
    (case l_is_made_of => k_is)
    (case c_is_made_of => k_is)
    (case k_is_made_of => k_is)
    (case a_is_name => k_is)
    (case l_is_name => k_is)
    (case c_is_name => k_is)
    (case k_is_name => k_is)
    (case a_State_is_over => k_is)
    (case i_State_is_over => k_is)
    (case l_State_is_over => k_is)
    (case c_State_is_over => k_is)
    (case k_State_is_over => k_is)
    (case a_State_count_fails => k_is)
    (case i_State_count_fails => k_is)
    (case l_State_count_fails => k_is)
    (case c_State_count_fails => k_is)
    (case k_State_count_fails => k_is)
    (case a_Over_is_over => k_is)
    (case i_Over_is_over => k_is)
    (case l_Over_is_over => k_is)
    (case c_Over_is_over => k_is)
    (case k_Over_is_over => k_is)
    (case a_Blocked_init => k_is)
    (case i_Blocked_init => k_is)
    (case l_Blocked_init => k_is)
    (case c_Blocked_init => k_is)
    (case k_Blocked_init => k_is)
    (case a_Blocked_word => k_is)
    (case i_Blocked_word => k_is)
    (case l_Blocked_word => k_is)
    (case c_Blocked_word => k_is)
    (case k_Blocked_word => k_is)
    (case a_Blocked_told => k_is)
    (case i_Blocked_told => k_is)
    (case l_Blocked_told => k_is)
    (case c_Blocked_told => k_is)
    (case k_Blocked_told => k_is)
    (case a_Blocked_freed => k_is)
    (case i_Blocked_freed => k_is)
    (case l_Blocked_freed => k_is)
    (case c_Blocked_freed => k_is)
    (case k_Blocked_freed => k_is)
    (case a_Blocked_cut_off => k_is)
    (case i_Blocked_cut_off => k_is)
    (case l_Blocked_cut_off => k_is)
    (case c_Blocked_cut_off => k_is)
    (case k_Blocked_cut_off => k_is)
    (case a_Ready_init => k_is)
    (case i_Ready_init => k_is)
    (case l_Ready_init => k_is)
    (case c_Ready_init => k_is)
    (case k_Ready_init => k_is)
    (case a_Ready_word => k_is)
    (case i_Ready_word => k_is)
    (case l_Ready_word => k_is)
    (case c_Ready_word => k_is)
    (case k_Ready_word => k_is)
    (case a_Ready_count_fails => k_is)
    (case i_Ready_count_fails => k_is)
    (case l_Ready_count_fails => k_is)
    (case c_Ready_count_fails => k_is)
    (case k_Ready_count_fails => k_is)
    (case a_Ready_told => k_is)
    (case i_Ready_told => k_is)
    (case l_Ready_told => k_is)
    (case c_Ready_told => k_is)
    (case k_Ready_told => k_is)
    (case a_Ready_leased => k_is)
    (case i_Ready_leased => k_is)
    (case l_Ready_leased => k_is)
    (case c_Ready_leased => k_is)
    (case k_Ready_leased => k_is)
    (case a_Leased_init => k_is)
    (case i_Leased_init => k_is)
    (case l_Leased_init => k_is)
    (case c_Leased_init => k_is)
    (case k_Leased_init => k_is)
    (case a_Leased_word => k_is)
    (case i_Leased_word => k_is)
    (case l_Leased_word => k_is)
    (case c_Leased_word => k_is)
    (case k_Leased_word => k_is)
    (case a_Leased_count_fails => k_is)
    (case i_Leased_count_fails => k_is)
    (case l_Leased_count_fails => k_is)
    (case c_Leased_count_fails => k_is)
    (case k_Leased_count_fails => k_is)
    (case a_Leased_told => k_is)
    (case i_Leased_told => k_is)
    (case l_Leased_told => k_is)
    (case c_Leased_told => k_is)
    (case k_Leased_told => k_is)
    (case a_Leased_ended => k_is)
    (case i_Leased_ended => k_is)
    (case l_Leased_ended => k_is)
    (case c_Leased_ended => k_is)
    (case k_Leased_ended => k_is)
    (case a_Leased_failed => k_is)
    (case i_Leased_failed => k_is)
    (case l_Leased_failed => k_is)
    (case c_Leased_failed => k_is)
    (case k_Leased_failed => k_is)
    (case a_Resting_init => k_is)
    (case i_Resting_init => k_is)
    (case l_Resting_init => k_is)
    (case c_Resting_init => k_is)
    (case k_Resting_init => k_is)
    (case a_Resting_word => k_is)
    (case i_Resting_word => k_is)
    (case l_Resting_word => k_is)
    (case c_Resting_word => k_is)
    (case k_Resting_word => k_is)
    (case a_Resting_count_fails => k_is)
    (case i_Resting_count_fails => k_is)
    (case l_Resting_count_fails => k_is)
    (case c_Resting_count_fails => k_is)
    (case k_Resting_count_fails => k_is)
    (case a_Resting_told => k_is)
    (case i_Resting_told => k_is)
    (case l_Resting_told => k_is)
    (case c_Resting_told => k_is)
    (case k_Resting_told => k_is)
    (case a_Resting_rested => k_is)
    (case i_Resting_rested => k_is)
    (case l_Resting_rested => k_is)
    (case c_Resting_rested => k_is)
    (case k_Resting_rested => k_is)
    (case a_Done_init => k_is)
    (case i_Done_init => k_is)
    (case l_Done_init => k_is)
    (case c_Done_init => k_is)
    (case k_Done_init => k_is)
    (case a_Done_word => k_is)
    (case i_Done_word => k_is)
    (case l_Done_word => k_is)
    (case c_Done_word => k_is)
    (case k_Done_word => k_is)
    (case a_Done_count_fails => k_is)
    (case i_Done_count_fails => k_is)
    (case l_Done_count_fails => k_is)
    (case c_Done_count_fails => k_is)
    (case k_Done_count_fails => k_is)
    (case a_Done_told => k_is)
    (case i_Done_told => k_is)
    (case l_Done_told => k_is)
    (case c_Done_told => k_is)
    (case k_Done_told => k_is)
    (case a_Broken_init => k_is)
    (case i_Broken_init => k_is)
    (case l_Broken_init => k_is)
    (case c_Broken_init => k_is)
    (case k_Broken_init => k_is)
    (case a_Broken_word => k_is)
    (case i_Broken_word => k_is)
    (case l_Broken_word => k_is)
    (case c_Broken_word => k_is)
    (case k_Broken_word => k_is)
    (case a_Broken_count_fails => k_is)
    (case i_Broken_count_fails => k_is)
    (case l_Broken_count_fails => k_is)
    (case c_Broken_count_fails => k_is)
    (case k_Broken_count_fails => k_is)
    (case a_Broken_told => k_is)
    (case i_Broken_told => k_is)
    (case l_Broken_told => k_is)
    (case c_Broken_told => k_is)
    (case k_Broken_told => k_is)
    (case a_Cut_init => k_is)
    (case i_Cut_init => k_is)
    (case l_Cut_init => k_is)
    (case c_Cut_init => k_is)
    (case k_Cut_init => k_is)
    (case a_Cut_word => k_is)
    (case i_Cut_word => k_is)
    (case l_Cut_word => k_is)
    (case c_Cut_word => k_is)
    (case k_Cut_word => k_is)
    (case a_Cut_told => k_is)
    (case i_Cut_told => k_is)
    (case l_Cut_told => k_is)
    (case c_Cut_told => k_is)
    (case k_Cut_told => k_is)
    (case a_first_state => k_is)
    (case l_first_state => k_is)
    (case c_first_state => k_is)
    (case k_first_state => k_is)
    (case a_own_needs => k_is)
    (case l_own_needs => k_is)
    (case c_own_needs => k_is)
    (case k_own_needs => k_is)
    (case a_need_numbers => k_is)
    (case l_need_numbers => k_is)
    (case c_need_numbers => k_is)
    (case k_need_numbers => k_is)
    (case a_Job_init => k_is)
    (case i_Job_init => k_is)
    (case l_Job_init => k_is)
    (case c_Job_init => k_is)
    (case k_Job_init => k_is)
    (case dl_Job_init => k_is)
    (case a_law_cell_at => k_is)
    (case l_law_cell_at => k_is)
    (case c_law_cell_at => k_is)
    (case k_law_cell_at => k_is)
    (case a_law_mixed => k_is)
    (case l_law_mixed => k_is)
    (case c_law_mixed => k_is)
    (case k_law_mixed => k_is)
    (case a_law_whole => k_is)
    (case l_law_whole => k_is)
    (case c_law_whole => k_is)
    (case k_law_whole => k_is)
    (case a_law_same => k_is)
    (case l_law_same => k_is)
    (case c_law_same => k_is)
    (case k_law_same => k_is)
    (case a_law_is => k_is)
    (case l_law_is => k_is)
    (case c_law_is => k_is)
    (case k_law_is => k_is)
    (case a_law_over => k_is)
    (case l_law_over => k_is)
    (case c_law_over => k_is)
    (case k_law_over => k_is)
    (case a_law_stands => k_is)
    (case l_law_stands => k_is)
    (case c_law_stands => k_is)
    (case k_law_stands => k_is)
    (case a_law_job => k_is)
    (case l_law_job => k_is)
    (case c_law_job => k_is)
    (case k_law_job => k_is)
    (case a_law_rest => k_is)
    (case l_law_rest => k_is)
    (case c_law_rest => k_is)
    (case k_law_rest => k_is)
    (case a_law_first => k_is)
    (case l_law_first => k_is)
    (case c_law_first => k_is)
    (case k_law_first => k_is)
    (case a_law_turn => k_is)
    (case l_law_turn => k_is)
    (case c_law_turn => k_is)
    (case k_law_turn => k_is)
    (case a_law_stepped => k_is)
    (case l_law_stepped => k_is)
    (case c_law_stepped => k_is)
    (case k_law_stepped => k_is)
    (case a_law => k_is)
    (case l_law => k_is)
    (case c_law => k_is)
    (case k_law => k_is)
    (case a_Open_State_is_over => k_is)
    (case a_Open_State_count_fails => k_is)
    (case a_Over_State_count_fails => k_is)
    (case a_Blocked_State_is_over => k_is)
    (case a_Blocked_State_count_fails => k_is)
    (case a_Ready_State_is_over => k_is)
    (case a_Leased_State_is_over => k_is)
    (case a_Resting_State_is_over => k_is)
    (case a_Done_Over_is_over => k_is)
    (case a_Broken_Over_is_over => k_is)
    (case a_Cut_Over_is_over => k_is)
    (case a_Cut_State_count_fails => k_is)
    (case sq_State_Blocked => k_is)
    (case sq_State_Broken => k_is)
    (case sq_State_Cut => k_is)
    (case sq_State_Done => k_is)
    (case sq_State_Leased => k_is)
    (case sq_State_Open => k_is)
    (case sq_State_Over => k_is)
    (case sq_State_Ready => k_is)
    (case sq_State_Resting => k_is)
    (case sq_Open_Blocked => k_is)
    (case sq_Open_Broken => k_is)
    (case sq_Open_Cut => k_is)
    (case sq_Open_Done => k_is)
    (case sq_Open_Leased => k_is)
    (case sq_Open_Over => k_is)
    (case sq_Open_Ready => k_is)
    (case sq_Open_Resting => k_is)
    (case sq_Open_State => k_is)
    (case sq_Over_Blocked => k_is)
    (case sq_Over_Broken => k_is)
    (case sq_Over_Cut => k_is)
    (case sq_Over_Done => k_is)
    (case sq_Over_Leased => k_is)
    (case sq_Over_Open => k_is)
    (case sq_Over_Ready => k_is)
    (case sq_Over_Resting => k_is)
    (case sq_Over_State => k_is)
    (case sq_Blocked_Broken => k_is)
    (case sq_Blocked_Cut => k_is)
    (case sq_Blocked_Done => k_is)
    (case sq_Blocked_Leased => k_is)
    (case sq_Blocked_Open => k_is)
    (case sq_Blocked_Over => k_is)
    (case sq_Blocked_Ready => k_is)
    (case sq_Blocked_Resting => k_is)
    (case sq_Blocked_State => k_is)
    (case sq_Ready_Blocked => k_is)
    (case sq_Ready_Broken => k_is)
    (case sq_Ready_Cut => k_is)
    (case sq_Ready_Done => k_is)
    (case sq_Ready_Leased => k_is)
    (case sq_Ready_Open => k_is)
    (case sq_Ready_Over => k_is)
    (case sq_Ready_Resting => k_is)
    (case sq_Ready_State => k_is)
    (case sq_Leased_Blocked => k_is)
    (case sq_Leased_Broken => k_is)
    (case sq_Leased_Cut => k_is)
    (case sq_Leased_Done => k_is)
    (case sq_Leased_Open => k_is)
    (case sq_Leased_Over => k_is)
    (case sq_Leased_Ready => k_is)
    (case sq_Leased_Resting => k_is)
    (case sq_Leased_State => k_is)
    (case sq_Resting_Blocked => k_is)
    (case sq_Resting_Broken => k_is)
    (case sq_Resting_Cut => k_is)
    (case sq_Resting_Done => k_is)
    (case sq_Resting_Leased => k_is)
    (case sq_Resting_Open => k_is)
    (case sq_Resting_Over => k_is)
    (case sq_Resting_Ready => k_is)
    (case sq_Resting_State => k_is)
    (case sq_Done_Blocked => k_is)
    (case sq_Done_Broken => k_is)
    (case sq_Done_Cut => k_is)
    (case sq_Done_Leased => k_is)
    (case sq_Done_Open => k_is)
    (case sq_Done_Over => k_is)
    (case sq_Done_Ready => k_is)
    (case sq_Done_Resting => k_is)
    (case sq_Done_State => k_is)
    (case sq_Broken_Blocked => k_is)
    (case sq_Broken_Cut => k_is)
    (case sq_Broken_Done => k_is)
    (case sq_Broken_Leased => k_is)
    (case sq_Broken_Open => k_is)
    (case sq_Broken_Over => k_is)
    (case sq_Broken_Ready => k_is)
    (case sq_Broken_Resting => k_is)
    (case sq_Broken_State => k_is)
    (case sq_Cut_Blocked => k_is)
    (case sq_Cut_Broken => k_is)
    (case sq_Cut_Done => k_is)
    (case sq_Cut_Leased => k_is)
    (case sq_Cut_Open => k_is)
    (case sq_Cut_Over => k_is)
    (case sq_Cut_Ready => k_is)
    (case sq_Cut_Resting => k_is)
    (case sq_Cut_State => k_is)
    (case sq_Job_Blocked => k_is)
    (case sq_Job_Broken => k_is)
    (case sq_Job_Cut => k_is)
    (case sq_Job_Done => k_is)
    (case sq_Job_Leased => k_is)
    (case sq_Job_Open => k_is)
    (case sq_Job_Over => k_is)
    (case sq_Job_Ready => k_is)
    (case sq_Job_Resting => k_is)
    (case sq_Job_State => k_is)
    (case nq_State_Blocked => first | decide | rfl)
    (case nq_State_Broken => first | decide | rfl)
    (case nq_State_Cut => first | decide | rfl)
    (case nq_State_Done => first | decide | rfl)
    (case nq_State_Leased => first | decide | rfl)
    (case nq_State_Open => first | decide | rfl)
    (case nq_State_Over => first | decide | rfl)
    (case nq_State_Ready => first | decide | rfl)
    (case nq_State_Resting => first | decide | rfl)
    (case nq_Open_Blocked => first | decide | rfl)
    (case nq_Open_Broken => first | decide | rfl)
    (case nq_Open_Cut => first | decide | rfl)
    (case nq_Open_Done => first | decide | rfl)
    (case nq_Open_Leased => first | decide | rfl)
    (case nq_Open_Over => first | decide | rfl)
    (case nq_Open_Ready => first | decide | rfl)
    (case nq_Open_Resting => first | decide | rfl)
    (case nq_Open_State => first | decide | rfl)
    (case nq_Over_Blocked => first | decide | rfl)
    (case nq_Over_Broken => first | decide | rfl)
    (case nq_Over_Cut => first | decide | rfl)
    (case nq_Over_Done => first | decide | rfl)
    (case nq_Over_Leased => first | decide | rfl)
    (case nq_Over_Open => first | decide | rfl)
    (case nq_Over_Ready => first | decide | rfl)
    (case nq_Over_Resting => first | decide | rfl)
    (case nq_Over_State => first | decide | rfl)
    (case nq_Blocked_Broken => first | decide | rfl)
    (case nq_Blocked_Cut => first | decide | rfl)
    (case nq_Blocked_Done => first | decide | rfl)
    (case nq_Blocked_Leased => first | decide | rfl)
    (case nq_Blocked_Open => first | decide | rfl)
    (case nq_Blocked_Over => first | decide | rfl)
    (case nq_Blocked_Ready => first | decide | rfl)
    (case nq_Blocked_Resting => first | decide | rfl)
    (case nq_Blocked_State => first | decide | rfl)
    (case nq_Ready_Blocked => first | decide | rfl)
    (case nq_Ready_Broken => first | decide | rfl)
    (case nq_Ready_Cut => first | decide | rfl)
    (case nq_Ready_Done => first | decide | rfl)
    (case nq_Ready_Leased => first | decide | rfl)
    (case nq_Ready_Open => first | decide | rfl)
    (case nq_Ready_Over => first | decide | rfl)
    (case nq_Ready_Resting => first | decide | rfl)
    (case nq_Ready_State => first | decide | rfl)
    (case nq_Leased_Blocked => first | decide | rfl)
    (case nq_Leased_Broken => first | decide | rfl)
    (case nq_Leased_Cut => first | decide | rfl)
    (case nq_Leased_Done => first | decide | rfl)
    (case nq_Leased_Open => first | decide | rfl)
    (case nq_Leased_Over => first | decide | rfl)
    (case nq_Leased_Ready => first | decide | rfl)
    (case nq_Leased_Resting => first | decide | rfl)
    (case nq_Leased_State => first | decide | rfl)
    (case nq_Resting_Blocked => first | decide | rfl)
    (case nq_Resting_Broken => first | decide | rfl)
    (case nq_Resting_Cut => first | decide | rfl)
    (case nq_Resting_Done => first | decide | rfl)
    (case nq_Resting_Leased => first | decide | rfl)
    (case nq_Resting_Open => first | decide | rfl)
    (case nq_Resting_Over => first | decide | rfl)
    (case nq_Resting_Ready => first | decide | rfl)
    (case nq_Resting_State => first | decide | rfl)
    (case nq_Done_Blocked => first | decide | rfl)
    (case nq_Done_Broken => first | decide | rfl)
    (case nq_Done_Cut => first | decide | rfl)
    (case nq_Done_Leased => first | decide | rfl)
    (case nq_Done_Open => first | decide | rfl)
    (case nq_Done_Over => first | decide | rfl)
    (case nq_Done_Ready => first | decide | rfl)
    (case nq_Done_Resting => first | decide | rfl)
    (case nq_Done_State => first | decide | rfl)
    (case nq_Broken_Blocked => first | decide | rfl)
    (case nq_Broken_Cut => first | decide | rfl)
    (case nq_Broken_Done => first | decide | rfl)
    (case nq_Broken_Leased => first | decide | rfl)
    (case nq_Broken_Open => first | decide | rfl)
    (case nq_Broken_Over => first | decide | rfl)
    (case nq_Broken_Ready => first | decide | rfl)
    (case nq_Broken_Resting => first | decide | rfl)
    (case nq_Broken_State => first | decide | rfl)
    (case nq_Cut_Blocked => first | decide | rfl)
    (case nq_Cut_Broken => first | decide | rfl)
    (case nq_Cut_Done => first | decide | rfl)
    (case nq_Cut_Leased => first | decide | rfl)
    (case nq_Cut_Open => first | decide | rfl)
    (case nq_Cut_Over => first | decide | rfl)
    (case nq_Cut_Ready => first | decide | rfl)
    (case nq_Cut_Resting => first | decide | rfl)
    (case nq_Cut_State => first | decide | rfl)
    (case nq_Job_Blocked => first | decide | rfl)
    (case nq_Job_Broken => first | decide | rfl)
    (case nq_Job_Cut => first | decide | rfl)
    (case nq_Job_Done => first | decide | rfl)
    (case nq_Job_Leased => first | decide | rfl)
    (case nq_Job_Open => first | decide | rfl)
    (case nq_Job_Over => first | decide | rfl)
    (case nq_Job_Ready => first | decide | rfl)
    (case nq_Job_Resting => first | decide | rfl)
    (case nq_Job_State => first | decide | rfl)
