import PyProof.Rows.All
import Wide.All
import OpenK.AllK
import Wide.FinOn
import HandS.ForMost
import HandS.ForExc
import HandS.IsInst
import HandS.Defaults
import HandS.CallSlots
import HandS.Star
import HandS.Wide
import HandS.TupLe
import HandS.SortInts
import HandS.EndBits
import PySem.Challenge.RW_buildhall_k30_bounds
set_option Elab.async false
set_option linter.all false
set_option maxRecDepth 100000
set_option maxHeartbeats 4000000
namespace S
open PySem L2

/-! ### symbolic heaps: a list of parts that stand apart -/
abbrev SH := List Hp
def Sub (h H : Hp) : Prop := ∀ a o, h a = some o → H a = some o
def Dj (h g : Hp) : Prop := ∀ a o u, h a = some o → g a = some u → False
def Has (H : Hp) (A : SH) : Prop := (∀ h ∈ A, Sub h H) ∧ A.Pairwise Dj
def sg (p : Addr) (o : HO) : Hp := fun a => if a = p then some o else none
def emp : Hp := fun _ => none
/-- what stands in A' stands in A, too -/
def Le (A A' : SH) : Prop := ∀ H, Has H A' → Has H A
inductive Pull : SH → Hp → SH → Prop
  | head {h : Hp} {A : SH} : Pull (h :: A) h A
  | tail {h g : Hp} {A B : SH} : Pull A h B → Pull (g :: A) h (g :: B)

theorem sg_same {p : Addr} {o : HO} : sg p o p = some o := by unfold sg; rw [if_pos rfl]
theorem sg_some {p a : Addr} {o u : HO} (h : sg p o a = some u) : a = p ∧ u = o := by
  unfold sg at h
  by_cases e : a = p
  · rw [if_pos e] at h
    exact ⟨e, (Option.some.inj h).symm⟩
  · rw [if_neg e] at h
    cases h
theorem Dj.symm {h g : Hp} (d : Dj h g) : Dj g h := fun a o u x y => d a u o y x
theorem Has.nil {H : Hp} : Has H [] := ⟨fun _ h => (nomatch h), .nil⟩
theorem Has.tail {H h : Hp} {A : SH} (x : Has H (h :: A)) : Has H A := ⟨fun g hg => x.1 g (List.mem_cons_of_mem _ hg), (List.pairwise_cons.mp x.2).2⟩
theorem Has.head {H h : Hp} {A : SH} (x : Has H (h :: A)) : Sub h H := x.1 h List.mem_cons_self
theorem Has.dj {H h g : Hp} {A : SH} (x : Has H (h :: A)) (hg : g ∈ A) : Dj h g := (List.pairwise_cons.mp x.2).1 g hg
theorem Has.cons {H h : Hp} {A : SH} (x : Has H A) (s : Sub h H) (d : ∀ g ∈ A, Dj h g) : Has H (h :: A) :=
  ⟨fun g hg => by
    rcases List.mem_cons.mp hg with e | hg
    · rw [e]; exact s
    · exact x.1 g hg, List.pairwise_cons.mpr ⟨d, x.2⟩⟩
theorem Pull.mem {A B : SH} {h : Hp} (p : Pull A h B) : h ∈ A := by
  induction p with
  | head => exact List.mem_cons_self
  | tail _ ih => exact List.mem_cons_of_mem _ ih
theorem Pull.sub {A B : SH} {h : Hp} (p : Pull A h B) : ∀ g ∈ B, g ∈ A := by
  induction p with
  | head => exact fun g hg => List.mem_cons_of_mem _ hg
  | tail _ ih =>
    intro g hg
    rcases List.mem_cons.mp hg with e | hg
    · rw [e]; exact List.mem_cons_self
    · exact List.mem_cons_of_mem _ (ih g hg)
theorem Pull.has {A B : SH} {h : Hp} (p : Pull A h B) : ∀ {H : Hp}, Has H A → Has H (h :: B) := by
  induction p with
  | head => exact fun x => x
  | @tail h g A B p ih =>
    intro H x
    have y := ih x.tail
    refine (Has.cons (Has.cons y.tail x.head fun u hu => x.dj (p.sub u hu)) y.head fun u hu => ?_)
    rcases List.mem_cons.mp hu with e | hu
    · rw [e]; exact (x.dj p.mem).symm
    · exact y.dj hu
theorem Le.refl {A : SH} : Le A A := fun _ h => h
theorem Le.trans {A B C : SH} (a : Le A B) (b : Le B C) : Le A C := fun H h => a H (b H h)
theorem Le.drop {A A' : SH} {g : Hp} (a : Le A A') : Le A (g :: A') := fun H h => a H h.tail
theorem Le.nil {A : SH} : Le [] A := fun _ _ => Has.nil
theorem Le.keep {A B : SH} {g : Hp} (a : Le A B) (d : ∀ H, Has H (g :: B) → ∀ u ∈ A, Dj g u) : Le (g :: A) (g :: B) := fun H h => Has.cons (a H h.tail) h.head (d H h)
/-- A is B with some left out, in any order -/
inductive Sl : SH → SH → Prop
  | refl {A : SH} : Sl A A
  | nil {A : SH} : Sl [] A
  | drop {A B : SH} {g : Hp} : Sl A B → Sl A (g :: B)
  | pull {A B C : SH} {g : Hp} : Pull B g C → Sl A C → Sl (g :: A) B
theorem Sl.mem {A B : SH} (s : Sl A B) : ∀ g ∈ A, g ∈ B := by
  induction s with
  | refl => exact fun _ h => h
  | nil => exact fun _ h => nomatch h
  | drop _ ih => exact fun g h => List.mem_cons_of_mem _ (ih g h)
  | pull p _ ih =>
    intro g h
    rcases List.mem_cons.mp h with e | h
    · rw [e]; exact p.mem
    · exact p.sub g (ih g h)
theorem Sl.le {A B : SH} (s : Sl A B) : Le A B := by
  induction s with
  | refl => exact Le.refl
  | nil => exact Le.nil
  | drop _ ih => exact Le.drop ih
  | @pull A B C g p s ih =>
    intro H h
    have y := p.has h
    exact Has.cons (ih H y.tail) y.head fun u hu => y.dj (s.mem u hu)
theorem Has.new {H : Hp} {A : SH} {p : Addr} {o : HO} (x : Has H A) (hp : H p = none) : Has (upd H p o) (sg p o :: A) := by
  refine Has.cons ⟨fun h hh a u e => ?_, x.2⟩ (fun a u e => ?_) fun g hg a u v e e' => ?_
  · rw [upd_ne (ne_of_none (x.1 h hh a u e) hp)]
    exact x.1 h hh a u e
  · obtain ⟨rfl, rfl⟩ := sg_some e
    exact upd_same
  · obtain ⟨rfl, rfl⟩ := sg_some e
    have := x.1 g hg a v e'
    rw [hp] at this
    cases this
theorem Has.at {H : Hp} {A : SH} {p : Addr} {o : HO} (x : Has H (sg p o :: A)) : H p = some o := x.head p o sg_same
theorem Has.set {H : Hp} {A : SH} {p : Addr} {o u : HO} (x : Has H (sg p o :: A)) : Has (upd H p u) (sg p u :: A) := by
  have far : ∀ g ∈ A, ∀ a v, g a = some v → a ≠ p := fun g hg a v e z => by
    subst z
    exact x.dj hg a o v sg_same e
  refine Has.cons ⟨fun h hh a v e => ?_, x.tail.2⟩ (fun a v e => ?_) fun g hg a v v' e e' => ?_
  · rw [upd_ne (far h hh a v e)]
    exact x.tail.1 h hh a v e
  · obtain ⟨rfl, rfl⟩ := sg_some e
    exact upd_same
  · exact far g hg a v' e' (sg_some e).1

/-! ### what is wanted behind -/
def Post (Φ : V → SH → Prop) (Q : VK) : Prop := ∀ v A H, Has H A → Φ v A → Q v H
def XPost (Ψ : Value → Option Addr → SH → Prop) (E : XK) : Prop := ∀ c d A H, Has H A → Ψ c d A → E c d H
def WPost (Ψ : Value → Option Addr → St → SH → Prop) (W : WX) : Prop := ∀ c d σ A H, Has H A → Ψ c d σ A → W c d σ H
/-- P holds of a part that the state leads to -/
def Cl {α : Type} (P : α → SH → Prop) : α → SH → Prop := fun x A => ∀ H, Has H A → ∃ B, Has H B ∧ P x B
theorem Cl.le {α : Type} {P : α → SH → Prop} {x : α} {A B : SH} (l : Le B A) (p : P x B) : Cl P x A := fun H h => ⟨B, l H h, p⟩
theorem Cl.of {α : Type} {P : α → SH → Prop} {x : α} {A : SH} (p : P x A) : Cl P x A := fun H h => ⟨A, h, p⟩
theorem Post.cl {Φ : V → SH → Prop} {Q : VK} (h : Post Φ Q) : Post (Cl Φ) Q := fun v A H x q => by
  obtain ⟨B, y, q⟩ := q H x
  exact h v B H y q
structure AE where
  nx : St → SH → Prop
  rt : V → SH → Prop
  bk : St → SH → Prop := fun _ _ => False
  ct : St → SH → Prop := fun _ _ => False
structure EIm (D : AE) (E : Ends) : Prop where
  nx : ∀ σ A H, Has H A → D.nx σ A → E.nx σ H
  rt : Post D.rt E.rt
  bk : ∀ σ A H, Has H A → D.bk σ A → E.bk σ H
  ct : ∀ σ A H, Has H A → D.ct σ A → E.ct σ H

/-! ### the goals -/
def GE (t : TE) (σ : St) (A : SH) (Φ : V → SH → Prop) : Prop := ∀ H Q, Has H A → Post Φ Q → t σ H Q
def GT (t : TT) (σ : St) (A : SH) (Φ : Bool → SH → Prop) : Prop := ∀ H (Q : Bool → Hp → Prop), Has H A → (∀ b A' H', Has H' A' → Φ b A' → Q b H') → t σ H Q
def GA (t : TA) (σ : St) (A : SH) (Φ : List V → SH → Prop) : Prop := ∀ H (Q : List V → Hp → Prop), Has H A → (∀ b A' H', Has H' A' → Φ b A' → Q b H') → t σ H Q
def GS (t : TS) (D : AE) (σ : St) (A : SH) : Prop := ∀ H E, Has H A → EIm D E → t E σ H
def GG (t : TG) (v : V) (σ : St) (A : SH) (Φ : St → SH → Prop) : Prop := ∀ H (Q : St → Hp → Prop), Has H A → (∀ σ' A' H', Has H' A' → Φ σ' A' → Q σ' H') → t v σ H Q
def GI (t : TI) (σ : St) (A : SH) (Φ : It → SH → Prop) : Prop := ∀ H (Q : It → Hp → Prop), Has H A → (∀ J A' H', Has H' A' → Φ J A' → Q J H') → t σ H Q
def GR (r : R2) (x y : V) (A : SH) (Φ : V → SH → Prop) : Prop := ∀ H Q, Has H A → Post Φ Q → r x y H Q
def GU (r : V → Hp → VK → Prop) (x : V) (A : SH) (Φ : V → SH → Prop) : Prop := ∀ H Q, Has H A → Post Φ Q → r x H Q
def GC (r : List V → Hp → VK → Prop) (vs : List V) (A : SH) (Φ : V → SH → Prop) : Prop := ∀ H Q, Has H A → Post Φ Q → r vs H Q
def GM (r : V → List V → Hp → VK → Prop) (x : V) (vs : List V) (A : SH) (Φ : V → SH → Prop) : Prop := ∀ H Q, Has H A → Post Φ Q → r x vs H Q
def GF (J : It) (g : TG) (tb : TS) (D : AE) (σ : St) (A : SH) : Prop := ∀ H E, Has H A → EIm D E → ∃ W : Nat → Nat → St → Hp → Prop, (∃ m, W 0 m σ H) ∧ ∀ i m σ H, W i m σ H →
  (J.stop i H ∧ E.nx σ H) ∨ (J.go i H ∧ ∃ N : St → Hp → Prop, (∀ σ' H', N σ' H' → ∃ m', m' < m ∧ W (i + 1) m' σ' H') ∧ ∀ x H', J.yld i H x H' → g x σ H' fun σ2 H2 => tb { E with nx := N, ct := N, bk := E.nx } σ2 H2)

/-! ### reading -/
def RL (K : PySem.W.Frag) (A : SH) (a : Addr) (xs : List V) : Prop := ∀ H, Has H A → SqL K H a xs
def RT (K : PySem.W.Frag) (A : SH) (a : Addr) (xs : List V) : Prop := ∀ H, Has H A → SqT K H a xs
/-- an object that stands -/
def RO (A : SH) (a : Addr) (o : HO) : Prop := ∀ H, Has H A → H a = some o
theorem RL.tail {K : PySem.W.Frag} {A : SH} {g : Hp} {a : Addr} {xs : List V} (h : RL K A a xs) : RL K (g :: A) a xs := fun H x => h H x.tail
theorem RT.tail {K : PySem.W.Frag} {A : SH} {g : Hp} {a : Addr} {xs : List V} (h : RT K A a xs) : RT K (g :: A) a xs := fun H x => h H x.tail
theorem RO.tail {A : SH} {g : Hp} {a : Addr} {o : HO} (h : RO A a o) : RO (g :: A) a o := fun H x => h H x.tail
theorem RO.head {A : SH} {a : Addr} {o : HO} : RO (sg a o :: A) a o := fun _ x => x.at
theorem RO.blk {A : SH} {g : Hp} {a : Addr} {o : HO} (h : g a = some o) : RO (g :: A) a o := fun _ x => x.head a o h
theorem RO.mem {A : SH} {g : Hp} {a : Addr} {o : HO} (hg : g ∈ A) (h : g a = some o) : RO A a o := fun _ x => x.1 g hg a o h
theorem RO.pull {A B : SH} {a : Addr} {o : HO} (p : Pull A (sg a o) B) : RO A a o := fun _ x => (p.has x).at
theorem RO.le {A B : SH} {a : Addr} {o : HO} (l : Le A B) (h : RO A a o) : RO B a o := fun H x => h H (l H x)
theorem RL.le {K : PySem.W.Frag} {A B : SH} {a : Addr} {xs : List V} (l : Le A B) (h : RL K A a xs) : RL K B a xs := fun H x => h H (l H x)
theorem RT.le {K : PySem.W.Frag} {A B : SH} {a : Addr} {xs : List V} (l : Le A B) (h : RT K A a xs) : RT K B a xs := fun H x => h H (l H x)
theorem RL.ro {K : PySem.W.Frag} {A : SH} {a : Addr} {xs : List V} (h : RO A a (.lst xs)) : RL K A a xs := fun H x => .inl (.inl (h H x))
theorem RT.ro {K : PySem.W.Frag} {A : SH} {a : Addr} {xs : List V} (h : RO A a (.tup xs)) : RT K A a xs := fun H x => .inl (.inl (h H x))
theorem RL.head {K : PySem.W.Frag} {A : SH} {a : Addr} {xs : List V} : RL K (sg a (.lst xs) :: A) a xs := .ro .head
theorem RT.head {K : PySem.W.Frag} {A : SH} {a : Addr} {xs : List V} : RT K (sg a (.tup xs) :: A) a xs := .ro .head
theorem RL.blk {K : PySem.W.Frag} {A : SH} {g : Hp} {a : Addr} {xs : List V} (h : g a = some (.lst xs)) : RL K (g :: A) a xs := .ro (.blk h)
theorem RT.blk {K : PySem.W.Frag} {A : SH} {g : Hp} {a : Addr} {xs : List V} (h : g a = some (.tup xs)) : RT K (g :: A) a xs := .ro (.blk h)

/-! ### slots -/
def Set1 (σ : St) (i : Nat) (o : Option V) (σ' : St) : Prop := σ.set i o = σ'
def Get1 (σ : St) (i : Nat) (v : V) : Prop := σ[i]? = some (some v)
theorem set0 {x o : Option V} {r : St} : Set1 (x :: r) 0 o (o :: r) := rfl
theorem setS {x o : Option V} {r r' : St} {n : Nat} (h : Set1 r n o r') : Set1 (x :: r) (n + 1) o (x :: r') := by
  show (x :: r).set (n + 1) o = x :: r'
  rw [List.set_cons_succ, h]
theorem get0 {v : V} {r : St} : Get1 (some v :: r) 0 v := rfl
theorem getS {x : Option V} {v : V} {r : St} {n : Nat} (h : Get1 r n v) : Get1 (x :: r) (n + 1) v := by
  show (x :: r)[n + 1]? = some (some v)
  rw [List.getElem?_cons_succ]; exact h
def Wi (σ : St) (vs : List Nat) (σ' : St) : Prop := wipe σ vs = σ'
theorem wi0 {σ : St} : Wi σ [] σ := rfl
theorem wi1 {σ σ1 σ2 : St} {v : Nat} {vs : List Nat} (h : Wi σ vs σ1) (s : Set1 σ1 v none σ2) : Wi σ (v :: vs) σ2 := by
  show (wipe σ vs).set v none = σ2
  rw [h]; exact s

section
variable {K : PySem.W.Frag} {σ σ' : St} {A B : SH} {Φ : V → SH → Prop} {v x y : V} {ta tb te tc : TE} {t u : TT} {r : R2} {i j : Int}
/-! ### expressions -/
theorem ge_var {n : Nat} (h : Get1 σ n v) (k : Φ v A) : GE (tVar n) σ A Φ := fun H Q a p => ⟨v, h, p v A H a k⟩
theorem ge_c (k : Φ v A) : GE (tC v) σ A Φ := fun H Q a p => p v A H a k
theorem ge_op (h : GE ta σ A fun x A1 => GE tb σ A1 fun y A2 => GR r x y A2 Φ) : GE (tOp r ta tb) σ A Φ := fun H Q a p =>
  h H _ a fun x A1 H1 a1 h1 => h1 H1 _ a1 fun y A2 H2 a2 h2 => h2 H2 Q a2 p
theorem ge_un {r : V → Hp → VK → Prop} (h : GE ta σ A fun x A1 => GU r x A1 Φ) : GE (tUn r ta) σ A Φ := fun H Q a p => h H _ a fun x A1 H1 a1 h1 => h1 H1 Q a1 p
/-- either reading -/
def tAlt (t u : TE) : TE := fun σ H Q => t σ H Q ∨ u σ H Q
theorem ge_altL (h : GE ta σ A Φ) : GE (tAlt ta tb) σ A Φ := fun H Q a p => .inl (h H Q a p)
theorem ge_altR (h : GE tb σ A Φ) : GE (tAlt ta tb) σ A Φ := fun H Q a p => .inr (h H Q a p)
theorem pe_alt {X : Cx} {e : Expr} (h1 : PE X e ta) (h2 : PE X e tb) : PE X e (tAlt ta tb) := ⟨fun pins s σ H Q I h => by
  rcases h with h | h
  · exact h1.run pins s σ H Q I h
  · exact h2.run pins s σ H Q I h⟩
theorem ga_nil {Φ : List V → SH → Prop} (k : Φ [] A) : GA tNil σ A Φ := fun H Q a p => p [] A H a k
theorem ga_cons {Φ : List V → SH → Prop} {tr : TA} (h : GE ta σ A fun x A1 => GA tr σ A1 fun xs A2 => Φ (x :: xs) A2) : GA (tCons ta tr) σ A Φ := fun H Q a p =>
  h H _ a fun x A1 H1 a1 h1 => h1 H1 _ a1 fun xs A2 H2 a2 h2 => p _ A2 H2 a2 h2
theorem ge_tup {tr : TA} (h : GA tr σ A fun xs A1 => xs.length ≤ sizeLine ∧ ∀ p, Φ (.ref p) (sg p (.tup xs) :: A1)) : GE (tTup tr) σ A Φ := fun H Q a p =>
  h H _ a fun xs A1 H1 a1 h1 => ⟨h1.1, fun q hq => p _ _ _ (a1.new hq) (h1.2 q)⟩
theorem ge_lst {tr : TA} (h : GA tr σ A fun xs A1 => xs.length ≤ sizeLine ∧ ∀ p, Φ (.ref p) (sg p (.lst xs) :: A1)) : GE (tLst tr) σ A Φ := fun H Q a p =>
  h H _ a fun xs A1 H1 a1 h1 => ⟨h1.1, fun q hq => p _ _ _ (a1.new hq) (h1.2 q)⟩
theorem ge_dnew (h : ∀ p, Φ (.ref p) (sg p (.dK []) :: A)) : GE tDNewK σ A Φ := fun H Q a p q hq => p _ _ _ (a.new hq) (h q)
theorem ge_if (h : GT t σ A fun c A1 => (c = true → GE ta σ A1 Φ) ∧ (c = false → GE tb σ A1 Φ)) : GE (tIf t ta tb) σ A Φ := fun H Q a p =>
  h H _ a fun c A1 H1 a1 h1 => by
    cases c with
    | true => rw [if_pos rfl]; exact h1.1 rfl H1 Q a1 p
    | false => rw [if_neg Bool.false_ne_true]; exact h1.2 rfl H1 Q a1 p
theorem ge_andV (h : GE ta σ A fun x A1 => ∃ c, x = .bl c ∧ (c = true → GE tb σ A1 Φ) ∧ (c = false → Φ (.bl false) A1)) : GE (tAndV ta tb) σ A Φ := fun H Q a p =>
  h H _ a fun x A1 H1 a1 ⟨c, e, h1, h2⟩ => ⟨c, e, by
    cases c with
    | true => rw [if_pos rfl]; exact h1 rfl H1 Q a1 p
    | false => rw [if_neg Bool.false_ne_true]; exact p _ _ _ a1 (h2 rfl)⟩
theorem ge_orV (h : GE ta σ A fun x A1 => ∃ c, x = .bl c ∧ (c = true → Φ (.bl true) A1) ∧ (c = false → GE tb σ A1 Φ)) : GE (tOrV ta tb) σ A Φ := fun H Q a p =>
  h H _ a fun x A1 H1 a1 ⟨c, e, h1, h2⟩ => ⟨c, e, by
    cases c with
    | true => rw [if_pos rfl]; exact p _ _ _ a1 (h1 rfl)
    | false => rw [if_neg Bool.false_ne_true]; exact h2 rfl H1 Q a1 p⟩
theorem ge_notV (h : GE ta σ A fun x A1 => ∃ c, x = .bl c ∧ Φ (.bl (!c)) A1) : GE (tNotV ta) σ A Φ := fun H Q a p =>
  h H _ a fun x A1 H1 a1 ⟨c, e, h1⟩ => ⟨c, e, p _ _ _ a1 h1⟩
theorem ge_chain {r' : R2} (h : GE ta σ A fun x A1 => GE tb σ A1 fun y A2 => GR r x y A2 fun z A3 => ∃ c, z = .bl c ∧ (c = true → GE tc σ A3 fun w A4 => GR r' y w A4 Φ) ∧ (c = false → Φ (.bl false) A3)) : GE (tChain r r' ta tb tc) σ A Φ := fun H Q a p =>
  h H _ a fun x A1 H1 a1 h1 => h1 H1 _ a1 fun y A2 H2 a2 h2 => h2 H2 _ a2 fun z A3 H3 a3 ⟨c, e, h3, h4⟩ => ⟨c, e, by
    cases c with
    | true => rw [if_pos rfl]; exact h3 rfl H3 _ a3 fun w A4 H4 a4 h5 => h5 H4 Q a4 p
    | false => rw [if_neg Bool.false_ne_true]; exact p _ _ _ a3 (h4 rfl)⟩
/-! ### tests -/
section
variable {Ψ : Bool → SH → Prop}
theorem gt_test (h : GE te σ A fun x A' => ∃ k, x = .bl k ∧ Ψ k A') : GT (tTest te) σ A Ψ := fun H Q a p => h H _ a fun x A1 H1 a1 ⟨k, e, h1⟩ => ⟨k, e, p k A1 H1 a1 h1⟩
theorem gt_B (h : GE te σ A fun x A' => ∃ k, x = .bl k ∧ Ψ k A') : GT (tB te) σ A Ψ := fun H Q a p => h H _ a fun x A1 H1 a1 ⟨k, e, h1⟩ => ⟨k, e, p k A1 H1 a1 h1⟩
theorem gt_and (h : GT t σ A fun c A1 => (c = true → GT u σ A1 Ψ) ∧ (c = false → Ψ false A1)) : GT (tAnd t u) σ A Ψ := fun H Q a p =>
  h H _ a fun c A1 H1 a1 h1 => by
    cases c with
    | true => rw [if_pos rfl]; exact h1.1 rfl H1 Q a1 p
    | false => rw [if_neg Bool.false_ne_true]; exact p _ _ _ a1 (h1.2 rfl)
theorem gt_or (h : GT t σ A fun c A1 => (c = true → Ψ true A1) ∧ (c = false → GT u σ A1 Ψ)) : GT (tOr t u) σ A Ψ := fun H Q a p =>
  h H _ a fun c A1 H1 a1 h1 => by
    cases c with
    | true => rw [if_pos rfl]; exact p _ _ _ a1 (h1.1 rfl)
    | false => rw [if_neg Bool.false_ne_true]; exact h1.2 rfl H1 Q a1 p
theorem gt_not (h : GT t σ A fun c A1 => Ψ (!c) A1) : GT (tNot t) σ A Ψ := fun H Q a p => h H _ a fun c A1 H1 a1 h1 => p _ A1 H1 a1 h1
end
/-- a test's outcome -/
theorem br_dec {p P Q : Prop} [Decidable p] (h1 : p → P) (h2 : ¬ p → Q) : (decide p = true → P) ∧ (decide p = false → Q) := ⟨fun h => h1 (of_decide_eq_true h), fun h => h2 (of_decide_eq_false h)⟩
theorem br_ndec {p P Q : Prop} [Decidable p] (h1 : ¬ p → P) (h2 : p → Q) : ((!decide p) = true → P) ∧ ((!decide p) = false → Q) :=
  ⟨fun h => h1 (by simpa using h), fun h => h2 (by simpa using h)⟩
theorem br_t {P Q : Prop} (h : P) : (true = true → P) ∧ (true = false → Q) := ⟨fun _ => h, fun z => nomatch z⟩
theorem br_f {P Q : Prop} (h : Q) : (false = true → P) ∧ (false = false → Q) := ⟨fun z => (nomatch z), fun _ => h⟩
theorem br_nt {P Q : Prop} (h : Q) : ((!true) = true → P) ∧ ((!true) = false → Q) := ⟨fun z => (nomatch z), fun _ => h⟩
theorem br_nf {P Q : Prop} (h : P) : ((!false) = true → P) ∧ ((!false) = false → Q) := ⟨fun _ => h, fun z => nomatch z⟩
theorem br_not {b : Bool} {P Q : Prop} (h : (b = true → Q) ∧ (b = false → P)) : ((!b) = true → P) ∧ ((!b) = false → Q) := ⟨fun z => h.2 (by simpa using z), fun z => h.1 (by simpa using z)⟩
theorem br_b {b : Bool} {P Q : Prop} (h1 : b = true → P) (h2 : b = false → Q) : (b = true → P) ∧ (b = false → Q) := ⟨h1, h2⟩
/-- a test whose outcome the facts tell -/
theorem br_yes {p P Q : Prop} [Decidable p] (hp : p) (h1 : P) : (decide p = true → P) ∧ (decide p = false → Q) := ⟨fun _ => h1, fun h => absurd hp (of_decide_eq_false h)⟩
theorem br_no {p P Q : Prop} [Decidable p] (hp : ¬ p) (h1 : Q) : (decide p = true → P) ∧ (decide p = false → Q) := ⟨fun h => absurd (of_decide_eq_true h) hp, fun _ => h1⟩
theorem br_nyes {p P Q : Prop} [Decidable p] (hp : ¬ p) (h1 : P) : ((!decide p) = true → P) ∧ ((!decide p) = false → Q) := br_not (br_no hp h1)
theorem br_nno {p P Q : Prop} [Decidable p] (hp : p) (h1 : Q) : ((!decide p) = true → P) ∧ ((!decide p) = false → Q) := br_not (br_yes hp h1)

/-! ### operators by values -/
theorem gr_I0 {g : Int → Int → V} (k : Φ (g i j) A) : GR (rI0 g) (.int i) (.int j) A Φ := fun H Q a p => ⟨i, j, rfl, rfl, p _ A H a k⟩
theorem gr_I {C : Int → Int → Prop} {g : Int → Int → V} (c : C i j) (k : Φ (g i j) A) : GR (rI C g) (.int i) (.int j) A Φ := fun H Q a p => ⟨i, j, rfl, rfl, c, p _ A H a k⟩
end

/-! ### statements -/
section
variable {K : PySem.W.Frag} {σ σ' : St} {A B : SH} {nx : St → SH → Prop} {rt : V → SH → Prop} {bk ct : St → SH → Prop} {t u : TS} {c : TT} {te : TE} {v : V}
theorem gs_seq (h : GS t ⟨fun σ A => GS u ⟨nx, rt, bk, ct⟩ σ A, rt, bk, ct⟩ σ A) : GS (tSeq t u) ⟨nx, rt, bk, ct⟩ σ A := fun H E a im =>
  h H { E with nx := u E } a ⟨fun σ A H a k => k H E a im, im.rt, im.bk, im.ct⟩
theorem gs_next (h : nx σ A) : GS tNext ⟨nx, rt, bk, ct⟩ σ A := fun H E a im => im.nx σ A H a h
theorem gs_break (h : bk σ A) : GS tBreak ⟨nx, rt, bk, ct⟩ σ A := fun H E a im => im.bk σ A H a h
theorem gs_cont (h : ct σ A) : GS tCont ⟨nx, rt, bk, ct⟩ σ A := fun H E a im => im.ct σ A H a h
theorem gs_asg {g : TG} (h : GE te σ A fun v A' => GG g v σ A' nx) : GS (tAsg te g) ⟨nx, rt, bk, ct⟩ σ A := fun H E a im => h H _ a fun v A' H' a' h' => h' H' _ a' im.nx
theorem gs_drop (h : GE te σ A fun _ A' => nx σ A') : GS (tDrop te) ⟨nx, rt, bk, ct⟩ σ A := fun H E a im => h H _ a fun _ A' H' a' h' => im.nx σ A' H' a' h'
theorem gs_ret (h : GE te σ A rt) : GS (tRet te) ⟨nx, rt, bk, ct⟩ σ A := fun H E a im => h H _ a im.rt
theorem gs_retN (h : rt .non A) : GS tRetN ⟨nx, rt, bk, ct⟩ σ A := fun H E a im => im.rt .non A H a h
theorem gs_if (h : GT c σ A fun b A' => (b = true → GS t ⟨nx, rt, bk, ct⟩ σ A') ∧ (b = false → GS u ⟨nx, rt, bk, ct⟩ σ A')) : GS (tIfS c t u) ⟨nx, rt, bk, ct⟩ σ A := fun H E a im =>
  h H _ a fun b A' H' a' h' => by
    cases b with
    | true => rw [if_pos rfl]; exact h'.1 rfl H' E a' im
    | false => rw [if_neg Bool.false_ne_true]; exact h'.2 rfl H' E a' im
theorem gg_name {n : Nat} {Φ : St → SH → Prop} (s : Set1 σ n (some v) σ') (k : Φ σ' A) : GG (gName n) v σ A Φ := fun H Q a p => by
  have e : σ.set n (some v) = σ' := s
  show Q (σ.set n (some v)) H
  rw [e]
  exact p σ' A H a k
theorem gg_nil {Φ : St → SH → Prop} (k : Φ σ A) : ∀ H (Q : St → Hp → Prop), Has H A → (∀ σ' A' H', Has H' A' → Φ σ' A' → Q σ' H') → gNil [] σ H Q := fun H Q a p => ⟨rfl, p σ A H a k⟩
def GGs (t : TGs) (vs : List V) (σ : St) (A : SH) (Φ : St → SH → Prop) : Prop := ∀ H (Q : St → Hp → Prop), Has H A → (∀ σ' A' H', Has H' A' → Φ σ' A' → Q σ' H') → t vs σ H Q
theorem ggs_nil {Φ : St → SH → Prop} (k : Φ σ A) : GGs gNil [] σ A Φ := fun H Q a p => ⟨rfl, p σ A H a k⟩
theorem ggs_cons {Φ : St → SH → Prop} {g : TG} {gs : TGs} {vs : List V} (h : GG g v σ A fun σ1 A1 => GGs gs vs σ1 A1 Φ) : GGs (gCons g gs) (v :: vs) σ A Φ := fun H Q a p =>
  ⟨v, vs, rfl, h H _ a fun σ1 A1 H1 a1 h1 => h1 H1 Q a1 p⟩
theorem gg_tup {Φ : St → SH → Prop} {n : Nat} {gs : TGs} {a : Addr} {xs : List V} (rd : RT K A a xs) (hl : xs.length = n) (h : GGs gs xs σ A Φ) : GG (gTup K n gs) (.ref a) σ A Φ := fun H Q x p =>
  ⟨a, xs, rfl, rd H x, hl, h H Q x p⟩
theorem gs_for {wi : TI} {g : TG} (h : GI wi σ A fun J A1 => GF J g t ⟨nx, rt, bk, ct⟩ σ A1) : GS (tFor wi g t) ⟨nx, rt, bk, ct⟩ σ A := fun H E a im => h H _ a fun J A1 H1 a1 h1 => h1 H1 E a1 im
theorem gf_list {a : Addr} {xs : List V} {g : TG} (Pv : Nat → St → SH → Prop) (h0 : Cl (Pv 0) σ A) (hl : ∀ i σ A, i ≤ xs.length → Pv i σ A → RL K A a xs)
    (hs : ∀ i x σ A, xs[i]? = some x → Pv i σ A → GG g x σ A fun σ' A' => GS t ⟨Cl (Pv (i + 1)), rt, nx, Cl (Pv (i + 1))⟩ σ' A')
    (hd : ∀ σ A, Pv xs.length σ A → nx σ A) : GF (Itl K a) g t ⟨nx, rt, bk, ct⟩ σ A := fun H E x im =>
  for_list (K := K) (a := a) (xs := xs) (D := E) (fun i σ H => ∃ A, Has H A ∧ Pv i σ A) (h0 H x) (fun i σ H hi ⟨A, x, p⟩ => hl i σ A hi p H x)
    (fun i y σ H hy ⟨A, x, p⟩ => hs i y σ A hy p H _ x fun σ' A' H' x' k => k H' _ x' ⟨fun σ A H x p => p H x, im.rt, im.nx, fun σ A H x p => p H x⟩)
    fun σ H ⟨A, x, p⟩ => im.nx σ A H x (hd σ A p)
theorem gf_tup {a : Addr} {xs : List V} {g : TG} (Pv : Nat → St → SH → Prop) (h0 : Cl (Pv 0) σ A) (hl : ∀ i σ A, i ≤ xs.length → Pv i σ A → RT K A a xs)
    (hs : ∀ i x σ A, xs[i]? = some x → Pv i σ A → GG g x σ A fun σ' A' => GS t ⟨Cl (Pv (i + 1)), rt, nx, Cl (Pv (i + 1))⟩ σ' A')
    (hd : ∀ σ A, Pv xs.length σ A → nx σ A) : GF (Itt K a) g t ⟨nx, rt, bk, ct⟩ σ A := fun H E x im =>
  for_tup (K := K) (a := a) (xs := xs) (D := E) (fun i σ H => ∃ A, Has H A ∧ Pv i σ A) (h0 H x) (fun i σ H hi ⟨A, x, p⟩ => hl i σ A hi p H x)
    (fun i y σ H hy ⟨A, x, p⟩ => hs i y σ A hy p H _ x fun σ' A' H' x' k => k H' _ x' ⟨fun σ A H x p => p H x, im.rt, im.nx, fun σ A H x p => p H x⟩)
    fun σ H ⟨A, x, p⟩ => im.nx σ A H x (hd σ A p)
theorem gf_range {lo : Int} {n : Nat} {g : TG} (Pv : Nat → St → SH → Prop) (h0 : Cl (Pv 0) σ A)
    (hs : ∀ i σ A, i < n → Pv i σ A → GG g (.int (lo + i)) σ A fun σ' A' => GS t ⟨Cl (Pv (i + 1)), rt, nx, Cl (Pv (i + 1))⟩ σ' A')
    (hd : ∀ σ A, Pv n σ A → nx σ A) : GF (Itr lo n) g t ⟨nx, rt, bk, ct⟩ σ A := fun H E x im =>
  for_range (lo := lo) (n := n) (D := E) (fun i σ H => ∃ A, Has H A ∧ Pv i σ A) (h0 H x)
    (fun i σ H hi ⟨A, x, p⟩ => hs i σ A hi p H _ x fun σ' A' H' x' k => k H' _ x' ⟨fun σ A H x p => p H x, im.rt, im.nx, fun σ A H x p => p H x⟩)
    fun σ H ⟨A, x, p⟩ => im.nx σ A H x (hd σ A p)
theorem gi_list {Φ : It → SH → Prop} (h : GE te σ A fun x A' => ∃ a xs, x = .ref a ∧ RL K A' a xs ∧ Φ (Itl K a) A') : GI (iList K te) σ A Φ := fun H Q x p =>
  h H _ x fun v A' H' x' ⟨a, xs, e, r, k⟩ => ⟨a, e, ⟨xs, r H' x'⟩, p _ A' H' x' k⟩
theorem gi_tup {Φ : It → SH → Prop} (h : GE te σ A fun x A' => ∃ a xs, x = .ref a ∧ RT K A' a xs ∧ Φ (Itt K a) A') : GI (iTup K te) σ A Φ := fun H Q x p =>
  h H _ x fun v A' H' x' ⟨a, xs, e, r, k⟩ => ⟨a, e, ⟨xs, r H' x'⟩, p _ A' H' x' k⟩
theorem gi_rng1 {Φ : It → SH → Prop} {ta : TA} (h : GA ta σ A fun vs A' => ∃ j : Int, vs = [.int j] ∧ -(2 ^ 62) ≤ j ∧ j < 2 ^ 62 ∧ Φ (Itr 0 j.toNat) A') : GI (iRng1 ta) σ A Φ := fun H Q x p =>
  h H _ x fun vs A' H' x' ⟨j, e, h1, h2, k⟩ => ⟨j, e, h1, h2, p _ A' H' x' k⟩
theorem gi_rng2 {Φ : It → SH → Prop} {ta : TA} (h : GA ta σ A fun vs A' => ∃ i j : Int, vs = [.int i, .int j] ∧ (-(2 ^ 62) ≤ i ∧ i < 2 ^ 62 ∧ -(2 ^ 62) ≤ j ∧ j < 2 ^ 62) ∧ Φ (Itr i (j - i).toNat) A') : GI (iRng2 ta) σ A Φ := fun H Q x p =>
  h H _ x fun vs A' H' x' ⟨i, j, e, h1, k⟩ => ⟨i, j, e, h1, p _ A' H' x' k⟩
theorem gi_enum {Φ : It → SH → Prop} {ta : TA} (h : GA ta σ A fun vs A' => ∃ a xs, vs = [.ref a] ∧ RL K A' a xs ∧ Φ (Ite K a) A') : GI (iEnum K ta) σ A Φ := fun H Q x p =>
  h H _ x fun vs A' H' x' ⟨a, xs, e, r, k⟩ => ⟨a, xs, e, r H' x', p _ A' H' x' k⟩
def iAlt (w u : TI) : TI := fun σ H R => w σ H R ∨ u σ H R
theorem pi_alt {X : Cx} {tg iter : Expr} {w u : TI} (h1 : PI X tg iter w) (h2 : PI X tg iter u) : PI X tg iter (iAlt w u) := ⟨fun pins s σ H R I h => by
  rcases h with h | h
  · exact h1.run pins s σ H R I h
  · exact h2.run pins s σ H R I h⟩
theorem gi_altL {w u : TI} {Φ : It → SH → Prop} (h : GI w σ A Φ) : GI (iAlt w u) σ A Φ := fun H Q a p => .inl (h H Q a p)
theorem gi_altR {w u : TI} {Φ : It → SH → Prop} (h : GI u σ A Φ) : GI (iAlt w u) σ A Φ := fun H Q a p => .inr (h H Q a p)
/-- for i, x in enumerate(xs): the pair is a new tuple -/
theorem gf_enum {a : Addr} {xs : List V} {g : TG} (Pv : Nat → St → SH → Prop) (h0 : Cl (Pv 0) σ A) (hl : ∀ i σ A, i ≤ xs.length → Pv i σ A → RL K A a xs)
    (hs : ∀ i x σ A p, xs[i]? = some x → Pv i σ A → GG g (.ref p) σ (sg p (.tup [.int (i : Nat), x]) :: A) fun σ' A' => GS t ⟨Cl (Pv (i + 1)), rt, nx, Cl (Pv (i + 1))⟩ σ' A')
    (hd : ∀ σ A, Pv xs.length σ A → nx σ A) : GF (Ite K a) g t ⟨nx, rt, bk, ct⟩ σ A := fun H E x im => by
  refine ⟨fun i m σ H => m = xs.length - i ∧ i ≤ xs.length ∧ ∃ A, Has H A ∧ Pv i σ A, ⟨xs.length, by simp, Nat.zero_le _, h0 H x⟩, ?_⟩
  rintro i m σ H ⟨rfl, hi, A, x, p⟩
  have q := hl i σ A hi p H x
  by_cases hlt : i < xs.length
  · refine .inr ⟨⟨xs, xs[i], q, by simp [hlt]⟩, fun σ' H' => ∃ A, Has H' A ∧ Pv (i + 1) σ' A, fun σ' H' p' => ⟨xs.length - (i + 1), by omega, rfl, hlt, p'⟩, fun y H' yl => ?_⟩
    obtain ⟨T, z, rfl, hT, rfl, hz⟩ := yl
    exact hs i z σ A T (hz xs q) p _ _ (x.new hT) fun σ' A' H' x' k => k H' _ x' ⟨fun σ A H x p => p H x, im.rt, im.nx, fun σ A H x p => p H x⟩
  · have e : i = xs.length := by omega
    subst e
    exact .inl ⟨⟨xs, q, Nat.le_refl _⟩, im.nx σ A H x (hd σ A p)⟩
/-- while: an invariant and what falls -/
theorem gs_while (Pv : Nat → St → SH → Prop) (m : Nat) (h0 : Cl (Pv m) σ A)
    (hs : ∀ m σ A, Pv m σ A → GT c σ A fun b A' => (b = true → GS t ⟨fun σ A => ∃ m', m' < m ∧ Cl (Pv m') σ A, rt, nx, fun σ A => ∃ m', m' < m ∧ Cl (Pv m') σ A⟩ σ A') ∧ (b = false → nx σ A')) : GS (tWhile c t) ⟨nx, rt, bk, ct⟩ σ A := fun H E x im =>
  ⟨fun m σ H => ∃ A, Has H A ∧ Pv m σ A, ⟨m, h0 H x⟩, fun m σ H ⟨A, x, p⟩ => hs m σ A p H _ x fun b A' H' x' k => by
    cases b with
    | true =>
      rw [if_pos rfl]
      refine ⟨fun σ H => ∃ m', m' < m ∧ ∃ A, Has H A ∧ Pv m' σ A, fun σ' H' h => h, k.1 rfl H' _ x' ⟨?_, im.rt, im.nx, ?_⟩⟩
      · exact fun σ A H x ⟨m', l, p⟩ => ⟨m', l, p H x⟩
      · exact fun σ A H x ⟨m', l, p⟩ => ⟨m', l, p H x⟩
    | false =>
      rw [if_neg Bool.false_ne_true]
      exact im.nx σ A' H' x' (k.2 rfl)⟩
end
/-! ### parts joined -/
/-- several parts become one -/
theorem blk {H : Hp} {A : SH} : ∀ {xs : SH}, Has H (xs ++ A) → ∃ h, Has H (h :: A) ∧ (∀ x ∈ xs, Sub x h) ∧ ∀ a o, h a = some o → ∃ x ∈ xs, x a = some o
  | [], x => ⟨emp, Has.cons x (fun a o e => nomatch e) fun g _ a o u e _ => (nomatch e), fun x h => (nomatch h), fun a o e => nomatch e⟩
  | y :: xs, x => by
    obtain ⟨h, hh, hs, hb⟩ := blk (xs := xs) (x : Has H (y :: (xs ++ A))).tail
    have x : Has H (y :: (xs ++ A)) := x
    have dj : Dj y h := fun a o u e1 e2 => by
      obtain ⟨z, hz, e3⟩ := hb a u e2
      exact x.dj (List.mem_append_left _ hz) a o u e1 e3
    refine ⟨fun a => (y a).or (h a), Has.cons hh.tail (fun a o e => ?_) (fun g hg a o u e1 e2 => ?_), fun z hz a o e => ?_, fun a o e => ?_⟩
    all_goals try (have e : (y a).or (h a) = some o := e)
    all_goals try (have e1 : (y a).or (h a) = some o := e1)
    · cases e1 : y a with
      | some v =>
        rw [e1] at e
        exact e ▸ x.head a v e1
      | none =>
        rw [e1] at e
        exact hh.head a o e
    · cases e3 : y a with
      | some v => exact x.dj (List.mem_append_right _ hg) a v u e3 e2
      | none =>
        rw [e3] at e1
        exact hh.dj hg a o u e1 e2
    · rcases List.mem_cons.mp hz with q | hz
      · subst q
        show (z a).or (h a) = some o
        rw [e]; rfl
      · have e2 := hs z hz a o e
        show (y a).or (h a) = some o
        cases e3 : y a with
        | some v => exact (dj a v o e3 e2).elim
        | none => exact e2
    · cases e1 : y a with
      | some v =>
        rw [e1] at e
        exact ⟨y, List.mem_cons_self, e1.trans e⟩
      | none =>
        rw [e1] at e
        obtain ⟨z, hz, e2⟩ := hb a o e
        exact ⟨z, List.mem_cons_of_mem _ hz, e2⟩
/-- the parts xs of the state become one, the parts ys stay -/
theorem Cl.blk {α : Type} {P : α → SH → Prop} {x : α} {A B xs : SH} (l : Le (xs ++ A) B) (p : ∀ h, (∀ y ∈ xs, Sub y h) → P x (h :: A)) : Cl P x B := fun H hB => by
  obtain ⟨h, a, s, _⟩ := S.blk (l H hB)
  exact ⟨_, a, p h s⟩
theorem RO.sub {A : SH} {g h : Hp} {a : Addr} {o : HO} (s : Sub g h) (e : g a = some o) : RO (h :: A) a o := .blk (s a o e)
/-- the state seen otherwise -/
theorem ge_as {t : TE} {σ : St} {A : SH} {Φ : V → SH → Prop} (h : Cl (fun σ A => GE t σ A Φ) σ A) : GE t σ A Φ := fun H Q x p => by
  obtain ⟨B, y, k⟩ := h H x
  exact k H Q y p
theorem gs_as {t : TS} {D : AE} {σ : St} {A : SH} (h : Cl (fun σ A => GS t D σ A) σ A) : GS t D σ A := fun H E x im => by
  obtain ⟨B, y, k⟩ := h H x
  exact k H E y im
end S

namespace S
open PySem L2

/-! ### calls -/
abbrev Spec := List V → SH → (V → SH → Prop) → (Value → Option Addr → SH → Prop) → Prop
def lift (sp : Spec) : Sp := fun vs H Q E => ∃ A Φ Ψ, Has H A ∧ Post Φ Q ∧ XPost Ψ E ∧ sp vs A Φ Ψ
/-- the def of that name keeps its promise -/
def DefR (P : Program) (w : World) (K : PySem.W.Frag) (mg : Str → Option Value) (base : Heap) (k : Nat) (x : Str) (sp : Sp) : Prop :=
  ∃ f, FnR P w K mg base (L2.CX P w) k f sp ∧ mg x = some (.ref f) ∧ PySem.W.keepIn K (.ref f) = true
def MethR (P : Program) (w : World) (K : PySem.W.Frag) (mg : Str → Option Value) (base : Heap) (k : Nat) (C : Addr) (m : Str) (sp : Sp) : Prop :=
  Cls K C ∧ ∃ f, Meth K C m f ∧ FnR P w K mg base (L2.CX P w) k f sp
def MakR (P : Program) (w : World) (K : PySem.W.Frag) (mg : Str → Option Value) (base : Heap) (k : Nat) (x : Str) (C : Addr) (sp : Sp) : Prop :=
  ∃ f, Mk K C f ∧ FnR P w K mg base (L2.CX P w) k f sp ∧ mg x = some (.ref C)
def tCal (sp : Sp) (W : WX) (t : TA) : TE := fun σ H Q => t σ H fun vs H1 => sp vs H1 Q (WE W σ)
def tMet (MT : Addr → Spec → Prop) (m : Str) (W : WX) (ta : TE) (t : TA) : TE := fun σ H Q => ta σ H fun x H1 => ∃ a C dx fs sp, x = .ref a ∧ H1 a = some (.ins C dx fs) ∧ MT C sp ∧ fs.lookup m = none ∧
  t σ H1 fun vs H2 => lift sp (x :: vs) H2 Q (WE W σ)
def tMak (C : Addr) (sp : Sp) (W : WX) (t : TA) : TE := fun σ H Q => t σ H fun vs H1 => ∀ x dx, H1 x = Option.none → H1 dx = Option.none → dx ≠ x →
  sp (V.ref x :: vs) (upd (upd H1 dx (.own x)) x (.ins C dx [])) (fun v H2 => v = .non ∧ Q (.ref x) H2) (WE W σ)
section
variable {X : Cx} {k : Nat} {f C : Addr} {sp : Sp} {W : WX} {x m : Str} {p pos apos : Pos} {e o : Expr} {es : List Expr} {ta : TE} {t : TA} {σ : L2.St}
theorem run_at {E : XK} {pins : List (Addr × Obj)} {H : Hp} {s : Shared} {Q : VK} {us : List Value} {vs : List V} (F : FnR X.prog X.w X.K X.mg X.base (L2.CX X.prog X.w) k f sp) (hr : Room k X.A) (hx : PassesAt (L2.CX X.prog X.w) X σ E)
    (I : Inv X pins σ H s) (r : Vals vs us) (h : sp vs H Q E) : wpAny (model X.prog X.w) X.A (call (.ref f) us) (EP X pins σ Q) X.xe s := by
  refine wpAny_call (codeAny_mono (F X.A X.stack s H us vs Q E hr I.env0 r h) ?_)
  intro res s' got
  match res, got with
  | .error e, got => exact hx pins H s e s' I got
  | .ok (.ret u), got => exact I.after got
  | .ok .next, got => exact False.elim got
  | .ok .brk, got => exact False.elim got
  | .ok .cont, got => exact False.elim got
theorem pe_own (G : DefR X.prog X.w X.K X.mg X.base k x sp) (hr : Room k X.A) (hg : Gl X x) (tk : Takes X W) (ha : PA X (e :: es) t) (hdb : (x == ("__debug__" : Str)) = false := by decide)
    (he : starEach (e :: es) X.env = (false, eval e X.env) :: starEach es X.env := by rfl) (hpl : (backTo pos (starEach es X.env)).any (·.1) = false := by rfl) : PE X (.Call (.Name x p) (e :: es) [] pos) (tCal sp W t) := by
  obtain ⟨f, F, hm, hk⟩ := G
  constructor
  intro pins s σ H Q I h
  refine wpAny_Call_Name_kw (ld_glob I hg hm ?_ hdb)
  refine PySem.W.callWith_K (h₀ := X.base) I.ok.mod.kin hk (thn (ha.run pos pins s σ H _ I h) ?_) he hpl
  rintro us s1 ⟨vs, H1, I1, r, q⟩
  exact ⟨I1.kIn, run_at F hr (passAt tk σ) I1 r q⟩
theorem pe_own0 (G : DefR X.prog X.w X.K X.mg X.base k x sp) (hr : Room k X.A) (hg : Gl X x) (tk : Takes X W) (hdb : (x == ("__debug__" : Str)) = false := by decide) : PE X (.Call (.Name x p) [] [] pos) (tCal sp W tNil) := by
  obtain ⟨f, F, hm, hk⟩ := G
  constructor
  intro pins s σ H Q I h
  refine wpAny_Call_Name_kw (ld_glob I hg hm ?_ hdb)
  exact PySem.W.callWith_K0 I.kIn hk (run_at F hr (passAt tk σ) I .nil h)
theorem pe_met {pl : Sem Bool} {MT : Addr → Spec → Prop} (he : PE X o ta) (G : ∀ C sp, MT C sp → MethR X.prog X.w X.K X.mg X.base k C m (lift sp)) (hr : Room k X.A) (tk : Takes X W) (ha : PA X (e :: es) t)
    (hst : starEach (e :: es) X.env = (false, eval e X.env) :: starEach es X.env := by rfl) (hpl : (backTo pos (starEach es X.env)).any (·.1) = false := by rfl)
    (ht : eval (.Call (.Attribute o m apos) (e :: es) [] pos) X.env = (do let ov ← eval o X.env; standAt apos.atName; let (f, first) ← holding [ov] (getMethod ov m pl); callWith pos f first (backTo pos (starEach (e :: es) X.env)) (backToKw pos (keywordEach [] X.env))) := by rfl) :
    PE X (.Call (.Attribute o m apos) (e :: es) [] pos) (tMet MT m W ta t) := by
  constructor
  intro pins s σ H Q I h
  refine PySem.W.methodCall_KW (pl := pl) (thn (he.run pins s σ H _ I h) ?_) ht
  rintro u s1 ⟨x, H1, I1, rx, a, C, dx, fs, sp, rfl, ea, mt, l, q⟩
  obtain ⟨c, f, hm, F⟩ := G C sp mt
  cases (show u = Value.ref a from rx)
  refine getmeth_ok I1 ea c hm l ?_
  refine PySem.W.callWith_K (first := [.ref a]) (h₀ := X.base) I.ok.mod.kin hm.kp (thn (ha.run pos pins s1 σ H1 _ I1 q) ?_) hst hpl
  rintro us s2 ⟨vs, H2, I2, r, q2⟩
  exact ⟨I2.kIn, run_at (us := .ref a :: us) (vs := .ref a :: vs) F hr (passAt tk σ) I2 (.cons rfl r) q2⟩
theorem pe_met0 {pl : Sem Bool} {MT : Addr → Spec → Prop} (he : PE X o ta) (G : ∀ C sp, MT C sp → MethR X.prog X.w X.K X.mg X.base k C m (lift sp)) (hr : Room k X.A) (tk : Takes X W)
    (ht : eval (.Call (.Attribute o m apos) [] [] pos) X.env = (do let ov ← eval o X.env; standAt apos.atName; let (f, first) ← holding [ov] (getMethod ov m pl); callWith pos f first (backTo pos (starEach [] X.env)) (backToKw pos (keywordEach [] X.env))) := by rfl) :
    PE X (.Call (.Attribute o m apos) [] [] pos) (tMet MT m W ta tNil) := by
  constructor
  intro pins s σ H Q I h
  refine PySem.W.methodCall_KW (pl := pl) (thn (he.run pins s σ H _ I h) ?_) ht
  rintro u s1 ⟨x, H1, I1, rx, a, C, dx, fs, sp, rfl, ea, mt, l, q⟩
  obtain ⟨c, f, hm, F⟩ := G C sp mt
  cases (show u = Value.ref a from rx)
  refine getmeth_ok I1 ea c hm l ?_
  exact PySem.W.callWith_K0 (first := [.ref a]) I1.kIn hm.kp (run_at (us := [.ref a]) (vs := [.ref a]) F hr (passAt tk σ) I1 (.cons rfl .nil) q)
theorem run_mak {E : XK} {pins : List (Addr × Obj)} {H : Hp} {s : Shared} {Q : VK} {us : List Value} {vs : List V} (M : Mk X.K C f) (F : FnR X.prog X.w X.K X.mg X.base (L2.CX X.prog X.w) k f sp) (hr : Room (k + 1) X.A) (hx : PassesAt (L2.CX X.prog X.w) X σ E)
    (I : Inv X pins σ H s) (r : Vals vs us)
    (h : ∀ x dx, H x = Option.none → H dx = Option.none → dx ≠ x → sp (V.ref x :: vs) (upd (upd H dx (.own x)) x (.ins C dx [])) (fun v H2 => v = .non ∧ Q (.ref x) H2) E) :
    wpAny (model X.prog X.w) X.A (call (.ref C) us) (EP X pins σ Q) X.xe s := by
  have hq := h (s.heap.objs.size + 1) s.heap.objs.size (I.hok.fresh (Nat.le_succ _)) (I.hok.fresh (Nat.le_refl _)) (Nat.ne_of_lt (Nat.lt_succ_self _))
  have J := Inv.made (C := C) I
  have rr : Vals (V.ref (s.heap.objs.size + 1) :: vs) (Value.ref (s.heap.objs.size + 1) :: us) := .cons rfl r
  refine wpAny_call (make_map (f := f) I.kIn M.makes M.init (beq_iff_eq.mp M.fn) (codeAny_mono (F _ X.stack _ _ (Value.ref (s.heap.objs.size + 1) :: us) _ _ E (hr.make C us []) (J.env0.make C us []) rr hq) ?_))
  intro res s' got
  match res, got with
  | .error e, got => exact hx pins _ _ e s' J got
  | .ok (.ret u), got =>
    obtain ⟨v, H', I3, rv, ev, q3⟩ := J.after got
    subst ev
    exact ⟨rv, ⟨V.ref (s.heap.objs.size + 1), H', I3, rfl, q3⟩⟩
  | .ok .next, got => exact False.elim got
  | .ok .brk, got => exact False.elim got
  | .ok .cont, got => exact False.elim got
theorem pe_mak (G : MakR X.prog X.w X.K X.mg X.base k x C sp) (hr : Room (k + 1) X.A) (hg : Gl X x) (tk : Takes X W) (ha : PA X (e :: es) t) (hdb : (x == ("__debug__" : Str)) = false := by decide)
    (he : starEach (e :: es) X.env = (false, eval e X.env) :: starEach es X.env := by rfl) (hpl : (backTo pos (starEach es X.env)).any (·.1) = false := by rfl) : PE X (.Call (.Name x p) (e :: es) [] pos) (tMak C sp W t) := by
  obtain ⟨f, M, F, hm⟩ := G
  constructor
  intro pins s σ H Q I h
  refine wpAny_Call_Name_kw (ld_glob I hg hm ?_ hdb)
  refine PySem.W.callWith_K (h₀ := X.base) I.ok.mod.kin M.kp (thn (ha.run pos pins s σ H _ I h) ?_) he hpl
  rintro us s1 ⟨vs, H1, I1, r, q⟩
  exact ⟨I1.kIn, run_mak M F hr (passAt tk σ) I1 r q⟩
theorem pe_mak0 (G : MakR X.prog X.w X.K X.mg X.base k x C sp) (hr : Room (k + 1) X.A) (hg : Gl X x) (tk : Takes X W) (hdb : (x == ("__debug__" : Str)) = false := by decide) : PE X (.Call (.Name x p) [] [] pos) (tMak C sp W tNil) := by
  obtain ⟨f, M, F, hm⟩ := G
  constructor
  intro pins s σ H Q I h
  refine wpAny_Call_Name_kw (ld_glob I hg hm ?_ hdb)
  exact PySem.W.callWith_K0 I.kIn M.kp (run_mak M F hr (passAt tk σ) I .nil h)
end
section
variable {σ : L2.St} {A B : SH} {Φ : V → SH → Prop} {Ψ : Value → Option Addr → L2.St → SH → Prop} {W : WX} {ta : TE} {t : TA} {sp : Spec} {m : Str} {C : Addr}
theorem ge_cal (hx : WPost Ψ W) (h : GA t σ A fun vs A1 => sp vs A1 Φ fun c d A2 => Ψ c d σ A2) : GE (tCal (lift sp) W t) σ A Φ := fun H Q a p =>
  h H _ a fun vs A1 H1 a1 h1 => ⟨A1, Φ, _, a1, p, fun c d A2 H2 a2 k => hx c d σ A2 H2 a2 k, h1⟩
theorem ge_met {MT : Addr → Spec → Prop} (hx : WPost Ψ W)
    (h : GE ta σ A fun x A1 => ∃ a C dx fs sp, x = .ref a ∧ RO A1 a (.ins C dx fs) ∧ MT C sp ∧ fs.lookup m = none ∧ GA t σ A1 fun vs A2 => sp (x :: vs) A2 Φ fun c d A3 => Ψ c d σ A3) : GE (tMet MT m W ta t) σ A Φ := fun H Q a p =>
  h H _ a fun x A1 H1 a1 ⟨b, C, dx, fs, sp, e, ro, mt, l, h1⟩ => ⟨b, C, dx, fs, sp, e, ro H1 a1, mt, l, h1 H1 _ a1 fun vs A2 H2 a2 h2 => ⟨A2, Φ, _, a2, p, fun c d A3 H3 a3 k => hx c d σ A3 H3 a3 k, h2⟩⟩
theorem ge_mak (hx : WPost Ψ W) (h : GA t σ A fun vs A1 => ∀ x dx, sp (V.ref x :: vs) (sg x (.ins C dx []) :: A1) (fun v A2 => v = .non ∧ Φ (.ref x) A2) fun c d A2 => Ψ c d σ A2) : GE (tMak C (lift sp) W t) σ A Φ := fun H Q a p =>
  h H _ a fun vs A1 H1 a1 h1 x dx nx nd ne => ⟨_, _, _, (a1.new nd).tail.new (by rw [upd_ne (Ne.symm ne)]; exact nx), fun v A2 H2 a2 ⟨e, k⟩ => ⟨e, p _ A2 H2 a2 k⟩, fun c d A2 H2 a2 k => hx c d σ A2 H2 a2 k, h1 x dx⟩
end
/-- where a def's body leads -/
abbrev AEf (Φ : V → SH → Prop) : AE := ⟨fun _ A => Cl Φ .non A, Cl Φ, fun _ _ => False, fun _ _ => False⟩
/-- a def keeps its promise: its body, and the goal of it -/
theorem mk_fn {P : Program} {w : World} {K : PySem.W.Frag} {mg : Str → Option Value} {base : Heap} {x qual : Str} {params : Arguments} {body : List Stmt} {scope : Scope} {dvs : List V} {kws : List (Str × V)} {f : Addr} {fd : FuncData} {N ps : List Str} {k : Nat} {sp : Spec} {t : XK → TS} {σ0 : List V → L2.St}
    (F : FunD K x qual params body scope dvs kws f fd) (sc : FnScope N ps scope) (len : ∀ vs A Φ Ψ, sp vs A Φ Ψ → vs.length = ps.length)
    (dv : ∀ (cdv : Value) (A : Around) (outer : List Env) (s : Shared) (H : Hp) (E : XK), Room k (A.deeper (PyProof.Rows.envOfC qual scope s.heap.objs.size f cdv)) → PSs (cxOf (L2.CX P w) P w K mg base N qual scope f cdv A outer s H E) body (t E))
    (hs : ∀ vs A Φ Ψ E, WPost (fun c d _ A => Cl (fun (_ : Unit) A => Ψ c d A) () A) (fun c d _ H => E c d H) → sp vs A Φ Ψ → GS (t E) (AEf Φ) (L2.start N vs) A) :
    FnOk P w K mg base (L2.CX P w) (k + 1) f fd ps (lift sp) := by
  refine FunD.ok F sc (fun vs H Q E ⟨A, Φ, Ψ, _, _, _, h⟩ => len vs A Φ Ψ h) ?_
  rintro cdv A outer s H vs Q E hr ⟨B, Φ, Ψ, hB, hq, hx, h⟩
  refine ⟨t E, dv cdv A outer s H E hr, hs vs B Φ Ψ E ?_ h H _ hB ⟨?_, ?_, fun _ _ _ _ z => z, fun _ _ _ _ z => z⟩⟩
  · intro c d σ A H a q
    obtain ⟨B, b, q⟩ := q H a
    exact hx c d B H b q
  · intro σ A H a q
    exact hq.cl .non A H a q
  · exact hq.cl

end S

namespace S
open PySem L2

/-! ### operators that ask what they are given -/
def rAddS : R2 := fun x y H Q => ∃ i j, x = V.str i ∧ y = V.str j ∧ i.length + j.length ≤ sizeLine ∧ Q (V.str (i ++ j)) H
def dAdd (K : PySem.W.Frag) : R2 := fun x y H Q => rI0 (fun i j => .int (i + j)) x y H Q ∨ rAddS x y H Q ∨ rCat x y H Q ∨ rCatT K x y H Q
theorem op_dAdd {X : Cx} : OpR X (binaryOp .Add) (dAdd X.K) := OpR.or op_add (OpR.or op_add_str (OpR.or op_cat op_catT))
def dSub : R2 := rI0 fun i j => .int (i - j)
theorem op_dSub {X : Cx} : OpR X (binaryOp .Sub) dSub := op_sub
def dMul : R2 := rI CMul fun i j => .int (i * j)
theorem op_dMul {X : Cx} : OpR X (binaryOp .Mult) dMul := op_mul
def dMod : R2 := rI (fun _ j => 0 < j) fun i j => .int (i % j)
theorem op_dMod {X : Cx} : OpR X (binaryOp .Mod) dMod := op_mod
def dDiv : R2 := rI CDiv fun i j => .int (i / j)
theorem op_dDiv {X : Cx} : OpR X (binaryOp .FloorDiv) dDiv := op_fdiv
def dEq (K : PySem.W.Frag) : R2 := fun x y H Q => rEq x y H Q ∨ rEqD K x y H Q
theorem op_dEq {X : Cx} {k : Nat} (hr : Room k X.A) : OpR X (compareOp .Eq) (dEq X.K) := OpR.or op_eq (op_eqD hr.units)
def dNe (K : PySem.W.Frag) : R2 := fun x y H Q => rNe x y H Q ∨ rNeD K x y H Q
theorem op_dNe {X : Cx} {k : Nat} (hr : Room k X.A) : OpR X (compareOp .NotEq) (dNe X.K) := OpR.or op_ne (op_neD hr.units)
def rLtI : R2 := rI0 fun i j => .bl (decide (i < j))
def dLt (K : PySem.W.Frag) : R2 := fun x y H Q => rLtI x y H Q ∨ rLtT K x y H Q
theorem op_dLt {X : Cx} {k : Nat} (hr : Room k X.A) : OpR X (compareOp .Lt) (dLt X.K) := OpR.or op_lt (op_ltT hr.units0)
def dLe : R2 := rI0 fun i j => .bl (decide (i ≤ j))
theorem op_dLe {X : Cx} : OpR X (compareOp .LtE) dLe := op_le
def dGt : R2 := rI0 fun i j => .bl (decide (j < i))
theorem op_dGt {X : Cx} : OpR X (compareOp .Gt) dGt := op_gt
def dGe : R2 := rI0 fun i j => .bl (decide (j ≤ i))
theorem op_dGe {X : Cx} : OpR X (compareOp .GtE) dGe := op_ge
def rSgn (neg : Bool) : R2 := fun x y H Q => ∃ (c : Nat) (z : Str), x = .str ⟨#[c]⟩ ∧ y = .str z ∧ Q (.bl (if neg then !decide (c ∈ z.cps.toList) else decide (c ∈ z.cps.toList))) H
def dIn (K : PySem.W.Frag) (neg : Bool) : R2 := fun x y H Q => rIn K neg x y H Q ∨ rSgn neg x y H Q
theorem op_dIn {X : Cx} : OpR X (compareOp .In) (dIn X.K false) := OpR.or op_in_seq fun pins s σ H x y v u Q I rx ry ⟨c, z, e1, e2, q⟩ => op_in_sign pins s σ H x y v u Q I rx ry ⟨c, z, e1, e2, q⟩
theorem op_dNotIn {X : Cx} : OpR X (compareOp .NotIn) (dIn X.K true) := OpR.or op_notIn_seq fun pins s σ H x y v u Q I rx ry ⟨c, z, e1, e2, q⟩ => op_notIn_sign pins s σ H x y v u Q I rx ry ⟨c, z, e1, e2, q⟩
def dIs (neg : Bool) : R2 := fun x y H Q => y = V.non ∧ Q (V.bl (if neg then !decide (x = V.non) else decide (x = V.non))) H
theorem op_dIs {X : Cx} : OpR X (compareOp .Is) (dIs false) := op_isN
theorem op_dIsNot {X : Cx} : OpR X (compareOp .IsNot) (dIs true) := op_notN

section
variable {K : PySem.W.Frag} {σ σ' : L2.St} {A B C : SH} {Φ : V → SH → Prop} {v x y : V} {i j : Int} {p q : Addr} {xs ys : List V}
theorem gr_addI (k : Φ (.int (i + j)) A) : GR (dAdd K) (.int i) (.int j) A Φ := fun H Q a p => .inl (gr_I0 (A := A) k H Q a p)
theorem gr_addS {z w : Str} (h : z.length + w.length ≤ sizeLine) (k : Φ (.str (z ++ w)) A) : GR (dAdd K) (.str z) (.str w) A Φ := fun H Q a p => .inr (.inl ⟨z, w, rfl, rfl, h, p _ A H a k⟩)
theorem gr_addL (h1 : RO A p (.lst xs)) (h2 : RO A q (.lst ys)) (h : xs.length + ys.length ≤ sizeLine) (k : ∀ r, Φ (.ref r) (sg r (.lst (xs ++ ys)) :: A)) : GR (dAdd K) (.ref p) (.ref q) A Φ := fun H Q a ps =>
  .inr (.inr (.inl ⟨p, q, xs, ys, rfl, rfl, h1 H a, h2 H a, h, fun r hr => ps _ _ _ (a.new hr) (k r)⟩))
theorem gr_subI (k : Φ (.int (i - j)) A) : GR dSub (.int i) (.int j) A Φ := gr_I0 k
theorem gr_mulI (c : CMul i j) (k : Φ (.int (i * j)) A) : GR dMul (.int i) (.int j) A Φ := gr_I c k
theorem gr_modI (c : 0 < j) (k : Φ (.int (i % j)) A) : GR dMod (.int i) (.int j) A Φ := gr_I c k
theorem gr_divI (c : CDiv i j) (k : Φ (.int (i / j)) A) : GR dDiv (.int i) (.int j) A Φ := gr_I c k
theorem gr_ltI (k : Φ (.bl (decide (i < j))) A) : GR (dLt K) (.int i) (.int j) A Φ := fun H Q a p => .inl (gr_I0 (g := fun i j => .bl (decide (i < j))) k H Q a p)
theorem gr_ltT {ns ms : List Int} (h1 : RT K A p (ns.map V.int)) (h2 : RT K A q (ms.map V.int)) (k : Φ (.bl (HT.lexLt ns ms)) A) : GR (dLt K) (.ref p) (.ref q) A Φ := fun H Q a ps =>
  .inr ⟨p, q, ns, ms, rfl, rfl, h1 H a, h2 H a, ps _ A H a k⟩
theorem gr_leI (k : Φ (.bl (decide (i ≤ j))) A) : GR dLe (.int i) (.int j) A Φ := gr_I0 (g := fun i j => .bl (decide (i ≤ j))) k
theorem gr_gtI (k : Φ (.bl (decide (j < i))) A) : GR dGt (.int i) (.int j) A Φ := gr_I0 (g := fun i j => .bl (decide (j < i))) k
theorem gr_geI (k : Φ (.bl (decide (j ≤ i))) A) : GR dGe (.int i) (.int j) A Φ := gr_I0 (g := fun i j => .bl (decide (j ≤ i))) k
theorem dec_int (i j : Int) : decide (V.int i = V.int j) = decide (i = j) := by
  by_cases h : i = j
  · subst h; simp
  · rw [decide_eq_false h, decide_eq_false fun e => h (V.int.inj e)]
theorem dec_str (i j : Str) : decide (V.str i = V.str j) = decide (i = j) := by
  by_cases h : i = j
  · subst h; simp
  · rw [decide_eq_false h, decide_eq_false fun e => h (V.str.inj e)]
theorem dec_bl (i j : Bool) : decide (V.bl i = V.bl j) = decide (i = j) := by
  by_cases h : i = j
  · subst h; simp
  · rw [decide_eq_false h, decide_eq_false fun e => h (V.bl.inj e)]
theorem gr_eqI (k : Φ (.bl (decide (i = j))) A) : GR (dEq K) (.int i) (.int j) A Φ := fun H Q a p => .inl ⟨rfl, by rw [dec_int]; exact p _ A H a k⟩
theorem gr_eqS {z w : Str} (k : Φ (.bl (decide (z = w))) A) : GR (dEq K) (.str z) (.str w) A Φ := fun H Q a p => .inl ⟨rfl, by rw [dec_str]; exact p _ A H a k⟩
theorem gr_eqB {b c : Bool} (k : Φ (.bl (decide (b = c))) A) : GR (dEq K) (.bl b) (.bl c) A Φ := fun H Q a p => .inl ⟨rfl, by rw [dec_bl]; exact p _ A H a k⟩
theorem gr_eq_scal (hs : scal x y = true) (k : Φ (.bl (decide (x = y))) A) : GR (dEq K) x y A Φ := fun H Q a p => .inl ⟨hs, p _ A H a k⟩
theorem gr_neI (k : Φ (.bl (!decide (i = j))) A) : GR (dNe K) (.int i) (.int j) A Φ := fun H Q a p => .inl ⟨rfl, by rw [dec_int]; exact p _ A H a k⟩
theorem gr_neS {z w : Str} (k : Φ (.bl (!decide (z = w))) A) : GR (dNe K) (.str z) (.str w) A Φ := fun H Q a p => .inl ⟨rfl, by rw [dec_str]; exact p _ A H a k⟩
theorem gr_ne_scal (hs : scal x y = true) (k : Φ (.bl (!decide (x = y))) A) : GR (dNe K) x y A Φ := fun H Q a p => .inl ⟨hs, p _ A H a k⟩
/-- data at any depth -/
def DP (K : PySem.W.Frag) (A : SH) (v : V) (d : PyData) : Prop := ∀ H, Has H A → Dp K H v d
def DPs (K : PySem.W.Frag) (A : SH) (v : List V) (d : List PyData) : Prop := ∀ H, Has H A → DpAll K H v d
theorem DP.le {d : PyData} (l : Le A B) (h : DP K A v d) : DP K B v d := fun H x => h H (l H x)
theorem DP.tail {g : Hp} {d : PyData} (h : DP K A v d) : DP K (g :: A) v d := fun H x => h H x.tail
theorem DPs.tail {g : Hp} {vs : List V} {ds : List PyData} (h : DPs K A vs ds) : DPs K (g :: A) vs ds := fun H x => h H x.tail
theorem dp_non : DP K A .non .none := fun _ _ => .non
theorem dp_bl {b : Bool} : DP K A (.bl b) (.bool b) := fun _ _ => .bl b
theorem dp_int : DP K A (.int i) (.int i) := fun _ _ => .int i
theorem dp_str {z : Str} : DP K A (.str z) (.str z) := fun _ _ => .str z
theorem dp_lst {ds : List PyData} (r : RL K A p xs) (h : DPs K A xs ds) : DP K A (.ref p) (.list ds) := fun H x => .lst (r H x) (h H x)
theorem dp_tup {ds : List PyData} (r : RT K A p xs) (h : DPs K A xs ds) : DP K A (.ref p) (.tuple ds) := fun H x => .tup (r H x) (h H x)
theorem dps_nil : DPs K A [] [] := fun _ _ => .nil
theorem dps_cons {vs : List V} {d : PyData} {ds : List PyData} (h : DP K A v d) (t : DPs K A vs ds) : DPs K A (v :: vs) (d :: ds) := fun H x => .cons (h H x) (t H x)
theorem dps_map {α : Type} {f : α → V} {g : α → PyData} : ∀ {l : List α}, (∀ a ∈ l, DP K A (f a) (g a)) → DPs K A (l.map f) (l.map g)
  | [], _ => dps_nil
  | a :: l, h => dps_cons (h a List.mem_cons_self) (dps_map fun b hb => h b (List.mem_cons_of_mem _ hb))
theorem dps_ints {l : List Int} : DPs K A (l.map V.int) (l.map PyData.int) := dps_map fun _ _ => dp_int
theorem dps_strs {l : List Str} : DPs K A (l.map V.str) (l.map PyData.str) := dps_map fun _ _ => dp_str
theorem gr_eqD {d e : PyData} (h1 : DP K A x d) (h2 : DP K A y e) (s1 : SeqAt.shaped d = true) (s2 : SeqAt.shaped e = true) (k : Φ (.bl (PyData.eqv d e)) A) : GR (dEq K) x y A Φ := fun H Q a p =>
  .inr ⟨d, e, h1 H a, h2 H a, s1, s2, p _ A H a k⟩
theorem gr_neD {d e : PyData} (h1 : DP K A x d) (h2 : DP K A y e) (s1 : SeqAt.shaped d = true) (s2 : SeqAt.shaped e = true) (k : Φ (.bl (!PyData.eqv d e)) A) : GR (dNe K) x y A Φ := fun H Q a p =>
  .inr ⟨d, e, h1 H a, h2 H a, s1, s2, p _ A H a k⟩
theorem gr_inL {neg : Bool} (r : RL K A p xs) (f : flatV x = true) (fs : xs.all flatV = true) (k : Φ (.bl (if neg then !inV x xs else inV x xs)) A) : GR (dIn K neg) x (.ref p) A Φ := fun H Q a ps =>
  .inl ⟨p, xs, rfl, .inl (r H a), f, fs, ps _ A H a k⟩
theorem gr_inT {neg : Bool} (r : RT K A p xs) (f : flatV x = true) (fs : xs.all flatV = true) (k : Φ (.bl (if neg then !inV x xs else inV x xs)) A) : GR (dIn K neg) x (.ref p) A Φ := fun H Q a ps =>
  .inl ⟨p, xs, rfl, .inr (r H a), f, fs, ps _ A H a k⟩
theorem gr_inS {neg : Bool} {c : Nat} {z : Str} (k : Φ (.bl (if neg then !decide (c ∈ z.cps.toList) else decide (c ∈ z.cps.toList))) A) : GR (dIn K neg) (.str ⟨#[c]⟩) (.str z) A Φ := fun H Q a ps =>
  .inr ⟨c, z, rfl, rfl, ps _ A H a k⟩
theorem gr_isN {neg : Bool} (k : Φ (.bl (if neg then !decide (x = V.non) else decide (x = V.non))) A) : GR (dIs neg) x .non A Φ := fun H Q a p => ⟨rfl, p _ A H a k⟩
/-! ### subscripts, slices -/
theorem gr_ixL (r : RL K A p xs) (h : atI xs i = some v) (k : Φ v A) : GR (rIx K) (.ref p) (.int i) A Φ := fun H Q a ps => .inl ⟨p, xs, i, v, rfl, rfl, r H a, h, ps _ A H a k⟩
theorem gr_ixT (r : RT K A p xs) (h : atI xs i = some v) (k : Φ v A) : GR (rIx K) (.ref p) (.int i) A Φ := fun H Q a ps => .inr (.inl ⟨p, xs, i, v, rfl, rfl, r H a, h, ps _ A H a k⟩)
theorem gr_ixS {z : Str} {c : Nat} (l : z.length ≤ sizeLine) (h : atI z.cps.toList i = some c) (k : Φ (.str ⟨#[c]⟩) A) : GR (rIx K) (.str z) (.int i) A Φ := fun H Q a ps => .inr (.inr ⟨z, i, c, rfl, rfl, l, h, ps _ A H a k⟩)
theorem atI_lt {α : Type} {l : List α} {i : Int} (h0 : 0 ≤ i) (h1 : i < l.length) : atI l i = some (l[i.toNat]'(by omega)) := by
  unfold atI ixN
  rw [if_pos h0, if_pos h1]
  simp
def GO (t : TO) (σ : L2.St) (A : SH) (Φ : Option Int → SH → Prop) : Prop := ∀ H (Q : Option Int → Hp → Prop), Has H A → (∀ b A' H', Has H' A' → Φ b A' → Q b H') → t σ H Q
theorem go_no {Φ : Option Int → SH → Prop} (k : Φ none A) : GO tNoPart σ A Φ := fun H Q a p => p _ A H a k
theorem go_some {Φ : Option Int → SH → Prop} {te : TE} (h : GE te σ A fun x A' => ∃ i, x = .int i ∧ Φ (some i) A') : GO (tPart te) σ A Φ := fun H Q a p => h H _ a fun x A1 H1 a1 ⟨i, e, k⟩ => ⟨i, e, p _ A1 H1 a1 k⟩
def rSl (K : PySem.W.Frag) : V → Option Int → Option Int → Hp → VK → Prop := fun x lo hi H Q => rSlL K x lo hi H Q ∨ rSlS x lo hi H Q ∨ rSlT K x lo hi H Q
theorem sl_any {X : Cx} : SlR X (rSl X.K) := by
  intro pins s σ H x v vl vu lo hi sl Q I rx hs pl pu h
  rcases h with h | h | h
  · exact sl_list pins s σ H x v vl vu lo hi sl Q I rx hs pl pu h
  · exact sl_str pins s σ H x v vl vu lo hi sl Q I rx hs pl pu h
  · exact sl_tup pins s σ H x v vl vu lo hi sl Q I rx hs pl pu h
def GSl (r : V → Option Int → Option Int → Hp → VK → Prop) (x : V) (lo hi : Option Int) (A : SH) (Φ : V → SH → Prop) : Prop := ∀ H Q, Has H A → Post Φ Q → r x lo hi H Q
theorem ge_sl {r : V → Option Int → Option Int → Hp → VK → Prop} {te : TE} {tl th : TO} (h : GE te σ A fun x A1 => GO tl σ A1 fun l A2 => GO th σ A2 fun u A3 => GSl r x l u A3 Φ) : GE (tSl r te tl th) σ A Φ := fun H Q a p =>
  h H _ a fun x A1 H1 a1 h1 => h1 H1 _ a1 fun l A2 H2 a2 h2 => h2 H2 _ a2 fun u A3 H3 a3 h3 => h3 H3 Q a3 p
theorem gsl_list {lo hi : Option Int} (r : RL K A p xs) (k : ∀ q, Φ (.ref q) (sg q (.lst (cutV xs lo hi)) :: A)) : GSl (rSl K) (.ref p) lo hi A Φ := fun H Q a ps => .inl ⟨p, xs, rfl, r H a, fun q hq => ps _ _ _ (a.new hq) (k q)⟩
theorem gsl_str {z : Str} {lo hi : Option Int} (l : z.length ≤ sizeLine) (k : Φ (.str (cutS z lo hi)) A) : GSl (rSl K) (.str z) lo hi A Φ := fun H Q a ps => .inr (.inl ⟨z, rfl, l, ps _ A H a k⟩)

/-! ### dicts -/
def RD (A : SH) (a : Addr) (kvs : List (L2.Key × V)) : Prop := ∀ H, Has H A → Rd H a (.dK kvs)
theorem RD.tail {g : Hp} {a : Addr} {kvs : List (L2.Key × V)} (h : RD A a kvs) : RD (g :: A) a kvs := fun H x => h H x.tail
theorem RD.ro {a : Addr} {kvs : List (L2.Key × V)} (h : RO A a (.dK kvs)) : RD A a kvs := fun H x => .inl (h H x)
theorem RD.head {a : Addr} {kvs : List (L2.Key × V)} : RD (sg a (.dK kvs) :: A) a kvs := .ro .head
def KV1 (y : V) (k : L2.Key) : Prop := y = kV k
theorem kv_int : KV1 (.int i) (.inl i) := rfl
theorem kv_str {z : Str} : KV1 (.str z) (.inr z) := rfl
section
variable {td ty tv : TE} {a : Addr} {kvs : List (L2.Key × V)} {k : L2.Key} {nx : L2.St → SH → Prop} {rt : V → SH → Prop} {bk ct : L2.St → SH → Prop}
theorem ge_dget (h : GE td σ A fun x A1 => GE ty σ A1 fun y A2 => ∃ a kvs k v, x = .ref a ∧ RD A2 a kvs ∧ KV1 y k ∧ valV kvs k = some v ∧ Φ v A2) : GE (tDGet td ty) σ A Φ := fun H Q a p =>
  h H _ a fun x A1 H1 a1 h1 => h1 H1 _ a1 fun y A2 H2 a2 ⟨d, kvs, k, v, e, r, ky, hv, c⟩ => ⟨d, v, e, .inl ⟨kvs, k, r H2 a2, ky, hv.symm⟩, p _ A2 H2 a2 c⟩
theorem ge_din (h : GE ty σ A fun y A1 => GE td σ A1 fun x A2 => ∃ a kvs k, x = .ref a ∧ RD A2 a kvs ∧ KV1 y k ∧ Φ (.bl (valV kvs k).isSome) A2) : GE (tDIn ty td) σ A Φ := fun H Q a p =>
  h H _ a fun y A1 H1 a1 h1 => h1 H1 _ a1 fun x A2 H2 a2 ⟨d, kvs, k, e, r, ky, c⟩ => ⟨d, _, e, .inl ⟨kvs, k, r H2 a2, ky, rfl⟩, p _ A2 H2 a2 c⟩
theorem ge_dnotin (h : GE ty σ A fun y A1 => GE td σ A1 fun x A2 => ∃ a kvs k, x = .ref a ∧ RD A2 a kvs ∧ KV1 y k ∧ Φ (.bl (!(valV kvs k).isSome)) A2) : GE (tDNotIn ty td) σ A Φ := fun H Q a p =>
  h H _ a fun y A1 H1 a1 h1 => h1 H1 _ a1 fun x A2 H2 a2 ⟨d, kvs, k, e, r, ky, c⟩ => ⟨d, _, e, .inl ⟨kvs, k, r H2 a2, ky, rfl⟩, p _ A2 H2 a2 c⟩
theorem gs_dput (h : GE tv σ A fun v A1 => GE td σ A1 fun x A2 => GE ty σ A2 fun y A3 => ∃ a kvs k B, x = .ref a ∧ Pull A3 (sg a (.dK kvs)) B ∧ KV1 y k ∧ kvs.length < sizeLine ∧ nx σ (sg a (.dK (putK kvs k v)) :: B)) : GS (sDPut td ty tv) ⟨nx, rt, bk, ct⟩ σ A := fun H E a im =>
  h H _ a fun v A1 H1 a1 h1 => h1 H1 _ a1 fun x A2 H2 a2 h2 => h2 H2 _ a2 fun y A3 H3 a3 ⟨d, kvs, k, B, e, pl, ky, hl, c⟩ =>
    ⟨d, upd H3 d (.dK (putK kvs k v)), e, .inl ⟨kvs, k, (pl.has a3).at, ky, hl, rfl⟩, im.nx _ _ _ (pl.has a3).set c⟩
theorem ge_dpop1 (h : GE td σ A fun x A1 => ∃ a kvs, x = .ref a ∧ RO A1 a (.dK kvs) ∧ GE ty σ A1 fun y A2 => ∃ kvs k v B, Pull A2 (sg a (.dK kvs)) B ∧ KV1 y k ∧ valV kvs k = some v ∧ Φ v (sg a (.dK (dropK kvs k)) :: B)) : GE (tDPop1 td ty) σ A Φ := fun H Q a p =>
  h H _ a fun x A1 H1 a1 ⟨d, kv0, e, ro, h1⟩ => ⟨d, e, .inl ⟨kv0, .inl (ro H1 a1)⟩, h1 H1 _ a1 fun y A2 H2 a2 ⟨kvs, k, v, B, pl, ky, hv, c⟩ => ⟨kvs, k, v, (pl.has a2).at, ky, hv, p _ _ _ (pl.has a2).set c⟩⟩
end

/-! ### methods of lists -/
section
variable {to : TE} {t : TA} {r : V → List V → Hp → VK → Prop} {T : String}
def TyA (K : PySem.W.Frag) (T : String) (x : V) (A : SH) : Prop := ∀ H, Has H A → tyV K T x H
theorem ty_list (h : RL K A p xs) : TyA K "list" (.ref p) A := fun H a => .inl ⟨rfl, xs, h H a⟩
theorem ty_str {z : Str} : TyA K "str" (.str z) A := fun H a => rfl
theorem ty_dict {kvs : List (L2.Key × V)} (h : RO A p (.dK kvs)) : TyA K "dict" (.ref p) A := fun H a => .inr (.inr (.inl ⟨rfl, .inl ⟨kvs, h H a⟩⟩))
theorem ge_bm (h : GE to σ A fun x A1 => TyA K T x A1 ∧ GA t σ A1 fun vs A2 => GM r x vs A2 Φ) : GE (tBM K T r to t) σ A Φ := fun H Q a p =>
  h H _ a fun x A1 H1 a1 ⟨ty, h1⟩ => ⟨ty H1 a1, h1 H1 _ a1 fun vs A2 H2 a2 h2 => h2 H2 Q a2 p⟩
theorem ge_bm0 (h : GE to σ A fun x A1 => TyA K T x A1 ∧ GM r x [] A1 Φ) : GE (tBM0 K T r to) σ A Φ := fun H Q a p =>
  h H _ a fun x A1 H1 a1 ⟨ty, h1⟩ => ⟨ty H1 a1, h1 H1 Q a1 p⟩
theorem gm_append (pl : Pull A (sg p (.lst xs)) B) (hl : xs.length < sizeLine) (k : Φ .non (sg p (.lst (xs ++ [y])) :: B)) : GM rAppend (.ref p) [y] A Φ := fun H Q a ps =>
  ⟨p, xs, y, rfl, rfl, (pl.has a).at, hl, ps _ _ _ (pl.has a).set k⟩
theorem gm_pop (pl : Pull A (sg p (.lst xs)) B) (hy : xs[xs.length - 1]? = some y) (k : Φ y (sg p (.lst xs.dropLast) :: B)) : GM rPop (.ref p) [] A Φ := fun H Q a ps =>
  ⟨p, xs, y, rfl, rfl, (pl.has a).at, hy, ps _ _ _ (pl.has a).set k⟩
theorem gm_popAt {n : Nat} (pl : Pull A (sg p (.lst xs)) B) (h1 : -(2 ^ 63) ≤ i) (h2 : i < 2 ^ 63) (hi : seqIndex? i xs.length = some n) (hy : xs[n]? = some y) (k : Φ y (sg p (.lst (xs.eraseIdx n)) :: B)) : GM rPopAt (.ref p) [.int i] A Φ := fun H Q a ps =>
  ⟨p, xs, i, n, y, rfl, rfl, (pl.has a).at, h1, h2, hi, hy, ps _ _ _ (pl.has a).set k⟩
theorem gm_clear (pl : Pull A (sg p (.lst xs)) B) (k : Φ .non (sg p (.lst []) :: B)) : GM rClear (.ref p) [] A Φ := fun H Q a ps => ⟨p, xs, rfl, rfl, (pl.has a).at, ps _ _ _ (pl.has a).set k⟩
theorem gm_reverse (pl : Pull A (sg p (.lst xs)) B) (k : Φ .non (sg p (.lst xs.reverse) :: B)) : GM rReverse (.ref p) [] A Φ := fun H Q a ps => ⟨p, xs, rfl, rfl, (pl.has a).at, ps _ _ _ (pl.has a).set k⟩
theorem gm_extend (pl : Pull A (sg p (.lst xs)) B) (r : RO A q (.lst ys)) (hl : xs.length + ys.length ≤ sizeLine) (k : Φ .non (sg p (.lst (xs ++ ys)) :: B)) : GM rExtend (.ref p) [.ref q] A Φ := fun H Q a ps =>
  ⟨p, q, xs, ys, rfl, rfl, (pl.has a).at, r H a, hl, ps _ _ _ (pl.has a).set k⟩
theorem gm_index {n : Nat} {z : V} (r : RL K A p ys) (f : flatV y = true) (fs : ys.all flatV = true) (hz : ys[n]? = some z) (he : eqV z y = true) (hn : ∀ (m : Nat) (z' : V), m < n → ys[m]? = some z' → eqV z' y = false) (k : Φ (.int (n : Nat)) A) : GM (rIndex K) (.ref p) [y] A Φ := fun H Q a ps =>
  ⟨p, ys, y, n, z, rfl, rfl, r H a, f, fs, hz, he, hn, ps _ A H a k⟩
def rInsert : V → List V → Hp → VK → Prop := fun x vs H Q => ∃ (l : Addr) (xs : List V) (i : Int) (y : V), x = .ref l ∧ vs = [.int i, y] ∧ H l = some (.lst xs) ∧ xs.length < sizeLine ∧ 0 ≤ i ∧ i < 2 ^ 63 ∧ Q .non (upd H l (.lst (xs.take i.toNat ++ [y] ++ xs.drop i.toNat)))
theorem gm_insert (pl : Pull A (sg p (.lst xs)) B) (hl : xs.length < sizeLine) (h0 : 0 ≤ i) (h1 : i < 2 ^ 63) (k : Φ .non (sg p (.lst (xs.take i.toNat ++ [y] ++ xs.drop i.toNat)) :: B)) : GM rInsert (.ref p) [.int i, y] A Φ := fun H Q a ps =>
  ⟨p, xs, i, y, rfl, rfl, (pl.has a).at, hl, h0, h1, ps _ _ _ (pl.has a).set k⟩
end

/-! ### built-in functions -/
theorem ge_cb {r : List V → Hp → VK → Prop} {t : TA} (h : GA t σ A fun vs A1 => GC r vs A1 Φ) : GE (tCB r t) σ A Φ := fun H Q a p => h H _ a fun vs A1 H1 a1 h1 => h1 H1 Q a1 p
def cLen (K : PySem.W.Frag) : List V → Hp → VK → Prop := fun xs H Q => (∃ x n, xs = [x] ∧ LenV K x H n ∧ Q (.int n) H) ∨ ∃ a kvs, xs = [V.ref a] ∧ H a = some (.dK kvs) ∧ Q (.int kvs.length) H
theorem call_cLen {X : Cx} : CallR X (.builtin "len") (cLen X.K) := CallR.or call_len call_lenD
theorem gc_lenL (r : RL K A p xs) (k : Φ (.int (xs.length : Nat)) A) : GC (cLen K) [.ref p] A Φ := fun H Q a ps => .inl ⟨_, _, rfl, .inl ⟨xs, r H a, rfl⟩, ps _ A H a k⟩
theorem gc_lenT (r : RT K A p xs) (k : Φ (.int (xs.length : Nat)) A) : GC (cLen K) [.ref p] A Φ := fun H Q a ps => .inl ⟨_, _, rfl, .inr ⟨xs, r H a, rfl⟩, ps _ A H a k⟩
theorem gc_lenS {z : Str} (l : z.length ≤ sizeLine) (k : Φ (.int (z.length : Nat)) A) : GC (cLen K) [.str z] A Φ := fun H Q a ps => .inl ⟨_, _, rfl, ⟨l, rfl⟩, ps _ A H a k⟩
theorem gc_lenD {kvs : List (L2.Key × V)} (r : RO A p (.dK kvs)) (k : Φ (.int (kvs.length : Nat)) A) : GC (cLen K) [.ref p] A Φ := fun H Q a ps => .inr ⟨p, kvs, rfl, r H a, ps _ A H a k⟩
def cMin2 : List V → Hp → VK → Prop := fun xs H Q => ∃ i j, xs = [.int i, .int j] ∧ Q (.int (if j < i then j else i)) H
def cMax2 : List V → Hp → VK → Prop := fun xs H Q => ∃ i j, xs = [.int i, .int j] ∧ Q (.int (if j > i then j else i)) H
theorem call_cMin2 {X : Cx} (hc : X.calm = true) : CallR X (.builtin "min") cMin2 := call_min2 hc
theorem call_cMax2 {X : Cx} (hc : X.calm = true) : CallR X (.builtin "max") cMax2 := call_max2 hc
theorem gc_min2 (k : Φ (.int (min i j)) A) : GC cMin2 [.int i, .int j] A Φ := fun H Q a ps => ⟨i, j, rfl, by
  have e : (if j < i then j else i) = min i j := by omega
  rw [e]; exact ps _ A H a k⟩
theorem gc_max2 (k : Φ (.int (max i j)) A) : GC cMax2 [.int i, .int j] A Φ := fun H Q a ps => ⟨i, j, rfl, by
  have e : (if j > i then j else i) = max i j := by omega
  rw [e]; exact ps _ A H a k⟩
def cList (K : PySem.W.Frag) : List V → Hp → VK → Prop := fun xs H Q => (∃ p ys, xs = [.ref p] ∧ (SqL K H p ys ∨ SqT K H p ys) ∧ ∀ l, H l = none → Q (.ref l) (upd H l (.lst ys))) ∨
  ∃ (a : Addr) (kvs : List (L2.Key × V)), xs = [.ref a] ∧ Rd H a (.dK kvs) ∧ ∀ p, H p = none → Q (.ref p) (upd H p (.lst (kvs.map fun kv => kV kv.1)))
theorem call_cList {X : Cx} (hc : X.calm = true) : CallR X (.type "list") (cList X.K) := CallR.or call_list_of (call_listD hc)
theorem gc_listL (r : RL K A p xs) (k : ∀ q, Φ (.ref q) (sg q (.lst xs) :: A)) : GC (cList K) [.ref p] A Φ := fun H Q a ps => .inl ⟨p, xs, rfl, .inl (r H a), fun l hl => ps _ _ _ (a.new hl) (k l)⟩
theorem gc_listT (r : RT K A p xs) (k : ∀ q, Φ (.ref q) (sg q (.lst xs) :: A)) : GC (cList K) [.ref p] A Φ := fun H Q a ps => .inl ⟨p, xs, rfl, .inr (r H a), fun l hl => ps _ _ _ (a.new hl) (k l)⟩
theorem gc_listD {kvs : List (L2.Key × V)} (r : RD A p kvs) (k : ∀ q, Φ (.ref q) (sg q (.lst (kvs.map fun kv => kV kv.1)) :: A)) : GC (cList K) [.ref p] A Φ := fun H Q a ps => .inr ⟨p, kvs, rfl, r H a, fun l hl => ps _ _ _ (a.new hl) (k l)⟩
theorem gc_sum {ns : List Int} (r : RL K A p (ns.map V.int)) (k : Φ (.int ns.sum) A) : GC (rSum K) [.ref p] A Φ := fun H Q a ps => ⟨p, ns, rfl, r H a, ps _ A H a k⟩
theorem gc_all {bs : List Bool} (r : RL K A p (bs.map V.bl)) (k : Φ (.bl (bs.all id)) A) : GC (rAll K) [.ref p] A Φ := fun H Q a ps => ⟨p, bs, rfl, r H a, ps _ A H a k⟩
/-! ### isinstance -/
def TyG (K : PySem.W.Frag) (A : SH) (x : V) (t : Value) : Prop := ∀ H, Has H A → TyX K H x t
theorem gc_isi {c : V} {t u : Value} {b : Bool} (hc : ClsV c u) (ty : TyG K A x t) (e : PySem.W.kitOne K t u = some b) (k : Φ (.bl b) A) : GC (rIsi K) [x, c] A Φ := fun H Q a ps => ⟨x, c, t, u, b, rfl, hc, ty H a, e, ps _ A H a k⟩
theorem gc_isiT {tp : Addr} {cs : List V} {t : Value} {us : List Value} {b : Bool} (r : RO A tp (.tup cs)) (hc : Paired ClsV cs us) (ty : TyG K A x t) (e : PySem.W.kitAny K t us = some b) (k : Φ (.bl b) A) : GC (rIsiT K) [x, .ref tp] A Φ := fun H Q a ps =>
  ⟨x, tp, cs, t, us, b, rfl, r H a, hc, ty H a, e, ps _ A H a k⟩
theorem ty_non : TyG K A .non (.type "NoneType") := fun _ _ => .base .non
theorem ty_bl {b : Bool} : TyG K A (.bl b) (.type "bool") := fun _ _ => .base (.bl b)
theorem ty_int : TyG K A (.int i) (.type "int") := fun _ _ => .base (.int i)
theorem ty_strT {z : Str} : TyG K A (.str z) (.type "str") := fun _ _ => .base (.str z)
theorem ty_lst (r : RO A p (.lst xs)) : TyG K A (.ref p) (.type "list") := fun H a => .base (.lst (r H a))
theorem ty_tup (r : RO A p (.tup xs)) : TyG K A (.ref p) (.type "tuple") := fun H a => .base (.tup (r H a))
theorem ty_dK {kvs : List (L2.Key × V)} (r : RO A p (.dK kvs)) : TyG K A (.ref p) (.type "dict") := fun H a => .base (.dK (r H a))
/-- what isinstance asks of an own class -/
structure InsO (K : PySem.W.Frag) (C : Addr) : Prop where
  c : Cls K C
  a : PySem.W.findIn K (Value.ref C) (Str.ofString "__class__") = some (some (Value.builtin "object.__class__"))
  n : PySem.W.specialIn K (Value.builtin "object.__class__") (Str.ofString "__get__") = some (some (Value.builtin "getset_descriptor.__get__"))
  t : PySem.W.takesIn K (Value.builtin "object.__class__") = some true
  m : PySem.W.mroIn K C (Value.type "object") = some true
theorem ty_ins {C dx : Addr} {fs : List (Str × V)} (o : InsO K C) (r : RO A p (.ins C dx fs)) : TyG K A (.ref p) (.ref C) := fun H a => .base (.ins (r H a) o.c o.a o.n o.t o.m)
/-! ### fields -/
def FOk (K : PySem.W.Frag) (C : Addr) (f : Str) : Prop := Cls K C ∧ NoAttr K C f
theorem ge_fld {te : TE} {f : Str} (h : GE te σ A fun x A1 => ∃ a C dx fs v, x = .ref a ∧ RO A1 a (.ins C dx fs) ∧ FOk K C f ∧ fs.lookup f = some v ∧ Φ v A1) : GE (tFld K te f) σ A Φ := fun H Q a p =>
  h H _ a fun x A1 H1 a1 ⟨b, C, dx, fs, v, e, r, c, l, k⟩ => ⟨b, C, dx, fs, v, e, r H1 a1, c.1, c.2, l, p _ A1 H1 a1 k⟩
theorem gs_fld {ta tv : TE} {f : Str} {nx : L2.St → SH → Prop} {rt : V → SH → Prop} {bk ct : L2.St → SH → Prop} (h : GE tv σ A fun y A1 => GE ta σ A1 fun x A2 => ∃ a C dx fs B, x = .ref a ∧ Pull A2 (sg a (.ins C dx fs)) B ∧ FOk K C f ∧ fs.length < 1000 ∧ nx σ (sg a (.ins C dx (putF f y fs)) :: B)) : GS (sFld K ta tv f) ⟨nx, rt, bk, ct⟩ σ A := fun H E a im =>
  h H _ a fun y A1 H1 a1 h1 => h1 H1 _ a1 fun x A2 H2 a2 ⟨b, C, dx, fs, B, e, pl, c, l, k⟩ => ⟨b, C, dx, fs, e, (pl.has a2).at, c.1, c.2, l, im.nx _ _ _ (pl.has a2).set k⟩
theorem gs_fldaug {ta tv : TE} {f : Str} {nx : L2.St → SH → Prop} {rt : V → SH → Prop} {bk ct : L2.St → SH → Prop} {rd : V → V → Hp → VK → Prop} (h : GE ta σ A fun x A1 => ∃ a C dx fs v, x = .ref a ∧ RO A1 a (.ins C dx fs) ∧ FOk K C f ∧ fs.lookup f = some v ∧ GE tv σ A1 fun y A2 => GR rd v y A2 fun z A3 =>
    ∃ dx fs B, Pull A3 (sg a (.ins C dx fs)) B ∧ fs.length < 1000 ∧ nx σ (sg a (.ins C dx (putF f z fs)) :: B)) : GS (sFldAug K ta tv rd f) ⟨nx, rt, bk, ct⟩ σ A := fun H E a im =>
  h H _ a fun x A1 H1 a1 ⟨b, C, dx, fs, v, e, r, c, l, h1⟩ => ⟨b, C, dx, fs, v, e, r H1 a1, c.1, c.2, l, h1 H1 _ a1 fun y A2 H2 a2 h2 => h2 H2 _ a2 fun z A3 H3 a3 ⟨dx', fs', B, pl, l', k⟩ =>
    ⟨dx', fs', (pl.has a3).at, l', im.nx _ _ _ (pl.has a3).set k⟩⟩
theorem gs_aug {nx : L2.St → SH → Prop} {rt : V → SH → Prop} {bk ct : L2.St → SH → Prop} {n : Nat} {te : TE} {ti : TIp} (hg : Get1 σ n x) (h : GE te σ A fun y A1 => GR ti x y A1 fun z A2 => GG (gName n) z σ A2 nx) : GS (tAug n te ti) ⟨nx, rt, bk, ct⟩ σ A := fun H E a im =>
  ⟨x, hg, h H _ a fun y A1 H1 a1 h1 => h1 H1 _ a1 fun z A2 H2 a2 h2 => h2 H2 _ a2 im.nx⟩
theorem gr_ipI {f : Int → Int → Int} (k : Φ (.int (f i j)) A) : GR (ipI f) (.int i) (.int j) A Φ := fun H Q a p => ⟨i, j, rfl, rfl, p _ A H a k⟩
/-- the truth of a value as a test -/
def tTru (K : PySem.W.Frag) (ta : TE) : TT := fun σ H Q => ta σ H fun x H' => ∃ k, TruV K x H' k ∧ Q k H'
theorem gs_never {nx : L2.St → SH → Prop} {rt : V → SH → Prop} {bk ct : L2.St → SH → Prop} (h : False) : GS tNever ⟨nx, rt, bk, ct⟩ σ A := h.elim

/-! ### comprehensions -/
def GLC (J : It) (g : TG) (tt : TT) (te : TE) (vs : List Nat) (σ : L2.St) (A : SH) (Φ : V → SH → Prop) : Prop := ∀ H1 Q, Has H1 A → Post Φ Q → ∀ D, H1 D = none → ∃ W : Nat → Nat → Hp → Prop, (∃ m, W 0 m (upd H1 D (.lst []))) ∧ ∀ i m H, W i m H →
  (J.stop i H ∧ Q (.ref D) H) ∨ (J.go i H ∧ ∃ Nx : Hp → Prop, (∀ H', Nx H' → ∃ m', m' < m ∧ W (i + 1) m' H') ∧ ∀ x H', J.yld i H x H' → g x (wipe σ vs) H' fun σ2 H2 => wipe σ2 vs = wipe σ vs ∧ tt σ2 H2 fun b H3 =>
    if b = true then te σ2 H3 fun y H4 => ∃ acc, H4 D = some (.lst acc) ∧ acc.length < sizeLine ∧ Nx (upd H4 D (.lst (acc ++ [y]))) else Nx H3)
theorem ge_lc {wi : TI} {g : TG} {tt : TT} {te : TE} {vs : List Nat} (h : GI wi σ A fun J A1 => GLC J g tt te vs σ A1 Φ) : GE (tLc wi g tt te vs) σ A Φ := fun H Q a p => h H _ a fun J A1 H1 a1 h1 => h1 H1 Q a1 p
theorem gt_yes {Ψ : Bool → SH → Prop} (k : Ψ true A) : GT tYes σ A Ψ := fun H Q a p => p true A H a k
/-- behind a turn: the new list still holds acc, the rest is as wanted for acc' -/
def CT (N : List V → SH → Prop) (D : Addr) (acc acc' : List V) : SH → Prop := fun A => ∀ H, Has H A → ∃ B, Has H (sg D (.lst acc) :: B) ∧ N acc' B
theorem CT.pull {N : List V → SH → Prop} {D : Addr} {acc acc' : List V} (p : Pull A (sg D (.lst acc)) B) (n : N acc' B) : CT N D acc acc' A := fun H h => ⟨B, p.has h, n⟩
theorem CT.le {N : List V → SH → Prop} {D : Addr} {acc acc' : List V} (l : Le (sg D (.lst acc) :: B) A) (n : N acc' B) : CT N D acc acc' A := fun H h => ⟨B, l H h, n⟩
theorem CT.blk {N : List V → SH → Prop} {D : Addr} {acc acc' : List V} {xs : SH} (l : Le (xs ++ sg D (.lst acc) :: B) A) (n : ∀ h, (∀ y ∈ xs, Sub y h) → N acc' (h :: B)) : CT N D acc acc' A := fun H hA => by
  obtain ⟨h, a, s, _⟩ := S.blk (l H hA)
  exact ⟨h :: B, Pull.has (.tail .head) a, n h s⟩
/-- one turn -/
def Turn1 (g : TG) (tt : TT) (te : TE) (vs : List Nat) (σw : L2.St) (D : Addr) (acc : List V) (x : V) (A : SH) (N : List V → SH → Prop) : Prop :=
  GG g x σw (sg D (.lst acc) :: A) fun σ2 A2 => Wi σ2 vs σw ∧ GT tt σ2 A2 fun b A3 => (b = true → GE te σ2 A3 fun y => CT N D acc (acc ++ [y])) ∧ (b = false → CT N D acc acc A3)
theorem turn1_run {g : TG} {tt : TT} {te : TE} {vs : List Nat} {σw : L2.St} {D : Addr} {acc : List V} {x : V} {N : List V → SH → Prop} {Nx : Hp → Prop} {H : Hp} (hz : acc.length < sizeLine) (h : Turn1 g tt te vs σw D acc x A N) (a : Has H (sg D (.lst acc) :: A))
    (hN : ∀ acc' A' H', acc'.length ≤ acc.length + 1 → Has H' (sg D (.lst acc') :: A') → N acc' A' → Nx H') : g x σw H fun σ2 H2 => wipe σ2 vs = σw ∧ tt σ2 H2 fun b H3 =>
      if b = true then te σ2 H3 fun y H4 => ∃ acc, H4 D = some (.lst acc) ∧ acc.length < sizeLine ∧ Nx (upd H4 D (.lst (acc ++ [y]))) else Nx H3 := by
  refine h H _ a fun σ2 A2 H2 a2 ⟨hw, h2⟩ => ⟨hw, h2 H2 _ a2 fun b A3 H3 a3 h3 => ?_⟩
  cases b with
  | true =>
    rw [if_pos rfl]
    exact h3.1 rfl H3 _ a3 fun y A4 H4 a4 c => by
      obtain ⟨A5, b, n⟩ := c H4 a4
      exact ⟨acc, b.at, hz, hN _ A5 _ (by simp) b.set n⟩
  | false =>
    rw [if_neg Bool.false_ne_true]
    obtain ⟨A5, b, n⟩ := h3.2 rfl H3 a3
    exact hN _ A5 H3 (Nat.le_succ _) b n
theorem glc_list {g : TG} {tt : TT} {te : TE} {vs : List Nat} {σw : L2.St} (Pv : Nat → List V → SH → Prop) (hw : Wi σ vs σw) (h0 : Pv 0 [] A) (hz : xs.length < sizeLine) (hl : ∀ i acc A, i ≤ xs.length → Pv i acc A → RL K A p xs)
    (hs : ∀ i x acc A D, xs[i]? = some x → acc.length ≤ i → Pv i acc A → Turn1 g tt te vs σw D acc x A (Pv (i + 1))) (hd : ∀ acc A D, acc.length ≤ xs.length → Pv xs.length acc A → Φ (.ref D) (sg D (.lst acc) :: A)) : GLC (Itl K p) g tt te vs σ A Φ := by
  intro H1 Q a ps D hD
  have e : wipe σ vs = σw := hw
  refine lc_list (K := K) (a := p) (xs := xs) (Qd := fun H => Q (.ref D) H) (fun i H => ∃ acc A, Has H (sg D (.lst acc) :: A) ∧ acc.length ≤ i ∧ Pv i acc A) ⟨[], A, a.new hD, Nat.le_refl _, h0⟩ (fun i H hi ⟨acc, A, x, _, q⟩ => hl i acc A hi q H x.tail) ?_ ?_
  · rintro i x H hx ⟨acc, A, hA, hk, q⟩
    have hi := (List.getElem?_eq_some_iff.mp hx).1
    rw [e]
    exact turn1_run (by omega) (hs i x acc A D hx hk q) hA fun acc' A' H' hk' a' n => ⟨acc', A', a', by omega, n⟩
  · rintro H ⟨acc, A, hA, hk, q⟩
    exact ps _ _ _ hA (hd acc A D hk q)
theorem glc_tup {g : TG} {tt : TT} {te : TE} {vs : List Nat} {σw : L2.St} (Pv : Nat → List V → SH → Prop) (hw : Wi σ vs σw) (h0 : Pv 0 [] A) (hz : xs.length < sizeLine) (hl : ∀ i acc A, i ≤ xs.length → Pv i acc A → RT K A p xs)
    (hs : ∀ i x acc A D, xs[i]? = some x → acc.length ≤ i → Pv i acc A → Turn1 g tt te vs σw D acc x A (Pv (i + 1))) (hd : ∀ acc A D, acc.length ≤ xs.length → Pv xs.length acc A → Φ (.ref D) (sg D (.lst acc) :: A)) : GLC (Itt K p) g tt te vs σ A Φ := by
  intro H1 Q a ps D hD
  have e : wipe σ vs = σw := hw
  refine lc_tup (K := K) (a := p) (xs := xs) (Qd := fun H => Q (.ref D) H) (fun i H => ∃ acc A, Has H (sg D (.lst acc) :: A) ∧ acc.length ≤ i ∧ Pv i acc A) ⟨[], A, a.new hD, Nat.le_refl _, h0⟩ (fun i H hi ⟨acc, A, x, _, q⟩ => hl i acc A hi q H x.tail) ?_ ?_
  · rintro i x H hx ⟨acc, A, hA, hk, q⟩
    have hi := (List.getElem?_eq_some_iff.mp hx).1
    rw [e]
    exact turn1_run (by omega) (hs i x acc A D hx hk q) hA fun acc' A' H' hk' a' n => ⟨acc', A', a', by omega, n⟩
  · rintro H ⟨acc, A, hA, hk, q⟩
    exact ps _ _ _ hA (hd acc A D hk q)
theorem glc_range {lo : Int} {n : Nat} {g : TG} {tt : TT} {te : TE} {vs : List Nat} {σw : L2.St} (Pv : Nat → List V → SH → Prop) (hw : Wi σ vs σw) (h0 : Pv 0 [] A) (hz : n < sizeLine)
    (hs : ∀ i acc A D, i < n → acc.length ≤ i → Pv i acc A → Turn1 g tt te vs σw D acc (.int (lo + i)) A (Pv (i + 1))) (hd : ∀ acc A D, acc.length ≤ n → Pv n acc A → Φ (.ref D) (sg D (.lst acc) :: A)) : GLC (Itr lo n) g tt te vs σ A Φ := by
  intro H1 Q a ps D hD
  have e : wipe σ vs = σw := hw
  refine lc_range (lo := lo) (n := n) (Qd := fun H => Q (.ref D) H) (fun i H => ∃ acc A, Has H (sg D (.lst acc) :: A) ∧ acc.length ≤ i ∧ Pv i acc A) ⟨[], A, a.new hD, Nat.le_refl _, h0⟩ ?_ ?_
  · rintro i H hi ⟨acc, A, hA, hk, q⟩
    rw [e]
    exact turn1_run (by omega) (hs i acc A D hi hk q) hA fun acc' A' H' hk' a' n => ⟨acc', A', a', by omega, n⟩
  · rintro H ⟨acc, A, hA, hk, q⟩
    exact ps _ _ _ hA (hd acc A D hk q)
end
end S

namespace S
open PySem L2
section
variable {X : Cx}
/-- a constant of the module -/
theorem pe_gl {x : Str} {v : V} {pos : Pos} (h : ∃ u, X.mg x = some u ∧ RelV v u) (hg : Gl X x := by rfl) (hd : (x == ("__debug__" : Str)) = false := by decide) : PE X (.Name x pos) (tC v) := by
  obtain ⟨u, h1, h2⟩ := h
  exact pe_glob hg h1 h2 hd
/-- what the top has written of an own exception class without an __init__ -/
structure XOk (K : PySem.W.Frag) (mg : Str → Option Value) (x : Str) (C : Addr) : Prop where
  g : mg x = some (.ref C)
  x : PySem.W.excIn K C [.type "ValueError", .type "Exception", .type "BaseException", .type "object"] "ValueError.__new__" = true
  k : PySem.W.keepIn K (.ref C) = true
  b : PySem.W.subIn K (.ref C) (.type "BaseException") = some true
  t : PySem.W.typeIn K (.ref C) = some (.type "type")
def tRais (C : Addr) (W : WX) : TS := fun _ σ H => W (.ref C) none σ H
theorem ps_rais {C : Addr} {W : WX} {x m : Str} {j : Nat} {p p2 pos pos2 : Pos} (hc : X.calm = true) (tk : Takes X W) (x0 : XOk X.K X.mg x C) (hg : Gl X x) (hd : (x == ("__debug__" : Str)) = false := by decide) :
    PS X (.Raise (some (.Call (.Name x p) [.Constant (.str m) j p2] [] pos)) none pos2) (tRais C W) :=
  ps_raise hc tk (pmk_own PySem.F.excBase_ValueError x0.x x0.g x0.k (raises_own x0.b x0.t) hg hd)
end
theorem gs_rais {C : Addr} {W : WX} {Ψ : Value → Option Addr → L2.St → SH → Prop} {nx : L2.St → SH → Prop} {rt : V → SH → Prop} {bk ct : L2.St → SH → Prop} {σ : L2.St} {A : SH} (hx : WPost Ψ W) (k : Ψ (.ref C) none σ A) : GS (tRais C W) ⟨nx, rt, bk, ct⟩ σ A := fun H E a im => hx _ _ σ A H a k
/-! ### for over a text -/
theorem gi_str {σ : L2.St} {A : SH} {te : TE} {Φ : It → SH → Prop} (h : GE te σ A fun v A' => ∃ x, v = .str x ∧ Φ (Its x) A') : GI (iStr te) σ A Φ := fun H Q x p =>
  h H _ x fun v A' H' x' ⟨z, e, k⟩ => ⟨z, e, p _ A' H' x' k⟩
theorem gf_str {z : Str} {g : TG} {t : TS} {nx : L2.St → SH → Prop} {rt : V → SH → Prop} {bk ct : L2.St → SH → Prop} {σ : L2.St} {A : SH} (Pv : Nat → L2.St → SH → Prop) (h0 : Cl (Pv 0) σ A)
    (hs : ∀ i c σ A, z.cps[i]? = some c → Pv i σ A → GG g (.str ⟨#[c]⟩) σ A fun σ' A' => GS t ⟨Cl (Pv (i + 1)), rt, nx, Cl (Pv (i + 1))⟩ σ' A')
    (hd : ∀ σ A, Pv z.cps.size σ A → nx σ A) : GF (Its z) g t ⟨nx, rt, bk, ct⟩ σ A := fun H E x im => by
  refine ⟨fun i m σ H => m = z.cps.size - i ∧ i ≤ z.cps.size ∧ ∃ A, Has H A ∧ Pv i σ A, ⟨z.cps.size, by simp, Nat.zero_le _, h0 H x⟩, ?_⟩
  rintro i m σ H ⟨rfl, hi, A, x, p⟩
  by_cases hlt : i < z.cps.size
  · refine .inr ⟨hlt, fun σ' H' => ∃ A, Has H' A ∧ Pv (i + 1) σ' A, fun σ' H' p' => ⟨z.cps.size - (i + 1), by omega, rfl, hlt, p'⟩, fun y H' yl => ?_⟩
    obtain ⟨rfl, c, hc, rfl⟩ := yl
    exact hs i c σ A hc p _ _ x fun σ' A' H' x' k => k H' _ x' ⟨fun σ A H x p => p H x, im.rt, im.nx, fun σ A H x p => p H x⟩
  · have e : i = z.cps.size := by omega
    subst e
    exact .inl ⟨Nat.le_refl _, im.nx σ A H x (hd σ A p)⟩
end S

namespace S
open PySem L2
/-! ### slots by their numbers -/
theorem gx0 {v : V} {r : L2.St} : Get1 (some v :: r) 0 v := rfl
theorem sx0 {x o : Option V} {r : L2.St} : Set1 (x :: r) 0 o (o :: r) := rfl
theorem gx1 {x0 : Option V} {v : V} {r : L2.St} : Get1 (x0 :: some v :: r) 1 v := rfl
theorem sx1 {x0 : Option V} {x o : Option V} {r : L2.St} : Set1 (x0 :: x :: r) 1 o (x0 :: o :: r) := rfl
theorem gx2 {x0 x1 : Option V} {v : V} {r : L2.St} : Get1 (x0 :: x1 :: some v :: r) 2 v := rfl
theorem sx2 {x0 x1 : Option V} {x o : Option V} {r : L2.St} : Set1 (x0 :: x1 :: x :: r) 2 o (x0 :: x1 :: o :: r) := rfl
theorem gx3 {x0 x1 x2 : Option V} {v : V} {r : L2.St} : Get1 (x0 :: x1 :: x2 :: some v :: r) 3 v := rfl
theorem sx3 {x0 x1 x2 : Option V} {x o : Option V} {r : L2.St} : Set1 (x0 :: x1 :: x2 :: x :: r) 3 o (x0 :: x1 :: x2 :: o :: r) := rfl
theorem gx4 {x0 x1 x2 x3 : Option V} {v : V} {r : L2.St} : Get1 (x0 :: x1 :: x2 :: x3 :: some v :: r) 4 v := rfl
theorem sx4 {x0 x1 x2 x3 : Option V} {x o : Option V} {r : L2.St} : Set1 (x0 :: x1 :: x2 :: x3 :: x :: r) 4 o (x0 :: x1 :: x2 :: x3 :: o :: r) := rfl
theorem gx5 {x0 x1 x2 x3 x4 : Option V} {v : V} {r : L2.St} : Get1 (x0 :: x1 :: x2 :: x3 :: x4 :: some v :: r) 5 v := rfl
theorem sx5 {x0 x1 x2 x3 x4 : Option V} {x o : Option V} {r : L2.St} : Set1 (x0 :: x1 :: x2 :: x3 :: x4 :: x :: r) 5 o (x0 :: x1 :: x2 :: x3 :: x4 :: o :: r) := rfl
theorem gx6 {x0 x1 x2 x3 x4 x5 : Option V} {v : V} {r : L2.St} : Get1 (x0 :: x1 :: x2 :: x3 :: x4 :: x5 :: some v :: r) 6 v := rfl
theorem sx6 {x0 x1 x2 x3 x4 x5 : Option V} {x o : Option V} {r : L2.St} : Set1 (x0 :: x1 :: x2 :: x3 :: x4 :: x5 :: x :: r) 6 o (x0 :: x1 :: x2 :: x3 :: x4 :: x5 :: o :: r) := rfl
theorem gx7 {x0 x1 x2 x3 x4 x5 x6 : Option V} {v : V} {r : L2.St} : Get1 (x0 :: x1 :: x2 :: x3 :: x4 :: x5 :: x6 :: some v :: r) 7 v := rfl
theorem sx7 {x0 x1 x2 x3 x4 x5 x6 : Option V} {x o : Option V} {r : L2.St} : Set1 (x0 :: x1 :: x2 :: x3 :: x4 :: x5 :: x6 :: x :: r) 7 o (x0 :: x1 :: x2 :: x3 :: x4 :: x5 :: x6 :: o :: r) := rfl
theorem gx8 {x0 x1 x2 x3 x4 x5 x6 x7 : Option V} {v : V} {r : L2.St} : Get1 (x0 :: x1 :: x2 :: x3 :: x4 :: x5 :: x6 :: x7 :: some v :: r) 8 v := rfl
theorem sx8 {x0 x1 x2 x3 x4 x5 x6 x7 : Option V} {x o : Option V} {r : L2.St} : Set1 (x0 :: x1 :: x2 :: x3 :: x4 :: x5 :: x6 :: x7 :: x :: r) 8 o (x0 :: x1 :: x2 :: x3 :: x4 :: x5 :: x6 :: x7 :: o :: r) := rfl
theorem gx9 {x0 x1 x2 x3 x4 x5 x6 x7 x8 : Option V} {v : V} {r : L2.St} : Get1 (x0 :: x1 :: x2 :: x3 :: x4 :: x5 :: x6 :: x7 :: x8 :: some v :: r) 9 v := rfl
theorem sx9 {x0 x1 x2 x3 x4 x5 x6 x7 x8 : Option V} {x o : Option V} {r : L2.St} : Set1 (x0 :: x1 :: x2 :: x3 :: x4 :: x5 :: x6 :: x7 :: x8 :: x :: r) 9 o (x0 :: x1 :: x2 :: x3 :: x4 :: x5 :: x6 :: x7 :: x8 :: o :: r) := rfl
theorem gx10 {x0 x1 x2 x3 x4 x5 x6 x7 x8 x9 : Option V} {v : V} {r : L2.St} : Get1 (x0 :: x1 :: x2 :: x3 :: x4 :: x5 :: x6 :: x7 :: x8 :: x9 :: some v :: r) 10 v := rfl
theorem sx10 {x0 x1 x2 x3 x4 x5 x6 x7 x8 x9 : Option V} {x o : Option V} {r : L2.St} : Set1 (x0 :: x1 :: x2 :: x3 :: x4 :: x5 :: x6 :: x7 :: x8 :: x9 :: x :: r) 10 o (x0 :: x1 :: x2 :: x3 :: x4 :: x5 :: x6 :: x7 :: x8 :: x9 :: o :: r) := rfl
theorem gx11 {x0 x1 x2 x3 x4 x5 x6 x7 x8 x9 x10 : Option V} {v : V} {r : L2.St} : Get1 (x0 :: x1 :: x2 :: x3 :: x4 :: x5 :: x6 :: x7 :: x8 :: x9 :: x10 :: some v :: r) 11 v := rfl
theorem sx11 {x0 x1 x2 x3 x4 x5 x6 x7 x8 x9 x10 : Option V} {x o : Option V} {r : L2.St} : Set1 (x0 :: x1 :: x2 :: x3 :: x4 :: x5 :: x6 :: x7 :: x8 :: x9 :: x10 :: x :: r) 11 o (x0 :: x1 :: x2 :: x3 :: x4 :: x5 :: x6 :: x7 :: x8 :: x9 :: x10 :: o :: r) := rfl
theorem gx12 {x0 x1 x2 x3 x4 x5 x6 x7 x8 x9 x10 x11 : Option V} {v : V} {r : L2.St} : Get1 (x0 :: x1 :: x2 :: x3 :: x4 :: x5 :: x6 :: x7 :: x8 :: x9 :: x10 :: x11 :: some v :: r) 12 v := rfl
theorem sx12 {x0 x1 x2 x3 x4 x5 x6 x7 x8 x9 x10 x11 : Option V} {x o : Option V} {r : L2.St} : Set1 (x0 :: x1 :: x2 :: x3 :: x4 :: x5 :: x6 :: x7 :: x8 :: x9 :: x10 :: x11 :: x :: r) 12 o (x0 :: x1 :: x2 :: x3 :: x4 :: x5 :: x6 :: x7 :: x8 :: x9 :: x10 :: x11 :: o :: r) := rfl
theorem gx13 {x0 x1 x2 x3 x4 x5 x6 x7 x8 x9 x10 x11 x12 : Option V} {v : V} {r : L2.St} : Get1 (x0 :: x1 :: x2 :: x3 :: x4 :: x5 :: x6 :: x7 :: x8 :: x9 :: x10 :: x11 :: x12 :: some v :: r) 13 v := rfl
theorem sx13 {x0 x1 x2 x3 x4 x5 x6 x7 x8 x9 x10 x11 x12 : Option V} {x o : Option V} {r : L2.St} : Set1 (x0 :: x1 :: x2 :: x3 :: x4 :: x5 :: x6 :: x7 :: x8 :: x9 :: x10 :: x11 :: x12 :: x :: r) 13 o (x0 :: x1 :: x2 :: x3 :: x4 :: x5 :: x6 :: x7 :: x8 :: x9 :: x10 :: x11 :: x12 :: o :: r) := rfl
theorem gx14 {x0 x1 x2 x3 x4 x5 x6 x7 x8 x9 x10 x11 x12 x13 : Option V} {v : V} {r : L2.St} : Get1 (x0 :: x1 :: x2 :: x3 :: x4 :: x5 :: x6 :: x7 :: x8 :: x9 :: x10 :: x11 :: x12 :: x13 :: some v :: r) 14 v := rfl
theorem sx14 {x0 x1 x2 x3 x4 x5 x6 x7 x8 x9 x10 x11 x12 x13 : Option V} {x o : Option V} {r : L2.St} : Set1 (x0 :: x1 :: x2 :: x3 :: x4 :: x5 :: x6 :: x7 :: x8 :: x9 :: x10 :: x11 :: x12 :: x13 :: x :: r) 14 o (x0 :: x1 :: x2 :: x3 :: x4 :: x5 :: x6 :: x7 :: x8 :: x9 :: x10 :: x11 :: x12 :: x13 :: o :: r) := rfl
theorem gx15 {x0 x1 x2 x3 x4 x5 x6 x7 x8 x9 x10 x11 x12 x13 x14 : Option V} {v : V} {r : L2.St} : Get1 (x0 :: x1 :: x2 :: x3 :: x4 :: x5 :: x6 :: x7 :: x8 :: x9 :: x10 :: x11 :: x12 :: x13 :: x14 :: some v :: r) 15 v := rfl
theorem sx15 {x0 x1 x2 x3 x4 x5 x6 x7 x8 x9 x10 x11 x12 x13 x14 : Option V} {x o : Option V} {r : L2.St} : Set1 (x0 :: x1 :: x2 :: x3 :: x4 :: x5 :: x6 :: x7 :: x8 :: x9 :: x10 :: x11 :: x12 :: x13 :: x14 :: x :: r) 15 o (x0 :: x1 :: x2 :: x3 :: x4 :: x5 :: x6 :: x7 :: x8 :: x9 :: x10 :: x11 :: x12 :: x13 :: x14 :: o :: r) := rfl
theorem gx16 {x0 x1 x2 x3 x4 x5 x6 x7 x8 x9 x10 x11 x12 x13 x14 x15 : Option V} {v : V} {r : L2.St} : Get1 (x0 :: x1 :: x2 :: x3 :: x4 :: x5 :: x6 :: x7 :: x8 :: x9 :: x10 :: x11 :: x12 :: x13 :: x14 :: x15 :: some v :: r) 16 v := rfl
theorem sx16 {x0 x1 x2 x3 x4 x5 x6 x7 x8 x9 x10 x11 x12 x13 x14 x15 : Option V} {x o : Option V} {r : L2.St} : Set1 (x0 :: x1 :: x2 :: x3 :: x4 :: x5 :: x6 :: x7 :: x8 :: x9 :: x10 :: x11 :: x12 :: x13 :: x14 :: x15 :: x :: r) 16 o (x0 :: x1 :: x2 :: x3 :: x4 :: x5 :: x6 :: x7 :: x8 :: x9 :: x10 :: x11 :: x12 :: x13 :: x14 :: x15 :: o :: r) := rfl
theorem gx17 {x0 x1 x2 x3 x4 x5 x6 x7 x8 x9 x10 x11 x12 x13 x14 x15 x16 : Option V} {v : V} {r : L2.St} : Get1 (x0 :: x1 :: x2 :: x3 :: x4 :: x5 :: x6 :: x7 :: x8 :: x9 :: x10 :: x11 :: x12 :: x13 :: x14 :: x15 :: x16 :: some v :: r) 17 v := rfl
theorem sx17 {x0 x1 x2 x3 x4 x5 x6 x7 x8 x9 x10 x11 x12 x13 x14 x15 x16 : Option V} {x o : Option V} {r : L2.St} : Set1 (x0 :: x1 :: x2 :: x3 :: x4 :: x5 :: x6 :: x7 :: x8 :: x9 :: x10 :: x11 :: x12 :: x13 :: x14 :: x15 :: x16 :: x :: r) 17 o (x0 :: x1 :: x2 :: x3 :: x4 :: x5 :: x6 :: x7 :: x8 :: x9 :: x10 :: x11 :: x12 :: x13 :: x14 :: x15 :: x16 :: o :: r) := rfl
theorem gx18 {x0 x1 x2 x3 x4 x5 x6 x7 x8 x9 x10 x11 x12 x13 x14 x15 x16 x17 : Option V} {v : V} {r : L2.St} : Get1 (x0 :: x1 :: x2 :: x3 :: x4 :: x5 :: x6 :: x7 :: x8 :: x9 :: x10 :: x11 :: x12 :: x13 :: x14 :: x15 :: x16 :: x17 :: some v :: r) 18 v := rfl
theorem sx18 {x0 x1 x2 x3 x4 x5 x6 x7 x8 x9 x10 x11 x12 x13 x14 x15 x16 x17 : Option V} {x o : Option V} {r : L2.St} : Set1 (x0 :: x1 :: x2 :: x3 :: x4 :: x5 :: x6 :: x7 :: x8 :: x9 :: x10 :: x11 :: x12 :: x13 :: x14 :: x15 :: x16 :: x17 :: x :: r) 18 o (x0 :: x1 :: x2 :: x3 :: x4 :: x5 :: x6 :: x7 :: x8 :: x9 :: x10 :: x11 :: x12 :: x13 :: x14 :: x15 :: x16 :: x17 :: o :: r) := rfl
theorem gx19 {x0 x1 x2 x3 x4 x5 x6 x7 x8 x9 x10 x11 x12 x13 x14 x15 x16 x17 x18 : Option V} {v : V} {r : L2.St} : Get1 (x0 :: x1 :: x2 :: x3 :: x4 :: x5 :: x6 :: x7 :: x8 :: x9 :: x10 :: x11 :: x12 :: x13 :: x14 :: x15 :: x16 :: x17 :: x18 :: some v :: r) 19 v := rfl
theorem sx19 {x0 x1 x2 x3 x4 x5 x6 x7 x8 x9 x10 x11 x12 x13 x14 x15 x16 x17 x18 : Option V} {x o : Option V} {r : L2.St} : Set1 (x0 :: x1 :: x2 :: x3 :: x4 :: x5 :: x6 :: x7 :: x8 :: x9 :: x10 :: x11 :: x12 :: x13 :: x14 :: x15 :: x16 :: x17 :: x18 :: x :: r) 19 o (x0 :: x1 :: x2 :: x3 :: x4 :: x5 :: x6 :: x7 :: x8 :: x9 :: x10 :: x11 :: x12 :: x13 :: x14 :: x15 :: x16 :: x17 :: x18 :: o :: r) := rfl
theorem gx20 {x0 x1 x2 x3 x4 x5 x6 x7 x8 x9 x10 x11 x12 x13 x14 x15 x16 x17 x18 x19 : Option V} {v : V} {r : L2.St} : Get1 (x0 :: x1 :: x2 :: x3 :: x4 :: x5 :: x6 :: x7 :: x8 :: x9 :: x10 :: x11 :: x12 :: x13 :: x14 :: x15 :: x16 :: x17 :: x18 :: x19 :: some v :: r) 20 v := rfl
theorem sx20 {x0 x1 x2 x3 x4 x5 x6 x7 x8 x9 x10 x11 x12 x13 x14 x15 x16 x17 x18 x19 : Option V} {x o : Option V} {r : L2.St} : Set1 (x0 :: x1 :: x2 :: x3 :: x4 :: x5 :: x6 :: x7 :: x8 :: x9 :: x10 :: x11 :: x12 :: x13 :: x14 :: x15 :: x16 :: x17 :: x18 :: x19 :: x :: r) 20 o (x0 :: x1 :: x2 :: x3 :: x4 :: x5 :: x6 :: x7 :: x8 :: x9 :: x10 :: x11 :: x12 :: x13 :: x14 :: x15 :: x16 :: x17 :: x18 :: x19 :: o :: r) := rfl
theorem gx21 {x0 x1 x2 x3 x4 x5 x6 x7 x8 x9 x10 x11 x12 x13 x14 x15 x16 x17 x18 x19 x20 : Option V} {v : V} {r : L2.St} : Get1 (x0 :: x1 :: x2 :: x3 :: x4 :: x5 :: x6 :: x7 :: x8 :: x9 :: x10 :: x11 :: x12 :: x13 :: x14 :: x15 :: x16 :: x17 :: x18 :: x19 :: x20 :: some v :: r) 21 v := rfl
theorem sx21 {x0 x1 x2 x3 x4 x5 x6 x7 x8 x9 x10 x11 x12 x13 x14 x15 x16 x17 x18 x19 x20 : Option V} {x o : Option V} {r : L2.St} : Set1 (x0 :: x1 :: x2 :: x3 :: x4 :: x5 :: x6 :: x7 :: x8 :: x9 :: x10 :: x11 :: x12 :: x13 :: x14 :: x15 :: x16 :: x17 :: x18 :: x19 :: x20 :: x :: r) 21 o (x0 :: x1 :: x2 :: x3 :: x4 :: x5 :: x6 :: x7 :: x8 :: x9 :: x10 :: x11 :: x12 :: x13 :: x14 :: x15 :: x16 :: x17 :: x18 :: x19 :: x20 :: o :: r) := rfl
theorem gx22 {x0 x1 x2 x3 x4 x5 x6 x7 x8 x9 x10 x11 x12 x13 x14 x15 x16 x17 x18 x19 x20 x21 : Option V} {v : V} {r : L2.St} : Get1 (x0 :: x1 :: x2 :: x3 :: x4 :: x5 :: x6 :: x7 :: x8 :: x9 :: x10 :: x11 :: x12 :: x13 :: x14 :: x15 :: x16 :: x17 :: x18 :: x19 :: x20 :: x21 :: some v :: r) 22 v := rfl
theorem sx22 {x0 x1 x2 x3 x4 x5 x6 x7 x8 x9 x10 x11 x12 x13 x14 x15 x16 x17 x18 x19 x20 x21 : Option V} {x o : Option V} {r : L2.St} : Set1 (x0 :: x1 :: x2 :: x3 :: x4 :: x5 :: x6 :: x7 :: x8 :: x9 :: x10 :: x11 :: x12 :: x13 :: x14 :: x15 :: x16 :: x17 :: x18 :: x19 :: x20 :: x21 :: x :: r) 22 o (x0 :: x1 :: x2 :: x3 :: x4 :: x5 :: x6 :: x7 :: x8 :: x9 :: x10 :: x11 :: x12 :: x13 :: x14 :: x15 :: x16 :: x17 :: x18 :: x19 :: x20 :: x21 :: o :: r) := rfl
theorem gx23 {x0 x1 x2 x3 x4 x5 x6 x7 x8 x9 x10 x11 x12 x13 x14 x15 x16 x17 x18 x19 x20 x21 x22 : Option V} {v : V} {r : L2.St} : Get1 (x0 :: x1 :: x2 :: x3 :: x4 :: x5 :: x6 :: x7 :: x8 :: x9 :: x10 :: x11 :: x12 :: x13 :: x14 :: x15 :: x16 :: x17 :: x18 :: x19 :: x20 :: x21 :: x22 :: some v :: r) 23 v := rfl
theorem sx23 {x0 x1 x2 x3 x4 x5 x6 x7 x8 x9 x10 x11 x12 x13 x14 x15 x16 x17 x18 x19 x20 x21 x22 : Option V} {x o : Option V} {r : L2.St} : Set1 (x0 :: x1 :: x2 :: x3 :: x4 :: x5 :: x6 :: x7 :: x8 :: x9 :: x10 :: x11 :: x12 :: x13 :: x14 :: x15 :: x16 :: x17 :: x18 :: x19 :: x20 :: x21 :: x22 :: x :: r) 23 o (x0 :: x1 :: x2 :: x3 :: x4 :: x5 :: x6 :: x7 :: x8 :: x9 :: x10 :: x11 :: x12 :: x13 :: x14 :: x15 :: x16 :: x17 :: x18 :: x19 :: x20 :: x21 :: x22 :: o :: r) := rfl
theorem gx24 {x0 x1 x2 x3 x4 x5 x6 x7 x8 x9 x10 x11 x12 x13 x14 x15 x16 x17 x18 x19 x20 x21 x22 x23 : Option V} {v : V} {r : L2.St} : Get1 (x0 :: x1 :: x2 :: x3 :: x4 :: x5 :: x6 :: x7 :: x8 :: x9 :: x10 :: x11 :: x12 :: x13 :: x14 :: x15 :: x16 :: x17 :: x18 :: x19 :: x20 :: x21 :: x22 :: x23 :: some v :: r) 24 v := rfl
theorem sx24 {x0 x1 x2 x3 x4 x5 x6 x7 x8 x9 x10 x11 x12 x13 x14 x15 x16 x17 x18 x19 x20 x21 x22 x23 : Option V} {x o : Option V} {r : L2.St} : Set1 (x0 :: x1 :: x2 :: x3 :: x4 :: x5 :: x6 :: x7 :: x8 :: x9 :: x10 :: x11 :: x12 :: x13 :: x14 :: x15 :: x16 :: x17 :: x18 :: x19 :: x20 :: x21 :: x22 :: x23 :: x :: r) 24 o (x0 :: x1 :: x2 :: x3 :: x4 :: x5 :: x6 :: x7 :: x8 :: x9 :: x10 :: x11 :: x12 :: x13 :: x14 :: x15 :: x16 :: x17 :: x18 :: x19 :: x20 :: x21 :: x22 :: x23 :: o :: r) := rfl
theorem gx25 {x0 x1 x2 x3 x4 x5 x6 x7 x8 x9 x10 x11 x12 x13 x14 x15 x16 x17 x18 x19 x20 x21 x22 x23 x24 : Option V} {v : V} {r : L2.St} : Get1 (x0 :: x1 :: x2 :: x3 :: x4 :: x5 :: x6 :: x7 :: x8 :: x9 :: x10 :: x11 :: x12 :: x13 :: x14 :: x15 :: x16 :: x17 :: x18 :: x19 :: x20 :: x21 :: x22 :: x23 :: x24 :: some v :: r) 25 v := rfl
theorem sx25 {x0 x1 x2 x3 x4 x5 x6 x7 x8 x9 x10 x11 x12 x13 x14 x15 x16 x17 x18 x19 x20 x21 x22 x23 x24 : Option V} {x o : Option V} {r : L2.St} : Set1 (x0 :: x1 :: x2 :: x3 :: x4 :: x5 :: x6 :: x7 :: x8 :: x9 :: x10 :: x11 :: x12 :: x13 :: x14 :: x15 :: x16 :: x17 :: x18 :: x19 :: x20 :: x21 :: x22 :: x23 :: x24 :: x :: r) 25 o (x0 :: x1 :: x2 :: x3 :: x4 :: x5 :: x6 :: x7 :: x8 :: x9 :: x10 :: x11 :: x12 :: x13 :: x14 :: x15 :: x16 :: x17 :: x18 :: x19 :: x20 :: x21 :: x22 :: x23 :: x24 :: o :: r) := rfl
theorem gx26 {x0 x1 x2 x3 x4 x5 x6 x7 x8 x9 x10 x11 x12 x13 x14 x15 x16 x17 x18 x19 x20 x21 x22 x23 x24 x25 : Option V} {v : V} {r : L2.St} : Get1 (x0 :: x1 :: x2 :: x3 :: x4 :: x5 :: x6 :: x7 :: x8 :: x9 :: x10 :: x11 :: x12 :: x13 :: x14 :: x15 :: x16 :: x17 :: x18 :: x19 :: x20 :: x21 :: x22 :: x23 :: x24 :: x25 :: some v :: r) 26 v := rfl
theorem sx26 {x0 x1 x2 x3 x4 x5 x6 x7 x8 x9 x10 x11 x12 x13 x14 x15 x16 x17 x18 x19 x20 x21 x22 x23 x24 x25 : Option V} {x o : Option V} {r : L2.St} : Set1 (x0 :: x1 :: x2 :: x3 :: x4 :: x5 :: x6 :: x7 :: x8 :: x9 :: x10 :: x11 :: x12 :: x13 :: x14 :: x15 :: x16 :: x17 :: x18 :: x19 :: x20 :: x21 :: x22 :: x23 :: x24 :: x25 :: x :: r) 26 o (x0 :: x1 :: x2 :: x3 :: x4 :: x5 :: x6 :: x7 :: x8 :: x9 :: x10 :: x11 :: x12 :: x13 :: x14 :: x15 :: x16 :: x17 :: x18 :: x19 :: x20 :: x21 :: x22 :: x23 :: x24 :: x25 :: o :: r) := rfl
theorem gx27 {x0 x1 x2 x3 x4 x5 x6 x7 x8 x9 x10 x11 x12 x13 x14 x15 x16 x17 x18 x19 x20 x21 x22 x23 x24 x25 x26 : Option V} {v : V} {r : L2.St} : Get1 (x0 :: x1 :: x2 :: x3 :: x4 :: x5 :: x6 :: x7 :: x8 :: x9 :: x10 :: x11 :: x12 :: x13 :: x14 :: x15 :: x16 :: x17 :: x18 :: x19 :: x20 :: x21 :: x22 :: x23 :: x24 :: x25 :: x26 :: some v :: r) 27 v := rfl
theorem sx27 {x0 x1 x2 x3 x4 x5 x6 x7 x8 x9 x10 x11 x12 x13 x14 x15 x16 x17 x18 x19 x20 x21 x22 x23 x24 x25 x26 : Option V} {x o : Option V} {r : L2.St} : Set1 (x0 :: x1 :: x2 :: x3 :: x4 :: x5 :: x6 :: x7 :: x8 :: x9 :: x10 :: x11 :: x12 :: x13 :: x14 :: x15 :: x16 :: x17 :: x18 :: x19 :: x20 :: x21 :: x22 :: x23 :: x24 :: x25 :: x26 :: x :: r) 27 o (x0 :: x1 :: x2 :: x3 :: x4 :: x5 :: x6 :: x7 :: x8 :: x9 :: x10 :: x11 :: x12 :: x13 :: x14 :: x15 :: x16 :: x17 :: x18 :: x19 :: x20 :: x21 :: x22 :: x23 :: x24 :: x25 :: x26 :: o :: r) := rfl
theorem gx28 {x0 x1 x2 x3 x4 x5 x6 x7 x8 x9 x10 x11 x12 x13 x14 x15 x16 x17 x18 x19 x20 x21 x22 x23 x24 x25 x26 x27 : Option V} {v : V} {r : L2.St} : Get1 (x0 :: x1 :: x2 :: x3 :: x4 :: x5 :: x6 :: x7 :: x8 :: x9 :: x10 :: x11 :: x12 :: x13 :: x14 :: x15 :: x16 :: x17 :: x18 :: x19 :: x20 :: x21 :: x22 :: x23 :: x24 :: x25 :: x26 :: x27 :: some v :: r) 28 v := rfl
theorem sx28 {x0 x1 x2 x3 x4 x5 x6 x7 x8 x9 x10 x11 x12 x13 x14 x15 x16 x17 x18 x19 x20 x21 x22 x23 x24 x25 x26 x27 : Option V} {x o : Option V} {r : L2.St} : Set1 (x0 :: x1 :: x2 :: x3 :: x4 :: x5 :: x6 :: x7 :: x8 :: x9 :: x10 :: x11 :: x12 :: x13 :: x14 :: x15 :: x16 :: x17 :: x18 :: x19 :: x20 :: x21 :: x22 :: x23 :: x24 :: x25 :: x26 :: x27 :: x :: r) 28 o (x0 :: x1 :: x2 :: x3 :: x4 :: x5 :: x6 :: x7 :: x8 :: x9 :: x10 :: x11 :: x12 :: x13 :: x14 :: x15 :: x16 :: x17 :: x18 :: x19 :: x20 :: x21 :: x22 :: x23 :: x24 :: x25 :: x26 :: x27 :: o :: r) := rfl
theorem gx29 {x0 x1 x2 x3 x4 x5 x6 x7 x8 x9 x10 x11 x12 x13 x14 x15 x16 x17 x18 x19 x20 x21 x22 x23 x24 x25 x26 x27 x28 : Option V} {v : V} {r : L2.St} : Get1 (x0 :: x1 :: x2 :: x3 :: x4 :: x5 :: x6 :: x7 :: x8 :: x9 :: x10 :: x11 :: x12 :: x13 :: x14 :: x15 :: x16 :: x17 :: x18 :: x19 :: x20 :: x21 :: x22 :: x23 :: x24 :: x25 :: x26 :: x27 :: x28 :: some v :: r) 29 v := rfl
theorem sx29 {x0 x1 x2 x3 x4 x5 x6 x7 x8 x9 x10 x11 x12 x13 x14 x15 x16 x17 x18 x19 x20 x21 x22 x23 x24 x25 x26 x27 x28 : Option V} {x o : Option V} {r : L2.St} : Set1 (x0 :: x1 :: x2 :: x3 :: x4 :: x5 :: x6 :: x7 :: x8 :: x9 :: x10 :: x11 :: x12 :: x13 :: x14 :: x15 :: x16 :: x17 :: x18 :: x19 :: x20 :: x21 :: x22 :: x23 :: x24 :: x25 :: x26 :: x27 :: x28 :: x :: r) 29 o (x0 :: x1 :: x2 :: x3 :: x4 :: x5 :: x6 :: x7 :: x8 :: x9 :: x10 :: x11 :: x12 :: x13 :: x14 :: x15 :: x16 :: x17 :: x18 :: x19 :: x20 :: x21 :: x22 :: x23 :: x24 :: x25 :: x26 :: x27 :: x28 :: o :: r) := rfl
/-! ### named leaves: one head a question -/
section
variable {K : PySem.W.Frag} {σ σ' : L2.St} {A B C : SH} {Φ : V → SH → Prop} {v x y : V} {i j : Int} {p q : Addr} {xs ys : List V} {ta tb te : TE} {t u : TA} {nx : L2.St → SH → Prop} {rt : V → SH → Prop} {bk ct : L2.St → SH → Prop}
def NB (Ψ : Bool → SH → Prop) : V → SH → Prop := fun x A => ∃ k, x = .bl k ∧ Ψ k A
theorem nb {Ψ : Bool → SH → Prop} {b : Bool} (k : Ψ b A) : NB Ψ (.bl b) A := ⟨b, rfl, k⟩
theorem gt_test' {Ψ : Bool → SH → Prop} (h : GE te σ A (NB Ψ)) : GT (tTest te) σ A Ψ := gt_test h
theorem gt_B' {Ψ : Bool → SH → Prop} (h : GE te σ A (NB Ψ)) : GT (tB te) σ A Ψ := gt_B h
theorem ge_andV' (h : GE ta σ A (NB fun c A1 => (c = true → GE tb σ A1 Φ) ∧ (c = false → Φ (.bl false) A1))) : GE (tAndV ta tb) σ A Φ := ge_andV h
theorem ge_orV' (h : GE ta σ A (NB fun c A1 => (c = true → Φ (.bl true) A1) ∧ (c = false → GE tb σ A1 Φ))) : GE (tOrV ta tb) σ A Φ := ge_orV h
theorem ge_notV' (h : GE ta σ A (NB fun c A1 => Φ (.bl (!c)) A1)) : GE (tNotV ta) σ A Φ := ge_notV h
theorem ge_chain' {r r' : R2} {tc : TE} (h : GE ta σ A fun x A1 => GE tb σ A1 fun y A2 => GR r x y A2 (NB fun c A3 => (c = true → GE tc σ A3 fun w A4 => GR r' y w A4 Φ) ∧ (c = false → Φ (.bl false) A3))) : GE (tChain r r' ta tb tc) σ A Φ := ge_chain h
def NNew (o : List V → HO) (Φ : V → SH → Prop) : List V → SH → Prop := fun xs A1 => xs.length ≤ sizeLine ∧ ∀ p, Φ (.ref p) (sg p (o xs) :: A1)
theorem nnew {o : List V → HO} (h : xs.length ≤ 1000) (k : ∀ p, Φ (.ref p) (sg p (o xs) :: A)) : NNew o Φ xs A := ⟨Nat.le_trans h (by decide), k⟩
theorem ge_tup' (h : GA t σ A (NNew .tup Φ)) : GE (tTup t) σ A Φ := ge_tup h
theorem ge_lst' (h : GA t σ A (NNew .lst Φ)) : GE (tLst t) σ A Φ := ge_lst h
def NFld (K : PySem.W.Frag) (f : Str) (Φ : V → SH → Prop) : V → SH → Prop := fun x A1 => ∃ a C dx fs v, x = .ref a ∧ RO A1 a (.ins C dx fs) ∧ FOk K C f ∧ fs.lookup f = some v ∧ Φ v A1
theorem nfld {f : Str} {C dx : Addr} {fs : List (Str × V)} (r : RO A p (.ins C dx fs)) (o : FOk K C f) (l : fs.lookup f = some v) (k : Φ v A) : NFld K f Φ (.ref p) A := ⟨p, C, dx, fs, v, rfl, r, o, l, k⟩
theorem ge_fld' {f : Str} (h : GE te σ A (NFld K f Φ)) : GE (tFld K te f) σ A Φ := ge_fld h
def NFst (K : PySem.W.Frag) (f : Str) (y : V) (k : SH → Prop) : V → SH → Prop := fun x A2 => ∃ a C dx fs B, x = .ref a ∧ Pull A2 (sg a (.ins C dx fs)) B ∧ FOk K C f ∧ fs.length < 1000 ∧ k (sg a (.ins C dx (putF f y fs)) :: B)
theorem nfst {f : Str} {C dx : Addr} {fs fs' : List (Str × V)} {kk : SH → Prop} (pl : Pull A (sg p (.ins C dx fs)) B) (o : FOk K C f) (l : fs.length < 1000) (e : putF f y fs = fs') (k : kk (sg p (.ins C dx fs') :: B)) : NFst K f y kk (.ref p) A := ⟨p, C, dx, fs, B, rfl, pl, o, l, e ▸ k⟩
theorem gs_fld' {f : Str} (h : GE tb σ A fun y A1 => GE ta σ A1 (NFst K f y (nx σ))) : GS (sFld K ta tb f) ⟨nx, rt, bk, ct⟩ σ A := gs_fld h
def NDget (Φ : V → SH → Prop) (y : V) (x : V) : SH → Prop := fun A2 => ∃ a kvs k v, x = .ref a ∧ RD A2 a kvs ∧ KV1 y k ∧ valV kvs k = some v ∧ Φ v A2
theorem ndget {kvs : List (L2.Key × V)} {k : L2.Key} (r : RD A p kvs) (ky : KV1 y k) (hv : valV kvs k = some v) (c : Φ v A) : NDget Φ y (.ref p) A := ⟨p, kvs, k, v, rfl, r, ky, hv, c⟩
theorem ge_dget' (h : GE ta σ A fun x A1 => GE tb σ A1 fun y => NDget Φ y x) : GE (tDGet ta tb) σ A Φ := ge_dget h
def NDin (neg : Bool) (Φ : V → SH → Prop) (y x : V) : SH → Prop := fun A2 => ∃ a kvs k, x = .ref a ∧ RD A2 a kvs ∧ KV1 y k ∧ Φ (.bl (if neg then !(valV kvs k).isSome else (valV kvs k).isSome)) A2
theorem ndin {neg : Bool} {kvs : List (L2.Key × V)} {k : L2.Key} (r : RD A p kvs) (ky : KV1 y k) (c : Φ (.bl (if neg then !(valV kvs k).isSome else (valV kvs k).isSome)) A) : NDin neg Φ y (.ref p) A := ⟨p, kvs, k, rfl, r, ky, c⟩
theorem ge_din' (h : GE ta σ A fun y A1 => GE tb σ A1 fun x => NDin false Φ y x) : GE (tDIn ta tb) σ A Φ := ge_din h
theorem ge_dnotin' (h : GE ta σ A fun y A1 => GE tb σ A1 fun x => NDin true Φ y x) : GE (tDNotIn ta tb) σ A Φ := ge_dnotin h
def NDput (kk : SH → Prop) (v x y : V) : SH → Prop := fun A3 => ∃ a kvs k B, x = .ref a ∧ Pull A3 (sg a (.dK kvs)) B ∧ KV1 y k ∧ kvs.length < sizeLine ∧ kk (sg a (.dK (putK kvs k v)) :: B)
theorem ndput {kk : SH → Prop} {kvs : List (L2.Key × V)} {k : L2.Key} (pl : Pull A (sg p (.dK kvs)) B) (ky : KV1 y k) (l : kvs.length ≤ 1000) (c : kk (sg p (.dK (putK kvs k v)) :: B)) : NDput kk v (.ref p) y A := ⟨p, kvs, k, B, rfl, pl, ky, Nat.lt_of_le_of_lt l (by decide), c⟩
theorem gs_dput' {tv td ty : TE} (h : GE tv σ A fun v A1 => GE td σ A1 fun x A2 => GE ty σ A2 fun y => NDput (nx σ) v x y) : GS (sDPut td ty tv) ⟨nx, rt, bk, ct⟩ σ A := gs_dput h
def NList (K : PySem.W.Frag) (Φ : It → SH → Prop) : V → SH → Prop := fun x A' => ∃ a xs, x = .ref a ∧ RL K A' a xs ∧ Φ (Itl K a) A'
theorem nlist {Φ : It → SH → Prop} (r : RL K A p xs) (k : Φ (Itl K p) A) : NList K Φ (.ref p) A := ⟨p, xs, rfl, r, k⟩
theorem gi_list' {Φ : It → SH → Prop} (h : GE te σ A (NList K Φ)) : GI (iList K te) σ A Φ := gi_list h
def NTup (K : PySem.W.Frag) (Φ : It → SH → Prop) : V → SH → Prop := fun x A' => ∃ a xs, x = .ref a ∧ RT K A' a xs ∧ Φ (Itt K a) A'
theorem ntup {Φ : It → SH → Prop} (r : RT K A p xs) (k : Φ (Itt K p) A) : NTup K Φ (.ref p) A := ⟨p, xs, rfl, r, k⟩
theorem gi_tup' {Φ : It → SH → Prop} (h : GE te σ A (NTup K Φ)) : GI (iTup K te) σ A Φ := gi_tup h
def NRng1 (Φ : It → SH → Prop) : List V → SH → Prop := fun vs A' => ∃ j : Int, vs = [.int j] ∧ -(2 ^ 62) ≤ j ∧ j < 2 ^ 62 ∧ Φ (Itr 0 j.toNat) A'
theorem nrng1 {Φ : It → SH → Prop} (h1 : -(2 ^ 62) ≤ j) (h2 : j < 2 ^ 62) (k : Φ (Itr 0 j.toNat) A) : NRng1 Φ [.int j] A := ⟨j, rfl, h1, h2, k⟩
theorem gi_rng1' {Φ : It → SH → Prop} (h : GA t σ A (NRng1 Φ)) : GI (iRng1 t) σ A Φ := gi_rng1 h
def NRng2 (Φ : It → SH → Prop) : List V → SH → Prop := fun vs A' => ∃ i j : Int, vs = [.int i, .int j] ∧ (-(2 ^ 62) ≤ i ∧ i < 2 ^ 62 ∧ -(2 ^ 62) ≤ j ∧ j < 2 ^ 62) ∧ Φ (Itr i (j - i).toNat) A'
theorem nrng2 {Φ : It → SH → Prop} (h : -(2 ^ 62) ≤ i ∧ i < 2 ^ 62 ∧ -(2 ^ 62) ≤ j ∧ j < 2 ^ 62) (k : Φ (Itr i (j - i).toNat) A) : NRng2 Φ [.int i, .int j] A := ⟨i, j, rfl, h, k⟩
theorem gi_rng2' {Φ : It → SH → Prop} (h : GA t σ A (NRng2 Φ)) : GI (iRng2 t) σ A Φ := gi_rng2 h
def NEnum (K : PySem.W.Frag) (Φ : It → SH → Prop) : List V → SH → Prop := fun vs A' => ∃ a xs, vs = [.ref a] ∧ RL K A' a xs ∧ Φ (Ite K a) A'
theorem nenum {Φ : It → SH → Prop} (r : RL K A p xs) (k : Φ (Ite K p) A) : NEnum K Φ [.ref p] A := ⟨p, xs, rfl, r, k⟩
theorem gi_enum' {Φ : It → SH → Prop} (h : GA t σ A (NEnum K Φ)) : GI (iEnum K t) σ A Φ := gi_enum h
def NStr (Φ : It → SH → Prop) : V → SH → Prop := fun v A' => ∃ x, v = .str x ∧ Φ (Its x) A'
theorem nstr {Φ : It → SH → Prop} {z : Str} (k : Φ (Its z) A) : NStr Φ (.str z) A := ⟨z, rfl, k⟩
theorem gi_str' {Φ : It → SH → Prop} (h : GE te σ A (NStr Φ)) : GI (iStr te) σ A Φ := gi_str h
def NPart (Φ : Option Int → SH → Prop) : V → SH → Prop := fun x A' => ∃ i, x = .int i ∧ Φ (some i) A'
theorem npart {Φ : Option Int → SH → Prop} (k : Φ (some i) A) : NPart Φ (.int i) A := ⟨i, rfl, k⟩
theorem go_some' {Φ : Option Int → SH → Prop} (h : GE te σ A (NPart Φ)) : GO (tPart te) σ A Φ := go_some h
def NBm (K : PySem.W.Frag) (T : String) (t : TA) (σ : L2.St) (r : V → List V → Hp → VK → Prop) (Φ : V → SH → Prop) : V → SH → Prop := fun x A1 => TyA K T x A1 ∧ GA t σ A1 fun vs A2 => GM r x vs A2 Φ
theorem nbm {T : String} {r : V → List V → Hp → VK → Prop} (ty : TyA K T x A) (k : GA t σ A fun vs A2 => GM r x vs A2 Φ) : NBm K T t σ r Φ x A := ⟨ty, k⟩
theorem ge_bm' {T : String} {r : V → List V → Hp → VK → Prop} (h : GE te σ A (NBm K T t σ r Φ)) : GE (tBM K T r te t) σ A Φ := ge_bm h
def NBm0 (K : PySem.W.Frag) (T : String) (r : V → List V → Hp → VK → Prop) (Φ : V → SH → Prop) : V → SH → Prop := fun x A1 => TyA K T x A1 ∧ GM r x [] A1 Φ
theorem nbm0 {T : String} {r : V → List V → Hp → VK → Prop} (ty : TyA K T x A) (k : GM r x [] A Φ) : NBm0 K T r Φ x A := ⟨ty, k⟩
theorem ge_bm0' {T : String} {r : V → List V → Hp → VK → Prop} (h : GE te σ A (NBm0 K T r Φ)) : GE (tBM0 K T r te) σ A Φ := ge_bm0 h
def NMet (MT : Addr → Spec → Prop) (m : Str) (Ψ : Value → Option Addr → L2.St → SH → Prop) (t : TA) (σ : L2.St) (Φ : V → SH → Prop) : V → SH → Prop := fun x A1 => ∃ a C dx fs sp, x = .ref a ∧ RO A1 a (.ins C dx fs) ∧ MT C sp ∧ fs.lookup m = none ∧ GA t σ A1 fun vs A2 => sp (x :: vs) A2 Φ fun c d A3 => Ψ c d σ A3
theorem nmet {MT : Addr → Spec → Prop} {m : Str} {Ψ : Value → Option Addr → L2.St → SH → Prop} {C dx : Addr} {fs : List (Str × V)} {sp : Spec} (r : RO A p (.ins C dx fs)) (mt : MT C sp) (l : fs.lookup m = none)
    (k : GA t σ A fun vs A2 => sp (.ref p :: vs) A2 Φ fun c d A3 => Ψ c d σ A3) : NMet MT m Ψ t σ Φ (.ref p) A := ⟨p, C, dx, fs, sp, rfl, r, mt, l, k⟩
theorem ge_met' {MT : Addr → Spec → Prop} {m : Str} {Ψ : Value → Option Addr → L2.St → SH → Prop} {W : WX} (hx : WPost Ψ W) (h : GE ta σ A (NMet MT m Ψ t σ Φ)) : GE (tMet MT m W ta t) σ A Φ := ge_met hx h
def NMak (C : Addr) (sp : Spec) (Φ : V → SH → Prop) (Ψ : Value → Option Addr → L2.St → SH → Prop) (σ : L2.St) : List V → SH → Prop := fun vs A1 => ∀ x dx, sp (V.ref x :: vs) (sg x (.ins C dx []) :: A1) (fun v A2 => v = .non ∧ Φ (.ref x) A2) fun c d A2 => Ψ c d σ A2
theorem ge_mak' {C : Addr} {sp : Spec} {W : WX} {Ψ : Value → Option Addr → L2.St → SH → Prop} (hx : WPost Ψ W) (h : GA t σ A (NMak C sp Φ Ψ σ)) : GE (tMak C (lift sp) W t) σ A Φ := ge_mak hx h
/-! ### short bounds -/
def IntL (xs : List V) (ns : List Int) : Prop := xs = ns.map V.int
theorem il_nil : IntL [] [] := rfl
theorem il_cons {ns : List Int} (h : IntL xs ns) : IntL (.int i :: xs) (i :: ns) := by
  show V.int i :: xs = V.int i :: ns.map V.int
  rw [h]
theorem il_map {ns : List Int} : IntL (ns.map V.int) ns := rfl
theorem getD_at {ns : List Int} {k : Nat} (h : k < ns.length) : ns[k]? = some (ns.getD k 0) := by
  rw [List.getD_eq_getElem?_getD, List.getElem?_eq_getElem h]
  rfl
theorem at_ints {ns : List Int} (hx : IntL xs ns) (h0 : 0 ≤ i) (h1 : i < (ns.length : Int)) : atI xs i = some (.int (ns.getD i.toNat 0)) := by
  have e : xs = ns.map V.int := hx
  subst e
  have hl : i < ((ns.map V.int).length : Int) := by rw [List.length_map]; exact h1
  rw [atI_lt h0 hl]
  congr 1
  rw [List.getElem_map]
  congr 1
  have := getD_at (ns := ns) (k := i.toNat) (by omega)
  rw [List.getElem?_eq_getElem (by omega)] at this
  exact Option.some.inj this
theorem gr_ixI {ns : List Int} (r : RL K A p xs) (hx : IntL xs ns) (h0 : 0 ≤ i) (h1 : i < (ns.length : Int)) (k : Φ (.int (ns.getD i.toNat 0)) A) : GR (rIx K) (.ref p) (.int i) A Φ := gr_ixL r (at_ints hx h0 h1) k
theorem gr_ixTI {ns : List Int} (r : RT K A p xs) (hx : IntL xs ns) (h0 : 0 ≤ i) (h1 : i < (ns.length : Int)) (k : Φ (.int (ns.getD i.toNat 0)) A) : GR (rIx K) (.ref p) (.int i) A Φ := gr_ixT r (at_ints hx h0 h1) k
theorem cdiv (h1 : 0 < j) (h2 : j < 1073741824) : CDiv i j := ⟨h1, h2⟩
theorem cmulL (h1 : -(2 ^ 64) < i) (h2 : i < 2 ^ 64) : CMul i j := .inl ⟨h1, h2⟩
theorem cmulR (h1 : -(2 ^ 64) < j) (h2 : j < 2 ^ 64) : CMul i j := .inr ⟨h1, h2⟩
/-- facts of a known part of the heap -/
theorem RT.k {a : Addr} (h : ∀ H, SqT K H a xs) : RT K A a xs := fun H _ => h H
theorem sz (n : Nat) (h : n ≤ 1000 := by decide) : n ≤ sizeLine := Nat.le_trans h (by decide)
theorem sz1 {n : Nat} (h : n ≤ 1000) : n < sizeLine := Nat.lt_of_le_of_lt h (by decide)
theorem sz2 {n : Nat} (h : n ≤ 1000) : n ≤ sizeLine := Nat.le_trans h (by decide)
end
end S

namespace S
open PySem L2
theorem kt_NoneType_int {K : PySem.W.Frag} : PySem.W.kitOne K (.type "NoneType") (.type "int") = some false := kit_ty (by decide +kernel)
theorem kt_NoneType_bool {K : PySem.W.Frag} : PySem.W.kitOne K (.type "NoneType") (.type "bool") = some false := kit_ty (by decide +kernel)
theorem kt_NoneType_str {K : PySem.W.Frag} : PySem.W.kitOne K (.type "NoneType") (.type "str") = some false := kit_ty (by decide +kernel)
theorem kt_NoneType_list {K : PySem.W.Frag} : PySem.W.kitOne K (.type "NoneType") (.type "list") = some false := kit_ty (by decide +kernel)
theorem kt_NoneType_tuple {K : PySem.W.Frag} : PySem.W.kitOne K (.type "NoneType") (.type "tuple") = some false := kit_ty (by decide +kernel)
theorem kt_NoneType_dict {K : PySem.W.Frag} : PySem.W.kitOne K (.type "NoneType") (.type "dict") = some false := kit_ty (by decide +kernel)
theorem kt_bool_int {K : PySem.W.Frag} : PySem.W.kitOne K (.type "bool") (.type "int") = some true := kit_ty (by decide +kernel)
theorem kt_bool_bool {K : PySem.W.Frag} : PySem.W.kitOne K (.type "bool") (.type "bool") = some true := kit_ty (by decide +kernel)
theorem kt_bool_str {K : PySem.W.Frag} : PySem.W.kitOne K (.type "bool") (.type "str") = some false := kit_ty (by decide +kernel)
theorem kt_bool_list {K : PySem.W.Frag} : PySem.W.kitOne K (.type "bool") (.type "list") = some false := kit_ty (by decide +kernel)
theorem kt_bool_tuple {K : PySem.W.Frag} : PySem.W.kitOne K (.type "bool") (.type "tuple") = some false := kit_ty (by decide +kernel)
theorem kt_bool_dict {K : PySem.W.Frag} : PySem.W.kitOne K (.type "bool") (.type "dict") = some false := kit_ty (by decide +kernel)
theorem kt_int_int {K : PySem.W.Frag} : PySem.W.kitOne K (.type "int") (.type "int") = some true := kit_ty (by decide +kernel)
theorem kt_int_bool {K : PySem.W.Frag} : PySem.W.kitOne K (.type "int") (.type "bool") = some false := kit_ty (by decide +kernel)
theorem kt_int_str {K : PySem.W.Frag} : PySem.W.kitOne K (.type "int") (.type "str") = some false := kit_ty (by decide +kernel)
theorem kt_int_list {K : PySem.W.Frag} : PySem.W.kitOne K (.type "int") (.type "list") = some false := kit_ty (by decide +kernel)
theorem kt_int_tuple {K : PySem.W.Frag} : PySem.W.kitOne K (.type "int") (.type "tuple") = some false := kit_ty (by decide +kernel)
theorem kt_int_dict {K : PySem.W.Frag} : PySem.W.kitOne K (.type "int") (.type "dict") = some false := kit_ty (by decide +kernel)
theorem kt_str_int {K : PySem.W.Frag} : PySem.W.kitOne K (.type "str") (.type "int") = some false := kit_ty (by decide +kernel)
theorem kt_str_bool {K : PySem.W.Frag} : PySem.W.kitOne K (.type "str") (.type "bool") = some false := kit_ty (by decide +kernel)
theorem kt_str_str {K : PySem.W.Frag} : PySem.W.kitOne K (.type "str") (.type "str") = some true := kit_ty (by decide +kernel)
theorem kt_str_list {K : PySem.W.Frag} : PySem.W.kitOne K (.type "str") (.type "list") = some false := kit_ty (by decide +kernel)
theorem kt_str_tuple {K : PySem.W.Frag} : PySem.W.kitOne K (.type "str") (.type "tuple") = some false := kit_ty (by decide +kernel)
theorem kt_str_dict {K : PySem.W.Frag} : PySem.W.kitOne K (.type "str") (.type "dict") = some false := kit_ty (by decide +kernel)
theorem kt_list_int {K : PySem.W.Frag} : PySem.W.kitOne K (.type "list") (.type "int") = some false := kit_ty (by decide +kernel)
theorem kt_list_bool {K : PySem.W.Frag} : PySem.W.kitOne K (.type "list") (.type "bool") = some false := kit_ty (by decide +kernel)
theorem kt_list_str {K : PySem.W.Frag} : PySem.W.kitOne K (.type "list") (.type "str") = some false := kit_ty (by decide +kernel)
theorem kt_list_list {K : PySem.W.Frag} : PySem.W.kitOne K (.type "list") (.type "list") = some true := kit_ty (by decide +kernel)
theorem kt_list_tuple {K : PySem.W.Frag} : PySem.W.kitOne K (.type "list") (.type "tuple") = some false := kit_ty (by decide +kernel)
theorem kt_list_dict {K : PySem.W.Frag} : PySem.W.kitOne K (.type "list") (.type "dict") = some false := kit_ty (by decide +kernel)
theorem kt_tuple_int {K : PySem.W.Frag} : PySem.W.kitOne K (.type "tuple") (.type "int") = some false := kit_ty (by decide +kernel)
theorem kt_tuple_bool {K : PySem.W.Frag} : PySem.W.kitOne K (.type "tuple") (.type "bool") = some false := kit_ty (by decide +kernel)
theorem kt_tuple_str {K : PySem.W.Frag} : PySem.W.kitOne K (.type "tuple") (.type "str") = some false := kit_ty (by decide +kernel)
theorem kt_tuple_list {K : PySem.W.Frag} : PySem.W.kitOne K (.type "tuple") (.type "list") = some false := kit_ty (by decide +kernel)
theorem kt_tuple_tuple {K : PySem.W.Frag} : PySem.W.kitOne K (.type "tuple") (.type "tuple") = some true := kit_ty (by decide +kernel)
theorem kt_tuple_dict {K : PySem.W.Frag} : PySem.W.kitOne K (.type "tuple") (.type "dict") = some false := kit_ty (by decide +kernel)
theorem kt_dict_int {K : PySem.W.Frag} : PySem.W.kitOne K (.type "dict") (.type "int") = some false := kit_ty (by decide +kernel)
theorem kt_dict_bool {K : PySem.W.Frag} : PySem.W.kitOne K (.type "dict") (.type "bool") = some false := kit_ty (by decide +kernel)
theorem kt_dict_str {K : PySem.W.Frag} : PySem.W.kitOne K (.type "dict") (.type "str") = some false := kit_ty (by decide +kernel)
theorem kt_dict_list {K : PySem.W.Frag} : PySem.W.kitOne K (.type "dict") (.type "list") = some false := kit_ty (by decide +kernel)
theorem kt_dict_tuple {K : PySem.W.Frag} : PySem.W.kitOne K (.type "dict") (.type "tuple") = some false := kit_ty (by decide +kernel)
theorem kt_dict_dict {K : PySem.W.Frag} : PySem.W.kitOne K (.type "dict") (.type "dict") = some true := kit_ty (by decide +kernel)
theorem kit_self {K : PySem.W.Frag} {C : Addr} : PySem.W.kitOne K (.ref C) (.ref C) = some true := by
  unfold PySem.W.kitOne
  rw [if_pos (by simp)]
section
variable {K : PySem.W.Frag} {σ : L2.St} {A B : SH} {Φ : V → SH → Prop} {v x y : V} {i j : Int} {p q : Addr} {xs ys : List V}
theorem gc_lenM {α : Type} {f : α → V} {l : List α} (r : RL K A p (l.map f)) (k : Φ (.int (l.length : Nat)) A) : GC (cLen K) [.ref p] A Φ := gc_lenL r (by rw [List.length_map]; exact k)
theorem atI_nat' {α : Type} {l : List α} {n : Nat} {x : α} (h : l[n]? = some x) : atI l (n : Int) = some x := by
  have := (List.getElem?_eq_some_iff.mp h).1
  unfold atI ixN
  rw [if_pos (by omega), if_pos (by omega)]
  simpa using h
theorem gr_ixN {n : Nat} (r : RL K A p xs) (h : xs[n]? = some v) (k : Φ v A) : GR (rIx K) (.ref p) (.int (n : Int)) A Φ := gr_ixL r (atI_nat' h) k
theorem gr_inS0 {c : Nat} {z : Str} (k : Φ (.bl (decide (c ∈ z.cps.toList))) A) : GR (dIn K false) (.str ⟨#[c]⟩) (.str z) A Φ := gr_inS k
theorem gr_inS1 {c : Nat} {z : Str} (k : Φ (.bl (!decide (c ∈ z.cps.toList))) A) : GR (dIn K true) (.str ⟨#[c]⟩) (.str z) A Φ := gr_inS k
theorem gr_inL0 (r : RL K A p xs) (f : flatV x = true) (fs : xs.all flatV = true) (k : Φ (.bl (inV x xs)) A) : GR (dIn K false) x (.ref p) A Φ := gr_inL r f fs k
theorem gr_inL1 (r : RL K A p xs) (f : flatV x = true) (fs : xs.all flatV = true) (k : Φ (.bl (!inV x xs)) A) : GR (dIn K true) x (.ref p) A Φ := gr_inL r f fs k
theorem gr_inT0 (r : RT K A p xs) (f : flatV x = true) (fs : xs.all flatV = true) (k : Φ (.bl (inV x xs)) A) : GR (dIn K false) x (.ref p) A Φ := gr_inT r f fs k
theorem gr_inT1 (r : RT K A p xs) (f : flatV x = true) (fs : xs.all flatV = true) (k : Φ (.bl (!inV x xs)) A) : GR (dIn K true) x (.ref p) A Φ := gr_inT r f fs k
theorem ndin0 {kvs : List (L2.Key × V)} {k : L2.Key} (r : RD A p kvs) (ky : KV1 y k) (c : Φ (.bl (valV kvs k).isSome) A) : NDin false Φ y (.ref p) A := ndin r ky c
theorem ndin1 {kvs : List (L2.Key × V)} {k : L2.Key} (r : RD A p kvs) (ky : KV1 y k) (c : Φ (.bl (!(valV kvs k).isSome)) A) : NDin true Φ y (.ref p) A := ndin r ky c
theorem is_non (k : Φ (.bl true) A) : GR (dIs false) .non .non A Φ := gr_isN k
theorem isn_non (k : Φ (.bl false) A) : GR (dIs true) .non .non A Φ := gr_isN k
theorem is_int (k : Φ (.bl false) A) : GR (dIs false) (.int i) .non A Φ := gr_isN k
theorem isn_int (k : Φ (.bl true) A) : GR (dIs true) (.int i) .non A Φ := gr_isN k
theorem is_ref (k : Φ (.bl false) A) : GR (dIs false) (.ref p) .non A Φ := gr_isN k
theorem isn_ref (k : Φ (.bl true) A) : GR (dIs true) (.ref p) .non A Φ := gr_isN k
theorem is_str {z : Str} (k : Φ (.bl false) A) : GR (dIs false) (.str z) .non A Φ := gr_isN k
theorem isn_str {z : Str} (k : Φ (.bl true) A) : GR (dIs true) (.str z) .non A Φ := gr_isN k
theorem is_bl {b : Bool} (k : Φ (.bl false) A) : GR (dIs false) (.bl b) .non A Φ := gr_isN k
theorem gc_isi2t {tp : Addr} {c1 c2 : V} {t u1 u2 : Value} (r : RO A tp (.tup [c1, c2])) (h1 : ClsV c1 u1) (h2 : ClsV c2 u2) (ty : TyG K A x t) (e : PySem.W.kitOne K t u1 = some true) (k : Φ (.bl true) A) : GC (rIsiT K) [x, .ref tp] A Φ :=
  gc_isiT r (.cons h1 (.cons h2 .nil)) ty (kitAny_cons e (fun z => (nomatch z)) fun _ => rfl) k
theorem gc_isi2f {tp : Addr} {c1 c2 : V} {t u1 u2 : Value} {b : Bool} (r : RO A tp (.tup [c1, c2])) (h1 : ClsV c1 u1) (h2 : ClsV c2 u2) (ty : TyG K A x t) (e : PySem.W.kitOne K t u1 = some false) (e2 : PySem.W.kitOne K t u2 = some b) (k : Φ (.bl b) A) : GC (rIsiT K) [x, .ref tp] A Φ :=
  gc_isiT r (.cons h1 (.cons h2 .nil)) ty (kitAny_cons e (fun _ => kitAny_cons e2 (fun z => by rw [z]; exact kitAny_nil) fun z => z) fun z => (nomatch z)) k
def FlN (fs : List (Str × V)) (n : Nat) : Prop := fs.length ≤ n
theorem fl0 : FlN [] 0 := Nat.le_refl 0
theorem putF_le (f : Str) (y : V) : ∀ fs : List (Str × V), (putF f y fs).length ≤ fs.length + 1
  | [] => Nat.le_refl _
  | (g, z) :: r => by
    show (if g = f then (g, y) :: r else (g, z) :: putF f y r).length ≤ r.length + 1 + 1
    split
    · simp
    · have := putF_le f y r
      simp only [List.length_cons]
      omega
theorem fl1 {f : Str} {y : V} {fs : List (Str × V)} {n : Nat} (h : FlN fs n) : FlN (putF f y fs) (n + 1) := Nat.le_trans (putF_le f y fs) (Nat.succ_le_succ h)
theorem fl_of {fs : List (Str × V)} {n : Nat} (h : FlN fs n) (l : n < 1000) : fs.length < 1000 := Nat.lt_of_le_of_lt h l
theorem gr_eqE0 (r1 : RL K A p []) (r2 : RL K A q []) (k : Φ (.bl true) A) : GR (dEq K) (.ref p) (.ref q) A Φ := gr_eqD (dp_lst r1 dps_nil) (dp_lst r2 dps_nil) (by decide +kernel) (by decide +kernel) k
/-- what was made on the way, ahead of the rest -/
theorem Sl.app {G A : SH} : Sl A (G ++ A) := by
  induction G with
  | nil => exact .refl
  | cons g G ih => exact .drop ih
theorem Sl.app' {G A B : SH} (h : Sl B A) : Sl B (G ++ A) := by
  induction G with
  | nil => exact h
  | cons g G ih => exact .drop ih
theorem Le.pre {G A : SH} : Le G (G ++ A) := fun H h => ⟨fun g hg => h.1 g (List.mem_append_left _ hg), (List.pairwise_append.mp h.2).1⟩
theorem Le.app' {G A B : SH} (l : Le B A) : Le B (G ++ A) := fun H h => l H ⟨fun g hg => h.1 g (List.mem_append_right _ hg), (List.pairwise_append.mp h.2).2.1⟩
theorem Le.app {G A : SH} : Le A (G ++ A) := Sl.app.le
theorem RO.app {G A : SH} {a : Addr} {o : HO} (h : RO A a o) : RO (G ++ A) a o := h.le Le.app
theorem RL.app {G A : SH} {a : Addr} (h : RL K A a xs) : RL K (G ++ A) a xs := h.le Le.app
theorem RT.app {G A : SH} {a : Addr} (h : RT K A a xs) : RT K (G ++ A) a xs := h.le Le.app
theorem RD.le {a : Addr} {kvs : List (L2.Key × V)} (l : Le A B) (h : RD A a kvs) : RD B a kvs := fun H x => h H (l H x)
theorem RD.app {G A : SH} {a : Addr} {kvs : List (L2.Key × V)} (h : RD A a kvs) : RD (G ++ A) a kvs := h.le Le.app
theorem Pull.app {G A B : SH} {h : Hp} (p : Pull A h B) : Pull (G ++ A) h (G ++ B) := by
  induction G with
  | nil => exact p
  | cons g G ih => exact .tail ih
theorem lk_put {f : Str} {y : V} {fs : List (Str × V)} : (putF f y fs).lookup f = some y := by rw [lookup_putF, if_pos rfl]
theorem lk_ne {f g : Str} {y z : V} {fs : List (Str × V)} (h : ¬ g = f) (l : fs.lookup g = some z) : (putF f y fs).lookup g = some z := by rw [lookup_putF, if_neg h]; exact l
theorem lk_nil {g : Str} : ([] : List (Str × V)).lookup g = none := rfl
theorem lk_no {f g : Str} {y : V} {fs : List (Str × V)} (h : ¬ g = f) (l : fs.lookup g = none) : (putF f y fs).lookup g = none := by rw [lookup_putF, if_neg h]; exact l
theorem lay_ints : ∀ ns : List Int, PyData.canLayAll0 (ns.map PyData.int) = true ∧ PyData.depthAll (ns.map PyData.int) = 0
  | [] => ⟨by simp only [List.map_nil, PyData.canLayAll0], by simp only [List.map_nil, PyData.depthAll]⟩
  | n :: r => by
    obtain ⟨h1, h2⟩ := lay_ints r
    exact ⟨by simp only [List.map_cons, PyData.canLayAll0, PyData.canLay0, h1, Bool.and_self], by simp only [List.map_cons, PyData.depthAll, PyData.depth, h2, Nat.max_self]⟩
theorem shp_ints (ns : List Int) : SeqAt.shaped (.list (ns.map PyData.int)) = true ∧ SeqAt.shaped (.tuple (ns.map PyData.int)) = true := by
  obtain ⟨h1, h2⟩ := lay_ints ns
  constructor <;> (unfold SeqAt.shaped; simp only [PyData.canLay0, PyData.depth, h1, h2]; decide)
theorem eqv_ints : ∀ ns ms : List Int, PyData.eqvAll (ns.map PyData.int) (ms.map PyData.int) = decide (ns = ms)
  | [], [] => by simp only [List.map_nil, PyData.eqvAll, decide_true]
  | [], _ :: _ => by simp [PyData.eqvAll]
  | _ :: _, [] => by simp [PyData.eqvAll]
  | n :: r, m :: t => by
    have ih := eqv_ints r t
    simp only [List.map_cons, PyData.eqvAll, PyData.eqv, ih]
    by_cases e : n = m
    · subst e
      simp
    · simp [e]
theorem dps_il {ns : List Int} (h : IntL xs ns) : DPs K A xs (ns.map PyData.int) := by
  have e : xs = ns.map V.int := h
  rw [e]; exact dps_ints
theorem gr_eqTI {ns ms : List Int} (r1 : RT K A p xs) (r2 : RT K A q ys) (h1 : IntL xs ns) (h2 : IntL ys ms) (k : Φ (.bl (decide (ns = ms))) A) : GR (dEq K) (.ref p) (.ref q) A Φ :=
  gr_eqD (dp_tup r1 (dps_il h1)) (dp_tup r2 (dps_il h2)) (shp_ints ns).2 (shp_ints ms).2 (by simp only [PyData.eqv, eqv_ints]; exact k)
theorem gr_neTI {ns ms : List Int} (r1 : RT K A p xs) (r2 : RT K A q ys) (h1 : IntL xs ns) (h2 : IntL ys ms) (k : Φ (.bl (!decide (ns = ms))) A) : GR (dNe K) (.ref p) (.ref q) A Φ :=
  gr_neD (dp_tup r1 (dps_il h1)) (dp_tup r2 (dps_il h2)) (shp_ints ns).2 (shp_ints ms).2 (by simp only [PyData.eqv, eqv_ints]; exact k)
theorem gr_eqLI {ns ms : List Int} (r1 : RL K A p xs) (r2 : RL K A q ys) (h1 : IntL xs ns) (h2 : IntL ys ms) (k : Φ (.bl (decide (ns = ms))) A) : GR (dEq K) (.ref p) (.ref q) A Φ :=
  gr_eqD (dp_lst r1 (dps_il h1)) (dp_lst r2 (dps_il h2)) (shp_ints ns).1 (shp_ints ms).1 (by simp only [PyData.eqv, eqv_ints]; exact k)
theorem gr_neLI {ns ms : List Int} (r1 : RL K A p xs) (r2 : RL K A q ys) (h1 : IntL xs ns) (h2 : IntL ys ms) (k : Φ (.bl (!decide (ns = ms))) A) : GR (dNe K) (.ref p) (.ref q) A Φ :=
  gr_neD (dp_lst r1 (dps_il h1)) (dp_lst r2 (dps_il h2)) (shp_ints ns).1 (shp_ints ms).1 (by simp only [PyData.eqv, eqv_ints]; exact k)
theorem gr_ixSD {z : Str} (l : z.length ≤ 1000) (h0 : 0 ≤ i) (h1 : i < (z.length : Int)) (k : Φ (.str ⟨#[z.cps.toList.getD i.toNat 0]⟩) A) : GR (rIx K) (.str z) (.int i) A Φ := by
  have hl : i.toNat < z.cps.toList.length := by
    have : (z.length : Int) = (z.cps.toList.length : Int) := by simp [Str.length]
    omega
  refine gr_ixS (c := z.cps.toList.getD i.toNat 0) (Nat.le_trans l (by decide)) ?_ k
  rw [atI_lt h0 (by omega), List.getD_eq_getElem?_getD, List.getElem?_eq_getElem hl]
  rfl
theorem len1 {c : Nat} : (⟨#[c]⟩ : Str).length = 1 := rfl
/-- a list mapped, at a place -/
theorem gr_ixM {α : Type} {f : α → V} {l : List α} {n : Nat} {x : α} (r : RL K A p (l.map f)) (h : l[n]? = some x) (k : Φ (f x) A) : GR (rIx K) (.ref p) (.int (n : Int)) A Φ := gr_ixN r (by rw [List.getElem?_map, h]; rfl) k
end
end S

namespace S
open PySem L2
section
variable {P : Program} {w : World} {K : PySem.W.Frag} {mg : Str → Option Value} {base : Heap} {x qual m : Str} {params : Arguments} {body : List Stmt} {scope : Scope} {dvs : List V} {kws : List (Str × V)} {f C : Addr} {fd : FuncData} {ps : List Str} {k : Nat} {sp : Sp}
theorem fnR_of (ok : FnOk P w K mg base (L2.CX P w) k f fd ps sp) (hb : Binds K fd ps []) : FnR P w K mg base (L2.CX P w) k f sp :=
  (FnOk.raw ok hb .nil).imp fun vs H Q E h => by rw [List.append_nil]; exact h
theorem defR_of (F : FunD K x qual params body scope dvs kws f fd) (hm : mg x = some (.ref f)) (hb : Binds K fd ps []) (ok : FnOk P w K mg base (L2.CX P w) k f fd ps sp) : DefR P w K mg base k x sp := ⟨f, fnR_of ok hb, hm, F.kp⟩
theorem methR_of (c : Cls K C) (hm : Meth K C m f) (hb : Binds K fd ps []) (ok : FnOk P w K mg base (L2.CX P w) k f fd ps sp) : MethR P w K mg base k C m sp := ⟨c, f, hm, fnR_of ok hb⟩
theorem makR_of (M : Mk K C f) (hm : mg x = some (.ref C)) (hb : Binds K fd ps []) (ok : FnOk P w K mg base (L2.CX P w) k f fd ps sp) : MakR P w K mg base k x C sp := ⟨f, M, fnR_of ok hb, hm⟩
theorem methR_mono {j : Nat} (h : MethR P w K mg base j C m sp) (l : j ≤ k) : MethR P w K mg base k C m sp := by
  obtain ⟨c, f, hm, F⟩ := h
  exact ⟨c, f, hm, F.mono l⟩
theorem funD_mk {st : Stmt} {oc : Value} {od an : Option Addr} {osl : Array (Option Value)} {kV doc pm cdv ct : Value} (l : K.lookup f = some ⟨oc, od, .func (PySem.W.fnOf x qual (defArgs st) (defBody st) (defScope st) .none kV doc pm an cdv ct), osl⟩)
    (c : PySem.W.codeIn K cdv qual = true) (kp : PySem.W.keepIn K (.ref f) = true) : FunD K x qual (defArgs st) (defBody st) (defScope st) [] [] f (PySem.W.fnOf x qual (defArgs st) (defBody st) (defScope st) .none kV doc pm an cdv ct) :=
  ⟨⟨oc, od, .none, kV, doc, pm, an, cdv, ct, osl, rfl, l, c, .inl ⟨rfl, rfl⟩, .inl rfl⟩, kp⟩
theorem funD_mkD {st : Stmt} {oc : Value} {od an : Option Addr} {osl : Array (Option Value)} {kV doc pm cdv ct : Value} {D : Addr} {o : Obj} {its : List Value} {n : Nat} (l : K.lookup f = some ⟨oc, od, .func (PySem.W.fnOf x qual (defArgs st) (defBody st) (defScope st) (.ref D) kV doc pm an cdv ct), osl⟩)
    (c : PySem.W.codeIn K cdv qual = true) (kp : PySem.W.keepIn K (.ref f) = true) (hD : K.lookup D = some o) (hs : o.data = .seq its.toArray n) (hv : Vals dvs its) (hne : dvs ≠ []) :
    FunD K x qual (defArgs st) (defBody st) (defScope st) dvs [] f (PySem.W.fnOf x qual (defArgs st) (defBody st) (defScope st) (.ref D) kV doc pm an cdv ct) :=
  ⟨⟨oc, od, .ref D, kV, doc, pm, an, cdv, ct, osl, rfl, l, c, .inr ⟨hne, D, o, its, n, rfl, hD, hs, hv⟩, .inl rfl⟩, kp⟩
theorem binds_all (F : FunD K x qual params body scope dvs [] f fd) (hd : dvs ≠ [])
    (h : ∀ (T : Addr) (kV doc pm : Value) (an : Option Addr) (cdv ct : Value) (us its : List Value), us.length = ps.length → its.length = dvs.length →
      ∃ k, bindArgs (PySem.W.fnOf x qual params body scope (.ref T) kV doc pm an cdv ct) ⟨us, []⟩ = seqItems? (.ref T) >>= k ∧ k (some its.toArray) = pure (ps.zip us)) : Binds K fd ps [] := by
  obtain ⟨ds, hv, hb⟩ := F.binds1 (ps := ps) ps.length dvs.length hd (by omega) fun T kV doc pm an cdv ct us its h1 h2 => by
    obtain ⟨k, e1, e2⟩ := h T kV doc pm an cdv ct us its h1 h2
    refine ⟨k, e1, ?_⟩
    rw [e2, List.drop_eq_nil_of_le (by omega), List.append_nil]
  rw [List.drop_eq_nil_of_le (Nat.le_refl _)] at hv
  cases hv
  exact hb
end
/-- a constant tuple of the module -/
theorem sqT_k {K : PySem.W.Frag} {p : Addr} {od : Option Addr} {its : Array Value} {n : Nat} {sl : Array (Option Value)} {xs : List V} (l : K.lookup p = some ⟨.type "tuple", od, .seq its n, sl⟩) (hz : its.size ≤ 1000) (hv : Vals xs its.toList) : ∀ H, SqT K H p xs :=
  fun H => .inr ⟨_, its, n, l, rfl, rfl, Nat.le_trans hz (by decide), hv⟩
theorem sqL_sub {K : PySem.W.Frag} {H H' : Hp} {p : Addr} {xs : List V} (s : Sub H H') (h : SqL K H p xs) : SqL K H' p xs := by
  rcases h with (h | ⟨o, h⟩) | h
  · exact .inl (.inl (s _ _ h))
  · exact .inl (.inr ⟨o, s _ _ h⟩)
  · exact .inr h
theorem has_self {H : Hp} : Has H [H] := ⟨fun h hh => by rw [List.mem_singleton.mp hh]; exact fun _ _ e => e, List.pairwise_singleton _ _⟩
/-- the law's call -/
theorem law_in {K : PySem.W.Frag} {a : Addr} {ns : List Int} {H : Hp} {sp : Spec} (hS : SqL K H a (ns.map V.int)) (h : ∀ A : SH, RL K A a (ns.map V.int) → sp [.ref a] A (fun v _ => v = .bl true) fun _ _ _ => False) : lift sp [.ref a] H (fun v _ => v = .bl true) fun _ _ _ => False :=
  ⟨[H], fun v _ => v = .bl true, fun _ _ _ => False, has_self, fun v A H' _ e => e, fun _ _ _ _ _ z => z, h [H] fun H' x => sqL_sub x.head hS⟩
theorem cx_no {P : Program} {w : World} {H : Hp} {s : Shared} {e : Value} {s' : Shared} (h : L2.CX P w [] H s (fun _ _ _ => False) e s') : False := by
  obtain ⟨_, _, _, _, _, _, _, _, _, _, _, _, z⟩ := h
  exact z
end S

namespace S
open PySem L2
abbrev top (i : Nat) : Stmt := PySem.Challenge.pw_buildhall_k30_bounds.main.body.getD i (.Pass ⟨0, 0, 0, 0⟩)
abbrev s_wall : Stmt := (top 0)
abbrev s_wait_after : Stmt := (top 3)
abbrev s_rest_sum : Stmt := (top 4)
abbrev s_bound : Stmt := (top 6)
abbrev s_NoJob_init : Stmt := (inClass (top 14) 0)
abbrev s_Ring_init : Stmt := (inClass (top 15) 0)
abbrev s_is_whole : Stmt := (top 19)
abbrev s_is_among : Stmt := (top 20)
abbrev s_is_made_of : Stmt := (top 21)
abbrev s_is_name : Stmt := (top 22)
abbrev s_own_needs : Stmt := (top 27)
abbrev s_need_numbers : Stmt := (top 28)
abbrev s_Job_init : Stmt := (inClass (top 29) 0)
abbrev s_can_stand : Stmt := (top 31)
abbrev s_next_place : Stmt := (top 32)
abbrev s_beginning : Stmt := (top 33)
abbrev s_ring_of : Stmt := (top 34)
abbrev s_own_jobs : Stmt := (top 37)
abbrev s_places_of : Stmt := (top 38)
abbrev s_Plan_init : Stmt := (inClass (top 39) 0)
abbrev s_Plan_needed : Stmt := (inClass (top 39) 1)
abbrev s_Plan_many : Stmt := (inClass (top 39) 2)
abbrev s_Plan_job_at : Stmt := (inClass (top 39) 3)
abbrev s_Plan_place_of : Stmt := (inClass (top 39) 4)
abbrev s_Plan_wants : Stmt := (inClass (top 39) 5)
abbrev s_Plan_wanted_by : Stmt := (inClass (top 39) 6)
abbrev s_Plan_order : Stmt := (inClass (top 39) 7)
abbrev s_law_cell_at : Stmt := (top 41)
abbrev s_law_mixed : Stmt := (top 42)
abbrev s_law_whole : Stmt := (top 43)
abbrev s_law_numbers : Stmt := (top 44)
abbrev s_law : Stmt := (top 45)
structure Ad where
  cHallError : Addr
  cBadName : Addr
  cBadNumber : Addr
  cBadNeeds : Addr
  cBadPlan : Addr
  cTwice : Addr
  cNoJob : Addr
  cRing : Addr
  cJob : Addr
  cPlan : Addr
  gLEAST : Addr
  gMOST : Addr

def fJob (x_name x_needs x_rank x_span x_tries x_wait x_grow : V) : List (Str × V) := [("name", x_name), ("needs", x_needs), ("rank", x_rank), ("span", x_span), ("tries", x_tries), ("wait", x_wait), ("grow", x_grow)]
theorem fJob_name {x_name x_needs x_rank x_span x_tries x_wait x_grow : V} : (fJob x_name x_needs x_rank x_span x_tries x_wait x_grow).lookup ("name" : Str) = some x_name := by first | rfl | kernel_rfl
theorem fJob_needs {x_name x_needs x_rank x_span x_tries x_wait x_grow : V} : (fJob x_name x_needs x_rank x_span x_tries x_wait x_grow).lookup ("needs" : Str) = some x_needs := by first | rfl | kernel_rfl
theorem fJob_rank {x_name x_needs x_rank x_span x_tries x_wait x_grow : V} : (fJob x_name x_needs x_rank x_span x_tries x_wait x_grow).lookup ("rank" : Str) = some x_rank := by first | rfl | kernel_rfl
theorem fJob_span {x_name x_needs x_rank x_span x_tries x_wait x_grow : V} : (fJob x_name x_needs x_rank x_span x_tries x_wait x_grow).lookup ("span" : Str) = some x_span := by first | rfl | kernel_rfl
theorem fJob_tries {x_name x_needs x_rank x_span x_tries x_wait x_grow : V} : (fJob x_name x_needs x_rank x_span x_tries x_wait x_grow).lookup ("tries" : Str) = some x_tries := by first | rfl | kernel_rfl
theorem fJob_wait {x_name x_needs x_rank x_span x_tries x_wait x_grow : V} : (fJob x_name x_needs x_rank x_span x_tries x_wait x_grow).lookup ("wait" : Str) = some x_wait := by first | rfl | kernel_rfl
theorem fJob_grow {x_name x_needs x_rank x_span x_tries x_wait x_grow : V} : (fJob x_name x_needs x_rank x_span x_tries x_wait x_grow).lookup ("grow" : Str) = some x_grow := by first | rfl | kernel_rfl
theorem fJob_put_name {x_name x_needs x_rank x_span x_tries x_wait x_grow y : V} : putF "name" y (fJob x_name x_needs x_rank x_span x_tries x_wait x_grow) = fJob y x_needs x_rank x_span x_tries x_wait x_grow := by first | rfl | kernel_rfl
theorem fJob_put_needs {x_name x_needs x_rank x_span x_tries x_wait x_grow y : V} : putF "needs" y (fJob x_name x_needs x_rank x_span x_tries x_wait x_grow) = fJob x_name y x_rank x_span x_tries x_wait x_grow := by first | rfl | kernel_rfl
theorem fJob_put_rank {x_name x_needs x_rank x_span x_tries x_wait x_grow y : V} : putF "rank" y (fJob x_name x_needs x_rank x_span x_tries x_wait x_grow) = fJob x_name x_needs y x_span x_tries x_wait x_grow := by first | rfl | kernel_rfl
theorem fJob_put_span {x_name x_needs x_rank x_span x_tries x_wait x_grow y : V} : putF "span" y (fJob x_name x_needs x_rank x_span x_tries x_wait x_grow) = fJob x_name x_needs x_rank y x_tries x_wait x_grow := by first | rfl | kernel_rfl
theorem fJob_put_tries {x_name x_needs x_rank x_span x_tries x_wait x_grow y : V} : putF "tries" y (fJob x_name x_needs x_rank x_span x_tries x_wait x_grow) = fJob x_name x_needs x_rank x_span y x_wait x_grow := by first | rfl | kernel_rfl
theorem fJob_put_wait {x_name x_needs x_rank x_span x_tries x_wait x_grow y : V} : putF "wait" y (fJob x_name x_needs x_rank x_span x_tries x_wait x_grow) = fJob x_name x_needs x_rank x_span x_tries y x_grow := by first | rfl | kernel_rfl
theorem fJob_put_grow {x_name x_needs x_rank x_span x_tries x_wait x_grow y : V} : putF "grow" y (fJob x_name x_needs x_rank x_span x_tries x_wait x_grow) = fJob x_name x_needs x_rank x_span x_tries x_wait y := by first | rfl | kernel_rfl
theorem fJob_all {x_name x_needs x_rank x_span x_tries x_wait x_grow : V} : (putF "grow" x_grow (putF "wait" x_wait (putF "tries" x_tries (putF "span" x_span (putF "rank" x_rank (putF "needs" x_needs (putF "name" x_name []))))))) = fJob x_name x_needs x_rank x_span x_tries x_wait x_grow := by first | rfl | kernel_rfl
theorem fJob_len {x_name x_needs x_rank x_span x_tries x_wait x_grow : V} : (fJob x_name x_needs x_rank x_span x_tries x_wait x_grow).length = 7 := rfl
def fPlan (x_jobs x_places : V) : List (Str × V) := [("jobs", x_jobs), ("places", x_places)]
theorem fPlan_jobs {x_jobs x_places : V} : (fPlan x_jobs x_places).lookup ("jobs" : Str) = some x_jobs := by first | rfl | kernel_rfl
theorem fPlan_places {x_jobs x_places : V} : (fPlan x_jobs x_places).lookup ("places" : Str) = some x_places := by first | rfl | kernel_rfl
theorem fPlan_put_jobs {x_jobs x_places y : V} : putF "jobs" y (fPlan x_jobs x_places) = fPlan y x_places := by first | rfl | kernel_rfl
theorem fPlan_put_places {x_jobs x_places y : V} : putF "places" y (fPlan x_jobs x_places) = fPlan x_jobs y := by first | rfl | kernel_rfl
theorem fPlan_all {x_jobs x_places : V} : (putF "places" x_places (putF "jobs" x_jobs [])) = fPlan x_jobs x_places := by first | rfl | kernel_rfl
theorem fPlan_len {x_jobs x_places : V} : (fPlan x_jobs x_places).length = 2 := rfl
theorem fPlan_no_job_at {x_jobs x_places : V} : (fPlan x_jobs x_places).lookup ("job_at" : Str) = none := by first | rfl | kernel_rfl
theorem fPlan_no_many {x_jobs x_places : V} : (fPlan x_jobs x_places).lookup ("many" : Str) = none := by first | rfl | kernel_rfl
theorem fPlan_no_needed {x_jobs x_places : V} : (fPlan x_jobs x_places).lookup ("needed" : Str) = none := by first | rfl | kernel_rfl
theorem fPlan_no_order {x_jobs x_places : V} : (fPlan x_jobs x_places).lookup ("order" : Str) = none := by first | rfl | kernel_rfl
theorem fPlan_no_place_of {x_jobs x_places : V} : (fPlan x_jobs x_places).lookup ("place_of" : Str) = none := by first | rfl | kernel_rfl
theorem fPlan_no_wanted_by {x_jobs x_places : V} : (fPlan x_jobs x_places).lookup ("wanted_by" : Str) = none := by first | rfl | kernel_rfl
theorem fPlan_no_wants {x_jobs x_places : V} : (fPlan x_jobs x_places).lookup ("wants" : Str) = none := by first | rfl | kernel_rfl
end S

namespace S
open PySem L2
/-! ### the data -/
structure Jb where
  name : Str
  rank : Int
  span : Int
  tries : Int
  wait : Int
  grow : Int
abbrev fJb (j : Jb) (nd : Addr) : List (Str × V) := fJob (.str j.name) (.ref nd) (.int j.rank) (.int j.span) (.int j.tries) (.int j.wait) (.int j.grow)
/-- a job without needs stands at p -/
def JobAt (A : SH) (a : Ad) (p : Addr) (j : Jb) : Prop := ∃ dx nd, RO A p (.ins a.cJob dx (fJb j nd)) ∧ RO A nd (.lst [])
def JobsAt (A : SH) (a : Ad) (ps : List Addr) (js : List Jb) : Prop := ps.length = js.length ∧ ∀ (i : Nat) p j, ps[i]? = some p → js[i]? = some j → JobAt A a p j
def madeOf (z signs : Str) (most : Int) : Bool := decide (1 ≤ (z.length : Int)) && decide ((z.length : Int) ≤ most) && z.cps.toList.all fun c => decide (c ∈ signs.cps.toList)
def isName (z : Str) : Bool := madeOf z "abcdefghijklmnopqrstuvwxyz" 12
def mixF (c k : Int) : Int := (c + 7919 * k + 3) * 48271 % 2147483647 * (16807 + k * k) % 2147483629
def restF (w g : Int) : Nat → Int
  | 0 => w
  | n + 1 => min (restF w g n * g) 100000
def restS (w g : Int) : Nat → Int
  | 0 => 0
  | n + 1 => restS w g n + restF w g n
def boundF (js : List Jb) (term : Int) : Int := (js.map fun j => j.tries * (j.span + term) + restS j.wait j.grow (j.tries - 1).toNat).sum
def jobOk (j : Jb) : Prop := isName j.name = true ∧ 0 ≤ j.rank ∧ j.rank ≤ 99 ∧ 1 ≤ j.span ∧ j.span ≤ 1000 ∧ 1 ≤ j.tries ∧ j.tries ≤ 20 ∧ 0 ≤ j.wait ∧ j.wait ≤ 1000 ∧ 1 ≤ j.grow ∧ j.grow ≤ 4
/-- the rows of a plan without needs: all empty -/
def Rows0 (K : PySem.W.Frag) (A : SH) (p : Addr) (n : Nat) : Prop := ∃ rs : List Addr, rs.length = n ∧ RL K A p (rs.map V.ref) ∧ ∀ r ∈ rs, RL K A r []
/-- the dict of the first m places -/
def Ahead (kvs : List (L2.Key × V)) (m : Nat) : Prop := kvs = (List.range m).map fun i : Nat => (Sum.inl (i : Int), V.bl true)
/-! ### what each def is worth -/
def S_wait_after (K : PySem.W.Frag) (a : Ad) : Spec := fun vs A Φ _ => ∃ (p : Addr) (j : Jb) (fails : Int), vs = [.ref p, .int fails] ∧ JobAt A a p j ∧ jobOk j ∧ 0 ≤ fails ∧ fails ≤ 1000 ∧ Φ (.int (restF j.wait j.grow (fails - 1).toNat)) A
def S_rest_sum (K : PySem.W.Frag) (a : Ad) : Spec := fun vs A Φ _ => ∃ (p : Addr) (j : Jb), vs = [.ref p] ∧ JobAt A a p j ∧ jobOk j ∧ Φ (.int (restS j.wait j.grow (j.tries - 1).toNat)) A
def S_bound (K : PySem.W.Frag) (a : Ad) : Spec := fun vs A Φ _ => ∃ (p l dx d : Addr) (ps : List Addr) (js : List Jb) (term : Int), vs = [.ref p, .int term] ∧ RO A p (.ins a.cPlan dx (fPlan (.ref l) (.ref d))) ∧ RO A l (.lst (ps.map V.ref)) ∧
  JobsAt A a ps js ∧ (∀ j ∈ js, jobOk j) ∧ 0 ≤ term ∧ term ≤ 1000 ∧ Φ (.int (boundF js term)) A
def S_is_whole (K : PySem.W.Frag) (a : Ad) : Spec := fun vs A Φ _ => ∃ i : Int, vs = [.int i] ∧ Φ (.bl true) A
def S_is_among (K : PySem.W.Frag) (a : Ad) : Spec := fun vs A Φ _ => ∃ i l m : Int, vs = [.int i, .int l, .int m] ∧ (l ≤ i ∧ i ≤ m → Φ (.bl true) A) ∧ (¬ (l ≤ i ∧ i ≤ m) → Φ (.bl false) A)
def S_is_made_of (K : PySem.W.Frag) (a : Ad) : Spec := fun vs A Φ _ => ∃ (z s : Str) (m : Int), vs = [.str z, .str s, .int m] ∧ z.length ≤ 1000 ∧ Φ (.bl (madeOf z s m)) A
def S_is_name (K : PySem.W.Frag) (a : Ad) : Spec := fun vs A Φ _ => ∃ z : Str, vs = [.str z] ∧ z.length ≤ 1000 ∧ Φ (.bl (isName z)) A
def S_own_needs (K : PySem.W.Frag) (a : Ad) : Spec := fun vs A Φ _ => ∃ (z : Str) (l : Addr), vs = [.str z, .ref l] ∧ RO A l (.lst []) ∧ ∀ q, Φ (.ref q) (sg q (.lst []) :: A)
def S_need_numbers (K : PySem.W.Frag) (a : Ad) : Spec := fun vs A Φ _ => ∃ (l : Addr) (r s t w g : Int), vs = [.ref l] ∧ RO A l (.lst [.int r, .int s, .int t, .int w, .int g]) ∧ 0 ≤ r ∧ r ≤ 99 ∧ 1 ≤ s ∧ s ≤ 1000 ∧ 1 ≤ t ∧ t ≤ 20 ∧ 0 ≤ w ∧ w ≤ 1000 ∧ 1 ≤ g ∧ g ≤ 4 ∧ Φ .non A
def S_Job_init (K : PySem.W.Frag) (a : Ad) : Spec := fun vs A Φ _ => ∃ (p dx l : Addr) (j : Jb) (B : SH), vs = [.ref p, .str j.name, .ref l, .int j.rank, .int j.span, .int j.tries, .int j.wait, .int j.grow] ∧ Pull A (sg p (.ins a.cJob dx [])) B ∧ RO B l (.lst []) ∧
  j.name.length ≤ 1000 ∧ jobOk j ∧ ∀ nd, Φ .non (sg p (.ins a.cJob dx (fJb j nd)) :: sg nd (.lst []) :: B)
def S_can_stand (K : PySem.W.Frag) (a : Ad) : Spec := fun vs A Φ _ => ∃ (p h : Addr) (n i : Nat), vs = [.ref p, .int i, .ref h] ∧ Rows0 K A p n ∧ i < n ∧ Φ (.bl true) A
def S_next_place (K : PySem.W.Frag) (a : Ad) : Spec := fun vs A Φ _ => ∃ (p h : Addr) (n m : Nat) (kvs : List (L2.Key × V)), vs = [.ref p, .ref h] ∧ Rows0 K A p n ∧ n ≤ 40 ∧ RO A h (.dK kvs) ∧ Ahead kvs m ∧ m ≤ n ∧ Φ (if m < n then .int m else .non) A
def S_beginning (K : PySem.W.Frag) (a : Ad) : Spec := fun vs A Φ _ => ∃ (p : Addr) (n : Nat), vs = [.ref p] ∧ Rows0 K A p n ∧ n ≤ 40 ∧ ∀ q, Φ (.ref q) (sg q (.lst ((List.range n).map fun i : Nat => V.int i)) :: A)
def S_ring_of (K : PySem.W.Frag) (a : Ad) : Spec := fun vs A Φ _ => ∃ (p : Addr) (n : Nat), vs = [.ref p] ∧ Rows0 K A p n ∧ n ≤ 40 ∧ Φ .non A
def S_own_jobs (K : PySem.W.Frag) (a : Ad) : Spec := fun vs A Φ _ => ∃ (l : Addr) (ps : List Addr) (js : List Jb), vs = [.ref l] ∧ RO A l (.lst (ps.map V.ref)) ∧ JobsAt A a ps js ∧ 1 ≤ js.length ∧ js.length ≤ 40 ∧ ∀ q, Φ (.ref q) (sg q (.lst (ps.map V.ref)) :: A)
def S_places_of (K : PySem.W.Frag) (a : Ad) : Spec := fun vs A Φ _ => ∃ (l : Addr) (ps : List Addr) (js : List Jb), vs = [.ref l] ∧ RO A l (.lst (ps.map V.ref)) ∧ JobsAt A a ps js ∧ js.length ≤ 40 ∧ (js.map (·.name)).Nodup ∧ ∀ q kvs, Φ (.ref q) (sg q (.dK kvs) :: A)
def S_Plan_init (K : PySem.W.Frag) (a : Ad) : Spec := fun vs A Φ _ => ∃ (p dx l : Addr) (ps : List Addr) (js : List Jb) (B : SH), vs = [.ref p, .ref l] ∧ Pull A (sg p (.ins a.cPlan dx [])) B ∧ RO B l (.lst (ps.map V.ref)) ∧ JobsAt B a ps js ∧ 1 ≤ js.length ∧ js.length ≤ 40 ∧ (js.map (·.name)).Nodup ∧
  ∀ q d kvs, Φ .non (sg p (.ins a.cPlan dx (fPlan (.ref q) (.ref d))) :: sg q (.lst (ps.map V.ref)) :: sg d (.dK kvs) :: B)
def S_Plan_needed (K : PySem.W.Frag) (a : Ad) : Spec := fun vs A Φ _ => ∃ (p l dx d : Addr) (ps : List Addr) (js : List Jb), vs = [.ref p] ∧ RO A p (.ins a.cPlan dx (fPlan (.ref l) (.ref d))) ∧ RO A l (.lst (ps.map V.ref)) ∧ JobsAt A a ps js ∧ js.length ≤ 40 ∧
  ∀ q h, Rows0 K [h] q js.length → Φ (.ref q) (h :: A)
def S_Plan_many (K : PySem.W.Frag) (a : Ad) : Spec := fun vs A Φ _ => ∃ (p l dx d : Addr) (xs : List V), vs = [.ref p] ∧ RO A p (.ins a.cPlan dx (fPlan (.ref l) (.ref d))) ∧ RO A l (.lst xs) ∧ Φ (.int xs.length) A
def S_Plan_job_at (K : PySem.W.Frag) (a : Ad) : Spec := fun vs A Φ _ => ∃ (p l dx d : Addr) (xs : List V) (i : Nat) (v : V), vs = [.ref p, .int i] ∧ RO A p (.ins a.cPlan dx (fPlan (.ref l) (.ref d))) ∧ RO A l (.lst xs) ∧ xs[i]? = some v ∧ Φ v A
def S_Plan_place_of (K : PySem.W.Frag) (a : Ad) : Spec := fun vs A Φ _ => False
def S_law_cell_at (K : PySem.W.Frag) (a : Ad) : Spec := fun vs A Φ _ => ∃ (p : Addr) (ns : List Int) (k : Int), vs = [.ref p, .int k] ∧ RL K A p (ns.map V.int) ∧ ns.length ≤ 63 ∧ 0 ≤ k ∧ k < 1000 ∧ Φ (.int (ns.getD k.toNat 0)) A
def S_law_mixed (K : PySem.W.Frag) (a : Ad) : Spec := fun vs A Φ _ => ∃ c k : Int, vs = [.int c, .int k] ∧ 0 ≤ k ∧ k < 1000 ∧ Φ (.int (mixF c k)) A
def S_law_whole (K : PySem.W.Frag) (a : Ad) : Spec := fun vs A Φ _ => ∃ i : Int, vs = [.int i] ∧ Φ (.bl true) A
def numF (ns : List Int) (k : Int) : Int := mixF (ns.getD (1 + k % 8).toNat 0) k
def spanF (n : Int) : Int := [1, 1000, 1 + n / 3 % 1000].getD (n % 3).toNat 0
def triesF (n : Int) : Int := [1, 2, 20, 1 + n / 5 % 20].getD (n / 7 % 4).toNat 0
def waitF (n : Int) : Int := [0, 1, 1000, n / 11 % 1001].getD (n / 13 % 4).toNat 0
def growF (n : Int) : Int := 1 + n / 17 % 4
def S_law_numbers (K : PySem.W.Frag) (a : Ad) : Spec := fun vs A Φ _ => ∃ (p : Addr) (ns : List Int) (k : Int), vs = [.ref p, .int k] ∧ RL K A p (ns.map V.int) ∧ ns.length ≤ 63 ∧ 0 ≤ k ∧ k < 1000 ∧
  ∀ t, Φ (.ref t) (sg t (.tup [.int (spanF (numF ns k)), .int (triesF (numF ns k)), .int (waitF (numF ns k)), .int (growF (numF ns k))]) :: A)
def S_law (K : PySem.W.Frag) (a : Ad) : Spec := fun vs A Φ _ => ∃ (p : Addr) (ns : List Int), vs = [.ref p] ∧ RL K A p (ns.map V.int) ∧ ns.length ≤ 63 ∧ Φ (.bl true) A
end S

namespace S
open PySem L2
/-- the methods of own classes -/
inductive MT (K : PySem.W.Frag) (a : Ad) : Str → Addr → Spec → Prop
  | Plan_needed : MT K a "needed" a.cPlan (S_Plan_needed K a)
  | Plan_many : MT K a "many" a.cPlan (S_Plan_many K a)
  | Plan_job_at : MT K a "job_at" a.cPlan (S_Plan_job_at K a)
  | Plan_place_of : MT K a "place_of" a.cPlan (S_Plan_place_of K a)
/-- what the top has written -/
structure Txt (K : PySem.W.Frag) (mg : Str → Option Value) (a : Ad) : Prop where
  b_bool : mg "bool" = none
  b_enumerate : mg "enumerate" = none
  b_int : mg "int" = none
  b_isinstance : mg "isinstance" = none
  b_len : mg "len" = none
  b_list : mg "list" = none
  b_min : mg "min" = none
  b_range : mg "range" = none
  b_str : mg "str" = none
  b_tuple : mg "tuple" = none
  g_MOST_WAIT : ∃ u, mg "MOST_WAIT" = some u ∧ RelV (.int (100000)) u
  g_LETTERS : ∃ u, mg "LETTERS" = some u ∧ RelV (.str "abcdefghijklmnopqrstuvwxyz") u
  g_MOST_LETTERS : ∃ u, mg "MOST_LETTERS" = some u ∧ RelV (.int (12)) u
  g_MOST_NEEDS : ∃ u, mg "MOST_NEEDS" = some u ∧ RelV (.int (8)) u
  g_LEAST : ∃ u, mg "LEAST" = some u ∧ RelV (.ref a.gLEAST) u
  k_LEAST : ∀ H, SqT K H a.gLEAST [.int (0), .int (1), .int (1), .int (0), .int (1)]
  g_MOST : ∃ u, mg "MOST" = some u ∧ RelV (.ref a.gMOST) u
  k_MOST : ∀ H, SqT K H a.gMOST [.int (99), .int (1000), .int (20), .int (1000), .int (4)]
  g_MOST_JOBS : ∃ u, mg "MOST_JOBS" = some u ∧ RelV (.int (40)) u
  m_Job : mg "Job" = some (.ref a.cJob)
  i_Job : InsO K a.cJob
  n_Job_name : NoAttr K a.cJob "name"
  n_Job_needs : NoAttr K a.cJob "needs"
  n_Job_rank : NoAttr K a.cJob "rank"
  n_Job_span : NoAttr K a.cJob "span"
  n_Job_tries : NoAttr K a.cJob "tries"
  n_Job_wait : NoAttr K a.cJob "wait"
  n_Job_grow : NoAttr K a.cJob "grow"
  m_Plan : mg "Plan" = some (.ref a.cPlan)
  i_Plan : InsO K a.cPlan
  n_Plan_jobs : NoAttr K a.cPlan "jobs"
  n_Plan_places : NoAttr K a.cPlan "places"
/-- fields -/
theorem fo_Job_name {K : PySem.W.Frag} {mg : Str → Option Value} {a : Ad} (T : Txt K mg a) : FOk K a.cJob "name" := ⟨T.i_Job.c, T.n_Job_name⟩
theorem fo_Job_needs {K : PySem.W.Frag} {mg : Str → Option Value} {a : Ad} (T : Txt K mg a) : FOk K a.cJob "needs" := ⟨T.i_Job.c, T.n_Job_needs⟩
theorem fo_Job_rank {K : PySem.W.Frag} {mg : Str → Option Value} {a : Ad} (T : Txt K mg a) : FOk K a.cJob "rank" := ⟨T.i_Job.c, T.n_Job_rank⟩
theorem fo_Job_span {K : PySem.W.Frag} {mg : Str → Option Value} {a : Ad} (T : Txt K mg a) : FOk K a.cJob "span" := ⟨T.i_Job.c, T.n_Job_span⟩
theorem fo_Job_tries {K : PySem.W.Frag} {mg : Str → Option Value} {a : Ad} (T : Txt K mg a) : FOk K a.cJob "tries" := ⟨T.i_Job.c, T.n_Job_tries⟩
theorem fo_Job_wait {K : PySem.W.Frag} {mg : Str → Option Value} {a : Ad} (T : Txt K mg a) : FOk K a.cJob "wait" := ⟨T.i_Job.c, T.n_Job_wait⟩
theorem fo_Job_grow {K : PySem.W.Frag} {mg : Str → Option Value} {a : Ad} (T : Txt K mg a) : FOk K a.cJob "grow" := ⟨T.i_Job.c, T.n_Job_grow⟩
theorem fo_Plan_jobs {K : PySem.W.Frag} {mg : Str → Option Value} {a : Ad} (T : Txt K mg a) : FOk K a.cPlan "jobs" := ⟨T.i_Plan.c, T.n_Plan_jobs⟩
theorem fo_Plan_places {K : PySem.W.Frag} {mg : Str → Option Value} {a : Ad} (T : Txt K mg a) : FOk K a.cPlan "places" := ⟨T.i_Plan.c, T.n_Plan_places⟩
end S

namespace S
open PySem L2
-- _wall: skipped
theorem sc_wait_after : FnScope ["job", "fails", "turns", "turn"] ["job", "fails"] (defScope s_wait_after) := ⟨rfl, rfl, rfl, by decide +kernel, rfl, by decide +kernel, by decide +kernel⟩
def t_wait_after (K : PySem.W.Frag) (a : Ad) (W : WX) : TS :=
  (tSeq (tAsg (tFld K (tVar 0) "wait") (gName 2))
  (tSeq (tFor (iRng1 (tCons (tOp dSub (tVar 1) (tC (.int 1))) tNil)) (gName 3) (tAsg (tCB cMin2 (tCons (tOp dMul (tVar 2) (tFld K (tVar 0) "grow")) (tCons (tC (.int (100000))) tNil))) (gName 2)))
  (tRet (tVar 2))))
theorem dv_wait_after {P : Program} {w : World} {K : PySem.W.Frag} {mg : Str → Option Value} {base : Heap} {a : Ad} (T : Txt K mg a) 
    {f : Addr} {cdv : Value} {A : Around} {outer : List Env} {s : Shared} {H : Hp} {E : XK} (hr : Room 0 (A.deeper (PyProof.Rows.envOfC "wait_after" (defScope s_wait_after) s.heap.objs.size f cdv))) :
    PSs (cxOf (L2.CX P w) P w K mg base ["job", "fails", "turns", "turn"] "wait_after" (defScope s_wait_after) f cdv A outer s H E) (defBody s_wait_after) (t_wait_after K a fun c d _ H => E c d H) := by
  have tk : Takes (cxOf (L2.CX P w) P w K mg base ["job", "fails", "turns", "turn"] "wait_after" (defScope s_wait_after) f cdv A outer s H E) (fun c d _ H => E c d H) := takes_of rfl rfl rfl rfl
  have po : PassesOwn (model P w) (A.deeper (PyProof.Rows.envOfC "wait_after" (defScope s_wait_after) s.heap.objs.size f cdv)) (PyProof.Rows.envOfC "wait_after" (defScope s_wait_after) s.heap.objs.size f cdv) (cxOf (L2.CX P w) P w K mg base ["job", "fails", "turns", "turn"] "wait_after" (defScope s_wait_after) f cdv A outer s H E).xe := passes_of (X := cxOf (L2.CX P w) P w K mg base ["job", "fails", "turns", "turn"] "wait_after" (defScope s_wait_after) f cdv A outer s H E) rfl
  exact (pss_cons (ps_set (i := 2) sc_wait_after.nd rfl (by first | exact Or.inl rfl | exact Or.inr rfl) (pe_fld (pv 0) rfl))
  (pss_cons (ps_for po rfl (pi_range1 rfl T.b_range (pa_cons (pe_op op_dSub (pv 1) pe_int) pa_nil)) (pg_name (i := 3) sc_wait_after.nd rfl (by first | exact Or.inl rfl | exact Or.inr rfl)) (pss_one (ps_set (i := 2) sc_wait_after.nd rfl (by first | exact Or.inl rfl | exact Or.inr rfl) (pe_callB (call_cMin2 rfl) (by rfl) T.b_min (by decide +kernel) (pa_cons (pe_op op_dMul (pv 2) (pe_fld (pv 0) rfl)) (pa_cons (pe_gl (v := .int (100000)) T.g_MOST_WAIT) pa_nil))))))
  (pss_one (ps_ret (pv 2)))))
theorem sc_rest_sum : FnScope ["job", "turns", "fails"] ["job"] (defScope s_rest_sum) := ⟨rfl, rfl, rfl, by decide +kernel, rfl, by decide +kernel, by decide +kernel⟩
def t_rest_sum (K : PySem.W.Frag) (a : Ad) (W : WX) : TS :=
  (tSeq (tAsg (tC (.int 0)) (gName 1))
  (tSeq (tFor (iRng2 (tCons (tC (.int 1)) (tCons (tFld K (tVar 0) "tries") tNil))) (gName 2) (tAug 1 (tCal (lift (S_wait_after K a)) W (tCons (tVar 0) (tCons (tVar 2) tNil))) (ipI fun i j => i + j)))
  (tRet (tVar 1))))
theorem dv_rest_sum {P : Program} {w : World} {K : PySem.W.Frag} {mg : Str → Option Value} {base : Heap} {a : Ad} (T : Txt K mg a) (G_wait_after : DefR P w K mg base 1 "wait_after" (lift (S_wait_after K a)))
    {f : Addr} {cdv : Value} {A : Around} {outer : List Env} {s : Shared} {H : Hp} {E : XK} (hr : Room 1 (A.deeper (PyProof.Rows.envOfC "rest_sum" (defScope s_rest_sum) s.heap.objs.size f cdv))) :
    PSs (cxOf (L2.CX P w) P w K mg base ["job", "turns", "fails"] "rest_sum" (defScope s_rest_sum) f cdv A outer s H E) (defBody s_rest_sum) (t_rest_sum K a fun c d _ H => E c d H) := by
  have tk : Takes (cxOf (L2.CX P w) P w K mg base ["job", "turns", "fails"] "rest_sum" (defScope s_rest_sum) f cdv A outer s H E) (fun c d _ H => E c d H) := takes_of rfl rfl rfl rfl
  have po : PassesOwn (model P w) (A.deeper (PyProof.Rows.envOfC "rest_sum" (defScope s_rest_sum) s.heap.objs.size f cdv)) (PyProof.Rows.envOfC "rest_sum" (defScope s_rest_sum) s.heap.objs.size f cdv) (cxOf (L2.CX P w) P w K mg base ["job", "turns", "fails"] "rest_sum" (defScope s_rest_sum) f cdv A outer s H E).xe := passes_of (X := cxOf (L2.CX P w) P w K mg base ["job", "turns", "fails"] "rest_sum" (defScope s_rest_sum) f cdv A outer s H E) rfl
  exact (pss_cons (ps_set (i := 1) sc_rest_sum.nd rfl (by first | exact Or.inl rfl | exact Or.inr rfl) pe_int)
  (pss_cons (ps_for po rfl (pi_range2 rfl T.b_range (pa_cons pe_int (pa_cons (pe_fld (pv 0) rfl) pa_nil))) (pg_name (i := 2) sc_rest_sum.nd rfl (by first | exact Or.inl rfl | exact Or.inr rfl)) (pss_one (ps_aug (i := 1) sc_rest_sum.nd rfl (by first | exact Or.inl rfl | exact Or.inr rfl) (pe_own G_wait_after (hr.mono (by decide)) rfl tk (pa_cons (pv 0) (pa_cons (pv 2) pa_nil))) ip_add)))
  (pss_one (ps_ret (pv 1)))))
theorem sc_bound : FnScope ["plan", "term", "turns", "job"] ["plan", "term"] (defScope s_bound) := ⟨rfl, rfl, rfl, by decide +kernel, rfl, by decide +kernel, by decide +kernel⟩
def t_bound (K : PySem.W.Frag) (a : Ad) (W : WX) : TS :=
  (tSeq (tAsg (tC (.int 0)) (gName 2))
  (tSeq (tFor (iList K (tFld K (tVar 0) "jobs")) (gName 3) (tSeq (tAug 2 (tOp dMul (tFld K (tVar 3) "tries") (tOp (dAdd K) (tFld K (tVar 3) "span") (tVar 1))) (ipI fun i j => i + j))
  (tAug 2 (tCal (lift (S_rest_sum K a)) W (tCons (tVar 3) tNil)) (ipI fun i j => i + j))))
  (tRet (tVar 2))))
theorem dv_bound {P : Program} {w : World} {K : PySem.W.Frag} {mg : Str → Option Value} {base : Heap} {a : Ad} (T : Txt K mg a) (G_rest_sum : DefR P w K mg base 2 "rest_sum" (lift (S_rest_sum K a)))
    {f : Addr} {cdv : Value} {A : Around} {outer : List Env} {s : Shared} {H : Hp} {E : XK} (hr : Room 2 (A.deeper (PyProof.Rows.envOfC "bound" (defScope s_bound) s.heap.objs.size f cdv))) :
    PSs (cxOf (L2.CX P w) P w K mg base ["plan", "term", "turns", "job"] "bound" (defScope s_bound) f cdv A outer s H E) (defBody s_bound) (t_bound K a fun c d _ H => E c d H) := by
  have tk : Takes (cxOf (L2.CX P w) P w K mg base ["plan", "term", "turns", "job"] "bound" (defScope s_bound) f cdv A outer s H E) (fun c d _ H => E c d H) := takes_of rfl rfl rfl rfl
  have po : PassesOwn (model P w) (A.deeper (PyProof.Rows.envOfC "bound" (defScope s_bound) s.heap.objs.size f cdv)) (PyProof.Rows.envOfC "bound" (defScope s_bound) s.heap.objs.size f cdv) (cxOf (L2.CX P w) P w K mg base ["plan", "term", "turns", "job"] "bound" (defScope s_bound) f cdv A outer s H E).xe := passes_of (X := cxOf (L2.CX P w) P w K mg base ["plan", "term", "turns", "job"] "bound" (defScope s_bound) f cdv A outer s H E) rfl
  exact (pss_cons (ps_set (i := 2) sc_bound.nd rfl (by first | exact Or.inl rfl | exact Or.inr rfl) pe_int)
  (pss_cons (ps_for po rfl (pi_list (pe_fld (pv 0) rfl)) (pg_name (i := 3) sc_bound.nd rfl (by first | exact Or.inl rfl | exact Or.inr rfl)) (pss_cons (ps_aug (i := 2) sc_bound.nd rfl (by first | exact Or.inl rfl | exact Or.inr rfl) (pe_op op_dMul (pe_fld (pv 3) rfl) (pe_op op_dAdd (pe_fld (pv 3) rfl) (pv 1))) ip_add)
  (pss_one (ps_aug (i := 2) sc_bound.nd rfl (by first | exact Or.inl rfl | exact Or.inr rfl) (pe_own G_rest_sum (hr.mono (by decide)) rfl tk (pa_cons (pv 3) pa_nil)) ip_add))))
  (pss_one (ps_ret (pv 2)))))
-- NoJob.__init__: skipped
-- Ring.__init__: skipped
theorem sc_is_whole : FnScope ["thing"] ["thing"] (defScope s_is_whole) := ⟨rfl, rfl, rfl, by decide +kernel, rfl, by decide +kernel, by decide +kernel⟩
def t_is_whole (K : PySem.W.Frag) (a : Ad) (W : WX) : TS :=
  (tRet (tAndV (tCB (rIsi K) (tCons (tVar 0) (tCons (tC (.ty "int")) tNil))) (tNotV (tCB (rIsi K) (tCons (tVar 0) (tCons (tC (.ty "bool")) tNil))))))
theorem dv_is_whole {P : Program} {w : World} {K : PySem.W.Frag} {mg : Str → Option Value} {base : Heap} {a : Ad} (T : Txt K mg a) 
    {f : Addr} {cdv : Value} {A : Around} {outer : List Env} {s : Shared} {H : Hp} {E : XK} (hr : Room 0 (A.deeper (PyProof.Rows.envOfC "is_whole" (defScope s_is_whole) s.heap.objs.size f cdv))) :
    PSs (cxOf (L2.CX P w) P w K mg base ["thing"] "is_whole" (defScope s_is_whole) f cdv A outer s H E) (defBody s_is_whole) (t_is_whole K a fun c d _ H => E c d H) := by
  have tk : Takes (cxOf (L2.CX P w) P w K mg base ["thing"] "is_whole" (defScope s_is_whole) f cdv A outer s H E) (fun c d _ H => E c d H) := takes_of rfl rfl rfl rfl
  have po : PassesOwn (model P w) (A.deeper (PyProof.Rows.envOfC "is_whole" (defScope s_is_whole) s.heap.objs.size f cdv)) (PyProof.Rows.envOfC "is_whole" (defScope s_is_whole) s.heap.objs.size f cdv) (cxOf (L2.CX P w) P w K mg base ["thing"] "is_whole" (defScope s_is_whole) f cdv A outer s H E).xe := passes_of (X := cxOf (L2.CX P w) P w K mg base ["thing"] "is_whole" (defScope s_is_whole) f cdv A outer s H E) rfl
  exact (pss_one (ps_ret (pe_and (pe_callB call_isi (by rfl) T.b_isinstance (by decide +kernel) (pa_cons (pv 0) (pa_cons (pe_bltn (v := .ty "int") (by rfl) T.b_int (by decide +kernel) rfl) pa_nil))) (pe_one (pe_not (pe_callB call_isi (by rfl) T.b_isinstance (by decide +kernel) (pa_cons (pv 0) (pa_cons (pe_bltn (v := .ty "bool") (by rfl) T.b_bool (by decide +kernel) rfl) pa_nil))))))))
theorem sc_is_among : FnScope ["thing", "least", "most"] ["thing", "least", "most"] (defScope s_is_among) := ⟨rfl, rfl, rfl, by decide +kernel, rfl, by decide +kernel, by decide +kernel⟩
def t_is_among (K : PySem.W.Frag) (a : Ad) (W : WX) : TS :=
  (tRet (tAndV (tCal (lift (S_is_whole K a)) W (tCons (tVar 0) tNil)) (tChain dLe dLe (tVar 1) (tVar 0) (tVar 2))))
theorem dv_is_among {P : Program} {w : World} {K : PySem.W.Frag} {mg : Str → Option Value} {base : Heap} {a : Ad} (T : Txt K mg a) (G_is_whole : DefR P w K mg base 1 "is_whole" (lift (S_is_whole K a)))
    {f : Addr} {cdv : Value} {A : Around} {outer : List Env} {s : Shared} {H : Hp} {E : XK} (hr : Room 1 (A.deeper (PyProof.Rows.envOfC "is_among" (defScope s_is_among) s.heap.objs.size f cdv))) :
    PSs (cxOf (L2.CX P w) P w K mg base ["thing", "least", "most"] "is_among" (defScope s_is_among) f cdv A outer s H E) (defBody s_is_among) (t_is_among K a fun c d _ H => E c d H) := by
  have tk : Takes (cxOf (L2.CX P w) P w K mg base ["thing", "least", "most"] "is_among" (defScope s_is_among) f cdv A outer s H E) (fun c d _ H => E c d H) := takes_of rfl rfl rfl rfl
  have po : PassesOwn (model P w) (A.deeper (PyProof.Rows.envOfC "is_among" (defScope s_is_among) s.heap.objs.size f cdv)) (PyProof.Rows.envOfC "is_among" (defScope s_is_among) s.heap.objs.size f cdv) (cxOf (L2.CX P w) P w K mg base ["thing", "least", "most"] "is_among" (defScope s_is_among) f cdv A outer s H E).xe := passes_of (X := cxOf (L2.CX P w) P w K mg base ["thing", "least", "most"] "is_among" (defScope s_is_among) f cdv A outer s H E) rfl
  exact (pss_one (ps_ret (pe_and (pe_own G_is_whole (hr.mono (by decide)) rfl tk (pa_cons (pv 0) pa_nil)) (pe_one (pe_chain op_dLe op_dLe (pv 1) (pv 0) (pv 2))))))
theorem sc_is_made_of : FnScope ["thing", "signs", "most", "sign"] ["thing", "signs", "most"] (defScope s_is_made_of) := ⟨rfl, rfl, rfl, by decide +kernel, rfl, by decide +kernel, by decide +kernel⟩
def t_is_made_of (K : PySem.W.Frag) (a : Ad) (W : WX) : TS :=
  (tSeq (tIfS (tOr (tNot (tB (tCB (rIsi K) (tCons (tVar 0) (tCons (tC (.ty "str")) tNil))))) (tNot (tTest (tChain dLe dLe (tC (.int 1)) (tCB (cLen K) (tCons (tVar 0) tNil)) (tVar 2))))) (tRet (tC (.bl false))) tNext)
  (tSeq (tFor (iStr (tVar 0)) (gName 3) (tIfS (tTest (tOp (dIn K true) (tVar 3) (tVar 1))) (tRet (tC (.bl false))) tNext))
  (tRet (tC (.bl true)))))
theorem dv_is_made_of {P : Program} {w : World} {K : PySem.W.Frag} {mg : Str → Option Value} {base : Heap} {a : Ad} (T : Txt K mg a) 
    {f : Addr} {cdv : Value} {A : Around} {outer : List Env} {s : Shared} {H : Hp} {E : XK} (hr : Room 0 (A.deeper (PyProof.Rows.envOfC "is_made_of" (defScope s_is_made_of) s.heap.objs.size f cdv))) :
    PSs (cxOf (L2.CX P w) P w K mg base ["thing", "signs", "most", "sign"] "is_made_of" (defScope s_is_made_of) f cdv A outer s H E) (defBody s_is_made_of) (t_is_made_of K a fun c d _ H => E c d H) := by
  have tk : Takes (cxOf (L2.CX P w) P w K mg base ["thing", "signs", "most", "sign"] "is_made_of" (defScope s_is_made_of) f cdv A outer s H E) (fun c d _ H => E c d H) := takes_of rfl rfl rfl rfl
  have po : PassesOwn (model P w) (A.deeper (PyProof.Rows.envOfC "is_made_of" (defScope s_is_made_of) s.heap.objs.size f cdv)) (PyProof.Rows.envOfC "is_made_of" (defScope s_is_made_of) s.heap.objs.size f cdv) (cxOf (L2.CX P w) P w K mg base ["thing", "signs", "most", "sign"] "is_made_of" (defScope s_is_made_of) f cdv A outer s H E).xe := passes_of (X := cxOf (L2.CX P w) P w K mg base ["thing", "signs", "most", "sign"] "is_made_of" (defScope s_is_made_of) f cdv A outer s H E) rfl
  exact (pss_cons (ps_if (PW.pt (pw_or (pt_not (pt_val (pe_callB call_isi (by rfl) T.b_isinstance (by decide +kernel) (pa_cons (pv 0) (pa_cons (pe_bltn (v := .ty "str") (by rfl) T.b_str (by decide +kernel) rfl) pa_nil))))) (pw_or1 (pt_not (pt_chain op_dLe op_dLe pe_int (pe_callB call_cLen (by rfl) T.b_len (by decide +kernel) (pa_cons (pv 0) pa_nil)) (pv 2)))))) (pss_one (ps_ret pe_bl)) pss_nil)
  (pss_cons (ps_for po rfl (pi_str (pv 0)) (pg_name (i := 3) sc_is_made_of.nd rfl (by first | exact Or.inl rfl | exact Or.inr rfl)) (pss_one (ps_if (pt_cmpR op_dNotIn (pv 3) (pv 1) (by rfl)) (pss_one (ps_ret pe_bl)) pss_nil)))
  (pss_one (ps_ret pe_bl))))
theorem sc_is_name : FnScope ["thing"] ["thing"] (defScope s_is_name) := ⟨rfl, rfl, rfl, by decide +kernel, rfl, by decide +kernel, by decide +kernel⟩
def t_is_name (K : PySem.W.Frag) (a : Ad) (W : WX) : TS :=
  (tRet (tCal (lift (S_is_made_of K a)) W (tCons (tVar 0) (tCons (tC (.str "abcdefghijklmnopqrstuvwxyz")) (tCons (tC (.int (12))) tNil)))))
theorem dv_is_name {P : Program} {w : World} {K : PySem.W.Frag} {mg : Str → Option Value} {base : Heap} {a : Ad} (T : Txt K mg a) (G_is_made_of : DefR P w K mg base 1 "is_made_of" (lift (S_is_made_of K a)))
    {f : Addr} {cdv : Value} {A : Around} {outer : List Env} {s : Shared} {H : Hp} {E : XK} (hr : Room 1 (A.deeper (PyProof.Rows.envOfC "is_name" (defScope s_is_name) s.heap.objs.size f cdv))) :
    PSs (cxOf (L2.CX P w) P w K mg base ["thing"] "is_name" (defScope s_is_name) f cdv A outer s H E) (defBody s_is_name) (t_is_name K a fun c d _ H => E c d H) := by
  have tk : Takes (cxOf (L2.CX P w) P w K mg base ["thing"] "is_name" (defScope s_is_name) f cdv A outer s H E) (fun c d _ H => E c d H) := takes_of rfl rfl rfl rfl
  have po : PassesOwn (model P w) (A.deeper (PyProof.Rows.envOfC "is_name" (defScope s_is_name) s.heap.objs.size f cdv)) (PyProof.Rows.envOfC "is_name" (defScope s_is_name) s.heap.objs.size f cdv) (cxOf (L2.CX P w) P w K mg base ["thing"] "is_name" (defScope s_is_name) f cdv A outer s H E).xe := passes_of (X := cxOf (L2.CX P w) P w K mg base ["thing"] "is_name" (defScope s_is_name) f cdv A outer s H E) rfl
  exact (pss_one (ps_ret (pe_own G_is_made_of (hr.mono (by decide)) rfl tk (pa_cons (pv 0) (pa_cons (pe_gl (v := .str "abcdefghijklmnopqrstuvwxyz") T.g_LETTERS) (pa_cons (pe_gl (v := .int (12)) T.g_MOST_LETTERS) pa_nil))))))
theorem sc_own_needs : FnScope ["name", "needs", "found", "need"] ["name", "needs"] (defScope s_own_needs) := ⟨rfl, rfl, rfl, by decide +kernel, rfl, by decide +kernel, by decide +kernel⟩
def t_own_needs (K : PySem.W.Frag) (a : Ad) (W : WX) : TS :=
  (tSeq (tIfS (tTest (tOp (dIs false) (tVar 1) (tC .non))) (tRet (tLst tNil)) tNext)
  (tSeq (tIfS (tOr (tNot (tB (tCB (rIsiT K) (tCons (tVar 1) (tCons (tTup (tCons (tC (.ty "list")) (tCons (tC (.ty "tuple")) tNil))) tNil))))) (tTest (tOp dGt (tCB (cLen K) (tCons (tVar 1) tNil)) (tC (.int (8)))))) tNever tNext)
  (tSeq (tAsg (tLst tNil) (gName 2))
  (tSeq (tFor (iAlt (iList K (tVar 1)) (iTup K (tVar 1))) (gName 3) (tSeq (tIfS (tOr (tNot (tB (tCal (lift (S_is_name K a)) W (tCons (tVar 3) tNil)))) (tOr (tTest (tOp (dEq K) (tVar 3) (tVar 0))) (tTest (tOp (dIn K false) (tVar 3) (tVar 2))))) tNever tNext)
  (tDrop (tBM K "list" rAppend (tVar 2) (tCons (tVar 3) tNil)))))
  (tRet (tVar 2))))))
theorem dv_own_needs {P : Program} {w : World} {K : PySem.W.Frag} {mg : Str → Option Value} {base : Heap} {a : Ad} (T : Txt K mg a) (G_is_name : DefR P w K mg base 2 "is_name" (lift (S_is_name K a)))
    {f : Addr} {cdv : Value} {A : Around} {outer : List Env} {s : Shared} {H : Hp} {E : XK} (hr : Room 2 (A.deeper (PyProof.Rows.envOfC "own_needs" (defScope s_own_needs) s.heap.objs.size f cdv))) :
    PSs (cxOf (L2.CX P w) P w K mg base ["name", "needs", "found", "need"] "own_needs" (defScope s_own_needs) f cdv A outer s H E) (defBody s_own_needs) (t_own_needs K a fun c d _ H => E c d H) := by
  have tk : Takes (cxOf (L2.CX P w) P w K mg base ["name", "needs", "found", "need"] "own_needs" (defScope s_own_needs) f cdv A outer s H E) (fun c d _ H => E c d H) := takes_of rfl rfl rfl rfl
  have po : PassesOwn (model P w) (A.deeper (PyProof.Rows.envOfC "own_needs" (defScope s_own_needs) s.heap.objs.size f cdv)) (PyProof.Rows.envOfC "own_needs" (defScope s_own_needs) s.heap.objs.size f cdv) (cxOf (L2.CX P w) P w K mg base ["name", "needs", "found", "need"] "own_needs" (defScope s_own_needs) f cdv A outer s H E).xe := passes_of (X := cxOf (L2.CX P w) P w K mg base ["name", "needs", "found", "need"] "own_needs" (defScope s_own_needs) f cdv A outer s H E) rfl
  exact (pss_cons (ps_if (pt_cmpR op_dIs (pv 1) pe_non (nomark _)) (pss_one (ps_ret (pe_lst pa_nil))) pss_nil)
  (pss_cons (ps_if (PW.pt (pw_or (pt_not (pt_val (pe_callB call_isiT (by rfl) T.b_isinstance (by decide +kernel) (pa_cons (pv 1) (pa_cons (pe_tup (pa_cons (pe_bltn (v := .ty "list") (by rfl) T.b_list (by decide +kernel) rfl) (pa_cons (pe_bltn (v := .ty "tuple") (by rfl) T.b_tuple (by decide +kernel) rfl) pa_nil))) pa_nil))))) (pw_or1 (pt_cmpR op_dGt (pe_callB call_cLen (by rfl) T.b_len (by decide +kernel) (pa_cons (pv 1) pa_nil)) (pe_gl (v := .int (8)) T.g_MOST_NEEDS) (nomark _))))) (pss_one ps_never) pss_nil)
  (pss_cons (ps_set (i := 2) sc_own_needs.nd rfl (by first | exact Or.inl rfl | exact Or.inr rfl) (pe_lst pa_nil))
  (pss_cons (ps_for po rfl (pi_alt (pi_list (pv 1)) (pi_tup (pv 1))) (pg_name (i := 3) sc_own_needs.nd rfl (by first | exact Or.inl rfl | exact Or.inr rfl)) (pss_cons (ps_if (PW.pt (pw_or (pt_not (pt_val (pe_own G_is_name (hr.mono (by decide)) rfl tk (pa_cons (pv 3) pa_nil)))) (pw_or (pt_cmpR (op_dEq hr) (pv 3) (pv 0) (nomark _)) (pw_or1 (pt_cmpR op_dIn (pv 3) (pv 2) (by rfl)))))) (pss_one ps_never) pss_nil)
  (pss_one (ps_expr (pe_bm PySem.F.plainAttrs_list PySem.F.slot_list_append PySem.F.type_list_append mt_append (pv 2) (pa_cons (pv 3) pa_nil))))))
  (pss_one (ps_ret (pv 2)))))))
theorem sc_need_numbers : FnScope ["numbers", "k", "number"] ["numbers"] (defScope s_need_numbers) := ⟨rfl, rfl, rfl, by decide +kernel, rfl, by decide +kernel, by decide +kernel⟩
def t_need_numbers (K : PySem.W.Frag) (a : Ad) (W : WX) : TS :=
  (tFor (iEnum K (tCons (tVar 0) tNil)) (gTup K 2 (gCons (gName 1) (gCons (gName 2) gNil))) (tIfS (tNot (tB (tCal (lift (S_is_among K a)) W (tCons (tVar 2) (tCons (tOp (rIx K) (tC (.ref a.gLEAST)) (tVar 1)) (tCons (tOp (rIx K) (tC (.ref a.gMOST)) (tVar 1)) tNil)))))) tNever tNext))
theorem dv_need_numbers {P : Program} {w : World} {K : PySem.W.Frag} {mg : Str → Option Value} {base : Heap} {a : Ad} (T : Txt K mg a) (G_is_among : DefR P w K mg base 2 "is_among" (lift (S_is_among K a)))
    {f : Addr} {cdv : Value} {A : Around} {outer : List Env} {s : Shared} {H : Hp} {E : XK} (hr : Room 2 (A.deeper (PyProof.Rows.envOfC "need_numbers" (defScope s_need_numbers) s.heap.objs.size f cdv))) :
    PSs (cxOf (L2.CX P w) P w K mg base ["numbers", "k", "number"] "need_numbers" (defScope s_need_numbers) f cdv A outer s H E) (defBody s_need_numbers) (t_need_numbers K a fun c d _ H => E c d H) := by
  have tk : Takes (cxOf (L2.CX P w) P w K mg base ["numbers", "k", "number"] "need_numbers" (defScope s_need_numbers) f cdv A outer s H E) (fun c d _ H => E c d H) := takes_of rfl rfl rfl rfl
  have po : PassesOwn (model P w) (A.deeper (PyProof.Rows.envOfC "need_numbers" (defScope s_need_numbers) s.heap.objs.size f cdv)) (PyProof.Rows.envOfC "need_numbers" (defScope s_need_numbers) s.heap.objs.size f cdv) (cxOf (L2.CX P w) P w K mg base ["numbers", "k", "number"] "need_numbers" (defScope s_need_numbers) f cdv A outer s H E).xe := passes_of (X := cxOf (L2.CX P w) P w K mg base ["numbers", "k", "number"] "need_numbers" (defScope s_need_numbers) f cdv A outer s H E) rfl
  exact (pss_one (ps_for po rfl (pi_enum (by rfl) T.b_enumerate (pa_cons (pv 0) pa_nil)) (pg_tup rfl (pgs_cons (pg_name (i := 1) sc_need_numbers.nd rfl (by first | exact Or.inl rfl | exact Or.inr rfl)) (pgs_cons (pg_name (i := 2) sc_need_numbers.nd rfl (by first | exact Or.inl rfl | exact Or.inr rfl)) pgs_nil))) (pss_one (ps_if (pt_not (pt_val (pe_own G_is_among (hr.mono (by decide)) rfl tk (pa_cons (pv 2) (pa_cons (pe_ix ix_seq (pe_gl (v := .ref a.gLEAST) T.g_LEAST) (pv 1) (fun _ _ => rfl)) (pa_cons (pe_ix ix_seq (pe_gl (v := .ref a.gMOST) T.g_MOST) (pv 1) (fun _ _ => rfl)) pa_nil)))))) (pss_one ps_never) pss_nil))))
theorem sc_Job_init : FnScope ["self", "name", "needs", "rank", "span", "tries", "wait", "grow"] ["self", "name", "needs", "rank", "span", "tries", "wait", "grow"] (defScope s_Job_init) := ⟨rfl, rfl, rfl, by decide +kernel, rfl, by decide +kernel, by decide +kernel⟩
def t_Job_init (K : PySem.W.Frag) (a : Ad) (W : WX) : TS :=
  (tSeq (tIfS (tNot (tB (tCal (lift (S_is_name K a)) W (tCons (tVar 1) tNil)))) tNever tNext)
  (tSeq (sFld K (tVar 0) (tVar 1) "name")
  (tSeq (sFld K (tVar 0) (tCal (lift (S_own_needs K a)) W (tCons (tVar 1) (tCons (tVar 2) tNil))) "needs")
  (tSeq (tDrop (tCal (lift (S_need_numbers K a)) W (tCons (tLst (tCons (tVar 3) (tCons (tVar 4) (tCons (tVar 5) (tCons (tVar 6) (tCons (tVar 7) tNil)))))) tNil)))
  (tSeq (sFld K (tVar 0) (tVar 3) "rank")
  (tSeq (sFld K (tVar 0) (tVar 4) "span")
  (tSeq (sFld K (tVar 0) (tVar 5) "tries")
  (tSeq (sFld K (tVar 0) (tVar 6) "wait")
  (sFld K (tVar 0) (tVar 7) "grow")))))))))
theorem dv_Job_init {P : Program} {w : World} {K : PySem.W.Frag} {mg : Str → Option Value} {base : Heap} {a : Ad} (T : Txt K mg a) (G_is_name : DefR P w K mg base 2 "is_name" (lift (S_is_name K a))) (G_need_numbers : DefR P w K mg base 3 "need_numbers" (lift (S_need_numbers K a))) (G_own_needs : DefR P w K mg base 3 "own_needs" (lift (S_own_needs K a)))
    {f : Addr} {cdv : Value} {A : Around} {outer : List Env} {s : Shared} {H : Hp} {E : XK} (hr : Room 3 (A.deeper (PyProof.Rows.envOfC "Job.__init__" (defScope s_Job_init) s.heap.objs.size f cdv))) :
    PSs (cxOf (L2.CX P w) P w K mg base ["self", "name", "needs", "rank", "span", "tries", "wait", "grow"] "Job.__init__" (defScope s_Job_init) f cdv A outer s H E) (defBody s_Job_init) (t_Job_init K a fun c d _ H => E c d H) := by
  have tk : Takes (cxOf (L2.CX P w) P w K mg base ["self", "name", "needs", "rank", "span", "tries", "wait", "grow"] "Job.__init__" (defScope s_Job_init) f cdv A outer s H E) (fun c d _ H => E c d H) := takes_of rfl rfl rfl rfl
  have po : PassesOwn (model P w) (A.deeper (PyProof.Rows.envOfC "Job.__init__" (defScope s_Job_init) s.heap.objs.size f cdv)) (PyProof.Rows.envOfC "Job.__init__" (defScope s_Job_init) s.heap.objs.size f cdv) (cxOf (L2.CX P w) P w K mg base ["self", "name", "needs", "rank", "span", "tries", "wait", "grow"] "Job.__init__" (defScope s_Job_init) f cdv A outer s H E).xe := passes_of (X := cxOf (L2.CX P w) P w K mg base ["self", "name", "needs", "rank", "span", "tries", "wait", "grow"] "Job.__init__" (defScope s_Job_init) f cdv A outer s H E) rfl
  exact (pss_cons (ps_if (pt_not (pt_val (pe_own G_is_name (hr.mono (by decide)) rfl tk (pa_cons (pv 1) pa_nil)))) (pss_one ps_never) pss_nil)
  (pss_cons (ps_fld (pv 0) (pv 1) rfl)
  (pss_cons (ps_fld (pv 0) (pe_own G_own_needs (hr.mono (by decide)) rfl tk (pa_cons (pv 1) (pa_cons (pv 2) pa_nil))) rfl)
  (pss_cons (ps_expr (pe_own G_need_numbers (hr.mono (by decide)) rfl tk (pa_cons (pe_lst (pa_cons (pv 3) (pa_cons (pv 4) (pa_cons (pv 5) (pa_cons (pv 6) (pa_cons (pv 7) pa_nil)))))) pa_nil)))
  (pss_cons (ps_fld (pv 0) (pv 3) rfl)
  (pss_cons (ps_fld (pv 0) (pv 4) rfl)
  (pss_cons (ps_fld (pv 0) (pv 5) rfl)
  (pss_cons (ps_fld (pv 0) (pv 6) rfl)
  (pss_one (ps_fld (pv 0) (pv 7) rfl))))))))))
theorem sc_can_stand : FnScope ["needs", "place", "ahead", "other"] ["needs", "place", "ahead"] (defScope s_can_stand) := ⟨rfl, rfl, rfl, by decide +kernel, rfl, by decide +kernel, by decide +kernel⟩
def t_can_stand (K : PySem.W.Frag) (a : Ad) (W : WX) : TS :=
  (tSeq (tFor (iList K (tOp (rIx K) (tVar 0) (tVar 1))) (gName 3) (tIfS (tB (tDNotIn (tVar 3) (tVar 2))) (tRet (tC (.bl false))) tNext))
  (tRet (tC (.bl true))))
theorem dv_can_stand {P : Program} {w : World} {K : PySem.W.Frag} {mg : Str → Option Value} {base : Heap} {a : Ad} (T : Txt K mg a) 
    {f : Addr} {cdv : Value} {A : Around} {outer : List Env} {s : Shared} {H : Hp} {E : XK} (hr : Room 0 (A.deeper (PyProof.Rows.envOfC "can_stand" (defScope s_can_stand) s.heap.objs.size f cdv))) :
    PSs (cxOf (L2.CX P w) P w K mg base ["needs", "place", "ahead", "other"] "can_stand" (defScope s_can_stand) f cdv A outer s H E) (defBody s_can_stand) (t_can_stand K a fun c d _ H => E c d H) := by
  have tk : Takes (cxOf (L2.CX P w) P w K mg base ["needs", "place", "ahead", "other"] "can_stand" (defScope s_can_stand) f cdv A outer s H E) (fun c d _ H => E c d H) := takes_of rfl rfl rfl rfl
  have po : PassesOwn (model P w) (A.deeper (PyProof.Rows.envOfC "can_stand" (defScope s_can_stand) s.heap.objs.size f cdv)) (PyProof.Rows.envOfC "can_stand" (defScope s_can_stand) s.heap.objs.size f cdv) (cxOf (L2.CX P w) P w K mg base ["needs", "place", "ahead", "other"] "can_stand" (defScope s_can_stand) f cdv A outer s H E).xe := passes_of (X := cxOf (L2.CX P w) P w K mg base ["needs", "place", "ahead", "other"] "can_stand" (defScope s_can_stand) f cdv A outer s H E) rfl
  exact (pss_cons (ps_for po rfl (pi_list (pe_ix ix_seq (pv 0) (pv 1) (fun _ _ => rfl))) (pg_name (i := 3) sc_can_stand.nd rfl (by first | exact Or.inl rfl | exact Or.inr rfl)) (pss_one (ps_if (pt_cmp (pc_dnotin (hu_of hr) (pv 3) (pv 2))) (pss_one (ps_ret pe_bl)) pss_nil)))
  (pss_one (ps_ret pe_bl)))
theorem sc_next_place : FnScope ["needs", "ahead", "place"] ["needs", "ahead"] (defScope s_next_place) := ⟨rfl, rfl, rfl, by decide +kernel, rfl, by decide +kernel, by decide +kernel⟩
def t_next_place (K : PySem.W.Frag) (a : Ad) (W : WX) : TS :=
  (tSeq (tFor (iRng1 (tCons (tCB (cLen K) (tCons (tVar 0) tNil)) tNil)) (gName 2) (tIfS (tAnd (tB (tDNotIn (tVar 2) (tVar 1))) (tB (tCal (lift (S_can_stand K a)) W (tCons (tVar 0) (tCons (tVar 2) (tCons (tVar 1) tNil)))))) (tRet (tVar 2)) tNext))
  (tRet (tC .non)))
theorem dv_next_place {P : Program} {w : World} {K : PySem.W.Frag} {mg : Str → Option Value} {base : Heap} {a : Ad} (T : Txt K mg a) (G_can_stand : DefR P w K mg base 1 "can_stand" (lift (S_can_stand K a)))
    {f : Addr} {cdv : Value} {A : Around} {outer : List Env} {s : Shared} {H : Hp} {E : XK} (hr : Room 1 (A.deeper (PyProof.Rows.envOfC "next_place" (defScope s_next_place) s.heap.objs.size f cdv))) :
    PSs (cxOf (L2.CX P w) P w K mg base ["needs", "ahead", "place"] "next_place" (defScope s_next_place) f cdv A outer s H E) (defBody s_next_place) (t_next_place K a fun c d _ H => E c d H) := by
  have tk : Takes (cxOf (L2.CX P w) P w K mg base ["needs", "ahead", "place"] "next_place" (defScope s_next_place) f cdv A outer s H E) (fun c d _ H => E c d H) := takes_of rfl rfl rfl rfl
  have po : PassesOwn (model P w) (A.deeper (PyProof.Rows.envOfC "next_place" (defScope s_next_place) s.heap.objs.size f cdv)) (PyProof.Rows.envOfC "next_place" (defScope s_next_place) s.heap.objs.size f cdv) (cxOf (L2.CX P w) P w K mg base ["needs", "ahead", "place"] "next_place" (defScope s_next_place) f cdv A outer s H E).xe := passes_of (X := cxOf (L2.CX P w) P w K mg base ["needs", "ahead", "place"] "next_place" (defScope s_next_place) f cdv A outer s H E) rfl
  exact (pss_cons (ps_for po rfl (pi_range1 rfl T.b_range (pa_cons (pe_callB call_cLen (by rfl) T.b_len (by decide +kernel) (pa_cons (pv 0) pa_nil)) pa_nil)) (pg_name (i := 2) sc_next_place.nd rfl (by first | exact Or.inl rfl | exact Or.inr rfl)) (pss_one (ps_if (PW.pt (pw_and (pt_cmp (pc_dnotin (hu_of hr) (pv 2) (pv 1))) (pw_and1 (pt_val (pe_own G_can_stand (hr.mono (by decide)) rfl tk (pa_cons (pv 0) (pa_cons (pv 2) (pa_cons (pv 1) pa_nil)))))))) (pss_one (ps_ret (pv 2))) pss_nil)))
  (pss_one (ps_ret pe_non)))
theorem sc_beginning : FnScope ["needs", "found", "ahead", "place"] ["needs"] (defScope s_beginning) := ⟨rfl, rfl, rfl, by decide +kernel, rfl, by decide +kernel, by decide +kernel⟩
def t_beginning (K : PySem.W.Frag) (a : Ad) (W : WX) : TS :=
  (tSeq (tAsg (tLst tNil) (gName 1))
  (tSeq (tAsg tDNewK (gName 2))
  (tSeq (tAsg (tCal (lift (S_next_place K a)) W (tCons (tVar 0) (tCons (tVar 2) tNil))) (gName 3))
  (tSeq (tWhile (tTest (tOp (dIs true) (tVar 3) (tC .non))) (tSeq (tDrop (tBM K "list" rAppend (tVar 1) (tCons (tVar 3) tNil)))
  (tSeq (sDPut (tVar 2) (tVar 3) (tC (.bl true)))
  (tAsg (tCal (lift (S_next_place K a)) W (tCons (tVar 0) (tCons (tVar 2) tNil))) (gName 3)))))
  (tRet (tVar 1))))))
theorem dv_beginning {P : Program} {w : World} {K : PySem.W.Frag} {mg : Str → Option Value} {base : Heap} {a : Ad} (T : Txt K mg a) (G_next_place : DefR P w K mg base 2 "next_place" (lift (S_next_place K a)))
    {f : Addr} {cdv : Value} {A : Around} {outer : List Env} {s : Shared} {H : Hp} {E : XK} (hr : Room 2 (A.deeper (PyProof.Rows.envOfC "beginning" (defScope s_beginning) s.heap.objs.size f cdv))) :
    PSs (cxOf (L2.CX P w) P w K mg base ["needs", "found", "ahead", "place"] "beginning" (defScope s_beginning) f cdv A outer s H E) (defBody s_beginning) (t_beginning K a fun c d _ H => E c d H) := by
  have tk : Takes (cxOf (L2.CX P w) P w K mg base ["needs", "found", "ahead", "place"] "beginning" (defScope s_beginning) f cdv A outer s H E) (fun c d _ H => E c d H) := takes_of rfl rfl rfl rfl
  have po : PassesOwn (model P w) (A.deeper (PyProof.Rows.envOfC "beginning" (defScope s_beginning) s.heap.objs.size f cdv)) (PyProof.Rows.envOfC "beginning" (defScope s_beginning) s.heap.objs.size f cdv) (cxOf (L2.CX P w) P w K mg base ["needs", "found", "ahead", "place"] "beginning" (defScope s_beginning) f cdv A outer s H E).xe := passes_of (X := cxOf (L2.CX P w) P w K mg base ["needs", "found", "ahead", "place"] "beginning" (defScope s_beginning) f cdv A outer s H E) rfl
  exact (pss_cons (ps_set (i := 1) sc_beginning.nd rfl (by first | exact Or.inl rfl | exact Or.inr rfl) (pe_lst pa_nil))
  (pss_cons (ps_set (i := 2) sc_beginning.nd rfl (by first | exact Or.inl rfl | exact Or.inr rfl) pe_dnewK)
  (pss_cons (ps_set (i := 3) sc_beginning.nd rfl (by first | exact Or.inl rfl | exact Or.inr rfl) (pe_own G_next_place (hr.mono (by decide)) rfl tk (pa_cons (pv 0) (pa_cons (pv 2) pa_nil))))
  (pss_cons (ps_while po (pt_cmpR op_dIsNot (pv 3) pe_non (nomark _)) (pss_cons (ps_expr (pe_bm PySem.F.plainAttrs_list PySem.F.slot_list_append PySem.F.type_list_append mt_append (pv 1) (pa_cons (pv 3) pa_nil)))
  (pss_cons (ps_dput (hu_of hr) (pv 2) (pv 3) pe_bl rfl)
  (pss_one (ps_set (i := 3) sc_beginning.nd rfl (by first | exact Or.inl rfl | exact Or.inr rfl) (pe_own G_next_place (hr.mono (by decide)) rfl tk (pa_cons (pv 0) (pa_cons (pv 2) pa_nil))))))))
  (pss_one (ps_ret (pv 1)))))))
theorem sc_ring_of : FnScope ["needs", "ahead", "place", "left", "trail", "other"] ["needs"] (defScope s_ring_of) := ⟨rfl, rfl, rfl, by decide +kernel, rfl, by decide +kernel, by decide +kernel⟩
def t_ring_of (K : PySem.W.Frag) (a : Ad) (W : WX) : TS :=
  (tSeq (tAsg tDNewK (gName 1))
  (tSeq (tFor (iList K (tCal (lift (S_beginning K a)) W (tCons (tVar 0) tNil))) (gName 2) (sDPut (tVar 1) (tVar 2) (tC (.bl true))))
  (tSeq (tAsg (tLc (iRng1 (tCons (tCB (cLen K) (tCons (tVar 0) tNil)) tNil)) (gName 2) (tB (tDNotIn (tVar 2) (tVar 1))) (tVar 2) [2]) (gName 3))
  (tSeq (tIfS (tTest (tOp (dEq K) (tVar 3) (tLst tNil))) (tRet (tC .non)) tNext)
  (tSeq (tAsg (tLst tNil) (gName 4))
  (tSeq (tAsg (tOp (rIx K) (tVar 3) (tC (.int 0))) (gName 2))
  (tSeq (tWhile (tTest (tOp (dIn K true) (tVar 2) (tVar 4))) (tSeq (tDrop (tBM K "list" rAppend (tVar 4) (tCons (tVar 2) tNil)))
  (tAsg (tOp (rIx K) (tLc (iList K (tOp (rIx K) (tVar 0) (tVar 2))) (gName 5) (tB (tDNotIn (tVar 5) (tVar 1))) (tVar 5) [5]) (tC (.int 0))) (gName 2))))
  (tRet (tSl (rSl K) (tVar 4) (tPart (tBM K "list" (rIndex K) (tVar 4) (tCons (tVar 2) tNil))) tNoPart)))))))))
theorem dv_ring_of {P : Program} {w : World} {K : PySem.W.Frag} {mg : Str → Option Value} {base : Heap} {a : Ad} (T : Txt K mg a) (G_beginning : DefR P w K mg base 3 "beginning" (lift (S_beginning K a)))
    {f : Addr} {cdv : Value} {A : Around} {outer : List Env} {s : Shared} {H : Hp} {E : XK} (hr : Room 3 (A.deeper (PyProof.Rows.envOfC "ring_of" (defScope s_ring_of) s.heap.objs.size f cdv))) :
    PSs (cxOf (L2.CX P w) P w K mg base ["needs", "ahead", "place", "left", "trail", "other"] "ring_of" (defScope s_ring_of) f cdv A outer s H E) (defBody s_ring_of) (t_ring_of K a fun c d _ H => E c d H) := by
  have tk : Takes (cxOf (L2.CX P w) P w K mg base ["needs", "ahead", "place", "left", "trail", "other"] "ring_of" (defScope s_ring_of) f cdv A outer s H E) (fun c d _ H => E c d H) := takes_of rfl rfl rfl rfl
  have po : PassesOwn (model P w) (A.deeper (PyProof.Rows.envOfC "ring_of" (defScope s_ring_of) s.heap.objs.size f cdv)) (PyProof.Rows.envOfC "ring_of" (defScope s_ring_of) s.heap.objs.size f cdv) (cxOf (L2.CX P w) P w K mg base ["needs", "ahead", "place", "left", "trail", "other"] "ring_of" (defScope s_ring_of) f cdv A outer s H E).xe := passes_of (X := cxOf (L2.CX P w) P w K mg base ["needs", "ahead", "place", "left", "trail", "other"] "ring_of" (defScope s_ring_of) f cdv A outer s H E) rfl
  exact (pss_cons (ps_set (i := 1) sc_ring_of.nd rfl (by first | exact Or.inl rfl | exact Or.inr rfl) pe_dnewK)
  (pss_cons (ps_for po rfl (pi_list (pe_own G_beginning (hr.mono (by decide)) rfl tk (pa_cons (pv 0) pa_nil))) (pg_name (i := 2) sc_ring_of.nd rfl (by first | exact Or.inl rfl | exact Or.inr rfl)) (pss_one (ps_dput (hu_of hr) (pv 1) (pv 2) pe_bl rfl)))
  (pss_cons (ps_setLc (i := 3) (own := [("place", 2)]) rfl sc_ring_of.nd rfl rfl (sw_true rfl rfl rfl (by decide +kernel)) (pi_range1 rfl T.b_range (pa_cons (pe_callB call_cLen (by rfl) T.b_len (by decide +kernel) (pa_cons (pv 0) pa_nil)) pa_nil)) (blkOk_by (own := [("place", 2)]) (by kernel_rfl)) (fun _ _ _ _ _ => (pg_name (i := 2) sc_ring_of.nd rfl (by first | exact Or.inl rfl | exact Or.inr rfl))) (fun _ _ _ _ _ => (pts_one (pt_cmp (pc_dnotin (hu_of hr) (pv 2) (pv 1))))) (fun _ _ _ _ _ => (pv 2)))
  (pss_cons (ps_if (pt_cmpR (op_dEq hr) (pv 3) (pe_lst pa_nil) (nomark _)) (pss_one (ps_ret pe_non)) pss_nil)
  (pss_cons (ps_set (i := 4) sc_ring_of.nd rfl (by first | exact Or.inl rfl | exact Or.inr rfl) (pe_lst pa_nil))
  (pss_cons (ps_set (i := 2) sc_ring_of.nd rfl (by first | exact Or.inl rfl | exact Or.inr rfl) (pe_ix ix_seq (pv 3) pe_int (fun _ _ => rfl)))
  (pss_cons (ps_while po (pt_cmpR op_dNotIn (pv 2) (pv 4) (by rfl)) (pss_cons (ps_expr (pe_bm PySem.F.plainAttrs_list PySem.F.slot_list_append PySem.F.type_list_append mt_append (pv 4) (pa_cons (pv 2) pa_nil)))
  (pss_one (ps_set (i := 2) sc_ring_of.nd rfl (by first | exact Or.inl rfl | exact Or.inr rfl) (pe_ix ix_seq (pe_lc (own := [("other", 5)]) rfl sc_ring_of.nd (pi_list (pe_ix ix_seq (pv 0) (pv 2) (fun _ _ => rfl))) (blkOk_by (own := [("other", 5)]) (by kernel_rfl)) (fun _ _ _ _ _ => (pg_name (i := 5) sc_ring_of.nd rfl (by first | exact Or.inl rfl | exact Or.inr rfl))) (fun _ _ _ _ _ => (pts_one (pt_cmp (pc_dnotin (hu_of hr) (pv 5) (pv 1))))) (fun _ _ _ _ _ => (pv 5))) pe_int (fun _ _ => rfl))))))
  (pss_one (ps_ret (pe_slice sl_any (pv 4) (po_some (pe_bm PySem.F.plainAttrs_list PySem.F.slot_list_index PySem.F.type_list_index mt_index (pv 4) (pa_cons (pv 2) pa_nil))) po_none))))))))))
theorem sc_own_jobs : FnScope ["jobs", "job"] ["jobs"] (defScope s_own_jobs) := ⟨rfl, rfl, rfl, by decide +kernel, rfl, by decide +kernel, by decide +kernel⟩
def t_own_jobs (K : PySem.W.Frag) (a : Ad) (W : WX) : TS :=
  (tSeq (tIfS (tOr (tNot (tB (tCB (rIsi K) (tCons (tVar 0) (tCons (tC (.ty "list")) tNil))))) (tNot (tTest (tChain dLe dLe (tC (.int 1)) (tCB (cLen K) (tCons (tVar 0) tNil)) (tC (.int (40))))))) tNever tNext)
  (tSeq (tFor (iList K (tVar 0)) (gName 1) (tIfS (tNot (tB (tCB (rIsi K) (tCons (tVar 1) (tCons (tC (.ref a.cJob)) tNil))))) tNever tNext))
  (tRet (tCB (cList K) (tCons (tVar 0) tNil)))))
theorem dv_own_jobs {P : Program} {w : World} {K : PySem.W.Frag} {mg : Str → Option Value} {base : Heap} {a : Ad} (T : Txt K mg a) 
    {f : Addr} {cdv : Value} {A : Around} {outer : List Env} {s : Shared} {H : Hp} {E : XK} (hr : Room 0 (A.deeper (PyProof.Rows.envOfC "own_jobs" (defScope s_own_jobs) s.heap.objs.size f cdv))) :
    PSs (cxOf (L2.CX P w) P w K mg base ["jobs", "job"] "own_jobs" (defScope s_own_jobs) f cdv A outer s H E) (defBody s_own_jobs) (t_own_jobs K a fun c d _ H => E c d H) := by
  have tk : Takes (cxOf (L2.CX P w) P w K mg base ["jobs", "job"] "own_jobs" (defScope s_own_jobs) f cdv A outer s H E) (fun c d _ H => E c d H) := takes_of rfl rfl rfl rfl
  have po : PassesOwn (model P w) (A.deeper (PyProof.Rows.envOfC "own_jobs" (defScope s_own_jobs) s.heap.objs.size f cdv)) (PyProof.Rows.envOfC "own_jobs" (defScope s_own_jobs) s.heap.objs.size f cdv) (cxOf (L2.CX P w) P w K mg base ["jobs", "job"] "own_jobs" (defScope s_own_jobs) f cdv A outer s H E).xe := passes_of (X := cxOf (L2.CX P w) P w K mg base ["jobs", "job"] "own_jobs" (defScope s_own_jobs) f cdv A outer s H E) rfl
  exact (pss_cons (ps_if (PW.pt (pw_or (pt_not (pt_val (pe_callB call_isi (by rfl) T.b_isinstance (by decide +kernel) (pa_cons (pv 0) (pa_cons (pe_bltn (v := .ty "list") (by rfl) T.b_list (by decide +kernel) rfl) pa_nil))))) (pw_or1 (pt_not (pt_chain op_dLe op_dLe pe_int (pe_callB call_cLen (by rfl) T.b_len (by decide +kernel) (pa_cons (pv 0) pa_nil)) (pe_gl (v := .int (40)) T.g_MOST_JOBS)))))) (pss_one ps_never) pss_nil)
  (pss_cons (ps_for po rfl (pi_list (pv 0)) (pg_name (i := 1) sc_own_jobs.nd rfl (by first | exact Or.inl rfl | exact Or.inr rfl)) (pss_one (ps_if (pt_not (pt_val (pe_callB call_isi (by rfl) T.b_isinstance (by decide +kernel) (pa_cons (pv 1) (pa_cons (pe_glob (v := .ref a.cJob) rfl T.m_Job rfl) pa_nil))))) (pss_one ps_never) pss_nil)))
  (pss_one (ps_ret (pe_callTy (call_cList rfl) (by rfl) T.b_list (by decide +kernel) (pa_cons (pv 0) pa_nil))))))
theorem sc_places_of : FnScope ["jobs", "places", "place", "job"] ["jobs"] (defScope s_places_of) := ⟨rfl, rfl, rfl, by decide +kernel, rfl, by decide +kernel, by decide +kernel⟩
def t_places_of (K : PySem.W.Frag) (a : Ad) (W : WX) : TS :=
  (tSeq (tAsg tDNewK (gName 1))
  (tSeq (tFor (iEnum K (tCons (tVar 0) tNil)) (gTup K 2 (gCons (gName 2) (gCons (gName 3) gNil))) (tSeq (tIfS (tB (tDIn (tFld K (tVar 3) "name") (tVar 1))) tNever tNext)
  (sDPut (tVar 1) (tFld K (tVar 3) "name") (tVar 2))))
  (tRet (tVar 1))))
theorem dv_places_of {P : Program} {w : World} {K : PySem.W.Frag} {mg : Str → Option Value} {base : Heap} {a : Ad} (T : Txt K mg a) 
    {f : Addr} {cdv : Value} {A : Around} {outer : List Env} {s : Shared} {H : Hp} {E : XK} (hr : Room 0 (A.deeper (PyProof.Rows.envOfC "places_of" (defScope s_places_of) s.heap.objs.size f cdv))) :
    PSs (cxOf (L2.CX P w) P w K mg base ["jobs", "places", "place", "job"] "places_of" (defScope s_places_of) f cdv A outer s H E) (defBody s_places_of) (t_places_of K a fun c d _ H => E c d H) := by
  have tk : Takes (cxOf (L2.CX P w) P w K mg base ["jobs", "places", "place", "job"] "places_of" (defScope s_places_of) f cdv A outer s H E) (fun c d _ H => E c d H) := takes_of rfl rfl rfl rfl
  have po : PassesOwn (model P w) (A.deeper (PyProof.Rows.envOfC "places_of" (defScope s_places_of) s.heap.objs.size f cdv)) (PyProof.Rows.envOfC "places_of" (defScope s_places_of) s.heap.objs.size f cdv) (cxOf (L2.CX P w) P w K mg base ["jobs", "places", "place", "job"] "places_of" (defScope s_places_of) f cdv A outer s H E).xe := passes_of (X := cxOf (L2.CX P w) P w K mg base ["jobs", "places", "place", "job"] "places_of" (defScope s_places_of) f cdv A outer s H E) rfl
  exact (pss_cons (ps_set (i := 1) sc_places_of.nd rfl (by first | exact Or.inl rfl | exact Or.inr rfl) pe_dnewK)
  (pss_cons (ps_for po rfl (pi_enum (by rfl) T.b_enumerate (pa_cons (pv 0) pa_nil)) (pg_tup rfl (pgs_cons (pg_name (i := 2) sc_places_of.nd rfl (by first | exact Or.inl rfl | exact Or.inr rfl)) (pgs_cons (pg_name (i := 3) sc_places_of.nd rfl (by first | exact Or.inl rfl | exact Or.inr rfl)) pgs_nil))) (pss_cons (ps_if (pt_cmp (pc_din (hu_of hr) (pe_fld (pv 3) rfl) (pv 1))) (pss_one ps_never) pss_nil)
  (pss_one (ps_dput (hu_of hr) (pv 1) (pe_fld (pv 3) rfl) (pv 2) rfl))))
  (pss_one (ps_ret (pv 1)))))
theorem sc_Plan_init : FnScope ["self", "jobs", "ring", "place"] ["self", "jobs"] (defScope s_Plan_init) := ⟨rfl, rfl, rfl, by decide +kernel, rfl, by decide +kernel, by decide +kernel⟩
def t_Plan_init (K : PySem.W.Frag) (a : Ad) (W : WX) : TS :=
  (tSeq (sFld K (tVar 0) (tCal (lift (S_own_jobs K a)) W (tCons (tVar 1) tNil)) "jobs")
  (tSeq (sFld K (tVar 0) (tCal (lift (S_places_of K a)) W (tCons (tFld K (tVar 0) "jobs") tNil)) "places")
  (tSeq (tAsg (tCal (lift (S_ring_of K a)) W (tCons (tMet (MT K a "needed") "needed" W (tVar 0) tNil) tNil)) (gName 2))
  (tIfS (tTest (tOp (dIs true) (tVar 2) (tC .non))) tNever tNext))))
theorem dv_Plan_init {P : Program} {w : World} {K : PySem.W.Frag} {mg : Str → Option Value} {base : Heap} {a : Ad} (T : Txt K mg a) (G_own_jobs : DefR P w K mg base 1 "own_jobs" (lift (S_own_jobs K a))) (G_places_of : DefR P w K mg base 1 "places_of" (lift (S_places_of K a))) (G_ring_of : DefR P w K mg base 4 "ring_of" (lift (S_ring_of K a))) (MM_needed : ∀ C sp, MT K a "needed" C sp → MethR P w K mg base 2 C "needed" (lift sp))
    {f : Addr} {cdv : Value} {A : Around} {outer : List Env} {s : Shared} {H : Hp} {E : XK} (hr : Room 4 (A.deeper (PyProof.Rows.envOfC "Plan.__init__" (defScope s_Plan_init) s.heap.objs.size f cdv))) :
    PSs (cxOf (L2.CX P w) P w K mg base ["self", "jobs", "ring", "place"] "Plan.__init__" (defScope s_Plan_init) f cdv A outer s H E) (defBody s_Plan_init) (t_Plan_init K a fun c d _ H => E c d H) := by
  have tk : Takes (cxOf (L2.CX P w) P w K mg base ["self", "jobs", "ring", "place"] "Plan.__init__" (defScope s_Plan_init) f cdv A outer s H E) (fun c d _ H => E c d H) := takes_of rfl rfl rfl rfl
  have po : PassesOwn (model P w) (A.deeper (PyProof.Rows.envOfC "Plan.__init__" (defScope s_Plan_init) s.heap.objs.size f cdv)) (PyProof.Rows.envOfC "Plan.__init__" (defScope s_Plan_init) s.heap.objs.size f cdv) (cxOf (L2.CX P w) P w K mg base ["self", "jobs", "ring", "place"] "Plan.__init__" (defScope s_Plan_init) f cdv A outer s H E).xe := passes_of (X := cxOf (L2.CX P w) P w K mg base ["self", "jobs", "ring", "place"] "Plan.__init__" (defScope s_Plan_init) f cdv A outer s H E) rfl
  exact (pss_cons (ps_fld (pv 0) (pe_own G_own_jobs (hr.mono (by decide)) rfl tk (pa_cons (pv 1) pa_nil)) rfl)
  (pss_cons (ps_fld (pv 0) (pe_own G_places_of (hr.mono (by decide)) rfl tk (pa_cons (pe_fld (pv 0) rfl) pa_nil)) rfl)
  (pss_cons (ps_set (i := 2) sc_Plan_init.nd rfl (by first | exact Or.inl rfl | exact Or.inr rfl) (pe_own G_ring_of (hr.mono (by decide)) rfl tk (pa_cons (pe_met0 (pv 0) MM_needed (hr.mono (by decide)) tk) pa_nil)))
  (pss_one (ps_if (pt_cmpR op_dIsNot (pv 2) pe_non (nomark _)) (pss_one ps_never) pss_nil)))))
theorem sc_Plan_needed : FnScope ["self", "job", "need"] ["self"] (defScope s_Plan_needed) := ⟨rfl, rfl, rfl, by decide +kernel, rfl, by decide +kernel, by decide +kernel⟩
def t_Plan_needed (K : PySem.W.Frag) (a : Ad) (W : WX) : TS :=
  (tRet (tLc (iList K (tFld K (tVar 0) "jobs")) (gName 1) tYes (tLc (iList K (tFld K (tVar 1) "needs")) (gName 2) tYes (tMet (MT K a "place_of") "place_of" (fun _ _ _ _ => False) (tVar 0) (tCons (tVar 2) tNil)) [2]) [1]))
theorem dv_Plan_needed {P : Program} {w : World} {K : PySem.W.Frag} {mg : Str → Option Value} {base : Heap} {a : Ad} (T : Txt K mg a) (MM_place_of : ∀ C sp, MT K a "place_of" C sp → MethR P w K mg base 1 C "place_of" (lift sp))
    {f : Addr} {cdv : Value} {A : Around} {outer : List Env} {s : Shared} {H : Hp} {E : XK} (hr : Room 1 (A.deeper (PyProof.Rows.envOfC "Plan.needed" (defScope s_Plan_needed) s.heap.objs.size f cdv))) :
    PSs (cxOf (L2.CX P w) P w K mg base ["self", "job", "need"] "Plan.needed" (defScope s_Plan_needed) f cdv A outer s H E) (defBody s_Plan_needed) (t_Plan_needed K a fun c d _ H => E c d H) := by
  have tk : Takes (cxOf (L2.CX P w) P w K mg base ["self", "job", "need"] "Plan.needed" (defScope s_Plan_needed) f cdv A outer s H E) (fun c d _ H => E c d H) := takes_of rfl rfl rfl rfl
  have po : PassesOwn (model P w) (A.deeper (PyProof.Rows.envOfC "Plan.needed" (defScope s_Plan_needed) s.heap.objs.size f cdv)) (PyProof.Rows.envOfC "Plan.needed" (defScope s_Plan_needed) s.heap.objs.size f cdv) (cxOf (L2.CX P w) P w K mg base ["self", "job", "need"] "Plan.needed" (defScope s_Plan_needed) f cdv A outer s H E).xe := passes_of (X := cxOf (L2.CX P w) P w K mg base ["self", "job", "need"] "Plan.needed" (defScope s_Plan_needed) f cdv A outer s H E) rfl
  exact (pss_one (ps_ret (pe_lc (own := [("job", 1)]) rfl sc_Plan_needed.nd (pi_list (pe_fld (pv 0) rfl)) (blkOk_by (own := [("job", 1)]) (by kernel_rfl)) (fun _ _ _ _ _ => (pg_name (i := 1) sc_Plan_needed.nd rfl (by first | exact Or.inl rfl | exact Or.inr rfl))) (fun _ _ _ _ _ => pts_nil) (fun _ _ _ _ _ => (pe_lc (own := [("need", 2)]) rfl sc_Plan_needed.nd (pi_list (pe_fld (pv 1) rfl)) (blkOk_by (own := [("need", 2)]) (by kernel_rfl)) (fun _ _ _ _ _ => (pg_name (i := 2) sc_Plan_needed.nd rfl (by first | exact Or.inl rfl | exact Or.inr rfl))) (fun _ _ _ _ _ => pts_nil) (fun _ _ _ _ _ => (pe_met (pv 0) MM_place_of (hr.mono (by decide)) takes0 (pa_cons (pv 2) pa_nil))))))))
theorem sc_Plan_many : FnScope ["self"] ["self"] (defScope s_Plan_many) := ⟨rfl, rfl, rfl, by decide +kernel, rfl, by decide +kernel, by decide +kernel⟩
def t_Plan_many (K : PySem.W.Frag) (a : Ad) (W : WX) : TS :=
  (tRet (tCB (cLen K) (tCons (tFld K (tVar 0) "jobs") tNil)))
theorem dv_Plan_many {P : Program} {w : World} {K : PySem.W.Frag} {mg : Str → Option Value} {base : Heap} {a : Ad} (T : Txt K mg a) 
    {f : Addr} {cdv : Value} {A : Around} {outer : List Env} {s : Shared} {H : Hp} {E : XK} (hr : Room 0 (A.deeper (PyProof.Rows.envOfC "Plan.many" (defScope s_Plan_many) s.heap.objs.size f cdv))) :
    PSs (cxOf (L2.CX P w) P w K mg base ["self"] "Plan.many" (defScope s_Plan_many) f cdv A outer s H E) (defBody s_Plan_many) (t_Plan_many K a fun c d _ H => E c d H) := by
  have tk : Takes (cxOf (L2.CX P w) P w K mg base ["self"] "Plan.many" (defScope s_Plan_many) f cdv A outer s H E) (fun c d _ H => E c d H) := takes_of rfl rfl rfl rfl
  have po : PassesOwn (model P w) (A.deeper (PyProof.Rows.envOfC "Plan.many" (defScope s_Plan_many) s.heap.objs.size f cdv)) (PyProof.Rows.envOfC "Plan.many" (defScope s_Plan_many) s.heap.objs.size f cdv) (cxOf (L2.CX P w) P w K mg base ["self"] "Plan.many" (defScope s_Plan_many) f cdv A outer s H E).xe := passes_of (X := cxOf (L2.CX P w) P w K mg base ["self"] "Plan.many" (defScope s_Plan_many) f cdv A outer s H E) rfl
  exact (pss_one (ps_ret (pe_callB call_cLen (by rfl) T.b_len (by decide +kernel) (pa_cons (pe_fld (pv 0) rfl) pa_nil))))
theorem sc_Plan_job_at : FnScope ["self", "place"] ["self", "place"] (defScope s_Plan_job_at) := ⟨rfl, rfl, rfl, by decide +kernel, rfl, by decide +kernel, by decide +kernel⟩
def t_Plan_job_at (K : PySem.W.Frag) (a : Ad) (W : WX) : TS :=
  (tRet (tOp (rIx K) (tFld K (tVar 0) "jobs") (tVar 1)))
theorem dv_Plan_job_at {P : Program} {w : World} {K : PySem.W.Frag} {mg : Str → Option Value} {base : Heap} {a : Ad} (T : Txt K mg a) 
    {f : Addr} {cdv : Value} {A : Around} {outer : List Env} {s : Shared} {H : Hp} {E : XK} (hr : Room 0 (A.deeper (PyProof.Rows.envOfC "Plan.job_at" (defScope s_Plan_job_at) s.heap.objs.size f cdv))) :
    PSs (cxOf (L2.CX P w) P w K mg base ["self", "place"] "Plan.job_at" (defScope s_Plan_job_at) f cdv A outer s H E) (defBody s_Plan_job_at) (t_Plan_job_at K a fun c d _ H => E c d H) := by
  have tk : Takes (cxOf (L2.CX P w) P w K mg base ["self", "place"] "Plan.job_at" (defScope s_Plan_job_at) f cdv A outer s H E) (fun c d _ H => E c d H) := takes_of rfl rfl rfl rfl
  have po : PassesOwn (model P w) (A.deeper (PyProof.Rows.envOfC "Plan.job_at" (defScope s_Plan_job_at) s.heap.objs.size f cdv)) (PyProof.Rows.envOfC "Plan.job_at" (defScope s_Plan_job_at) s.heap.objs.size f cdv) (cxOf (L2.CX P w) P w K mg base ["self", "place"] "Plan.job_at" (defScope s_Plan_job_at) f cdv A outer s H E).xe := passes_of (X := cxOf (L2.CX P w) P w K mg base ["self", "place"] "Plan.job_at" (defScope s_Plan_job_at) f cdv A outer s H E) rfl
  exact (pss_one (ps_ret (pe_ix ix_seq (pe_fld (pv 0) rfl) (pv 1) (fun _ _ => rfl))))
theorem sc_Plan_place_of : FnScope ["self", "name"] ["self", "name"] (defScope s_Plan_place_of) := ⟨rfl, rfl, rfl, by decide +kernel, rfl, by decide +kernel, by decide +kernel⟩
def t_Plan_place_of (K : PySem.W.Frag) (a : Ad) (W : WX) : TS :=
  (tSeq (tIfS (tOr (tNot (tB (tCB (rIsi K) (tCons (tVar 1) (tCons (tC (.ty "str")) tNil))))) (tB (tDNotIn (tVar 1) (tFld K (tVar 0) "places")))) tNever tNext)
  (tRet (tDGet (tFld K (tVar 0) "places") (tVar 1))))
theorem dv_Plan_place_of {P : Program} {w : World} {K : PySem.W.Frag} {mg : Str → Option Value} {base : Heap} {a : Ad} (T : Txt K mg a) 
    {f : Addr} {cdv : Value} {A : Around} {outer : List Env} {s : Shared} {H : Hp} {E : XK} (hr : Room 0 (A.deeper (PyProof.Rows.envOfC "Plan.place_of" (defScope s_Plan_place_of) s.heap.objs.size f cdv))) :
    PSs (cxOf (L2.CX P w) P w K mg base ["self", "name"] "Plan.place_of" (defScope s_Plan_place_of) f cdv A outer s H E) (defBody s_Plan_place_of) (t_Plan_place_of K a fun c d _ H => E c d H) := by
  have tk : Takes (cxOf (L2.CX P w) P w K mg base ["self", "name"] "Plan.place_of" (defScope s_Plan_place_of) f cdv A outer s H E) (fun c d _ H => E c d H) := takes_of rfl rfl rfl rfl
  have po : PassesOwn (model P w) (A.deeper (PyProof.Rows.envOfC "Plan.place_of" (defScope s_Plan_place_of) s.heap.objs.size f cdv)) (PyProof.Rows.envOfC "Plan.place_of" (defScope s_Plan_place_of) s.heap.objs.size f cdv) (cxOf (L2.CX P w) P w K mg base ["self", "name"] "Plan.place_of" (defScope s_Plan_place_of) f cdv A outer s H E).xe := passes_of (X := cxOf (L2.CX P w) P w K mg base ["self", "name"] "Plan.place_of" (defScope s_Plan_place_of) f cdv A outer s H E) rfl
  exact (pss_cons (ps_if (PW.pt (pw_or (pt_not (pt_val (pe_callB call_isi (by rfl) T.b_isinstance (by decide +kernel) (pa_cons (pv 1) (pa_cons (pe_bltn (v := .ty "str") (by rfl) T.b_str (by decide +kernel) rfl) pa_nil))))) (pw_or1 (pt_cmp (pc_dnotin (hu_of hr) (pv 1) (pe_fld (pv 0) rfl)))))) (pss_one ps_never) pss_nil)
  (pss_one (ps_ret (pe_dget (hu_of hr) (pe_fld (pv 0) rfl) (pv 1) (fun _ _ => rfl)))))
-- Plan.wants: skipped
-- Plan.wanted_by: skipped
-- Plan.order: skipped
theorem sc_law_cell_at : FnScope ["_law_script", "_law_k"] ["_law_script", "_law_k"] (defScope s_law_cell_at) := ⟨rfl, rfl, rfl, by decide +kernel, rfl, by decide +kernel, by decide +kernel⟩
def t_law_cell_at (K : PySem.W.Frag) (a : Ad) (W : WX) : TS :=
  (tSeq (tIfS (tTest (tOp (dLt K) (tVar 1) (tCB (cLen K) (tCons (tVar 0) tNil)))) (tRet (tOp (rIx K) (tVar 0) (tVar 1))) tNext)
  (tRet (tC (.int 0))))
theorem dv_law_cell_at {P : Program} {w : World} {K : PySem.W.Frag} {mg : Str → Option Value} {base : Heap} {a : Ad} (T : Txt K mg a) 
    {f : Addr} {cdv : Value} {A : Around} {outer : List Env} {s : Shared} {H : Hp} {E : XK} (hr : Room 0 (A.deeper (PyProof.Rows.envOfC "_law_cell_at" (defScope s_law_cell_at) s.heap.objs.size f cdv))) :
    PSs (cxOf (L2.CX P w) P w K mg base ["_law_script", "_law_k"] "_law_cell_at" (defScope s_law_cell_at) f cdv A outer s H E) (defBody s_law_cell_at) (t_law_cell_at K a fun c d _ H => E c d H) := by
  have tk : Takes (cxOf (L2.CX P w) P w K mg base ["_law_script", "_law_k"] "_law_cell_at" (defScope s_law_cell_at) f cdv A outer s H E) (fun c d _ H => E c d H) := takes_of rfl rfl rfl rfl
  have po : PassesOwn (model P w) (A.deeper (PyProof.Rows.envOfC "_law_cell_at" (defScope s_law_cell_at) s.heap.objs.size f cdv)) (PyProof.Rows.envOfC "_law_cell_at" (defScope s_law_cell_at) s.heap.objs.size f cdv) (cxOf (L2.CX P w) P w K mg base ["_law_script", "_law_k"] "_law_cell_at" (defScope s_law_cell_at) f cdv A outer s H E).xe := passes_of (X := cxOf (L2.CX P w) P w K mg base ["_law_script", "_law_k"] "_law_cell_at" (defScope s_law_cell_at) f cdv A outer s H E) rfl
  exact (pss_cons (ps_if (pt_cmpR (op_dLt hr) (pv 1) (pe_callB call_cLen (by rfl) T.b_len (by decide +kernel) (pa_cons (pv 0) pa_nil)) (nomark _)) (pss_one (ps_ret (pe_ix ix_seq (pv 0) (pv 1) (fun _ _ => rfl)))) pss_nil)
  (pss_one (ps_ret pe_int)))
theorem sc_law_mixed : FnScope ["_law_cell", "_law_k", "_law_number"] ["_law_cell", "_law_k"] (defScope s_law_mixed) := ⟨rfl, rfl, rfl, by decide +kernel, rfl, by decide +kernel, by decide +kernel⟩
def t_law_mixed (K : PySem.W.Frag) (a : Ad) (W : WX) : TS :=
  (tSeq (tAsg (tOp dMod (tOp dMul (tOp (dAdd K) (tOp (dAdd K) (tVar 0) (tOp dMul (tC (.int 7919)) (tVar 1))) (tC (.int 3))) (tC (.int 48271))) (tC (.int 2147483647))) (gName 2))
  (tRet (tOp dMod (tOp dMul (tVar 2) (tOp (dAdd K) (tC (.int 16807)) (tOp dMul (tVar 1) (tVar 1)))) (tC (.int 2147483629)))))
theorem dv_law_mixed {P : Program} {w : World} {K : PySem.W.Frag} {mg : Str → Option Value} {base : Heap} {a : Ad} (T : Txt K mg a) 
    {f : Addr} {cdv : Value} {A : Around} {outer : List Env} {s : Shared} {H : Hp} {E : XK} (hr : Room 0 (A.deeper (PyProof.Rows.envOfC "_law_mixed" (defScope s_law_mixed) s.heap.objs.size f cdv))) :
    PSs (cxOf (L2.CX P w) P w K mg base ["_law_cell", "_law_k", "_law_number"] "_law_mixed" (defScope s_law_mixed) f cdv A outer s H E) (defBody s_law_mixed) (t_law_mixed K a fun c d _ H => E c d H) := by
  have tk : Takes (cxOf (L2.CX P w) P w K mg base ["_law_cell", "_law_k", "_law_number"] "_law_mixed" (defScope s_law_mixed) f cdv A outer s H E) (fun c d _ H => E c d H) := takes_of rfl rfl rfl rfl
  have po : PassesOwn (model P w) (A.deeper (PyProof.Rows.envOfC "_law_mixed" (defScope s_law_mixed) s.heap.objs.size f cdv)) (PyProof.Rows.envOfC "_law_mixed" (defScope s_law_mixed) s.heap.objs.size f cdv) (cxOf (L2.CX P w) P w K mg base ["_law_cell", "_law_k", "_law_number"] "_law_mixed" (defScope s_law_mixed) f cdv A outer s H E).xe := passes_of (X := cxOf (L2.CX P w) P w K mg base ["_law_cell", "_law_k", "_law_number"] "_law_mixed" (defScope s_law_mixed) f cdv A outer s H E) rfl
  exact (pss_cons (ps_set (i := 2) sc_law_mixed.nd rfl (by first | exact Or.inl rfl | exact Or.inr rfl) (pe_op op_dMod (pe_op op_dMul (pe_op op_dAdd (pe_op op_dAdd (pv 0) (pe_op op_dMul pe_int (pv 1))) pe_int) pe_int) pe_int))
  (pss_one (ps_ret (pe_op op_dMod (pe_op op_dMul (pv 2) (pe_op op_dAdd pe_int (pe_op op_dMul (pv 1) (pv 1)))) pe_int))))
theorem sc_law_whole : FnScope ["_law_thing"] ["_law_thing"] (defScope s_law_whole) := ⟨rfl, rfl, rfl, by decide +kernel, rfl, by decide +kernel, by decide +kernel⟩
def t_law_whole (K : PySem.W.Frag) (a : Ad) (W : WX) : TS :=
  (tRet (tAndV (tCB (rIsi K) (tCons (tVar 0) (tCons (tC (.ty "int")) tNil))) (tNotV (tCB (rIsi K) (tCons (tVar 0) (tCons (tC (.ty "bool")) tNil))))))
theorem dv_law_whole {P : Program} {w : World} {K : PySem.W.Frag} {mg : Str → Option Value} {base : Heap} {a : Ad} (T : Txt K mg a) 
    {f : Addr} {cdv : Value} {A : Around} {outer : List Env} {s : Shared} {H : Hp} {E : XK} (hr : Room 0 (A.deeper (PyProof.Rows.envOfC "_law_whole" (defScope s_law_whole) s.heap.objs.size f cdv))) :
    PSs (cxOf (L2.CX P w) P w K mg base ["_law_thing"] "_law_whole" (defScope s_law_whole) f cdv A outer s H E) (defBody s_law_whole) (t_law_whole K a fun c d _ H => E c d H) := by
  have tk : Takes (cxOf (L2.CX P w) P w K mg base ["_law_thing"] "_law_whole" (defScope s_law_whole) f cdv A outer s H E) (fun c d _ H => E c d H) := takes_of rfl rfl rfl rfl
  have po : PassesOwn (model P w) (A.deeper (PyProof.Rows.envOfC "_law_whole" (defScope s_law_whole) s.heap.objs.size f cdv)) (PyProof.Rows.envOfC "_law_whole" (defScope s_law_whole) s.heap.objs.size f cdv) (cxOf (L2.CX P w) P w K mg base ["_law_thing"] "_law_whole" (defScope s_law_whole) f cdv A outer s H E).xe := passes_of (X := cxOf (L2.CX P w) P w K mg base ["_law_thing"] "_law_whole" (defScope s_law_whole) f cdv A outer s H E) rfl
  exact (pss_one (ps_ret (pe_and (pe_callB call_isi (by rfl) T.b_isinstance (by decide +kernel) (pa_cons (pv 0) (pa_cons (pe_bltn (v := .ty "int") (by rfl) T.b_int (by decide +kernel) rfl) pa_nil))) (pe_one (pe_not (pe_callB call_isi (by rfl) T.b_isinstance (by decide +kernel) (pa_cons (pv 0) (pa_cons (pe_bltn (v := .ty "bool") (by rfl) T.b_bool (by decide +kernel) rfl) pa_nil))))))))
theorem sc_law_numbers : FnScope ["_law_script", "_law_k", "_law_number", "_law_span", "_law_tries", "_law_wait"] ["_law_script", "_law_k"] (defScope s_law_numbers) := ⟨rfl, rfl, rfl, by decide +kernel, rfl, by decide +kernel, by decide +kernel⟩
def t_law_numbers (K : PySem.W.Frag) (a : Ad) (W : WX) : TS :=
  (tSeq (tAsg (tCal (lift (S_law_mixed K a)) W (tCons (tCal (lift (S_law_cell_at K a)) W (tCons (tVar 0) (tCons (tOp (dAdd K) (tC (.int 1)) (tOp dMod (tVar 1) (tC (.int 8)))) tNil))) (tCons (tVar 1) tNil))) (gName 2))
  (tSeq (tAsg (tOp (rIx K) (tLst (tCons (tC (.int 1)) (tCons (tC (.int 1000)) (tCons (tOp (dAdd K) (tC (.int 1)) (tOp dMod (tOp dDiv (tVar 2) (tC (.int 3))) (tC (.int 1000)))) tNil)))) (tOp dMod (tVar 2) (tC (.int 3)))) (gName 3))
  (tSeq (tAsg (tOp (rIx K) (tLst (tCons (tC (.int 1)) (tCons (tC (.int 2)) (tCons (tC (.int 20)) (tCons (tOp (dAdd K) (tC (.int 1)) (tOp dMod (tOp dDiv (tVar 2) (tC (.int 5))) (tC (.int 20)))) tNil))))) (tOp dMod (tOp dDiv (tVar 2) (tC (.int 7))) (tC (.int 4)))) (gName 4))
  (tSeq (tAsg (tOp (rIx K) (tLst (tCons (tC (.int 0)) (tCons (tC (.int 1)) (tCons (tC (.int 1000)) (tCons (tOp dMod (tOp dDiv (tVar 2) (tC (.int 11))) (tC (.int 1001))) tNil))))) (tOp dMod (tOp dDiv (tVar 2) (tC (.int 13))) (tC (.int 4)))) (gName 5))
  (tRet (tTup (tCons (tVar 3) (tCons (tVar 4) (tCons (tVar 5) (tCons (tOp (dAdd K) (tC (.int 1)) (tOp dMod (tOp dDiv (tVar 2) (tC (.int 17))) (tC (.int 4)))) tNil))))))))))
theorem dv_law_numbers {P : Program} {w : World} {K : PySem.W.Frag} {mg : Str → Option Value} {base : Heap} {a : Ad} (T : Txt K mg a) (G_law_cell_at : DefR P w K mg base 1 "_law_cell_at" (lift (S_law_cell_at K a))) (G_law_mixed : DefR P w K mg base 1 "_law_mixed" (lift (S_law_mixed K a)))
    {f : Addr} {cdv : Value} {A : Around} {outer : List Env} {s : Shared} {H : Hp} {E : XK} (hr : Room 1 (A.deeper (PyProof.Rows.envOfC "_law_numbers" (defScope s_law_numbers) s.heap.objs.size f cdv))) :
    PSs (cxOf (L2.CX P w) P w K mg base ["_law_script", "_law_k", "_law_number", "_law_span", "_law_tries", "_law_wait"] "_law_numbers" (defScope s_law_numbers) f cdv A outer s H E) (defBody s_law_numbers) (t_law_numbers K a fun c d _ H => E c d H) := by
  have tk : Takes (cxOf (L2.CX P w) P w K mg base ["_law_script", "_law_k", "_law_number", "_law_span", "_law_tries", "_law_wait"] "_law_numbers" (defScope s_law_numbers) f cdv A outer s H E) (fun c d _ H => E c d H) := takes_of rfl rfl rfl rfl
  have po : PassesOwn (model P w) (A.deeper (PyProof.Rows.envOfC "_law_numbers" (defScope s_law_numbers) s.heap.objs.size f cdv)) (PyProof.Rows.envOfC "_law_numbers" (defScope s_law_numbers) s.heap.objs.size f cdv) (cxOf (L2.CX P w) P w K mg base ["_law_script", "_law_k", "_law_number", "_law_span", "_law_tries", "_law_wait"] "_law_numbers" (defScope s_law_numbers) f cdv A outer s H E).xe := passes_of (X := cxOf (L2.CX P w) P w K mg base ["_law_script", "_law_k", "_law_number", "_law_span", "_law_tries", "_law_wait"] "_law_numbers" (defScope s_law_numbers) f cdv A outer s H E) rfl
  exact (pss_cons (ps_set (i := 2) sc_law_numbers.nd rfl (by first | exact Or.inl rfl | exact Or.inr rfl) (pe_own G_law_mixed (hr.mono (by decide)) rfl tk (pa_cons (pe_own G_law_cell_at (hr.mono (by decide)) rfl tk (pa_cons (pv 0) (pa_cons (pe_op op_dAdd pe_int (pe_op op_dMod (pv 1) pe_int)) pa_nil))) (pa_cons (pv 1) pa_nil))))
  (pss_cons (ps_set (i := 3) sc_law_numbers.nd rfl (by first | exact Or.inl rfl | exact Or.inr rfl) (pe_ix ix_seq (pe_lst (pa_cons pe_int (pa_cons pe_int (pa_cons (pe_op op_dAdd pe_int (pe_op op_dMod (pe_op op_dDiv (pv 2) pe_int) pe_int)) pa_nil)))) (pe_op op_dMod (pv 2) pe_int) (fun _ _ => rfl)))
  (pss_cons (ps_set (i := 4) sc_law_numbers.nd rfl (by first | exact Or.inl rfl | exact Or.inr rfl) (pe_ix ix_seq (pe_lst (pa_cons pe_int (pa_cons pe_int (pa_cons pe_int (pa_cons (pe_op op_dAdd pe_int (pe_op op_dMod (pe_op op_dDiv (pv 2) pe_int) pe_int)) pa_nil))))) (pe_op op_dMod (pe_op op_dDiv (pv 2) pe_int) pe_int) (fun _ _ => rfl)))
  (pss_cons (ps_set (i := 5) sc_law_numbers.nd rfl (by first | exact Or.inl rfl | exact Or.inr rfl) (pe_ix ix_seq (pe_lst (pa_cons pe_int (pa_cons pe_int (pa_cons pe_int (pa_cons (pe_op op_dMod (pe_op op_dDiv (pv 2) pe_int) pe_int) pa_nil))))) (pe_op op_dMod (pe_op op_dDiv (pv 2) pe_int) pe_int) (fun _ _ => rfl)))
  (pss_one (ps_ret (pe_tup (pa_cons (pv 3) (pa_cons (pv 4) (pa_cons (pv 5) (pa_cons (pe_op op_dAdd pe_int (pe_op op_dMod (pe_op op_dDiv (pv 2) pe_int) pe_int)) pa_nil)))))))))))
theorem sc_law : FnScope ["_law_script", "_law_cell", "_law_term", "_law_jobs", "_law_due", "_law_k", "_law_span", "_law_tries", "_law_wait", "_law_grow", "_law_rest", "_law_turn", "_law_plan", "_law_found", "_law_job"] ["_law_script"] (defScope s_law) := ⟨rfl, rfl, rfl, by decide +kernel, rfl, by decide +kernel, by decide +kernel⟩
def t_law (K : PySem.W.Frag) (a : Ad) (W : WX) : TS :=
  (tSeq (tAsg (tCal (lift (S_law_cell_at K a)) W (tCons (tVar 0) (tCons (tC (.int 0)) tNil))) (gName 1))
  (tSeq (tAsg (tOp (rIx K) (tLst (tCons (tC (.int 2)) (tCons (tC (.int 1000)) (tCons (tOp (dAdd K) (tC (.int 2)) (tOp dMod (tOp dDiv (tVar 1) (tC (.int 3))) (tC (.int 999)))) tNil)))) (tOp dMod (tVar 1) (tC (.int 3)))) (gName 2))
  (tSeq (tAsg (tLst tNil) (gName 3))
  (tSeq (tAsg (tC (.int 0)) (gName 4))
  (tSeq (tFor (iRng1 (tCons (tOp (dAdd K) (tC (.int 1)) (tOp dMod (tOp dDiv (tVar 1) (tC (.int 9))) (tC (.int 40)))) tNil)) (gName 5) (tSeq (tAsg (tCal (lift (S_law_numbers K a)) W (tCons (tVar 0) (tCons (tVar 5) tNil))) (gTup K 4 (gCons (gName 6) (gCons (gName 7) (gCons (gName 8) (gCons (gName 9) gNil))))))
  (tSeq (tDrop (tBM K "list" rAppend (tVar 3) (tCons (tMak a.cJob (lift (S_Job_init K a)) W (tCons (tOp (dAdd K) (tOp (rIx K) (tC (.str "abcdefghij")) (tOp dMod (tVar 5) (tC (.int 10)))) (tOp (rIx K) (tC (.str "abcd")) (tOp dDiv (tVar 5) (tC (.int 10))))) (tCons (tLst tNil) (tCons (tVar 5) (tCons (tVar 6) (tCons (tVar 7) (tCons (tVar 8) (tCons (tVar 9) tNil)))))))) tNil)))
  (tSeq (tAsg (tOp (dAdd K) (tVar 4) (tOp dMul (tVar 7) (tOp (dAdd K) (tVar 6) (tVar 2)))) (gName 4))
  (tSeq (tAsg (tVar 8) (gName 10))
  (tFor (iRng1 (tCons (tOp dSub (tVar 7) (tC (.int 1))) tNil)) (gName 11) (tSeq (tAsg (tOp (dAdd K) (tVar 4) (tVar 10)) (gName 4))
  (tAsg (tCB cMin2 (tCons (tC (.int 100000)) (tCons (tOp dMul (tVar 10) (tVar 9)) tNil))) (gName 10)))))))))
  (tSeq (tAsg (tMak a.cPlan (lift (S_Plan_init K a)) W (tCons (tVar 3) tNil)) (gName 12))
  (tSeq (tAsg (tCal (lift (S_bound K a)) W (tCons (tVar 12) (tCons (tVar 2) tNil))) (gName 13))
  (tSeq (tIfS (tOr (tNot (tB (tCal (lift (S_law_whole K a)) W (tCons (tVar 13) tNil)))) (tOr (tTest (tOp (dNe K) (tVar 13) (tVar 4))) (tTest (tOp (dNe K) (tCal (lift (S_bound K a)) W (tCons (tVar 12) (tCons (tVar 2) tNil))) (tVar 4))))) (tRet (tC (.bl false))) tNext)
  (tSeq (tFor (iRng1 (tCons (tCB (cLen K) (tCons (tVar 3) tNil)) tNil)) (gName 5) (tSeq (tAsg (tMet (MT K a "job_at") "job_at" W (tVar 12) (tCons (tVar 5) tNil)) (gName 14))
  (tIfS (tTest (tOp (dNe K) (tTup (tCons (tFld K (tVar 14) "span") (tCons (tFld K (tVar 14) "tries") (tCons (tFld K (tVar 14) "wait") (tCons (tFld K (tVar 14) "grow") tNil))))) (tCal (lift (S_law_numbers K a)) W (tCons (tVar 0) (tCons (tVar 5) tNil))))) (tRet (tC (.bl false))) tNext)))
  (tRet (tOp (dEq K) (tMet (MT K a "many") "many" W (tVar 12) tNil) (tCB (cLen K) (tCons (tVar 3) tNil)))))))))))))
theorem dv_law {P : Program} {w : World} {K : PySem.W.Frag} {mg : Str → Option Value} {base : Heap} {a : Ad} (T : Txt K mg a) (G_Job_init : MakR P w K mg base 4 "Job" a.cJob (lift (S_Job_init K a))) (G_Plan_init : MakR P w K mg base 5 "Plan" a.cPlan (lift (S_Plan_init K a))) (G_law_cell_at : DefR P w K mg base 1 "_law_cell_at" (lift (S_law_cell_at K a))) (G_law_numbers : DefR P w K mg base 2 "_law_numbers" (lift (S_law_numbers K a))) (G_law_whole : DefR P w K mg base 1 "_law_whole" (lift (S_law_whole K a))) (G_bound : DefR P w K mg base 3 "bound" (lift (S_bound K a))) (MM_job_at : ∀ C sp, MT K a "job_at" C sp → MethR P w K mg base 1 C "job_at" (lift sp)) (MM_many : ∀ C sp, MT K a "many" C sp → MethR P w K mg base 1 C "many" (lift sp))
    {f : Addr} {cdv : Value} {A : Around} {outer : List Env} {s : Shared} {H : Hp} {E : XK} (hr : Room 6 (A.deeper (PyProof.Rows.envOfC "law" (defScope s_law) s.heap.objs.size f cdv))) :
    PSs (cxOf (L2.CX P w) P w K mg base ["_law_script", "_law_cell", "_law_term", "_law_jobs", "_law_due", "_law_k", "_law_span", "_law_tries", "_law_wait", "_law_grow", "_law_rest", "_law_turn", "_law_plan", "_law_found", "_law_job"] "law" (defScope s_law) f cdv A outer s H E) (defBody s_law) (t_law K a fun c d _ H => E c d H) := by
  have tk : Takes (cxOf (L2.CX P w) P w K mg base ["_law_script", "_law_cell", "_law_term", "_law_jobs", "_law_due", "_law_k", "_law_span", "_law_tries", "_law_wait", "_law_grow", "_law_rest", "_law_turn", "_law_plan", "_law_found", "_law_job"] "law" (defScope s_law) f cdv A outer s H E) (fun c d _ H => E c d H) := takes_of rfl rfl rfl rfl
  have po : PassesOwn (model P w) (A.deeper (PyProof.Rows.envOfC "law" (defScope s_law) s.heap.objs.size f cdv)) (PyProof.Rows.envOfC "law" (defScope s_law) s.heap.objs.size f cdv) (cxOf (L2.CX P w) P w K mg base ["_law_script", "_law_cell", "_law_term", "_law_jobs", "_law_due", "_law_k", "_law_span", "_law_tries", "_law_wait", "_law_grow", "_law_rest", "_law_turn", "_law_plan", "_law_found", "_law_job"] "law" (defScope s_law) f cdv A outer s H E).xe := passes_of (X := cxOf (L2.CX P w) P w K mg base ["_law_script", "_law_cell", "_law_term", "_law_jobs", "_law_due", "_law_k", "_law_span", "_law_tries", "_law_wait", "_law_grow", "_law_rest", "_law_turn", "_law_plan", "_law_found", "_law_job"] "law" (defScope s_law) f cdv A outer s H E) rfl
  exact (pss_cons (ps_set (i := 1) sc_law.nd rfl (by first | exact Or.inl rfl | exact Or.inr rfl) (pe_own G_law_cell_at (hr.mono (by decide)) rfl tk (pa_cons (pv 0) (pa_cons pe_int pa_nil))))
  (pss_cons (ps_set (i := 2) sc_law.nd rfl (by first | exact Or.inl rfl | exact Or.inr rfl) (pe_ix ix_seq (pe_lst (pa_cons pe_int (pa_cons pe_int (pa_cons (pe_op op_dAdd pe_int (pe_op op_dMod (pe_op op_dDiv (pv 1) pe_int) pe_int)) pa_nil)))) (pe_op op_dMod (pv 1) pe_int) (fun _ _ => rfl)))
  (pss_cons (ps_set (i := 3) sc_law.nd rfl (by first | exact Or.inl rfl | exact Or.inr rfl) (pe_lst pa_nil))
  (pss_cons (ps_set (i := 4) sc_law.nd rfl (by first | exact Or.inl rfl | exact Or.inr rfl) pe_int)
  (pss_cons (ps_for po rfl (pi_range1 rfl T.b_range (pa_cons (pe_op op_dAdd pe_int (pe_op op_dMod (pe_op op_dDiv (pv 1) pe_int) pe_int)) pa_nil)) (pg_name (i := 5) sc_law.nd rfl (by first | exact Or.inl rfl | exact Or.inr rfl)) (pss_cons (ps_asg (pe_own G_law_numbers (hr.mono (by decide)) rfl tk (pa_cons (pv 0) (pa_cons (pv 5) pa_nil))) (pg_tup rfl (pgs_cons (pg_name (i := 6) sc_law.nd rfl (by first | exact Or.inl rfl | exact Or.inr rfl)) (pgs_cons (pg_name (i := 7) sc_law.nd rfl (by first | exact Or.inl rfl | exact Or.inr rfl)) (pgs_cons (pg_name (i := 8) sc_law.nd rfl (by first | exact Or.inl rfl | exact Or.inr rfl)) (pgs_cons (pg_name (i := 9) sc_law.nd rfl (by first | exact Or.inl rfl | exact Or.inr rfl)) pgs_nil))))))
  (pss_cons (ps_expr (pe_bm PySem.F.plainAttrs_list PySem.F.slot_list_append PySem.F.type_list_append mt_append (pv 3) (pa_cons (pe_mak G_Job_init (hr.mono (by decide)) rfl tk (pa_cons (pe_op op_dAdd (pe_ix ix_seq pe_str (pe_op op_dMod (pv 5) pe_int) (fun _ _ => rfl)) (pe_ix ix_seq pe_str (pe_op op_dDiv (pv 5) pe_int) (fun _ _ => rfl))) (pa_cons (pe_lst pa_nil) (pa_cons (pv 5) (pa_cons (pv 6) (pa_cons (pv 7) (pa_cons (pv 8) (pa_cons (pv 9) pa_nil)))))))) pa_nil)))
  (pss_cons (ps_set (i := 4) sc_law.nd rfl (by first | exact Or.inl rfl | exact Or.inr rfl) (pe_op op_dAdd (pv 4) (pe_op op_dMul (pv 7) (pe_op op_dAdd (pv 6) (pv 2)))))
  (pss_cons (ps_set (i := 10) sc_law.nd rfl (by first | exact Or.inl rfl | exact Or.inr rfl) (pv 8))
  (pss_one (ps_for po rfl (pi_range1 rfl T.b_range (pa_cons (pe_op op_dSub (pv 7) pe_int) pa_nil)) (pg_name (i := 11) sc_law.nd rfl (by first | exact Or.inl rfl | exact Or.inr rfl)) (pss_cons (ps_set (i := 4) sc_law.nd rfl (by first | exact Or.inl rfl | exact Or.inr rfl) (pe_op op_dAdd (pv 4) (pv 10)))
  (pss_one (ps_set (i := 10) sc_law.nd rfl (by first | exact Or.inl rfl | exact Or.inr rfl) (pe_callB (call_cMin2 rfl) (by rfl) T.b_min (by decide +kernel) (pa_cons pe_int (pa_cons (pe_op op_dMul (pv 10) (pv 9)) pa_nil)))))))))))))
  (pss_cons (ps_set (i := 12) sc_law.nd rfl (by first | exact Or.inl rfl | exact Or.inr rfl) (pe_mak G_Plan_init (hr.mono (by decide)) rfl tk (pa_cons (pv 3) pa_nil)))
  (pss_cons (ps_set (i := 13) sc_law.nd rfl (by first | exact Or.inl rfl | exact Or.inr rfl) (pe_own G_bound (hr.mono (by decide)) rfl tk (pa_cons (pv 12) (pa_cons (pv 2) pa_nil))))
  (pss_cons (ps_if (PW.pt (pw_or (pt_not (pt_val (pe_own G_law_whole (hr.mono (by decide)) rfl tk (pa_cons (pv 13) pa_nil)))) (pw_or (pt_cmpR (op_dNe hr) (pv 13) (pv 4) (nomark _)) (pw_or1 (pt_cmpR (op_dNe hr) (pe_own G_bound (hr.mono (by decide)) rfl tk (pa_cons (pv 12) (pa_cons (pv 2) pa_nil))) (pv 4) (nomark _)))))) (pss_one (ps_ret pe_bl)) pss_nil)
  (pss_cons (ps_for po rfl (pi_range1 rfl T.b_range (pa_cons (pe_callB call_cLen (by rfl) T.b_len (by decide +kernel) (pa_cons (pv 3) pa_nil)) pa_nil)) (pg_name (i := 5) sc_law.nd rfl (by first | exact Or.inl rfl | exact Or.inr rfl)) (pss_cons (ps_set (i := 14) sc_law.nd rfl (by first | exact Or.inl rfl | exact Or.inr rfl) (pe_met (pv 12) MM_job_at (hr.mono (by decide)) tk (pa_cons (pv 5) pa_nil)))
  (pss_one (ps_if (pt_cmpR (op_dNe hr) (pe_tup (pa_cons (pe_fld (pv 14) rfl) (pa_cons (pe_fld (pv 14) rfl) (pa_cons (pe_fld (pv 14) rfl) (pa_cons (pe_fld (pv 14) rfl) pa_nil))))) (pe_own G_law_numbers (hr.mono (by decide)) rfl tk (pa_cons (pv 0) (pa_cons (pv 5) pa_nil))) (nomark _)) (pss_one (ps_ret pe_bl)) pss_nil))))
  (pss_one (ps_ret (pe_cmpR (op_dEq hr) (pe_met0 (pv 12) MM_many (hr.mono (by decide)) tk) (pe_callB call_cLen (by rfl) T.b_len (by decide +kernel) (pa_cons (pv 3) pa_nil)) (nomark _)))))))))))))
end S

namespace S
open PySem L2
local macro_rules | `(tactic| walk_at "slot") => `(tactic| (with_reducible first | exact gx0 | exact gx1 | exact gx2 | exact gx3 | exact gx4 | exact gx5 | exact gx6 | exact gx7 | exact gx8 | exact gx9 | exact gx10 | exact gx11 | exact gx12 | exact gx13 | exact gx14 | exact gx15 | exact gx16 | exact gx17 | exact gx18 | exact gx19 | exact gx20 | exact gx21 | exact gx22 | exact gx23 | exact gx24 | exact gx25 | exact gx26 | exact gx27 | exact gx28 | exact gx29))
local macro_rules | `(tactic| walk_at "set") => `(tactic| (with_reducible first | exact sx0 | exact sx1 | exact sx2 | exact sx3 | exact sx4 | exact sx5 | exact sx6 | exact sx7 | exact sx8 | exact sx9 | exact sx10 | exact sx11 | exact sx12 | exact sx13 | exact sx14 | exact sx15 | exact sx16 | exact sx17 | exact sx18 | exact sx19 | exact sx20 | exact sx21 | exact sx22 | exact sx23 | exact sx24 | exact sx25 | exact sx26 | exact sx27 | exact sx28 | exact sx29))
local macro_rules | `(tactic| walk_at "wi") => `(tactic| first | exact wi0 | (refine' wi1 ?hw ?hs; (case hw => walk_at "wi"); (case hs => walk_at "set")))
local macro_rules | `(tactic| walk_at "ro") => `(tactic| with_reducible first | exact RO.head | assumption | (apply RO.tail; walk_at "ro") | (apply RO.app; walk_at "ro") | (refine' RO.le (by assumption) ?_; with_reducible assumption))
local macro_rules | `(tactic| walk_at "rl") => `(tactic| with_reducible first | exact RL.head | assumption | (apply RL.tail; walk_at "rl") | (apply RL.app; walk_at "rl") | (refine' RL.le (by assumption) ?_; with_reducible assumption) | (apply RL.ro; walk_at "ro"))
local macro_rules | `(tactic| walk_at "rt") => `(tactic| with_reducible first | exact RT.head | assumption | (apply RT.tail; walk_at "rt") | (apply RT.app; walk_at "rt") | (refine' RT.le (by assumption) ?_; with_reducible assumption) | (apply RT.ro; walk_at "ro"))
local macro_rules | `(tactic| walk_at "rd") => `(tactic| with_reducible first | exact RD.head | assumption | (apply RD.tail; walk_at "rd") | (apply RD.app; walk_at "rd") | (apply RD.ro; walk_at "ro"))
local macro_rules | `(tactic| walk_at "pull") => `(tactic| with_reducible first | exact Pull.head | assumption | (apply Pull.tail; walk_at "pull") | (apply Pull.app; walk_at "pull"))
local macro_rules | `(tactic| walk_at "sl") => `(tactic| with_reducible first | exact Sl.refl | exact Sl.nil | exact Sl.app | (refine' Sl.pull ?hp ?hs; (case hp => walk_at "pull"); (case hs => walk_at "sl")) | (apply Sl.drop; walk_at "sl") | (apply Sl.app'; walk_at "sl"))
local macro_rules | `(tactic| walk_at "le") => `(tactic| first | with_reducible assumption | (with_reducible exact Le.refl) | (apply Sl.le; walk_at "sl") | (with_reducible exact Le.pre) | (with_reducible apply Le.drop; walk_at "le") | (with_reducible apply Le.app'; walk_at "le"))
local macro_rules | `(tactic| walk_at "kv") => `(tactic| with_reducible first | exact kv_int | exact kv_str | assumption)
local macro_rules | `(tactic| walk_at "il") => `(tactic| (with_reducible repeat (first | exact il_nil | exact il_map | apply il_cons)))
local macro_rules | `(tactic| walk_at "om") => `(tactic| first | omega | (simp only [List.length_cons, List.length_nil, List.length_map, List.length_append, List.length_range, List.length_take, List.length_drop, len1]; omega) | decide)
local macro_rules | `(tactic| walk_at "tya") => `(tactic| with_reducible first | exact ty_str | (apply ty_list; walk_at "rl") | (apply ty_dict; walk_at "ro"))
local macro_rules | `(tactic| walk_at "tyg") => `(tactic| with_reducible first | exact ty_non | exact ty_bl | exact ty_int | exact ty_strT | (apply ty_lst; walk_at "ro") | (apply ty_tup; walk_at "ro") | (apply ty_dK; walk_at "ro") | (refine' ty_ins ?_ ?hr; (case hr => walk_at "ro"); (walk_at "ins")))
local macro_rules | `(tactic| walk_at "cls") => `(tactic| first | exact ClsV.ty _ | exact ClsV.own _)
local macro_rules | `(tactic| walk_at "kit") => `(tactic| with_reducible first | exact kit_self | assumption | exact kt_NoneType_int | exact kt_NoneType_bool | exact kt_NoneType_str | exact kt_NoneType_list | exact kt_NoneType_tuple | exact kt_NoneType_dict | exact kt_bool_int | exact kt_bool_bool | exact kt_bool_str | exact kt_bool_list | exact kt_bool_tuple | exact kt_bool_dict | exact kt_int_int | exact kt_int_bool | exact kt_int_str | exact kt_int_list | exact kt_int_tuple | exact kt_int_dict | exact kt_str_int | exact kt_str_bool | exact kt_str_str | exact kt_str_list | exact kt_str_tuple | exact kt_str_dict | exact kt_list_int | exact kt_list_bool | exact kt_list_str | exact kt_list_list | exact kt_list_tuple | exact kt_list_dict | exact kt_tuple_int | exact kt_tuple_bool | exact kt_tuple_str | exact kt_tuple_list | exact kt_tuple_tuple | exact kt_tuple_dict | exact kt_dict_int | exact kt_dict_bool | exact kt_dict_str | exact kt_dict_list | exact kt_dict_tuple | exact kt_dict_dict)
local macro_rules | `(tactic| walk_at "fo") => `(tactic| assumption)
local macro_rules | `(tactic| walk_at "ins") => `(tactic| assumption)
local macro_rules | `(tactic| walk_at "lk") => `(tactic| rfl)
local macro_rules | `(tactic| walk_at "mt") => `(tactic| constructor)
local macro_rules | `(tactic| walk_at "br") => `(tactic| first
  | with_reducible refine' br_t ?_ | with_reducible refine' br_f ?_ | with_reducible refine' br_nt ?_ | with_reducible refine' br_nf ?_
  | (with_reducible refine' br_yes (p := _) ?hp ?_; (case hp => first | omega | assumption | rfl | decide))
  | (with_reducible refine' br_no (p := _) ?hp ?_; (case hp => first | omega | assumption | rfl | decide))
  | (with_reducible refine' br_nyes (p := _) ?hp ?_; (case hp => first | omega | assumption | rfl | decide))
  | (with_reducible refine' br_nno (p := _) ?hp ?_; (case hp => first | omega | assumption | rfl | decide))
  | with_reducible refine' br_dec (fun _ => ?_) (fun _ => ?_)
  | with_reducible refine' br_ndec (fun _ => ?_) (fun _ => ?_)
  | with_reducible refine' br_not ?_
  | with_reducible refine' br_b (fun _ => ?_) (fun _ => ?_))
local macro_rules | `(tactic| walk_at "ge") => `(tactic| with_reducible first
  | (refine' ge_var ?h1 ?_; (case h1 => walk_at "slot")) | refine' ge_c ?_ | refine' ge_op ?_ | refine' ge_un ?_ | refine' ge_fld' ?_ | refine' ge_cb ?_ | refine' ga_nil ?_ | refine' ga_cons ?_
  | refine' ge_tup' ?_ | refine' ge_lst' ?_ | (refine' ge_dnew ?_; intro _) | refine' ge_if ?_ | refine' ge_andV' ?_ | refine' ge_orV' ?_ | refine' ge_notV' ?_ | refine' ge_chain' ?_
  | refine' gt_test' ?_ | refine' gt_B' ?_ | refine' gt_and ?_ | refine' gt_or ?_ | refine' gt_not ?_ | refine' nb ?_ | refine' gt_yes ?_
  | refine' ge_dget' ?_ | refine' ge_din' ?_ | refine' ge_dnotin' ?_ | refine' ge_sl ?_ | refine' go_no ?_ | refine' go_some' ?_ | refine' npart ?_ | refine' ge_bm' ?_ | refine' ge_bm0' ?_ | refine' ge_lc ?_)
local macro_rules | `(tactic| walk_at "gr") => `(tactic| with_reducible first
  | refine' gr_addI ?_ | refine' gr_subI ?_ | refine' gr_ltI ?_ | refine' gr_leI ?_ | refine' gr_gtI ?_ | refine' gr_geI ?_ | refine' gr_eqI ?_ | refine' gr_neI ?_ | refine' gr_eqS ?_ | refine' gr_neS ?_ | refine' gr_eqB ?_
  | refine' is_non ?_ | refine' isn_non ?_ | refine' is_int ?_ | refine' isn_int ?_ | refine' is_ref ?_ | refine' isn_ref ?_ | refine' is_str ?_ | refine' isn_str ?_ | refine' is_bl ?_ | refine' gr_inS0 ?_ | refine' gr_inS1 ?_ | refine' gr_ipI ?_
  | (refine' gr_modI ?h1 ?_; (case h1 => walk_at "om"))
  | (refine' gr_divI ?h1 ?_; (case h1 => exact cdiv (by walk_at "om") (by walk_at "om")))
  | (refine' gr_mulI ?h1 ?_; (case h1 => first | exact cmulR (by walk_at "om") (by walk_at "om") | exact cmulL (by walk_at "om") (by walk_at "om")))
  | (refine' gr_ixT ?h1 ?h2 ?_; (case h1 => walk_at "rt"); (case h2 => with_unfolding_all rfl))
  | (refine' gr_ixI ?h1 ?h2 ?h3 ?h4 ?_; (case h1 => walk_at "rl"); (case h2 => walk_at "il"); (case h3 => walk_at "om"); (case h4 => walk_at "om"))
  | (refine' gr_ixSD ?h1 ?h2 ?h3 ?_; (case h1 => first | omega | (with_unfolding_all decide +kernel)); (case h2 => walk_at "om"); (case h3 => walk_at "om"))
  | (refine' gr_addS ?h1 ?_; (case h1 => exact sz2 (by walk_at "om")))
  | (refine' gr_addL ?h1 ?h2 ?h3 ?_; (case h1 => walk_at "ro"); (case h2 => walk_at "ro"); (case h3 => exact sz2 (by walk_at "om")); intro _))
local macro_rules | `(tactic| walk_at "gc") => `(tactic| with_reducible first
  | refine' gc_min2 ?_ | refine' gc_max2 ?_
  | (refine' gc_lenM ?h1 ?_; (case h1 => walk_at "rl")) | (refine' gc_lenL ?h1 ?_; (case h1 => walk_at "rl")) | (refine' gc_lenT ?h1 ?_; (case h1 => walk_at "rt")) | (refine' gc_lenS ?h1 ?_; (case h1 => exact sz2 (by walk_at "om"))) | (refine' gc_lenD ?h1 ?_; (case h1 => walk_at "ro"))
  | (refine' gc_listL ?h1 ?_; (case h1 => walk_at "rl"); intro _) | (refine' gc_listT ?h1 ?_; (case h1 => walk_at "rt"); intro _) | (refine' gc_listD ?h1 ?_; (case h1 => walk_at "rd"); intro _)
  | (refine' gc_isi ?h1 ?h2 ?h3 ?_; (case h1 => walk_at "cls"); (case h2 => walk_at "tyg"); (case h3 => walk_at "kit"))
  | (refine' gc_isi2t ?h0 ?h1 ?h2 ?h3 ?h4 ?_; (case h0 => walk_at "ro"); (case h1 => walk_at "cls"); (case h2 => walk_at "cls"); (case h3 => walk_at "tyg"); (case h4 => walk_at "kit"))
  | (refine' gc_isi2f ?h0 ?h1 ?h2 ?h3 ?h4 ?h5 ?_; (case h0 => walk_at "ro"); (case h1 => walk_at "cls"); (case h2 => walk_at "cls"); (case h3 => walk_at "tyg"); (case h4 => walk_at "kit"); (case h5 => walk_at "kit")))
local macro_rules | `(tactic| walk_at "nn") => `(tactic| with_reducible first
  | (refine' nnew ?h1 ?_; (case h1 => walk_at "om"); intro _)
  | (refine' nfld ?h1 ?h2 ?h3 ?_; (case h1 => walk_at "ro"); (case h2 => walk_at "fo"); (case h3 => walk_at "lk"))
  | (refine' nfst ?h1 ?h2 ?h3 ?h4 ?_; (case h1 => walk_at "pull"); (case h2 => walk_at "fo"); (case h4 => walk_at "pf"); (case h3 => walk_at "fl"))
  | (refine' nlist ?h1 ?_; (case h1 => walk_at "rl")) | (refine' ntup ?h1 ?_; (case h1 => walk_at "rt")) | refine' nstr ?_
  | (refine' nrng1 ?h1 ?h2 ?_; (case h1 => walk_at "om"); (case h2 => walk_at "om"))
  | (refine' nrng2 ?h1 ?_; (case h1 => refine' ⟨?_, ?_, ?_, ?_⟩ <;> walk_at "om"))
  | (refine' nenum ?h1 ?_; (case h1 => walk_at "rl"))
  | (refine' nbm ?h1 ?_; (case h1 => walk_at "tya")) | (refine' nbm0 ?h1 ?_; (case h1 => walk_at "tya"))
  | (refine' nmet ?h1 ?h2 ?h3 ?_; (case h1 => walk_at "ro"); (case h2 => walk_at "mt"); (case h3 => walk_at "lk"))
  | (refine' ndin0 ?h1 ?h2 ?_; (case h1 => walk_at "rd"); (case h2 => walk_at "kv")) | (refine' ndin1 ?h1 ?h2 ?_; (case h1 => walk_at "rd"); (case h2 => walk_at "kv"))
  | (refine' ndput ?h1 ?h2 ?h3 ?_; (case h1 => walk_at "pull"); (case h2 => walk_at "kv"); (case h3 => walk_at "om"))
  | (refine' gm_append ?h1 ?h2 ?_; (case h1 => walk_at "pull"); (case h2 => exact sz1 (by walk_at "om"))))
local macro_rules | `(tactic| walk_at "gs") => `(tactic| with_reducible first
  | refine' gs_seq ?_ | refine' gs_next ?_ | refine' gs_asg ?_ | (refine' gg_name ?h1 ?_; (case h1 => walk_at "set")) | refine' gs_if ?_ | refine' gs_ret ?_ | refine' gs_retN ?_ | refine' gs_drop ?_ | refine' gs_fld' ?_ | refine' gs_dput' ?_
  | refine' gs_for ?_ | refine' gi_list' ?_ | refine' gi_tup' ?_ | refine' gi_str' ?_ | refine' gi_rng1' ?_ | refine' gi_rng2' ?_ | refine' gi_enum' ?_
  | (refine' gg_tup ?h1 ?h2 ?_; (case h1 => walk_at "rt"); (case h2 => with_unfolding_all rfl)) | refine' ggs_cons ?_ | refine' ggs_nil ?_
  | (refine' gs_aug ?h1 ?_; (case h1 => walk_at "slot")) | refine' gs_break ?_ | refine' gs_cont ?_)
local macro_rules | `(tactic| walk_at "st") => `(tactic| first | walk_at "ge" | walk_at "gs" | walk_at "gr" | walk_at "gc" | walk_at "nn" | walk_at "br")
local macro_rules | `(tactic| walk_at "go") => `(tactic| (repeat' walk_at "st"))
local macro_rules | `(tactic| walk_at "cl") => `(tactic| refine Cl.of ?_)
local macro_rules | `(tactic| walk_at "fo") => `(tactic| with_reducible first | exact fo_Job_name (by assumption) | exact fo_Job_needs (by assumption) | exact fo_Job_rank (by assumption) | exact fo_Job_span (by assumption) | exact fo_Job_tries (by assumption) | exact fo_Job_wait (by assumption) | exact fo_Job_grow (by assumption) | exact fo_Plan_jobs (by assumption) | exact fo_Plan_places (by assumption))
local macro_rules | `(tactic| walk_at "lk") => `(tactic| with_reducible first | exact fJob_name | exact fJob_needs | exact fJob_rank | exact fJob_span | exact fJob_tries | exact fJob_wait | exact fJob_grow | exact fPlan_jobs | exact fPlan_places | exact fPlan_no_job_at | exact fPlan_no_many | exact fPlan_no_needed | exact fPlan_no_order | exact fPlan_no_place_of | exact fPlan_no_wanted_by | exact fPlan_no_wants | exact lk_put | (apply lk_ne (by decide +kernel); walk_at "lk") | exact lk_nil | (apply lk_no (by decide +kernel); walk_at "lk"))
local macro_rules | `(tactic| walk_at "pf") => `(tactic| with_reducible first | exact fJob_put_name | exact fJob_all | exact fJob_put_needs | exact fJob_put_rank | exact fJob_put_span | exact fJob_put_tries | exact fJob_put_wait | exact fJob_put_grow | exact fPlan_put_jobs | exact fPlan_all | exact fPlan_put_places | exact rfl)
local macro_rules | `(tactic| walk_at "ins") => `(tactic| with_reducible first | exact Txt.i_Job (by assumption) | exact Txt.i_Plan (by assumption))
local macro_rules | `(tactic| walk_at "fl") => `(tactic| first | (rw [fJob_len]; decide) | (rw [fPlan_len]; decide) | exact fl_of (by repeat (first | exact fl0 | apply fl1)) (by decide))

theorem take_more {α : Type} : ∀ {l : List α} {i : Nat} {x : α}, l[i]? = some x → l.take (i + 1) = l.take i ++ [x] := by
  intro l i x h
  rw [List.take_add_one, h]
  rfl
theorem restF_b {w g : Int} (h0 : 0 ≤ w) (h1 : w ≤ 100000) (h2 : 0 ≤ g) : ∀ n, 0 ≤ restF w g n ∧ restF w g n ≤ 100000
  | 0 => ⟨h0, h1⟩
  | n + 1 => by
    have ih := restF_b h0 h1 h2 n
    show 0 ≤ min (restF w g n * g) 100000 ∧ min (restF w g n * g) 100000 ≤ 100000
    have := Int.mul_nonneg ih.1 h2
    omega
section
variable {K : PySem.W.Frag} {mg : Str → Option Value} {a : Ad} {A : SH} {vs : List V} {Φ : V → SH → Prop} {Ψ : Value → Option Addr → SH → Prop} {Ψ' : Value → Option Addr → L2.St → SH → Prop} {W : WX}
theorem w_law_mixed (T : Txt K mg a) (h : S_law_mixed K a vs A Φ Ψ) (hx : WPost Ψ' W) : GS (t_law_mixed K a W) (AEf Φ) (L2.start ["_law_cell", "_law_k", "_law_number"] vs) A := by
  obtain ⟨c, k, rfl, h0, h1, q⟩ := h
  show GS _ _ [some (.int c), some (.int k), none] A
  unfold t_law_mixed
  walk_at "go"
  exact Cl.of q
theorem w_law_cell_at (T : Txt K mg a) (h : S_law_cell_at K a vs A Φ Ψ) (hx : WPost Ψ' W) : GS (t_law_cell_at K a W) (AEf Φ) (L2.start ["_law_script", "_law_k"] vs) A := by
  obtain ⟨p, ns, k, rfl, hr, hn, h0, h1, q⟩ := h
  show GS _ _ [some (.ref p), some (.int k)] A
  unfold t_law_cell_at
  walk_at "go"
  · exact Cl.of q
  · refine Cl.of ?_
    rw [List.getD_eq_getElem?_getD, List.getElem?_eq_none (by omega)] at q
    exact q
theorem w_wait_after (T : Txt K mg a) (h : S_wait_after K a vs A Φ Ψ) (hx : WPost Ψ' W) : GS (t_wait_after K a W) (AEf Φ) (L2.start ["job", "fails", "turns", "turn"] vs) A := by
  obtain ⟨p, j, fails, rfl, ⟨dx, nd, hj, hn⟩, ok, h0, h1, q⟩ := h
  obtain ⟨_, _, _, _, _, _, _, o1, o2, o3, o4⟩ := ok
  show GS _ _ [some (.ref p), some (.int fails), none, none] A
  unfold t_wait_after
  walk_at "go"
  refine gf_range (fun i σ A' => ∃ v, σ = [some (.ref p), some (.int fails), some (.int (restF j.wait j.grow i)), v] ∧ Le A A') ?_ ?_ ?_
  · exact Cl.of ⟨none, rfl, Le.refl⟩
  · rintro i σ A' hi ⟨v, rfl, hle⟩
    have hb := restF_b o1 (by omega) (by omega) i
    walk_at "go"
    walk_at "cl"
    exact ⟨_, rfl, hle⟩
  · rintro σ A' ⟨v, rfl, hle⟩
    walk_at "go"
    exact Cl.le hle q
theorem w_is_whole (T : Txt K mg a) (h : S_is_whole K a vs A Φ Ψ) (hx : WPost Ψ' W) : GS (t_is_whole K a W) (AEf Φ) (L2.start ["thing"] vs) A := by
  obtain ⟨i, rfl, q⟩ := h
  show GS _ _ [some (.int i)] A
  unfold t_is_whole
  walk_at "go"
  exact Cl.of q
theorem w_law_whole (T : Txt K mg a) (h : S_law_whole K a vs A Φ Ψ) (hx : WPost Ψ' W) : GS (t_law_whole K a W) (AEf Φ) (L2.start ["_law_thing"] vs) A := by
  obtain ⟨i, rfl, q⟩ := h
  show GS _ _ [some (.int i)] A
  unfold t_law_whole
  walk_at "go"
  exact Cl.of q
theorem w_is_made_of (T : Txt K mg a) (h : S_is_made_of K a vs A Φ Ψ) (hx : WPost Ψ' W) : GS (t_is_made_of K a W) (AEf Φ) (L2.start ["thing", "signs", "most", "sign"] vs) A := by
  obtain ⟨z, s, m, rfl, hz, q⟩ := h
  show GS _ _ [some (.str z), some (.str s), some (.int m), none] A
  unfold t_is_made_of
  walk_at "go"
  · rename_i c1 c2
    have e : madeOf z s m = false := by simp [madeOf, c1, c2]
    rw [e] at q
    exact Cl.of q
  · rename_i c1 c2
    refine gf_str (fun i σ A' => ∃ v, σ = [some (.str z), some (.str s), some (.int m), v] ∧ Le A A' ∧ (z.cps.toList.take i).all (fun c => decide (c ∈ s.cps.toList)) = true) (Cl.of ⟨none, rfl, Le.refl, rfl⟩) ?_ ?_
    · rintro i c σ A' hc ⟨v, rfl, hle, hall⟩
      have hc' : z.cps.toList[i]? = some c := by simpa using hc
      walk_at "go"
      · rename_i c3
        have e : madeOf z s m = false := by
          have : z.cps.toList.all (fun c => decide (c ∈ s.cps.toList)) = false := by
            rw [List.all_eq_false]
            exact ⟨c, List.mem_of_getElem? hc', by simpa using c3⟩
          simp only [madeOf, this, Bool.and_false]
        rw [e] at q
        exact Cl.le hle q
      · rename_i c3
        walk_at "cl"
        refine ⟨_, rfl, hle, ?_⟩
        rw [take_more hc', List.all_append, hall]
        simpa using c3
    · rintro σ A' ⟨v, rfl, hle, hall⟩
      walk_at "go"
      have e : madeOf z s m = true := by
        have h3 : z.cps.toList.take z.cps.size = z.cps.toList := List.take_of_length_le (by simp)
        rw [h3] at hall
        simp only [madeOf, hall, c1, c2, decide_true, Bool.and_true]
      rw [e] at q
      exact Cl.le hle q
  · rename_i c1
    have e : madeOf z s m = false := by simp [madeOf, c1]
    rw [e] at q
    exact Cl.of q
theorem w_law_numbers (T : Txt K mg a) (h : S_law_numbers K a vs A Φ Ψ) (hx : WPost Ψ' W) : GS (t_law_numbers K a W) (AEf Φ) (L2.start ["_law_script", "_law_k", "_law_number", "_law_span", "_law_tries", "_law_wait"] vs) A := by
  obtain ⟨p, ns, k, rfl, hr, hn, h0, h1, q⟩ := h
  show GS _ _ [some (.ref p), some (.int k), none, none, none, none] A
  unfold t_law_numbers
  walk_at "go"
  refine ge_cal hx ?_
  walk_at "go"
  refine ge_cal hx ?_
  walk_at "go"
  refine ⟨p, ns, _, rfl, hr, hn, by omega, by omega, ?_⟩
  walk_at "go"
  refine ⟨_, _, rfl, h0, h1, ?_⟩
  walk_at "go"
  simp only [spanF, triesF, waitF, growF, numF] at q
  exact Cl.le (by walk_at "le") (q _)
theorem w_is_among (T : Txt K mg a) (h : S_is_among K a vs A Φ Ψ) (hx : WPost Ψ' W) : GS (t_is_among K a W) (AEf Φ) (L2.start ["thing", "least", "most"] vs) A := by
  obtain ⟨i, l, m, rfl, q1, q2⟩ := h
  show GS _ _ [some (.int i), some (.int l), some (.int m)] A
  unfold t_is_among
  walk_at "go"
  refine ge_cal hx ?_
  walk_at "go"
  refine ⟨_, rfl, ?_⟩
  walk_at "go"
  · rename_i c
    by_cases c2 : i ≤ m
    · rw [decide_eq_true c2]
      exact Cl.of (q1 ⟨c, c2⟩)
    · rw [decide_eq_false c2]
      exact Cl.of (q2 fun z => c2 z.2)
  · rename_i c
    exact Cl.of (q2 fun z => c z.1)
theorem w_is_name (T : Txt K mg a) (h : S_is_name K a vs A Φ Ψ) (hx : WPost Ψ' W) : GS (t_is_name K a W) (AEf Φ) (L2.start ["thing"] vs) A := by
  obtain ⟨z, rfl, hz, q⟩ := h
  show GS _ _ [some (.str z)] A
  unfold t_is_name
  walk_at "go"
  refine ge_cal hx ?_
  walk_at "go"
  exact ⟨_, _, _, rfl, hz, Cl.of q⟩
theorem restS_b {w g : Int} (h0 : 0 ≤ w) (h1 : w ≤ 100000) (h2 : 0 ≤ g) : ∀ n, 0 ≤ restS w g n ∧ restS w g n ≤ 100000 * n
  | 0 => ⟨Int.le_refl _, Int.le_refl _⟩
  | n + 1 => by
    have ih := restS_b h0 h1 h2 n
    have r := restF_b h0 h1 h2 n
    show 0 ≤ restS w g n + restF w g n ∧ restS w g n + restF w g n ≤ 100000 * ((n + 1 : Nat) : Int)
    omega
theorem w_rest_sum (T : Txt K mg a) (h : S_rest_sum K a vs A Φ Ψ) (hx : WPost Ψ' W) : GS (t_rest_sum K a W) (AEf Φ) (L2.start ["job", "turns", "fails"] vs) A := by
  obtain ⟨p, j, rfl, hj, ok, q⟩ := h
  obtain ⟨dx, nd, hj1, hj2⟩ := id hj
  obtain ⟨_, _, _, _, _, t1, t2, _, _, _, _⟩ := id ok
  show GS _ _ [some (.ref p), none, none] A
  unfold t_rest_sum
  walk_at "go"
  refine gf_range (fun i σ A' => ∃ v, σ = [some (.ref p), some (.int (restS j.wait j.grow i)), v] ∧ Le A A') (Cl.of ⟨none, rfl, Le.refl⟩) ?_ ?_
  · rintro i σ A' hi ⟨v, rfl, hle⟩
    walk_at "go"
    refine ge_cal hx ?_
    walk_at "go"
    refine ⟨p, j, _, rfl, ⟨dx, nd, RO.le hle hj1, RO.le hle hj2⟩, ok, by omega, by omega, ?_⟩
    walk_at "go"
    walk_at "cl"
    have e : ((1 : Int) + i - 1).toNat = i := by omega
    rw [e]
    exact ⟨_, rfl, hle⟩
  · rintro σ A' ⟨v, rfl, hle⟩
    walk_at "go"
    exact Cl.le hle q
theorem lc_sum {α : Type} (f : α → Int) : ∀ {l : List α} {i : Nat} {x : α}, l[i]? = some x → ((l.take (i + 1)).map f).sum = ((l.take i).map f).sum + f x := by
  intro l i x h
  rw [take_more h, List.map_append, List.sum_append]
  simp
theorem w_bound (T : Txt K mg a) (h : S_bound K a vs A Φ Ψ) (hx : WPost Ψ' W) : GS (t_bound K a W) (AEf Φ) (L2.start ["plan", "term", "turns", "job"] vs) A := by
  obtain ⟨p, l, dx, d, ps, js, term, rfl, hp, hl, ⟨hlen, hj⟩, hok, h0, h1, q⟩ := h
  show GS _ _ [some (.ref p), some (.int term), none, none] A
  unfold t_bound
  walk_at "go"
  refine gf_list (xs := ps.map V.ref) (fun i σ A' => ∃ v, σ = [some (.ref p), some (.int term), some (.int (boundF (js.take i) term)), v] ∧ Le A A') (Cl.of ⟨none, rfl, Le.refl⟩) (fun i σ A' _ ⟨v, _, hle⟩ => RL.le hle (RL.ro hl)) ?_ ?_
  · rintro i x σ A' hi ⟨v, rfl, hle⟩
    obtain ⟨r, hr, rfl⟩ : ∃ r, ps[i]? = some r ∧ x = .ref r := by
      rw [List.getElem?_map] at hi
      cases e : ps[i]? with
      | none => rw [e] at hi; cases hi
      | some r => rw [e] at hi; exact ⟨r, rfl, (Option.some.inj hi).symm⟩
    have hlt := (List.getElem?_eq_some_iff.mp hr).1
    obtain ⟨j, hjj⟩ : ∃ j, js[i]? = some j := ⟨js[i]'(by omega), by simp⟩
    have ok := hok j (List.mem_of_getElem? hjj)
    obtain ⟨ex, nd, j1, j2⟩ := hj i r j hr hjj
    obtain ⟨_, _, _, s1, s2, t1, t2, _, _, _, _⟩ := id ok
    have k1 := RO.le hle j1
    walk_at "go"
    refine ge_cal hx ?_
    walk_at "go"
    refine ⟨r, j, rfl, ⟨ex, nd, k1, RO.le hle j2⟩, ok, ?_⟩
    walk_at "go"
    walk_at "cl"
    refine ⟨some (.ref r), ?_, hle⟩
    have e : boundF (js.take (i + 1)) term = boundF (js.take i) term + j.tries * (j.span + term) + restS j.wait j.grow (j.tries - 1).toNat := by
      unfold boundF
      rw [lc_sum _ hjj]
      omega
    rw [e]
  · rintro σ A' ⟨v, rfl, hle⟩
    walk_at "go"
    rw [List.length_map, hlen, List.take_length]
    exact Cl.le hle q
end

section
variable {K : PySem.W.Frag} {mg : Str → Option Value} {a : Ad} {A : SH} {vs : List V} {Φ : V → SH → Prop} {Ψ : Value → Option Addr → SH → Prop} {Ψ' : Value → Option Addr → L2.St → SH → Prop} {W : WX}
theorem w_need_numbers (T : Txt K mg a) (h : S_need_numbers K a vs A Φ Ψ) (hx : WPost Ψ' W) : GS (t_need_numbers K a W) (AEf Φ) (L2.start ["numbers", "k", "number"] vs) A := by
  obtain ⟨l, r, s, t, w, g, rfl, hl, b⟩ := h
  obtain ⟨b1, b2, b3, b4, b5, b6, b7, b8, b9, b10, q⟩ := b
  show GS _ _ [some (.ref l), none, none] A
  unfold t_need_numbers
  walk_at "go"
  refine gf_enum (xs := [.int r, .int s, .int t, .int w, .int g]) (fun i σ A' => ∃ u v, σ = [some (.ref l), u, v] ∧ Le A A') (Cl.of ⟨none, none, rfl, Le.refl⟩) (fun i σ A' _ ⟨_, _, _, hle⟩ => RL.le hle (RL.ro hl)) ?_ ?_
  · rintro i x σ A' p hi ⟨u, v, rfl, hle⟩
    have kL : ∀ A, RT K A a.gLEAST [.int 0, .int 1, .int 1, .int 0, .int 1] := fun A => RT.k T.k_LEAST
    have kM : ∀ A, RT K A a.gMOST [.int 99, .int 1000, .int 20, .int 1000, .int 4] := fun A => RT.k T.k_MOST
    have h5 : i < 5 := (List.getElem?_eq_some_iff.mp hi).1
    obtain rfl | rfl | rfl | rfl | rfl : i = 0 ∨ i = 1 ∨ i = 2 ∨ i = 3 ∨ i = 4 := by omega
    all_goals cases hi
    all_goals
      walk_at "go"
      refine ge_cal hx ?_
      walk_at "go"
      refine gr_ixT (kL _) (by with_unfolding_all rfl) ?_
      walk_at "go"
      refine gr_ixT (kM _) (by with_unfolding_all rfl) ?_
      walk_at "go"
      refine ⟨_, _, _, rfl, fun _ => ?_, fun c => absurd (by omega) c⟩
      walk_at "go"
      walk_at "cl"
      exact ⟨_, _, rfl, hle.drop⟩
  · rintro σ A' ⟨u, v, rfl, hle⟩
    exact Cl.le hle q
theorem w_own_needs (T : Txt K mg a) (h : S_own_needs K a vs A Φ Ψ) (hx : WPost Ψ' W) : GS (t_own_needs K a W) (AEf Φ) (L2.start ["name", "needs", "found", "need"] vs) A := by
  obtain ⟨z, l, rfl, hl, q⟩ := h
  show GS _ _ [some (.str z), some (.ref l), none, none] A
  unfold t_own_needs
  walk_at "go"
  rename_i p1 p2
  refine gi_altL ?_
  walk_at "go"
  refine gf_list (xs := []) (fun i σ A' => A' = sg p2 (HO.lst []) :: sg p1 (HO.tup [V.ty "list", V.ty "tuple"]) :: A ∧ σ = [some (.str z), some (.ref l), some (.ref p2), none]) (Cl.of ⟨rfl, rfl⟩) (fun i σ A' _ ⟨h, _⟩ => by rw [h]; exact (RL.ro hl).tail.tail) ?_ ?_
  · rintro i x σ A' hi _
    cases hi
  · rintro σ A' ⟨rfl, rfl⟩
    walk_at "go"
    exact Cl.le (by walk_at "le") (q p2)
theorem w_Job_init (T : Txt K mg a) (h : S_Job_init K a vs A Φ Ψ) (hx : WPost Ψ' W) : GS (t_Job_init K a W) (AEf Φ) (L2.start ["self", "name", "needs", "rank", "span", "tries", "wait", "grow"] vs) A := by
  obtain ⟨p, dx, l, j, B, rfl, hp, hl, hn, ok, q⟩ := h
  obtain ⟨o1, o2, o3, o4, o5, o6, o7, o8, o9, o10, o11⟩ := id ok
  show GS _ _ [some (.ref p), some (.str j.name), some (.ref l), some (.int j.rank), some (.int j.span), some (.int j.tries), some (.int j.wait), some (.int j.grow)] A
  refine gs_as fun H h => ⟨_, hp.has h, ?_⟩
  unfold t_Job_init
  walk_at "go"
  refine ge_cal hx ?_
  walk_at "go"
  refine ⟨_, rfl, hn, ?_⟩
  rw [o1]
  walk_at "go"
  refine ge_cal hx ?_
  walk_at "go"
  refine ⟨_, _, rfl, hl.tail, fun nd => ?_⟩
  walk_at "go"
  refine ge_cal hx ?_
  walk_at "go"
  refine ⟨_, _, _, _, _, _, rfl, .head, o2, o3, o4, o5, o6, o7, o8, o9, o10, o11, ?_⟩
  walk_at "go"
  exact Cl.le (by walk_at "le") (q nd)
theorem w_can_stand (T : Txt K mg a) (h : S_can_stand K a vs A Φ Ψ) (hx : WPost Ψ' W) : GS (t_can_stand K a W) (AEf Φ) (L2.start ["needs", "place", "ahead", "other"] vs) A := by
  obtain ⟨p, hd, n, i, rfl, ⟨rs, e, h1, h2⟩, hi, q⟩ := h
  show GS _ _ [some (.ref p), some (.int i), some (.ref hd), none] A
  obtain ⟨r, hr⟩ : ∃ r, rs[i]? = some r := ⟨rs[i]'(by omega), by simp⟩
  have h3 := h2 r (List.mem_of_getElem? hr)
  unfold t_can_stand
  walk_at "go"
  refine gr_ixM h1 hr ?_
  walk_at "go"
  refine gf_list (xs := []) (fun i' σ A' => A' = A ∧ σ = [some (.ref p), some (.int i), some (.ref hd), none]) (Cl.of ⟨rfl, rfl⟩) (fun i σ A' _ ⟨h, _⟩ => by rw [h]; exact h3) ?_ ?_
  · rintro i x σ A' hi _
    cases hi
  · rintro σ A' ⟨rfl, rfl⟩
    walk_at "go"
    exact Cl.of q
theorem ahead_is {kvs : List (L2.Key × V)} {m : Nat} (h : Ahead kvs m) (i : Nat) : (valV kvs (Sum.inl (i : Int))).isSome = decide (i < m) := by
  rw [← valV_any, h]
  by_cases c : i < m
  · rw [decide_eq_true c, List.any_eq_true]
    exact ⟨_, List.mem_map.mpr ⟨i, List.mem_range.mpr c, rfl⟩, by simp⟩
  · rw [decide_eq_false c, List.any_eq_false]
    intro x hx
    obtain ⟨k, hk, rfl⟩ := List.mem_map.mp hx
    have := List.mem_range.mp hk
    simp only [decide_eq_true_eq]
    intro z
    have := Sum.inl.inj z
    omega
theorem ahead_put {kvs : List (L2.Key × V)} {m : Nat} (h : Ahead kvs m) : Ahead (putK kvs (Sum.inl (m : Int)) (V.bl true)) (m + 1) := by
  have e : valV kvs (Sum.inl (m : Int)) = none := by
    have := ahead_is h m
    rw [decide_eq_false (by omega)] at this
    cases q : valV kvs (Sum.inl (m : Int)) with
    | none => rfl
    | some v => rw [q] at this; cases this
  show putK kvs _ _ = _
  rw [putK_new _ e, h, List.range_succ, List.map_append]
  rfl
theorem w_next_place (T : Txt K mg a) (h : S_next_place K a vs A Φ Ψ) (hx : WPost Ψ' W) : GS (t_next_place K a W) (AEf Φ) (L2.start ["needs", "ahead", "place"] vs) A := by
  obtain ⟨p, hd, n, m, kvs, rfl, ⟨rs, e, h1, h2⟩, hn, hh, ha, hm, q⟩ := h
  show GS _ _ [some (.ref p), some (.ref hd), none] A
  unfold t_next_place
  walk_at "go"
  refine gf_range (fun i σ A' => i ≤ m ∧ Le A A' ∧ ∃ v, σ = [some (.ref p), some (.ref hd), v]) (Cl.of ⟨Nat.zero_le _, Le.refl, none, rfl⟩) ?_ ?_
  · rintro i σ A' hi ⟨hm', hle, v, rfl⟩
    have hh' := RO.le hle hh
    have e1 : (0 : Int) + (i : Int) = (i : Int) := by omega
    rw [e1]
    walk_at "go"
    · rename_i c
      rw [ahead_is ha] at c
      have c := of_decide_eq_true c
      walk_at "cl"
      exact ⟨c, hle, _, rfl⟩
    · rename_i c
      rw [ahead_is ha] at c
      have c := of_decide_eq_false c
      have : i = m := by omega
      subst this
      refine ge_cal hx ?_
      walk_at "go"
      refine ⟨p, hd, n, i, rfl, ⟨rs, e, RL.le hle h1, fun r hr => RL.le hle (h2 r hr)⟩, by omega, ?_⟩
      walk_at "go"
      rw [if_pos (by omega)] at q
      exact Cl.le hle q
  · rintro σ A' ⟨hm', hle, v, rfl⟩
    walk_at "go"
    rw [if_neg (by omega)] at q
    exact Cl.le hle q
theorem w_beginning (T : Txt K mg a) (h : S_beginning K a vs A Φ Ψ) (hx : WPost Ψ' W) : GS (t_beginning K a W) (AEf Φ) (L2.start ["needs", "found", "ahead", "place"] vs) A := by
  obtain ⟨p, n, rfl, ⟨rs, e, h1, h2⟩, hn, q⟩ := h
  show GS _ _ [some (.ref p), none, none, none] A
  unfold t_beginning
  walk_at "go"
  rename_i fo ah
  refine ge_cal hx ?_
  walk_at "go"
  refine ⟨p, ah, n, 0, [], rfl, ⟨rs, e, h1.tail.tail, fun r hr => (h2 r hr).tail.tail⟩, hn, .head, rfl, Nat.zero_le _, ?_⟩
  walk_at "go"
  refine gs_while (fun m σ A' => ∃ k kvs, m = n - k ∧ k ≤ n ∧ Ahead kvs k ∧ A' = sg fo (.lst ((List.range k).map fun i : Nat => V.int i)) :: sg ah (.dK kvs) :: A ∧ σ = [some (.ref p), some (.ref fo), some (.ref ah), some (if k < n then .int k else .non)]) n ?_ ?_
  · exact Cl.le (B := sg fo (.lst []) :: sg ah (.dK []) :: A) (by walk_at "le") ⟨0, [], rfl, Nat.zero_le _, rfl, rfl, rfl⟩
  · rintro m σ A' ⟨k, kvs, rfl, hk, ha, rfl, rfl⟩
    have hl : kvs.length = k := by rw [ha]; simp
    by_cases c : k < n
    · rw [if_pos c]
      walk_at "go"
      refine ge_cal hx ?_
      walk_at "go"
      refine ⟨p, ah, n, k + 1, _, rfl, ⟨rs, e, h1.tail.tail, fun r hr => (h2 r hr).tail.tail⟩, hn, .head, ahead_put ha, by omega, ?_⟩
      walk_at "go"
      refine ⟨n - (k + 1), by omega, Cl.le (B := sg fo (.lst ((List.range k).map (fun i : Nat => V.int i) ++ [V.int k])) :: sg ah (.dK (putK kvs (Sum.inl (k : Int)) (V.bl true))) :: A) (by walk_at "le") ⟨k + 1, _, rfl, c, ahead_put ha, ?_, rfl⟩⟩
      rw [List.range_succ, List.map_append]
      rfl
    · rw [if_neg c]
      have : k = n := by omega
      subst this
      walk_at "go"
      exact Cl.le (by walk_at "le") (q fo)
end

theorem at_map {α β : Type} {f : α → β} {l : List α} {i : Nat} {x : β} (h : (l.map f)[i]? = some x) : ∃ a, l[i]? = some a ∧ x = f a := by
  rw [List.getElem?_map] at h
  cases e : l[i]? with
  | none => rw [e] at h; cases h
  | some a => rw [e] at h; exact ⟨a, rfl, (Option.some.inj h).symm⟩
theorem JobAt.le {A B : SH} {a : Ad} {p : Addr} {j : Jb} (l : Le A B) (h : JobAt A a p j) : JobAt B a p j := by
  obtain ⟨dx, nd, h1, h2⟩ := h
  exact ⟨dx, nd, RO.le l h1, RO.le l h2⟩
theorem JobsAt.le {A B : SH} {a : Ad} {ps : List Addr} {js : List Jb} (l : Le A B) (h : JobsAt A a ps js) : JobsAt B a ps js := ⟨h.1, fun i p j h1 h2 => (h.2 i p j h1 h2).le l⟩
theorem JobsAt.at {A : SH} {a : Ad} {ps : List Addr} {js : List Jb} (h : JobsAt A a ps js) {i : Nat} {p : Addr} (hp : ps[i]? = some p) : ∃ j, js[i]? = some j ∧ JobAt A a p j := by
  have hlt := (List.getElem?_eq_some_iff.mp hp).1
  have e := h.1
  have hj : js[i]? = some (js[i]'(by omega)) := by simp
  exact ⟨_, hj, h.2 i p _ hp hj⟩
section
variable {K : PySem.W.Frag} {mg : Str → Option Value} {a : Ad} {A : SH} {vs : List V} {Φ : V → SH → Prop} {Ψ : Value → Option Addr → SH → Prop} {Ψ' : Value → Option Addr → L2.St → SH → Prop} {W : WX}
theorem w_ring_of (T : Txt K mg a) (h : S_ring_of K a vs A Φ Ψ) (hx : WPost Ψ' W) : GS (t_ring_of K a W) (AEf Φ) (L2.start ["needs", "ahead", "place", "left", "trail", "other"] vs) A := by
  obtain ⟨p, n, rfl, hr, hn, q⟩ := h
  obtain ⟨rs, e, h1, h2⟩ := id hr
  show GS _ _ [some (.ref p), none, none, none, none, none] A
  unfold t_ring_of
  walk_at "go"
  rename_i ah
  refine ge_cal hx ?_
  walk_at "go"
  refine ⟨p, n, rfl, ⟨rs, e, h1.tail, fun r hr => (h2 r hr).tail⟩, hn, fun q1 => ?_⟩
  walk_at "go"
  refine gf_list (xs := (List.range n).map fun i : Nat => V.int i) (fun i σ A' => ∃ kvs v, Ahead kvs i ∧ A' = sg ah (.dK kvs) :: sg q1 (.lst ((List.range n).map fun i : Nat => V.int i)) :: A ∧ σ = [some (.ref p), some (.ref ah), v, none, none, none])
    (Cl.le (B := sg ah (.dK []) :: sg q1 (.lst ((List.range n).map fun i : Nat => V.int i)) :: A) (by walk_at "le") ⟨[], none, rfl, rfl, rfl⟩) ?_ ?_ ?_
  · rintro i σ A' _ ⟨kvs, v, _, rfl, _⟩
    exact RL.head.tail
  · rintro i x σ A' hi ⟨kvs, v, ha, rfl, rfl⟩
    obtain ⟨k, hk, rfl⟩ := at_map hi
    have hlt := (List.getElem?_eq_some_iff.mp hk).1
    have hk2 : k = i := by
      rw [List.getElem?_range (by simpa using hlt)] at hk
      exact (Option.some.inj hk).symm
    subst hk2
    rw [List.length_range] at hlt
    have hl : kvs.length = k := by rw [ha]; simp
    walk_at "go"
    walk_at "cl"
    exact ⟨_, _, ahead_put ha, rfl, rfl⟩
  · rintro σ A' ⟨kvs, v, ha, rfl, rfl⟩
    rw [List.length_map, List.length_range] at ha
    walk_at "go"
    refine glc_range (σw := [some (.ref p), some (.ref ah), none, none, none, none]) (fun i acc A' => acc = [] ∧ A' = sg ah (.dK kvs) :: sg q1 (.lst ((List.range n).map fun i : Nat => V.int i)) :: A) rfl ⟨rfl, rfl⟩ (sz1 (by omega)) ?_ ?_
    · rintro i acc A' D hi hacc ⟨rfl, rfl⟩
      unfold Turn1
      walk_at "go"
      refine ⟨rfl, ?_⟩
      walk_at "go"
      · exact CT.pull (by walk_at "pull") ⟨rfl, rfl⟩
      · rename_i c
        have e1 : (0 : Int) + (i : Int) = (i : Int) := by omega
        rw [e1, ahead_is ha, decide_eq_true (by omega)] at c
        cases c
    · rintro acc A' D _ ⟨rfl, rfl⟩
      walk_at "go"
      refine gr_eqE0 (by walk_at "rl") (by walk_at "rl") ?_
      walk_at "go"
      exact Cl.le (by walk_at "le") q
theorem w_own_jobs (T : Txt K mg a) (h : S_own_jobs K a vs A Φ Ψ) (hx : WPost Ψ' W) : GS (t_own_jobs K a W) (AEf Φ) (L2.start ["jobs", "job"] vs) A := by
  obtain ⟨l, ps, js, rfl, hl, hj, h1, h2, q⟩ := h
  have hlen := hj.1
  show GS _ _ [some (.ref l), none] A
  unfold t_own_jobs
  walk_at "go"
  refine gf_list (xs := ps.map V.ref) (fun i σ A' => A' = A ∧ ∃ v, σ = [some (.ref l), v]) (Cl.of ⟨rfl, none, rfl⟩) (fun i σ A' _ ⟨h, _⟩ => by rw [h]; exact RL.ro hl) ?_ ?_
  · rintro i x σ A' hi ⟨rfl, v, rfl⟩
    obtain ⟨r, hr, rfl⟩ := at_map hi
    obtain ⟨j, hjj, dx, nd, k1, k2⟩ := hj.at hr
    walk_at "go"
    walk_at "cl"
    exact ⟨rfl, _, rfl⟩
  · rintro σ A' ⟨rfl, v, rfl⟩
    walk_at "go"
    exact Cl.of (q _)
theorem w_places_of (T : Txt K mg a) (h : S_places_of K a vs A Φ Ψ) (hx : WPost Ψ' W) : GS (t_places_of K a W) (AEf Φ) (L2.start ["jobs", "places", "place", "job"] vs) A := by
  obtain ⟨l, ps, js, rfl, hl, hj, h2, hnd, q⟩ := h
  have hlen := hj.1
  show GS _ _ [some (.ref l), none, none, none] A
  unfold t_places_of
  walk_at "go"
  rename_i d
  refine gf_enum (xs := ps.map V.ref) (fun i σ A' => ∃ kvs u v G, A' = sg d (.dK kvs) :: (G ++ A) ∧ kvs.map (·.1) = (js.take i).map (fun j => Sum.inr j.name) ∧ σ = [some (.ref l), some (.ref d), u, v])
    (Cl.of ⟨[], none, none, [], rfl, rfl, rfl⟩) (fun i σ A' _ ⟨_, _, _, G, h, _⟩ => by rw [h]; exact RL.ro hl.app.tail) ?_ ?_
  · rintro i x σ A' p hi ⟨kvs, u, v, G, rfl, hk, rfl⟩
    obtain ⟨r, hr, rfl⟩ := at_map hi
    obtain ⟨j, hjj, dx, nd, k1, k2⟩ := hj.at hr
    have hlt := (List.getElem?_eq_some_iff.mp hjj).1
    have hkl : kvs.length = i := by
      have := congrArg List.length hk
      rw [List.length_map, List.length_map, List.length_take] at this
      omega
    have hno : valV kvs (Sum.inr j.name) = none := by
      cases e : valV kvs (Sum.inr j.name) with
      | none => rfl
      | some z =>
        have hin := valV_in e
        rw [hk] at hin
        obtain ⟨j', hj', e2⟩ := List.mem_map.mp hin
        obtain ⟨m, hm⟩ := List.mem_iff_getElem?.mp hj'
        have hml := (List.getElem?_eq_some_iff.mp hm).1
        rw [List.length_take] at hml
        rw [List.getElem?_take_of_lt (by omega)] at hm
        have e3 : (js.map (·.name))[m]? = some j.name := by rw [List.getElem?_map, hm]; exact congrArg some (Sum.inr.inj e2)
        have e4 : (js.map (·.name))[i]? = some j.name := by rw [List.getElem?_map, hjj]; rfl
        have := nd_ix hnd e3 e4
        omega
    walk_at "go"
    · rename_i c
      rw [hno] at c
      cases c
    · walk_at "cl"
      refine ⟨putK kvs (Sum.inr j.name) (.int i), _, _, sg p (.tup [.int i, .ref r]) :: G, rfl, ?_, rfl⟩
      rw [putK_new _ hno, List.map_append, hk, take_more hjj, List.map_append]
      rfl
  · rintro σ A' ⟨kvs, u, v, G, rfl, hk, rfl⟩
    walk_at "go"
    exact Cl.le (by walk_at "le") (q _ _)
theorem w_Plan_place_of (T : Txt K mg a) (h : S_Plan_place_of K a vs A Φ Ψ) (hx : WPost Ψ' W) : GS (t_Plan_place_of K a W) (AEf Φ) (L2.start ["self", "name"] vs) A := h.elim
theorem w_Plan_many (T : Txt K mg a) (h : S_Plan_many K a vs A Φ Ψ) (hx : WPost Ψ' W) : GS (t_Plan_many K a W) (AEf Φ) (L2.start ["self"] vs) A := by
  obtain ⟨p, l, dx, d, xs, rfl, hp, hl, q⟩ := h
  show GS _ _ [some (.ref p)] A
  unfold t_Plan_many
  walk_at "go"
  exact Cl.of q
theorem w_Plan_job_at (T : Txt K mg a) (h : S_Plan_job_at K a vs A Φ Ψ) (hx : WPost Ψ' W) : GS (t_Plan_job_at K a W) (AEf Φ) (L2.start ["self", "place"] vs) A := by
  obtain ⟨p, l, dx, d, xs, i, v, rfl, hp, hl, hv, q⟩ := h
  show GS _ _ [some (.ref p), some (.int i)] A
  unfold t_Plan_job_at
  walk_at "go"
  refine gr_ixN (by walk_at "rl") hv ?_
  exact Cl.of q
theorem w_Plan_needed (T : Txt K mg a) (h : S_Plan_needed K a vs A Φ Ψ) (hx : WPost Ψ' W) : GS (t_Plan_needed K a W) (AEf Φ) (L2.start ["self", "job", "need"] vs) A := by
  obtain ⟨p, l, dx, d, ps, js, rfl, hp, hl, hj, hn, q⟩ := h
  have hlen := hj.1
  show GS _ _ [some (.ref p), none, none] A
  unfold t_Plan_needed
  walk_at "go"
  refine glc_list (xs := ps.map V.ref) (σw := [some (.ref p), none, none]) (fun i acc A' => ∃ (qs : List Addr) (G : SH), acc = qs.map V.ref ∧ qs.length = i ∧ A' = G ++ A ∧ ∀ r ∈ qs, ∃ g ∈ G, g r = some (.lst [])) rfl ⟨[], [], rfl, rfl, rfl, fun r hr => (nomatch hr)⟩ (by rw [List.length_map]; exact sz1 (by omega)) ?_ ?_ ?_
  · rintro i acc A' _ ⟨qs, G, _, _, rfl, _⟩
    exact RL.ro hl.app
  · rintro i x acc A' D hi hacc ⟨qs, G, rfl, hq, rfl, hG⟩
    obtain ⟨r, hr, rfl⟩ := at_map hi
    obtain ⟨j, hjj, ex, nd, k1, k2⟩ := hj.at hr
    unfold Turn1
    walk_at "go"
    refine ⟨rfl, ?_⟩
    walk_at "go"
    refine glc_list (xs := []) (σw := [some (.ref p), some (.ref r), none]) (fun i acc A' => acc = [] ∧ A' = sg D (.lst (qs.map V.ref)) :: (G ++ A)) rfl ⟨rfl, rfl⟩ (by decide) ?_ ?_ ?_
    · rintro i acc A' _ ⟨_, rfl⟩
      exact RL.ro k2.app.tail
    · rintro i x acc A' D hi
      cases hi
    · rintro acc A' D2 _ ⟨rfl, rfl⟩
      refine CT.pull (B := sg D2 (.lst []) :: (G ++ A)) (by walk_at "pull") ⟨qs ++ [D2], sg D2 (.lst []) :: G, by simp, by simp [hq], rfl, fun r hr => ?_⟩
      rcases List.mem_append.mp hr with h | h
      · obtain ⟨g, hg, e⟩ := hG r h
        exact ⟨g, List.mem_cons_of_mem _ hg, e⟩
      · rw [List.mem_singleton.mp h]
        exact ⟨_, List.mem_cons_self, sg_same⟩
  · rintro acc A' D _ ⟨qs, G, rfl, hq, rfl, hG⟩
    rw [List.length_map, hlen] at hq
    refine Cl.blk (xs := sg D (.lst (qs.map V.ref)) :: G) (A := A) Le.refl fun h hs => q D h ⟨qs, hq, RL.blk (hs _ List.mem_cons_self _ _ sg_same), fun r hr => ?_⟩
    obtain ⟨g, hg, e⟩ := hG r hr
    exact RL.blk (hs g (List.mem_cons_of_mem _ hg) _ _ e)
theorem w_Plan_init (T : Txt K mg a) (h : S_Plan_init K a vs A Φ Ψ) (hx : WPost Ψ' W) : GS (t_Plan_init K a W) (AEf Φ) (L2.start ["self", "jobs", "ring", "place"] vs) A := by
  obtain ⟨p, dx, l, ps, js, B, rfl, hp, hl, hj, h1, h2, hnd, q⟩ := h
  have hlen := hj.1
  show GS _ _ [some (.ref p), some (.ref l), none, none] A
  refine gs_as fun H h => ⟨_, hp.has h, ?_⟩
  unfold t_Plan_init
  walk_at "go"
  refine ge_cal hx ?_
  walk_at "go"
  refine ⟨l, ps, js, rfl, hl.tail, hj.le (Le.drop Le.refl), h1, h2, fun q1 => ?_⟩
  walk_at "go"
  refine ge_cal hx ?_
  walk_at "go"
  refine ⟨q1, ps, js, rfl, .tail .head, (hj.le (Le.drop Le.refl)).le (Le.drop Le.refl), h2, hnd, fun q2 kvs => ?_⟩
  walk_at "go"
  refine ge_cal hx ?_
  walk_at "go"
  refine ge_met' hx ?_
  walk_at "go"
  refine ⟨p, q1, dx, q2, ps, js, rfl, by walk_at "ro", by walk_at "ro", hj.le (by walk_at "le"), h2, fun q3 h3 hr => ?_⟩
  walk_at "go"
  refine ⟨q3, js.length, rfl, ?_, h2, ?_⟩
  · obtain ⟨rs, e, k1, k2⟩ := hr
    exact ⟨rs, e, k1.le (by walk_at "le"), fun r hr => (k2 r hr).le (by walk_at "le")⟩
  · walk_at "go"
    exact Cl.le (by walk_at "le") (q _ _ _)
end

def termF (c : Int) : Int := [2, 1000, 2 + c / 3 % 999].getD (c % 3).toNat 0
theorem get3 {x y z : Int} {P : Int → Prop} (i : Int) (h : 0 ≤ i) (h3 : i < 3) (hx : P x) (hy : P y) (hz : P z) : P ([x, y, z].getD i.toNat 0) := by
  obtain rfl | rfl | rfl : i = 0 ∨ i = 1 ∨ i = 2 := by omega
  · exact hx
  · exact hy
  · exact hz
theorem get4 {x y z w : Int} {P : Int → Prop} (i : Int) (h : 0 ≤ i) (h3 : i < 4) (hx : P x) (hy : P y) (hz : P z) (hw : P w) : P ([x, y, z, w].getD i.toNat 0) := by
  obtain rfl | rfl | rfl | rfl : i = 0 ∨ i = 1 ∨ i = 2 ∨ i = 3 := by omega
  · exact hx
  · exact hy
  · exact hz
  · exact hw
theorem termF_b (c : Int) : 2 ≤ termF c ∧ termF c ≤ 1000 := get3 (P := fun x => 2 ≤ x ∧ x ≤ 1000) _ (by omega) (by omega) (by omega) (by omega) (by omega)
theorem spanF_b (n : Int) : 1 ≤ spanF n ∧ spanF n ≤ 1000 := get3 (P := fun x => 1 ≤ x ∧ x ≤ 1000) _ (by omega) (by omega) (by omega) (by omega) (by omega)
theorem triesF_b (n : Int) : 1 ≤ triesF n ∧ triesF n ≤ 20 := get4 (P := fun x => 1 ≤ x ∧ x ≤ 20) _ (by omega) (by omega) (by omega) (by omega) (by omega) (by omega)
theorem waitF_b (n : Int) : 0 ≤ waitF n ∧ waitF n ≤ 1000 := get4 (P := fun x => 0 ≤ x ∧ x ≤ 1000) _ (by omega) (by omega) (by omega) (by omega) (by omega) (by omega)
theorem growF_b (n : Int) : 1 ≤ growF n ∧ growF n ≤ 4 := by unfold growF; omega
def nameK (k : Nat) : Str := (⟨#[("abcdefghij" : Str).cps.toList.getD (k % 10) 0]⟩ : Str) ++ (⟨#[("abcd" : Str).cps.toList.getD (k / 10) 0]⟩ : Str)
def jobK (ns : List Int) (k : Nat) : Jb := ⟨nameK k, k, spanF (numF ns k), triesF (numF ns k), waitF (numF ns k), growF (numF ns k)⟩
theorem nameK_len (k : Nat) : (nameK k).length = 2 := rfl
theorem names_all : ((List.range 40).all fun k => isName (nameK k)) = true := by decide +kernel
theorem names_nd : ((List.range 40).map nameK).Nodup := by decide +kernel
theorem jobK_ok (ns : List Int) {k : Nat} (h : k < 40) : jobOk (jobK ns k) := by
  have h1 := List.all_eq_true.mp names_all k (List.mem_range.mpr h)
  have s := spanF_b (numF ns k)
  have t := triesF_b (numF ns k)
  have w := waitF_b (numF ns k)
  have g := growF_b (numF ns k)
  refine ⟨h1, ?_, ?_, s.1, s.2, t.1, t.2, w.1, w.2, g.1, g.2⟩
  · show (0 : Int) ≤ (k : Int); omega
  · show (k : Int) ≤ 99; omega
section
variable {K : PySem.W.Frag} {mg : Str → Option Value} {a : Ad} {A : SH} {vs : List V} {Φ : V → SH → Prop} {Ψ : Value → Option Addr → SH → Prop} {Ψ' : Value → Option Addr → L2.St → SH → Prop} {W : WX}
theorem w_law (T : Txt K mg a) (h : S_law K a vs A Φ Ψ) (hx : WPost Ψ' W) : GS (t_law K a W) (AEf Φ) (L2.start ["_law_script", "_law_cell", "_law_term", "_law_jobs", "_law_due", "_law_k", "_law_span", "_law_tries", "_law_wait", "_law_grow", "_law_rest", "_law_turn", "_law_plan", "_law_found", "_law_job"] vs) A := by
  obtain ⟨p, ns, rfl, hr, hn, q⟩ := h
  show GS _ _ [some (.ref p), none, none, none, none, none, none, none, none, none, none, none, none, none, none] A
  unfold t_law
  walk_at "go"
  refine ge_cal hx ?_
  walk_at "go"
  refine ⟨p, ns, 0, rfl, hr, hn, by omega, by omega, ?_⟩
  walk_at "go"
  rename_i tl jl
  have l10 : ("abcdefghij" : Str).length = 10 := by decide +kernel
  have l4 : ("abcd" : Str).length = 4 := by decide +kernel
  have z0 : ns.getD (Int.toNat 0) 0 = ns.getD 0 0 := rfl
  rw [z0]
  generalize ns.getD 0 0 = c
  have ht := termF_b c
  show GF _ _ _ _ [some (.ref p), some (.int c), some (.int (termF c)), some (.ref jl), some (.int 0), none, none, none, none, none, none, none, none, none, none] _
  generalize termF c = term at ht
  have hN : (1 + c / 9 % 40).toNat ≤ 40 := by omega
  have hN1 : 1 ≤ (1 + c / 9 % 40).toNat := by omega
  generalize (1 + c / 9 % 40).toNat = N at hN hN1
  refine gf_range (fun i σ A' => ∃ ps G v5 v6 v7 v8 v9 v10 v11, A' = sg jl (.lst (ps.map V.ref)) :: (G ++ A) ∧ JobsAt G a ps ((List.range i).map (jobK ns)) ∧
    σ = [some (.ref p), some (.int c), some (.int term), some (.ref jl), some (.int (boundF ((List.range i).map (jobK ns)) term)), v5, v6, v7, v8, v9, v10, v11, none, none, none])
    (Cl.le (B := sg jl (.lst []) :: A) (by walk_at "le") ⟨[], [], none, none, none, none, none, none, none, rfl, ⟨rfl, fun i p j h => (nomatch h)⟩, rfl⟩) ?_ ?_
  · rintro i σ A' hi ⟨ps, G, v5, v6, v7, v8, v9, v10, v11, rfl, hj, rfl⟩
    have hpl : ps.length = i := by
      have := hj.1
      rw [List.length_map, List.length_range] at this
      exact this
    have e1 : (0 : Int) + (i : Int) = (i : Int) := by omega
    rw [e1]
    walk_at "go"
    refine ge_cal hx ?_
    walk_at "go"
    refine ⟨p, ns, i, rfl, by walk_at "rl", hn, by omega, by omega, fun t => ?_⟩
    walk_at "go"
    refine ge_mak' hx ?_
    walk_at "go"
    rename_i nl
    intro x dx
    have s := spanF_b (numF ns i)
    have tr := triesF_b (numF ns i)
    have w := waitF_b (numF ns i)
    have g := growF_b (numF ns i)
    refine ⟨x, dx, nl, jobK ns i, _, ?_, .head, .head, by show (nameK i).length ≤ 1000; rw [nameK_len]; decide, jobK_ok ns (by omega), fun nd => ?_⟩
    · show _ = [V.ref x, V.str (nameK i), V.ref nl, V.int i, _, _, _, _]
      have e2 : ((i : Int) % 10).toNat = i % 10 := by omega
      have e3 : ((i : Int) / 10).toNat = i / 10 := by omega
      rw [e2, e3]
      rfl
    · refine ⟨rfl, ?_⟩
      walk_at "go"
      have h0 : ∀ t, 0 ≤ restF (waitF (numF ns i)) (growF (numF ns i)) t ∧ restF (waitF (numF ns i)) (growF (numF ns i)) t ≤ 100000 := restF_b w.1 (by omega) (by omega)
      generalize hB : (sg jl (HO.lst (List.map V.ref ps ++ [V.ref x])) :: sg x (HO.ins a.cJob dx (fJb (jobK ns i) nd)) :: sg nd (HO.lst []) :: sg nl (HO.lst []) :: sg t (HO.tup [V.int (spanF (numF ns i)), V.int (triesF (numF ns i)), V.int (waitF (numF ns i)), V.int (growF (numF ns i))]) :: (G ++ A)) = B
      refine gf_range (fun m σ A' => A' = B ∧ ∃ v, σ = [some (.ref p), some (.int c), some (.int term), some (.ref jl), some (.int (boundF ((List.range i).map (jobK ns)) term + triesF (numF ns i) * (spanF (numF ns i) + term) + restS (waitF (numF ns i)) (growF (numF ns i)) m)), some (.int i), some (.int (spanF (numF ns i))), some (.int (triesF (numF ns i))), some (.int (waitF (numF ns i))), some (.int (growF (numF ns i))), some (.int (restF (waitF (numF ns i)) (growF (numF ns i)) m)), v, none, none, none])
        (Cl.of ⟨rfl, v11, ?_⟩) ?_ ?_
      · show _ = [_, _, _, _, some (V.int (_ + 0)), _, _, _, _, _, _, _, _, _, _]
        rw [Int.add_zero]
        rfl
      · rintro m σ A' hm ⟨rfl, v, rfl⟩
        have hb := h0 m
        walk_at "go"
        walk_at "cl"
        refine ⟨rfl, some (.int (0 + (m : Int))), ?_⟩
        rw [Int.min_comm, Int.add_assoc]
        rfl
      · rintro σ A' ⟨rfl, v, rfl⟩
        subst hB
        have eb : boundF ((List.range (i + 1)).map (jobK ns)) term = boundF ((List.range i).map (jobK ns)) term + triesF (numF ns i) * (spanF (numF ns i) + term) + restS (waitF (numF ns i)) (growF (numF ns i)) (triesF (numF ns i) - 1).toNat := by
          rw [List.range_succ, List.map_append]
          unfold boundF
          rw [List.map_append, List.sum_append]
          show _ + (([(jobK ns i).tries * ((jobK ns i).span + term) + restS (jobK ns i).wait (jobK ns i).grow ((jobK ns i).tries - 1).toNat] : List Int).sum) = _
          rw [List.sum_cons, List.sum_nil, Int.add_zero, ← Int.add_assoc]
          rfl
        rw [← eb]
        have hj2 : JobsAt (sg x (HO.ins a.cJob dx (fJb (jobK ns i) nd)) :: sg nd (HO.lst []) :: sg nl (HO.lst []) :: sg t (HO.tup [V.int (spanF (numF ns i)), V.int (triesF (numF ns i)), V.int (waitF (numF ns i)), V.int (growF (numF ns i))]) :: G) a (ps ++ [x]) ((List.range (i + 1)).map (jobK ns)) := by
          refine ⟨by simp [hpl], fun m r j h1 h2 => ?_⟩
          rw [List.range_succ, List.map_append] at h2
          by_cases hm : m < i
          · rw [List.getElem?_append_left (by omega)] at h1
            rw [List.getElem?_append_left (by simpa using hm)] at h2
            exact (hj.2 m r j h1 h2).le (by walk_at "le")
          · have hm2 : m = i := by
              have := (List.getElem?_eq_some_iff.mp h1).1
              rw [List.length_append, hpl] at this
              simp at this
              omega
            subst hm2
            rw [List.getElem?_append_right (by omega), hpl, Nat.sub_self] at h1
            rw [List.getElem?_append_right (by simp), List.length_map, List.length_range, Nat.sub_self] at h2
            cases h1
            cases h2
            exact ⟨dx, nd, by walk_at "ro", by walk_at "ro"⟩
        refine Cl.of ?_
        exact ⟨ps ++ [x], _, _, _, _, _, _, _, _, by rw [List.map_append]; rfl, hj2, rfl⟩
  · rintro σ A' ⟨ps, G, v5, v6, v7, v8, v9, v10, v11, rfl, hj, rfl⟩
    have hjl : ((List.range N).map (jobK ns)).length = N := by simp
    have hpl := hj.1
    rw [hjl] at hpl
    have hok : ∀ j ∈ (List.range N).map (jobK ns), jobOk j := fun j h => by
      obtain ⟨k, hk, rfl⟩ := List.mem_map.mp h
      exact jobK_ok ns (by have := List.mem_range.mp hk; omega)
    have hnd : (((List.range N).map (jobK ns)).map (·.name)).Nodup := by
      rw [List.map_map]
      have : List.Sublist ((List.range N).map nameK) ((List.range 40).map nameK) := by
        refine List.Sublist.map _ ?_
        rw [show (40 : Nat) = N + (40 - N) by omega, List.range_add]
        exact List.sublist_append_left _ _
      exact List.Nodup.sublist this names_nd
    walk_at "go"
    refine ge_mak' hx ?_
    walk_at "go"
    intro x dx
    refine ⟨x, dx, jl, ps, (List.range N).map (jobK ns), _, rfl, .head, .head, hj.le (by walk_at "le"), by omega, by omega, hnd, fun q1 d kvs => ⟨rfl, ?_⟩⟩
    walk_at "go"
    refine ge_cal hx ?_
    walk_at "go"
    refine ⟨x, q1, dx, d, ps, _, term, rfl, .head, .tail .head, hj.le (by walk_at "le"), hok, by omega, by omega, ?_⟩
    walk_at "go"
    refine ge_cal hx ?_
    walk_at "go"
    refine ⟨_, rfl, ?_⟩
    walk_at "go"
    refine ge_cal hx ?_
    walk_at "go"
    refine ⟨x, q1, dx, d, ps, _, term, rfl, .head, .tail .head, hj.le (by walk_at "le"), hok, by omega, by omega, ?_⟩
    walk_at "go"
    refine gf_range (fun m σ A' => ∃ G2 v5 v14, A' = G2 ++ (sg x (HO.ins a.cPlan dx (fPlan (V.ref q1) (V.ref d))) :: sg q1 (HO.lst (List.map V.ref ps)) :: sg d (HO.dK kvs) :: sg jl (HO.lst (List.map V.ref ps)) :: (G ++ A)) ∧
      σ = [some (.ref p), some (.int c), some (.int term), some (.ref jl), some (.int (boundF ((List.range N).map (jobK ns)) term)), v5, v6, v7, v8, v9, v10, v11, some (.ref x), some (.int (boundF ((List.range N).map (jobK ns)) term)), v14]) (Cl.of ⟨[], _, _, rfl, rfl⟩) ?_ ?_
    · rintro m σ A' hm ⟨G2, w5, w14, rfl, rfl⟩
      have e1 : (0 : Int) + (m : Int) = (m : Int) := by omega
      rw [e1]
      have hm2 : m < ps.length := by omega
      have hr : ps[m]? = some ps[m] := by simp
      obtain ⟨j, hjj, dj, nj, j1, j2⟩ := hj.at hr
      have hje : j = jobK ns m := by
        rw [List.getElem?_map, List.getElem?_range (by omega)] at hjj
        exact (Option.some.inj hjj).symm
      subst hje
      generalize ps[m] = r at hr j1
      have j1' : RO (G2 ++ (sg x (HO.ins a.cPlan dx (fPlan (V.ref q1) (V.ref d))) :: sg q1 (HO.lst (List.map V.ref ps)) :: sg d (HO.dK kvs) :: sg jl (HO.lst (List.map V.ref ps)) :: (G ++ A))) r (HO.ins a.cJob dj (fJb (jobK ns m) nj)) := j1.le (by walk_at "le")
      walk_at "go"
      refine ge_met' hx ?_
      walk_at "go"
      refine ⟨x, q1, dx, d, ps.map V.ref, m, .ref r, rfl, by walk_at "ro", by walk_at "ro", by rw [List.getElem?_map, hr]; rfl, ?_⟩
      walk_at "go"
      refine ge_cal hx ?_
      walk_at "go"
      rename_i t1
      refine ⟨p, ns, m, rfl, by walk_at "rl", hn, by omega, by omega, fun t2 => ?_⟩
      refine gr_neTI (ns := [spanF (numF ns m), triesF (numF ns m), waitF (numF ns m), growF (numF ns m)]) (by walk_at "rt") (by walk_at "rt") (by exact rfl) (by walk_at "il") ?_
      walk_at "go"
      walk_at "cl"
      exact ⟨_ :: _ :: G2, _, _, rfl, rfl⟩
    · rintro σ A' ⟨G2, w5, w14, rfl, rfl⟩
      walk_at "go"
      refine ge_met' hx ?_
      walk_at "go"
      refine ⟨x, q1, dx, d, ps.map V.ref, rfl, by walk_at "ro", by walk_at "ro", ?_⟩
      walk_at "go"
      rw [List.length_map, decide_eq_true rfl]
      exact Cl.le (by walk_at "le") q
end

theorem len_ex {α : Sort _} {p : α → Prop} {q : Prop} (h : ∀ x, p x → q) : (∃ x, p x) → q := fun ⟨x, z⟩ => h x z
theorem len_or {p r q : Prop} (h : p → q) (k : r → q) : (p ∨ r) → q := fun z => z.elim h k
local macro_rules | `(tactic| walk_at "len") => `(tactic| first | exact False.elim | (rintro ⟨e, _⟩; subst e; rfl) | (intro e; subst e; rfl) | (refine len_ex ?_; intro _; walk_at "len") | (refine len_or ?_ ?_ <;> walk_at "len"))
theorem mt_needed {K : PySem.W.Frag} {a : Ad} {m : Str} {C : Addr} {sp : Spec} (hm : m = "needed") (h : MT K a m C sp) : (C = a.cPlan ∧ sp = S_Plan_needed K a) := by
  cases h <;> first | exact absurd hm (by decide +kernel) | exact ⟨rfl, rfl⟩
theorem mt_many {K : PySem.W.Frag} {a : Ad} {m : Str} {C : Addr} {sp : Spec} (hm : m = "many") (h : MT K a m C sp) : (C = a.cPlan ∧ sp = S_Plan_many K a) := by
  cases h <;> first | exact absurd hm (by decide +kernel) | exact ⟨rfl, rfl⟩
theorem mt_job_at {K : PySem.W.Frag} {a : Ad} {m : Str} {C : Addr} {sp : Spec} (hm : m = "job_at") (h : MT K a m C sp) : (C = a.cPlan ∧ sp = S_Plan_job_at K a) := by
  cases h <;> first | exact absurd hm (by decide +kernel) | exact ⟨rfl, rfl⟩
theorem mt_place_of {K : PySem.W.Frag} {a : Ad} {m : Str} {C : Addr} {sp : Spec} (hm : m = "place_of") (h : MT K a m C sp) : (C = a.cPlan ∧ sp = S_Plan_place_of K a) := by
  cases h <;> first | exact absurd hm (by decide +kernel) | exact ⟨rfl, rfl⟩
theorem all_mk' {l : PySem.W.OpenLaw} {w : World} {K : PySem.W.Frag} {h : Heap} {mg : Str → Option Value} {fa : Addr} {a : Ad} {tk_MOST_WAIT : Tok} {tk_LETTERS : Tok} {tk_MOST_LETTERS : Tok} {tk_MOST_NEEDS : Tok} {tk_LEAST_0 : Tok} {tk_LEAST_1 : Tok} {tk_LEAST_2 : Tok} {tk_LEAST_3 : Tok} {tk_LEAST_4 : Tok} {od_LEAST : Option Addr} {sz_LEAST : Nat} {sl_LEAST : Array (Option Value)} {tk_MOST_0 : Tok} {tk_MOST_1 : Tok} {tk_MOST_2 : Tok} {tk_MOST_3 : Tok} {tk_MOST_4 : Tok} {od_MOST : Option Addr} {sz_MOST : Nat} {sl_MOST : Array (Option Value)} {tk_MOST_JOBS : Tok} {oc_wait_after : Value} {od_wait_after : Option Addr} {kV_wait_after : Value} {dc_wait_after : Value} {pm_wait_after : Value} {an_wait_after : Option Addr} {cd_wait_after : Value} {ct_wait_after : Value} {sl_wait_after : Array (Option Value)} {f_wait_after : Addr} {oc_rest_sum : Value} {od_rest_sum : Option Addr} {kV_rest_sum : Value} {dc_rest_sum : Value} {pm_rest_sum : Value} {an_rest_sum : Option Addr} {cd_rest_sum : Value} {ct_rest_sum : Value} {sl_rest_sum : Array (Option Value)} {f_rest_sum : Addr} {oc_bound : Value} {od_bound : Option Addr} {kV_bound : Value} {dc_bound : Value} {pm_bound : Value} {an_bound : Option Addr} {cd_bound : Value} {ct_bound : Value} {sl_bound : Array (Option Value)} {f_bound : Addr} {oc_is_whole : Value} {od_is_whole : Option Addr} {kV_is_whole : Value} {dc_is_whole : Value} {pm_is_whole : Value} {an_is_whole : Option Addr} {cd_is_whole : Value} {ct_is_whole : Value} {sl_is_whole : Array (Option Value)} {f_is_whole : Addr} {oc_is_among : Value} {od_is_among : Option Addr} {kV_is_among : Value} {dc_is_among : Value} {pm_is_among : Value} {an_is_among : Option Addr} {cd_is_among : Value} {ct_is_among : Value} {sl_is_among : Array (Option Value)} {f_is_among : Addr} {oc_is_made_of : Value} {od_is_made_of : Option Addr} {kV_is_made_of : Value} {dc_is_made_of : Value} {pm_is_made_of : Value} {an_is_made_of : Option Addr} {cd_is_made_of : Value} {ct_is_made_of : Value} {sl_is_made_of : Array (Option Value)} {f_is_made_of : Addr} {oc_is_name : Value} {od_is_name : Option Addr} {kV_is_name : Value} {dc_is_name : Value} {pm_is_name : Value} {an_is_name : Option Addr} {cd_is_name : Value} {ct_is_name : Value} {sl_is_name : Array (Option Value)} {f_is_name : Addr} {oc_own_needs : Value} {od_own_needs : Option Addr} {kV_own_needs : Value} {dc_own_needs : Value} {pm_own_needs : Value} {an_own_needs : Option Addr} {cd_own_needs : Value} {ct_own_needs : Value} {sl_own_needs : Array (Option Value)} {f_own_needs : Addr} {oc_need_numbers : Value} {od_need_numbers : Option Addr} {kV_need_numbers : Value} {dc_need_numbers : Value} {pm_need_numbers : Value} {an_need_numbers : Option Addr} {cd_need_numbers : Value} {ct_need_numbers : Value} {sl_need_numbers : Array (Option Value)} {f_need_numbers : Addr} {D_Job_init : Addr} {oc_Job_init : Value} {od_Job_init : Option Addr} {kV_Job_init : Value} {dc_Job_init : Value} {pm_Job_init : Value} {an_Job_init : Option Addr} {cd_Job_init : Value} {ct_Job_init : Value} {sl_Job_init : Array (Option Value)} {f_Job_init : Addr} {dt_Job_init_1 : Tok} {dt_Job_init_2 : Tok} {dt_Job_init_3 : Tok} {dt_Job_init_4 : Tok} {dt_Job_init_5 : Tok} {doc_Job_init : Value} {dod_Job_init : Option Addr} {dn_Job_init : Nat} {dsl_Job_init : Array (Option Value)} {oc_can_stand : Value} {od_can_stand : Option Addr} {kV_can_stand : Value} {dc_can_stand : Value} {pm_can_stand : Value} {an_can_stand : Option Addr} {cd_can_stand : Value} {ct_can_stand : Value} {sl_can_stand : Array (Option Value)} {f_can_stand : Addr} {oc_next_place : Value} {od_next_place : Option Addr} {kV_next_place : Value} {dc_next_place : Value} {pm_next_place : Value} {an_next_place : Option Addr} {cd_next_place : Value} {ct_next_place : Value} {sl_next_place : Array (Option Value)} {f_next_place : Addr} {oc_beginning : Value} {od_beginning : Option Addr} {kV_beginning : Value} {dc_beginning : Value} {pm_beginning : Value} {an_beginning : Option Addr} {cd_beginning : Value} {ct_beginning : Value} {sl_beginning : Array (Option Value)} {f_beginning : Addr} {oc_ring_of : Value} {od_ring_of : Option Addr} {kV_ring_of : Value} {dc_ring_of : Value} {pm_ring_of : Value} {an_ring_of : Option Addr} {cd_ring_of : Value} {ct_ring_of : Value} {sl_ring_of : Array (Option Value)} {f_ring_of : Addr} {oc_own_jobs : Value} {od_own_jobs : Option Addr} {kV_own_jobs : Value} {dc_own_jobs : Value} {pm_own_jobs : Value} {an_own_jobs : Option Addr} {cd_own_jobs : Value} {ct_own_jobs : Value} {sl_own_jobs : Array (Option Value)} {f_own_jobs : Addr} {oc_places_of : Value} {od_places_of : Option Addr} {kV_places_of : Value} {dc_places_of : Value} {pm_places_of : Value} {an_places_of : Option Addr} {cd_places_of : Value} {ct_places_of : Value} {sl_places_of : Array (Option Value)} {f_places_of : Addr} {oc_Plan_init : Value} {od_Plan_init : Option Addr} {kV_Plan_init : Value} {dc_Plan_init : Value} {pm_Plan_init : Value} {an_Plan_init : Option Addr} {cd_Plan_init : Value} {ct_Plan_init : Value} {sl_Plan_init : Array (Option Value)} {f_Plan_init : Addr} {oc_Plan_needed : Value} {od_Plan_needed : Option Addr} {kV_Plan_needed : Value} {dc_Plan_needed : Value} {pm_Plan_needed : Value} {an_Plan_needed : Option Addr} {cd_Plan_needed : Value} {ct_Plan_needed : Value} {sl_Plan_needed : Array (Option Value)} {f_Plan_needed : Addr} {oc_Plan_many : Value} {od_Plan_many : Option Addr} {kV_Plan_many : Value} {dc_Plan_many : Value} {pm_Plan_many : Value} {an_Plan_many : Option Addr} {cd_Plan_many : Value} {ct_Plan_many : Value} {sl_Plan_many : Array (Option Value)} {f_Plan_many : Addr} {oc_Plan_job_at : Value} {od_Plan_job_at : Option Addr} {kV_Plan_job_at : Value} {dc_Plan_job_at : Value} {pm_Plan_job_at : Value} {an_Plan_job_at : Option Addr} {cd_Plan_job_at : Value} {ct_Plan_job_at : Value} {sl_Plan_job_at : Array (Option Value)} {f_Plan_job_at : Addr} {oc_Plan_place_of : Value} {od_Plan_place_of : Option Addr} {kV_Plan_place_of : Value} {dc_Plan_place_of : Value} {pm_Plan_place_of : Value} {an_Plan_place_of : Option Addr} {cd_Plan_place_of : Value} {ct_Plan_place_of : Value} {sl_Plan_place_of : Array (Option Value)} {f_Plan_place_of : Addr} {oc_law_cell_at : Value} {od_law_cell_at : Option Addr} {kV_law_cell_at : Value} {dc_law_cell_at : Value} {pm_law_cell_at : Value} {an_law_cell_at : Option Addr} {cd_law_cell_at : Value} {ct_law_cell_at : Value} {sl_law_cell_at : Array (Option Value)} {f_law_cell_at : Addr} {oc_law_mixed : Value} {od_law_mixed : Option Addr} {kV_law_mixed : Value} {dc_law_mixed : Value} {pm_law_mixed : Value} {an_law_mixed : Option Addr} {cd_law_mixed : Value} {ct_law_mixed : Value} {sl_law_mixed : Array (Option Value)} {f_law_mixed : Addr} {oc_law_whole : Value} {od_law_whole : Option Addr} {kV_law_whole : Value} {dc_law_whole : Value} {pm_law_whole : Value} {an_law_whole : Option Addr} {cd_law_whole : Value} {ct_law_whole : Value} {sl_law_whole : Array (Option Value)} {f_law_whole : Addr} {oc_law_numbers : Value} {od_law_numbers : Option Addr} {kV_law_numbers : Value} {dc_law_numbers : Value} {pm_law_numbers : Value} {an_law_numbers : Option Addr} {cd_law_numbers : Value} {ct_law_numbers : Value} {sl_law_numbers : Array (Option Value)} {f_law_numbers : Addr} {oc_law : Value} {od_law : Option Addr} {kV_law : Value} {dc_law : Value} {pm_law : Value} {an_law : Option Addr} {cd_law : Value} {ct_law : Value} {sl_law : Array (Option Value)} {f_law : Addr} (X : K.In h) (G : h.Ns mainGlobals mg) (hfa : mg "law" = some (.ref fa))
    (g_MOST_WAIT : PySem.W.nsIn K mainGlobals "MOST_WAIT" = some (some (.int (100000) tk_MOST_WAIT)))
    (g_LETTERS : PySem.W.nsIn K mainGlobals "LETTERS" = some (some (.str "abcdefghijklmnopqrstuvwxyz" tk_LETTERS)))
    (g_MOST_LETTERS : PySem.W.nsIn K mainGlobals "MOST_LETTERS" = some (some (.int (12) tk_MOST_LETTERS)))
    (g_MOST_NEEDS : PySem.W.nsIn K mainGlobals "MOST_NEEDS" = some (some (.int (8) tk_MOST_NEEDS)))
    (g_LEAST : PySem.W.nsIn K mainGlobals "LEAST" = some (some (.ref a.gLEAST)))
    (k_LEAST : K.lookup a.gLEAST = some ⟨.type "tuple", od_LEAST, .seq (List.toArray [.int (0) tk_LEAST_0, .int (1) tk_LEAST_1, .int (1) tk_LEAST_2, .int (0) tk_LEAST_3, .int (1) tk_LEAST_4]) sz_LEAST, sl_LEAST⟩)
    (g_MOST : PySem.W.nsIn K mainGlobals "MOST" = some (some (.ref a.gMOST)))
    (k_MOST : K.lookup a.gMOST = some ⟨.type "tuple", od_MOST, .seq (List.toArray [.int (99) tk_MOST_0, .int (1000) tk_MOST_1, .int (20) tk_MOST_2, .int (1000) tk_MOST_3, .int (4) tk_MOST_4]) sz_MOST, sl_MOST⟩)
    (g_MOST_JOBS : PySem.W.nsIn K mainGlobals "MOST_JOBS" = some (some (.int (40) tk_MOST_JOBS)))
    (b_bool : PySem.W.nsIn K mainGlobals "bool" = some none)
    (b_enumerate : PySem.W.nsIn K mainGlobals "enumerate" = some none)
    (b_int : PySem.W.nsIn K mainGlobals "int" = some none)
    (b_isinstance : PySem.W.nsIn K mainGlobals "isinstance" = some none)
    (b_len : PySem.W.nsIn K mainGlobals "len" = some none)
    (b_list : PySem.W.nsIn K mainGlobals "list" = some none)
    (b_min : PySem.W.nsIn K mainGlobals "min" = some none)
    (b_range : PySem.W.nsIn K mainGlobals "range" = some none)
    (b_str : PySem.W.nsIn K mainGlobals "str" = some none)
    (b_tuple : PySem.W.nsIn K mainGlobals "tuple" = some none)
    (m_Job : PySem.W.nsIn K mainGlobals "Job" = some (some (.ref a.cJob)))
    (pg_Job : PySem.W.plainGet K a.cJob Str.empty = true)
    (hd_Job : PySem.W.hasDictIn K a.cJob = true)
    (po_Job : PySem.W.plainOver K a.cJob = true)
    (sa_Job : PySem.W.findIn K (.ref a.cJob) "__setattr__" = some (some (.builtin "object.__setattr__")))
    (mk_Job : PySem.W.makesIn K a.cJob = true)
    (kc_Job : PySem.W.keepIn K (.ref a.cJob) = true)
    (ia_Job : PySem.W.findIn K (.ref a.cJob) "__class__" = some (some (.builtin "object.__class__")))
    (im_Job : PySem.W.mroIn K a.cJob (.type "object") = some true)
    (n_Job_name : PySem.W.findIn K (.ref a.cJob) "name" = some none)
    (n_Job_needs : PySem.W.findIn K (.ref a.cJob) "needs" = some none)
    (n_Job_rank : PySem.W.findIn K (.ref a.cJob) "rank" = some none)
    (n_Job_span : PySem.W.findIn K (.ref a.cJob) "span" = some none)
    (n_Job_tries : PySem.W.findIn K (.ref a.cJob) "tries" = some none)
    (n_Job_wait : PySem.W.findIn K (.ref a.cJob) "wait" = some none)
    (n_Job_grow : PySem.W.findIn K (.ref a.cJob) "grow" = some none)
    (m_Plan : PySem.W.nsIn K mainGlobals "Plan" = some (some (.ref a.cPlan)))
    (pg_Plan : PySem.W.plainGet K a.cPlan Str.empty = true)
    (hd_Plan : PySem.W.hasDictIn K a.cPlan = true)
    (po_Plan : PySem.W.plainOver K a.cPlan = true)
    (sa_Plan : PySem.W.findIn K (.ref a.cPlan) "__setattr__" = some (some (.builtin "object.__setattr__")))
    (mk_Plan : PySem.W.makesIn K a.cPlan = true)
    (kc_Plan : PySem.W.keepIn K (.ref a.cPlan) = true)
    (ia_Plan : PySem.W.findIn K (.ref a.cPlan) "__class__" = some (some (.builtin "object.__class__")))
    (im_Plan : PySem.W.mroIn K a.cPlan (.type "object") = some true)
    (n_Plan_jobs : PySem.W.findIn K (.ref a.cPlan) "jobs" = some none)
    (n_Plan_places : PySem.W.findIn K (.ref a.cPlan) "places" = some none)
    (zz_n : PySem.W.specialIn K (.builtin "object.__class__") "__get__" = some (some (.builtin "getset_descriptor.__get__")))
    (zz_t : PySem.W.takesIn K (.builtin "object.__class__") = some true)
    (a_wait_after : PySem.W.nsIn K mainGlobals "wait_after" = some (some (.ref f_wait_after)))
    (l_wait_after : K.lookup f_wait_after = some ⟨oc_wait_after, od_wait_after, .func (PySem.W.fnOf "wait_after" "wait_after" (defArgs s_wait_after) (defBody s_wait_after) (defScope s_wait_after) .none kV_wait_after dc_wait_after pm_wait_after an_wait_after cd_wait_after ct_wait_after), sl_wait_after⟩)
    (c_wait_after : PySem.W.codeIn K cd_wait_after "wait_after" = true)
    (k_wait_after : PySem.W.keepIn K (.ref f_wait_after) = true)
    (a_rest_sum : PySem.W.nsIn K mainGlobals "rest_sum" = some (some (.ref f_rest_sum)))
    (l_rest_sum : K.lookup f_rest_sum = some ⟨oc_rest_sum, od_rest_sum, .func (PySem.W.fnOf "rest_sum" "rest_sum" (defArgs s_rest_sum) (defBody s_rest_sum) (defScope s_rest_sum) .none kV_rest_sum dc_rest_sum pm_rest_sum an_rest_sum cd_rest_sum ct_rest_sum), sl_rest_sum⟩)
    (c_rest_sum : PySem.W.codeIn K cd_rest_sum "rest_sum" = true)
    (k_rest_sum : PySem.W.keepIn K (.ref f_rest_sum) = true)
    (a_bound : PySem.W.nsIn K mainGlobals "bound" = some (some (.ref f_bound)))
    (l_bound : K.lookup f_bound = some ⟨oc_bound, od_bound, .func (PySem.W.fnOf "bound" "bound" (defArgs s_bound) (defBody s_bound) (defScope s_bound) .none kV_bound dc_bound pm_bound an_bound cd_bound ct_bound), sl_bound⟩)
    (c_bound : PySem.W.codeIn K cd_bound "bound" = true)
    (k_bound : PySem.W.keepIn K (.ref f_bound) = true)
    (a_is_whole : PySem.W.nsIn K mainGlobals "is_whole" = some (some (.ref f_is_whole)))
    (l_is_whole : K.lookup f_is_whole = some ⟨oc_is_whole, od_is_whole, .func (PySem.W.fnOf "is_whole" "is_whole" (defArgs s_is_whole) (defBody s_is_whole) (defScope s_is_whole) .none kV_is_whole dc_is_whole pm_is_whole an_is_whole cd_is_whole ct_is_whole), sl_is_whole⟩)
    (c_is_whole : PySem.W.codeIn K cd_is_whole "is_whole" = true)
    (k_is_whole : PySem.W.keepIn K (.ref f_is_whole) = true)
    (a_is_among : PySem.W.nsIn K mainGlobals "is_among" = some (some (.ref f_is_among)))
    (l_is_among : K.lookup f_is_among = some ⟨oc_is_among, od_is_among, .func (PySem.W.fnOf "is_among" "is_among" (defArgs s_is_among) (defBody s_is_among) (defScope s_is_among) .none kV_is_among dc_is_among pm_is_among an_is_among cd_is_among ct_is_among), sl_is_among⟩)
    (c_is_among : PySem.W.codeIn K cd_is_among "is_among" = true)
    (k_is_among : PySem.W.keepIn K (.ref f_is_among) = true)
    (a_is_made_of : PySem.W.nsIn K mainGlobals "is_made_of" = some (some (.ref f_is_made_of)))
    (l_is_made_of : K.lookup f_is_made_of = some ⟨oc_is_made_of, od_is_made_of, .func (PySem.W.fnOf "is_made_of" "is_made_of" (defArgs s_is_made_of) (defBody s_is_made_of) (defScope s_is_made_of) .none kV_is_made_of dc_is_made_of pm_is_made_of an_is_made_of cd_is_made_of ct_is_made_of), sl_is_made_of⟩)
    (c_is_made_of : PySem.W.codeIn K cd_is_made_of "is_made_of" = true)
    (k_is_made_of : PySem.W.keepIn K (.ref f_is_made_of) = true)
    (a_is_name : PySem.W.nsIn K mainGlobals "is_name" = some (some (.ref f_is_name)))
    (l_is_name : K.lookup f_is_name = some ⟨oc_is_name, od_is_name, .func (PySem.W.fnOf "is_name" "is_name" (defArgs s_is_name) (defBody s_is_name) (defScope s_is_name) .none kV_is_name dc_is_name pm_is_name an_is_name cd_is_name ct_is_name), sl_is_name⟩)
    (c_is_name : PySem.W.codeIn K cd_is_name "is_name" = true)
    (k_is_name : PySem.W.keepIn K (.ref f_is_name) = true)
    (a_own_needs : PySem.W.nsIn K mainGlobals "own_needs" = some (some (.ref f_own_needs)))
    (l_own_needs : K.lookup f_own_needs = some ⟨oc_own_needs, od_own_needs, .func (PySem.W.fnOf "own_needs" "own_needs" (defArgs s_own_needs) (defBody s_own_needs) (defScope s_own_needs) .none kV_own_needs dc_own_needs pm_own_needs an_own_needs cd_own_needs ct_own_needs), sl_own_needs⟩)
    (c_own_needs : PySem.W.codeIn K cd_own_needs "own_needs" = true)
    (k_own_needs : PySem.W.keepIn K (.ref f_own_needs) = true)
    (a_need_numbers : PySem.W.nsIn K mainGlobals "need_numbers" = some (some (.ref f_need_numbers)))
    (l_need_numbers : K.lookup f_need_numbers = some ⟨oc_need_numbers, od_need_numbers, .func (PySem.W.fnOf "need_numbers" "need_numbers" (defArgs s_need_numbers) (defBody s_need_numbers) (defScope s_need_numbers) .none kV_need_numbers dc_need_numbers pm_need_numbers an_need_numbers cd_need_numbers ct_need_numbers), sl_need_numbers⟩)
    (c_need_numbers : PySem.W.codeIn K cd_need_numbers "need_numbers" = true)
    (k_need_numbers : PySem.W.keepIn K (.ref f_need_numbers) = true)
    (a_Job_init : PySem.W.findIn K (.ref a.cJob) "__init__" = some (some (.ref f_Job_init)))
    (i_Job_init : PySem.W.isFn K (.ref f_Job_init) = true)
    (l_Job_init : K.lookup f_Job_init = some ⟨oc_Job_init, od_Job_init, .func (PySem.W.fnOf "__init__" "Job.__init__" (defArgs s_Job_init) (defBody s_Job_init) (defScope s_Job_init) (.ref D_Job_init) kV_Job_init dc_Job_init pm_Job_init an_Job_init cd_Job_init ct_Job_init), sl_Job_init⟩)
    (c_Job_init : PySem.W.codeIn K cd_Job_init "Job.__init__" = true)
    (k_Job_init : PySem.W.keepIn K (.ref f_Job_init) = true)
    (dl_Job_init : K.lookup D_Job_init = some ⟨doc_Job_init, dod_Job_init, .seq (List.toArray [.none, .int (0) dt_Job_init_1, .int (1) dt_Job_init_2, .int (1) dt_Job_init_3, .int (0) dt_Job_init_4, .int (1) dt_Job_init_5]) dn_Job_init, dsl_Job_init⟩)
    (a_can_stand : PySem.W.nsIn K mainGlobals "can_stand" = some (some (.ref f_can_stand)))
    (l_can_stand : K.lookup f_can_stand = some ⟨oc_can_stand, od_can_stand, .func (PySem.W.fnOf "can_stand" "can_stand" (defArgs s_can_stand) (defBody s_can_stand) (defScope s_can_stand) .none kV_can_stand dc_can_stand pm_can_stand an_can_stand cd_can_stand ct_can_stand), sl_can_stand⟩)
    (c_can_stand : PySem.W.codeIn K cd_can_stand "can_stand" = true)
    (k_can_stand : PySem.W.keepIn K (.ref f_can_stand) = true)
    (a_next_place : PySem.W.nsIn K mainGlobals "next_place" = some (some (.ref f_next_place)))
    (l_next_place : K.lookup f_next_place = some ⟨oc_next_place, od_next_place, .func (PySem.W.fnOf "next_place" "next_place" (defArgs s_next_place) (defBody s_next_place) (defScope s_next_place) .none kV_next_place dc_next_place pm_next_place an_next_place cd_next_place ct_next_place), sl_next_place⟩)
    (c_next_place : PySem.W.codeIn K cd_next_place "next_place" = true)
    (k_next_place : PySem.W.keepIn K (.ref f_next_place) = true)
    (a_beginning : PySem.W.nsIn K mainGlobals "beginning" = some (some (.ref f_beginning)))
    (l_beginning : K.lookup f_beginning = some ⟨oc_beginning, od_beginning, .func (PySem.W.fnOf "beginning" "beginning" (defArgs s_beginning) (defBody s_beginning) (defScope s_beginning) .none kV_beginning dc_beginning pm_beginning an_beginning cd_beginning ct_beginning), sl_beginning⟩)
    (c_beginning : PySem.W.codeIn K cd_beginning "beginning" = true)
    (k_beginning : PySem.W.keepIn K (.ref f_beginning) = true)
    (a_ring_of : PySem.W.nsIn K mainGlobals "ring_of" = some (some (.ref f_ring_of)))
    (l_ring_of : K.lookup f_ring_of = some ⟨oc_ring_of, od_ring_of, .func (PySem.W.fnOf "ring_of" "ring_of" (defArgs s_ring_of) (defBody s_ring_of) (defScope s_ring_of) .none kV_ring_of dc_ring_of pm_ring_of an_ring_of cd_ring_of ct_ring_of), sl_ring_of⟩)
    (c_ring_of : PySem.W.codeIn K cd_ring_of "ring_of" = true)
    (k_ring_of : PySem.W.keepIn K (.ref f_ring_of) = true)
    (a_own_jobs : PySem.W.nsIn K mainGlobals "own_jobs" = some (some (.ref f_own_jobs)))
    (l_own_jobs : K.lookup f_own_jobs = some ⟨oc_own_jobs, od_own_jobs, .func (PySem.W.fnOf "own_jobs" "own_jobs" (defArgs s_own_jobs) (defBody s_own_jobs) (defScope s_own_jobs) .none kV_own_jobs dc_own_jobs pm_own_jobs an_own_jobs cd_own_jobs ct_own_jobs), sl_own_jobs⟩)
    (c_own_jobs : PySem.W.codeIn K cd_own_jobs "own_jobs" = true)
    (k_own_jobs : PySem.W.keepIn K (.ref f_own_jobs) = true)
    (a_places_of : PySem.W.nsIn K mainGlobals "places_of" = some (some (.ref f_places_of)))
    (l_places_of : K.lookup f_places_of = some ⟨oc_places_of, od_places_of, .func (PySem.W.fnOf "places_of" "places_of" (defArgs s_places_of) (defBody s_places_of) (defScope s_places_of) .none kV_places_of dc_places_of pm_places_of an_places_of cd_places_of ct_places_of), sl_places_of⟩)
    (c_places_of : PySem.W.codeIn K cd_places_of "places_of" = true)
    (k_places_of : PySem.W.keepIn K (.ref f_places_of) = true)
    (a_Plan_init : PySem.W.findIn K (.ref a.cPlan) "__init__" = some (some (.ref f_Plan_init)))
    (i_Plan_init : PySem.W.isFn K (.ref f_Plan_init) = true)
    (l_Plan_init : K.lookup f_Plan_init = some ⟨oc_Plan_init, od_Plan_init, .func (PySem.W.fnOf "__init__" "Plan.__init__" (defArgs s_Plan_init) (defBody s_Plan_init) (defScope s_Plan_init) .none kV_Plan_init dc_Plan_init pm_Plan_init an_Plan_init cd_Plan_init ct_Plan_init), sl_Plan_init⟩)
    (c_Plan_init : PySem.W.codeIn K cd_Plan_init "Plan.__init__" = true)
    (k_Plan_init : PySem.W.keepIn K (.ref f_Plan_init) = true)
    (a_Plan_needed : PySem.W.findIn K (.ref a.cPlan) "needed" = some (some (.ref f_Plan_needed)))
    (i_Plan_needed : PySem.W.isFn K (.ref f_Plan_needed) = true)
    (l_Plan_needed : K.lookup f_Plan_needed = some ⟨oc_Plan_needed, od_Plan_needed, .func (PySem.W.fnOf "needed" "Plan.needed" (defArgs s_Plan_needed) (defBody s_Plan_needed) (defScope s_Plan_needed) .none kV_Plan_needed dc_Plan_needed pm_Plan_needed an_Plan_needed cd_Plan_needed ct_Plan_needed), sl_Plan_needed⟩)
    (c_Plan_needed : PySem.W.codeIn K cd_Plan_needed "Plan.needed" = true)
    (k_Plan_needed : PySem.W.keepIn K (.ref f_Plan_needed) = true)
    (a_Plan_many : PySem.W.findIn K (.ref a.cPlan) "many" = some (some (.ref f_Plan_many)))
    (i_Plan_many : PySem.W.isFn K (.ref f_Plan_many) = true)
    (l_Plan_many : K.lookup f_Plan_many = some ⟨oc_Plan_many, od_Plan_many, .func (PySem.W.fnOf "many" "Plan.many" (defArgs s_Plan_many) (defBody s_Plan_many) (defScope s_Plan_many) .none kV_Plan_many dc_Plan_many pm_Plan_many an_Plan_many cd_Plan_many ct_Plan_many), sl_Plan_many⟩)
    (c_Plan_many : PySem.W.codeIn K cd_Plan_many "Plan.many" = true)
    (k_Plan_many : PySem.W.keepIn K (.ref f_Plan_many) = true)
    (a_Plan_job_at : PySem.W.findIn K (.ref a.cPlan) "job_at" = some (some (.ref f_Plan_job_at)))
    (i_Plan_job_at : PySem.W.isFn K (.ref f_Plan_job_at) = true)
    (l_Plan_job_at : K.lookup f_Plan_job_at = some ⟨oc_Plan_job_at, od_Plan_job_at, .func (PySem.W.fnOf "job_at" "Plan.job_at" (defArgs s_Plan_job_at) (defBody s_Plan_job_at) (defScope s_Plan_job_at) .none kV_Plan_job_at dc_Plan_job_at pm_Plan_job_at an_Plan_job_at cd_Plan_job_at ct_Plan_job_at), sl_Plan_job_at⟩)
    (c_Plan_job_at : PySem.W.codeIn K cd_Plan_job_at "Plan.job_at" = true)
    (k_Plan_job_at : PySem.W.keepIn K (.ref f_Plan_job_at) = true)
    (a_Plan_place_of : PySem.W.findIn K (.ref a.cPlan) "place_of" = some (some (.ref f_Plan_place_of)))
    (i_Plan_place_of : PySem.W.isFn K (.ref f_Plan_place_of) = true)
    (l_Plan_place_of : K.lookup f_Plan_place_of = some ⟨oc_Plan_place_of, od_Plan_place_of, .func (PySem.W.fnOf "place_of" "Plan.place_of" (defArgs s_Plan_place_of) (defBody s_Plan_place_of) (defScope s_Plan_place_of) .none kV_Plan_place_of dc_Plan_place_of pm_Plan_place_of an_Plan_place_of cd_Plan_place_of ct_Plan_place_of), sl_Plan_place_of⟩)
    (c_Plan_place_of : PySem.W.codeIn K cd_Plan_place_of "Plan.place_of" = true)
    (k_Plan_place_of : PySem.W.keepIn K (.ref f_Plan_place_of) = true)
    (a_law_cell_at : PySem.W.nsIn K mainGlobals "_law_cell_at" = some (some (.ref f_law_cell_at)))
    (l_law_cell_at : K.lookup f_law_cell_at = some ⟨oc_law_cell_at, od_law_cell_at, .func (PySem.W.fnOf "_law_cell_at" "_law_cell_at" (defArgs s_law_cell_at) (defBody s_law_cell_at) (defScope s_law_cell_at) .none kV_law_cell_at dc_law_cell_at pm_law_cell_at an_law_cell_at cd_law_cell_at ct_law_cell_at), sl_law_cell_at⟩)
    (c_law_cell_at : PySem.W.codeIn K cd_law_cell_at "_law_cell_at" = true)
    (k_law_cell_at : PySem.W.keepIn K (.ref f_law_cell_at) = true)
    (a_law_mixed : PySem.W.nsIn K mainGlobals "_law_mixed" = some (some (.ref f_law_mixed)))
    (l_law_mixed : K.lookup f_law_mixed = some ⟨oc_law_mixed, od_law_mixed, .func (PySem.W.fnOf "_law_mixed" "_law_mixed" (defArgs s_law_mixed) (defBody s_law_mixed) (defScope s_law_mixed) .none kV_law_mixed dc_law_mixed pm_law_mixed an_law_mixed cd_law_mixed ct_law_mixed), sl_law_mixed⟩)
    (c_law_mixed : PySem.W.codeIn K cd_law_mixed "_law_mixed" = true)
    (k_law_mixed : PySem.W.keepIn K (.ref f_law_mixed) = true)
    (a_law_whole : PySem.W.nsIn K mainGlobals "_law_whole" = some (some (.ref f_law_whole)))
    (l_law_whole : K.lookup f_law_whole = some ⟨oc_law_whole, od_law_whole, .func (PySem.W.fnOf "_law_whole" "_law_whole" (defArgs s_law_whole) (defBody s_law_whole) (defScope s_law_whole) .none kV_law_whole dc_law_whole pm_law_whole an_law_whole cd_law_whole ct_law_whole), sl_law_whole⟩)
    (c_law_whole : PySem.W.codeIn K cd_law_whole "_law_whole" = true)
    (k_law_whole : PySem.W.keepIn K (.ref f_law_whole) = true)
    (a_law_numbers : PySem.W.nsIn K mainGlobals "_law_numbers" = some (some (.ref f_law_numbers)))
    (l_law_numbers : K.lookup f_law_numbers = some ⟨oc_law_numbers, od_law_numbers, .func (PySem.W.fnOf "_law_numbers" "_law_numbers" (defArgs s_law_numbers) (defBody s_law_numbers) (defScope s_law_numbers) .none kV_law_numbers dc_law_numbers pm_law_numbers an_law_numbers cd_law_numbers ct_law_numbers), sl_law_numbers⟩)
    (c_law_numbers : PySem.W.codeIn K cd_law_numbers "_law_numbers" = true)
    (k_law_numbers : PySem.W.keepIn K (.ref f_law_numbers) = true)
    (a_law : PySem.W.nsIn K mainGlobals "law" = some (some (.ref f_law)))
    (l_law : K.lookup f_law = some ⟨oc_law, od_law, .func (PySem.W.fnOf "law" "law" (defArgs s_law) (defBody s_law) (defScope s_law) .none kV_law dc_law pm_law an_law cd_law ct_law), sl_law⟩)
    (c_law : PySem.W.codeIn K cd_law "law" = true)
    (k_law : PySem.W.keepIn K (.ref f_law) = true) :
    ∃ fd : FuncData, (∀ (s : Shared) (v : Value), BindsTo s fd ⟨[v], []⟩ [("_law_script", v)]) ∧ ∀ base : Heap, K.In base → base.Ns mainGlobals mg → FnOk l.prog w K mg base (L2.CX l.prog w) 7 fa fd ["_law_script"] (lift (S_law K a)) := by
  have e := hfa.symm.trans (PySem.W.mg_of X G a_law)
  cases e
  have T : Txt K mg a := {
    b_bool := PySem.W.mg_none_of X G b_bool
    b_enumerate := PySem.W.mg_none_of X G b_enumerate
    b_int := PySem.W.mg_none_of X G b_int
    b_isinstance := PySem.W.mg_none_of X G b_isinstance
    b_len := PySem.W.mg_none_of X G b_len
    b_list := PySem.W.mg_none_of X G b_list
    b_min := PySem.W.mg_none_of X G b_min
    b_range := PySem.W.mg_none_of X G b_range
    b_str := PySem.W.mg_none_of X G b_str
    b_tuple := PySem.W.mg_none_of X G b_tuple
    g_MOST_WAIT := ⟨_, PySem.W.mg_of X G g_MOST_WAIT, ⟨_, rfl⟩⟩
    g_LETTERS := ⟨_, PySem.W.mg_of X G g_LETTERS, ⟨_, rfl⟩⟩
    g_MOST_LETTERS := ⟨_, PySem.W.mg_of X G g_MOST_LETTERS, ⟨_, rfl⟩⟩
    g_MOST_NEEDS := ⟨_, PySem.W.mg_of X G g_MOST_NEEDS, ⟨_, rfl⟩⟩
    g_LEAST := ⟨_, PySem.W.mg_of X G g_LEAST, rfl⟩
    k_LEAST := sqT_k k_LEAST (Nat.le_of_ble_eq_true rfl) (.cons ⟨_, rfl⟩ (.cons ⟨_, rfl⟩ (.cons ⟨_, rfl⟩ (.cons ⟨_, rfl⟩ (.cons ⟨_, rfl⟩ (.nil))))))
    g_MOST := ⟨_, PySem.W.mg_of X G g_MOST, rfl⟩
    k_MOST := sqT_k k_MOST (Nat.le_of_ble_eq_true rfl) (.cons ⟨_, rfl⟩ (.cons ⟨_, rfl⟩ (.cons ⟨_, rfl⟩ (.cons ⟨_, rfl⟩ (.cons ⟨_, rfl⟩ (.nil))))))
    g_MOST_JOBS := ⟨_, PySem.W.mg_of X G g_MOST_JOBS, ⟨_, rfl⟩⟩
    m_Job := PySem.W.mg_of X G m_Job
    i_Job := ⟨⟨pg_Job, hd_Job, po_Job, sa_Job⟩, ia_Job, zz_n, zz_t, im_Job⟩
    n_Job_name := n_Job_name
    n_Job_needs := n_Job_needs
    n_Job_rank := n_Job_rank
    n_Job_span := n_Job_span
    n_Job_tries := n_Job_tries
    n_Job_wait := n_Job_wait
    n_Job_grow := n_Job_grow
    m_Plan := PySem.W.mg_of X G m_Plan
    i_Plan := ⟨⟨pg_Plan, hd_Plan, po_Plan, sa_Plan⟩, ia_Plan, zz_n, zz_t, im_Plan⟩
    n_Plan_jobs := n_Plan_jobs
    n_Plan_places := n_Plan_places }
  have F_wait_after := funD_mk (st := s_wait_after) l_wait_after c_wait_after k_wait_after
  have B_wait_after := F_wait_after.bindsN (ps := ["job", "fails"]) fun _ _ _ _ _ _ us hl => match us, hl with | [_, _], _ => rfl
  have F_rest_sum := funD_mk (st := s_rest_sum) l_rest_sum c_rest_sum k_rest_sum
  have B_rest_sum := F_rest_sum.bindsN (ps := ["job"]) fun _ _ _ _ _ _ us hl => match us, hl with | [_], _ => rfl
  have F_bound := funD_mk (st := s_bound) l_bound c_bound k_bound
  have B_bound := F_bound.bindsN (ps := ["plan", "term"]) fun _ _ _ _ _ _ us hl => match us, hl with | [_, _], _ => rfl
  have F_is_whole := funD_mk (st := s_is_whole) l_is_whole c_is_whole k_is_whole
  have B_is_whole := F_is_whole.bindsN (ps := ["thing"]) fun _ _ _ _ _ _ us hl => match us, hl with | [_], _ => rfl
  have F_is_among := funD_mk (st := s_is_among) l_is_among c_is_among k_is_among
  have B_is_among := F_is_among.bindsN (ps := ["thing", "least", "most"]) fun _ _ _ _ _ _ us hl => match us, hl with | [_, _, _], _ => rfl
  have F_is_made_of := funD_mk (st := s_is_made_of) l_is_made_of c_is_made_of k_is_made_of
  have B_is_made_of := F_is_made_of.bindsN (ps := ["thing", "signs", "most"]) fun _ _ _ _ _ _ us hl => match us, hl with | [_, _, _], _ => rfl
  have F_is_name := funD_mk (st := s_is_name) l_is_name c_is_name k_is_name
  have B_is_name := F_is_name.bindsN (ps := ["thing"]) fun _ _ _ _ _ _ us hl => match us, hl with | [_], _ => rfl
  have F_own_needs := funD_mk (st := s_own_needs) l_own_needs c_own_needs k_own_needs
  have B_own_needs := F_own_needs.bindsN (ps := ["name", "needs"]) fun _ _ _ _ _ _ us hl => match us, hl with | [_, _], _ => rfl
  have F_need_numbers := funD_mk (st := s_need_numbers) l_need_numbers c_need_numbers k_need_numbers
  have B_need_numbers := F_need_numbers.bindsN (ps := ["numbers"]) fun _ _ _ _ _ _ us hl => match us, hl with | [_], _ => rfl
  have F_Job_init := funD_mkD (st := s_Job_init) (dvs := [.non, .int (0), .int (1), .int (1), .int (0), .int (1)]) l_Job_init c_Job_init k_Job_init dl_Job_init rfl (.cons rfl (.cons ⟨_, rfl⟩ (.cons ⟨_, rfl⟩ (.cons ⟨_, rfl⟩ (.cons ⟨_, rfl⟩ (.cons ⟨_, rfl⟩ (.nil))))))) (by decide)
  have B_Job_init := binds_all (ps := ["self", "name", "needs", "rank", "span", "tries", "wait", "grow"]) F_Job_init (by decide) fun _ _ _ _ _ _ _ us its hl hi => match us, its, hl, hi with | [_, _, _, _, _, _, _, _], [_, _, _, _, _, _], _, _ => ⟨_, rfl, rfl⟩
  have F_can_stand := funD_mk (st := s_can_stand) l_can_stand c_can_stand k_can_stand
  have B_can_stand := F_can_stand.bindsN (ps := ["needs", "place", "ahead"]) fun _ _ _ _ _ _ us hl => match us, hl with | [_, _, _], _ => rfl
  have F_next_place := funD_mk (st := s_next_place) l_next_place c_next_place k_next_place
  have B_next_place := F_next_place.bindsN (ps := ["needs", "ahead"]) fun _ _ _ _ _ _ us hl => match us, hl with | [_, _], _ => rfl
  have F_beginning := funD_mk (st := s_beginning) l_beginning c_beginning k_beginning
  have B_beginning := F_beginning.bindsN (ps := ["needs"]) fun _ _ _ _ _ _ us hl => match us, hl with | [_], _ => rfl
  have F_ring_of := funD_mk (st := s_ring_of) l_ring_of c_ring_of k_ring_of
  have B_ring_of := F_ring_of.bindsN (ps := ["needs"]) fun _ _ _ _ _ _ us hl => match us, hl with | [_], _ => rfl
  have F_own_jobs := funD_mk (st := s_own_jobs) l_own_jobs c_own_jobs k_own_jobs
  have B_own_jobs := F_own_jobs.bindsN (ps := ["jobs"]) fun _ _ _ _ _ _ us hl => match us, hl with | [_], _ => rfl
  have F_places_of := funD_mk (st := s_places_of) l_places_of c_places_of k_places_of
  have B_places_of := F_places_of.bindsN (ps := ["jobs"]) fun _ _ _ _ _ _ us hl => match us, hl with | [_], _ => rfl
  have F_Plan_init := funD_mk (st := s_Plan_init) l_Plan_init c_Plan_init k_Plan_init
  have B_Plan_init := F_Plan_init.bindsN (ps := ["self", "jobs"]) fun _ _ _ _ _ _ us hl => match us, hl with | [_, _], _ => rfl
  have F_Plan_needed := funD_mk (st := s_Plan_needed) l_Plan_needed c_Plan_needed k_Plan_needed
  have B_Plan_needed := F_Plan_needed.bindsN (ps := ["self"]) fun _ _ _ _ _ _ us hl => match us, hl with | [_], _ => rfl
  have F_Plan_many := funD_mk (st := s_Plan_many) l_Plan_many c_Plan_many k_Plan_many
  have B_Plan_many := F_Plan_many.bindsN (ps := ["self"]) fun _ _ _ _ _ _ us hl => match us, hl with | [_], _ => rfl
  have F_Plan_job_at := funD_mk (st := s_Plan_job_at) l_Plan_job_at c_Plan_job_at k_Plan_job_at
  have B_Plan_job_at := F_Plan_job_at.bindsN (ps := ["self", "place"]) fun _ _ _ _ _ _ us hl => match us, hl with | [_, _], _ => rfl
  have F_Plan_place_of := funD_mk (st := s_Plan_place_of) l_Plan_place_of c_Plan_place_of k_Plan_place_of
  have B_Plan_place_of := F_Plan_place_of.bindsN (ps := ["self", "name"]) fun _ _ _ _ _ _ us hl => match us, hl with | [_, _], _ => rfl
  have F_law_cell_at := funD_mk (st := s_law_cell_at) l_law_cell_at c_law_cell_at k_law_cell_at
  have B_law_cell_at := F_law_cell_at.bindsN (ps := ["_law_script", "_law_k"]) fun _ _ _ _ _ _ us hl => match us, hl with | [_, _], _ => rfl
  have F_law_mixed := funD_mk (st := s_law_mixed) l_law_mixed c_law_mixed k_law_mixed
  have B_law_mixed := F_law_mixed.bindsN (ps := ["_law_cell", "_law_k"]) fun _ _ _ _ _ _ us hl => match us, hl with | [_, _], _ => rfl
  have F_law_whole := funD_mk (st := s_law_whole) l_law_whole c_law_whole k_law_whole
  have B_law_whole := F_law_whole.bindsN (ps := ["_law_thing"]) fun _ _ _ _ _ _ us hl => match us, hl with | [_], _ => rfl
  have F_law_numbers := funD_mk (st := s_law_numbers) l_law_numbers c_law_numbers k_law_numbers
  have B_law_numbers := F_law_numbers.bindsN (ps := ["_law_script", "_law_k"]) fun _ _ _ _ _ _ us hl => match us, hl with | [_, _], _ => rfl
  have F_law := funD_mk (st := s_law) l_law c_law k_law
  have B_law := F_law.bindsN (ps := ["_law_script"]) fun _ _ _ _ _ _ us hl => match us, hl with | [_], _ => rfl
  refine ⟨PySem.W.fnOf "law" "law" (defArgs s_law) (defBody s_law) (defScope s_law) .none kV_law dc_law pm_law an_law cd_law ct_law, fun s v => .of_eq rfl, fun base hb hn => ?_⟩
  have O_wait_after := mk_fn (σ0 := fun _ => []) (P := l.prog) (w := w) (mg := mg) (base := base) (k := 0) (sp := S_wait_after K a) F_wait_after sc_wait_after (by intro vs A Φ Ψ; unfold S_wait_after; walk_at "len") (fun cdv A outer s H E hr => dv_wait_after T  hr) (fun vs A Φ Ψ E hx h => w_wait_after T h hx)
  have G_wait_after := defR_of F_wait_after (PySem.W.mg_of X G a_wait_after) B_wait_after O_wait_after
  have O_is_whole := mk_fn (σ0 := fun _ => []) (P := l.prog) (w := w) (mg := mg) (base := base) (k := 0) (sp := S_is_whole K a) F_is_whole sc_is_whole (by intro vs A Φ Ψ; unfold S_is_whole; walk_at "len") (fun cdv A outer s H E hr => dv_is_whole T  hr) (fun vs A Φ Ψ E hx h => w_is_whole T h hx)
  have G_is_whole := defR_of F_is_whole (PySem.W.mg_of X G a_is_whole) B_is_whole O_is_whole
  have O_is_made_of := mk_fn (σ0 := fun _ => []) (P := l.prog) (w := w) (mg := mg) (base := base) (k := 0) (sp := S_is_made_of K a) F_is_made_of sc_is_made_of (by intro vs A Φ Ψ; unfold S_is_made_of; walk_at "len") (fun cdv A outer s H E hr => dv_is_made_of T  hr) (fun vs A Φ Ψ E hx h => w_is_made_of T h hx)
  have G_is_made_of := defR_of F_is_made_of (PySem.W.mg_of X G a_is_made_of) B_is_made_of O_is_made_of
  have O_can_stand := mk_fn (σ0 := fun _ => []) (P := l.prog) (w := w) (mg := mg) (base := base) (k := 0) (sp := S_can_stand K a) F_can_stand sc_can_stand (by intro vs A Φ Ψ; unfold S_can_stand; walk_at "len") (fun cdv A outer s H E hr => dv_can_stand T  hr) (fun vs A Φ Ψ E hx h => w_can_stand T h hx)
  have G_can_stand := defR_of F_can_stand (PySem.W.mg_of X G a_can_stand) B_can_stand O_can_stand
  have O_own_jobs := mk_fn (σ0 := fun _ => []) (P := l.prog) (w := w) (mg := mg) (base := base) (k := 0) (sp := S_own_jobs K a) F_own_jobs sc_own_jobs (by intro vs A Φ Ψ; unfold S_own_jobs; walk_at "len") (fun cdv A outer s H E hr => dv_own_jobs T  hr) (fun vs A Φ Ψ E hx h => w_own_jobs T h hx)
  have G_own_jobs := defR_of F_own_jobs (PySem.W.mg_of X G a_own_jobs) B_own_jobs O_own_jobs
  have O_places_of := mk_fn (σ0 := fun _ => []) (P := l.prog) (w := w) (mg := mg) (base := base) (k := 0) (sp := S_places_of K a) F_places_of sc_places_of (by intro vs A Φ Ψ; unfold S_places_of; walk_at "len") (fun cdv A outer s H E hr => dv_places_of T  hr) (fun vs A Φ Ψ E hx h => w_places_of T h hx)
  have G_places_of := defR_of F_places_of (PySem.W.mg_of X G a_places_of) B_places_of O_places_of
  have O_Plan_many := mk_fn (σ0 := fun _ => []) (P := l.prog) (w := w) (mg := mg) (base := base) (k := 0) (sp := S_Plan_many K a) F_Plan_many sc_Plan_many (by intro vs A Φ Ψ; unfold S_Plan_many; walk_at "len") (fun cdv A outer s H E hr => dv_Plan_many T  hr) (fun vs A Φ Ψ E hx h => w_Plan_many T h hx)
  have O_Plan_job_at := mk_fn (σ0 := fun _ => []) (P := l.prog) (w := w) (mg := mg) (base := base) (k := 0) (sp := S_Plan_job_at K a) F_Plan_job_at sc_Plan_job_at (by intro vs A Φ Ψ; unfold S_Plan_job_at; walk_at "len") (fun cdv A outer s H E hr => dv_Plan_job_at T  hr) (fun vs A Φ Ψ E hx h => w_Plan_job_at T h hx)
  have O_Plan_place_of := mk_fn (σ0 := fun _ => []) (P := l.prog) (w := w) (mg := mg) (base := base) (k := 0) (sp := S_Plan_place_of K a) F_Plan_place_of sc_Plan_place_of (by intro vs A Φ Ψ; unfold S_Plan_place_of; walk_at "len") (fun cdv A outer s H E hr => dv_Plan_place_of T  hr) (fun vs A Φ Ψ E hx h => w_Plan_place_of T h hx)
  have O_law_cell_at := mk_fn (σ0 := fun _ => []) (P := l.prog) (w := w) (mg := mg) (base := base) (k := 0) (sp := S_law_cell_at K a) F_law_cell_at sc_law_cell_at (by intro vs A Φ Ψ; unfold S_law_cell_at; walk_at "len") (fun cdv A outer s H E hr => dv_law_cell_at T  hr) (fun vs A Φ Ψ E hx h => w_law_cell_at T h hx)
  have G_law_cell_at := defR_of F_law_cell_at (PySem.W.mg_of X G a_law_cell_at) B_law_cell_at O_law_cell_at
  have O_law_mixed := mk_fn (σ0 := fun _ => []) (P := l.prog) (w := w) (mg := mg) (base := base) (k := 0) (sp := S_law_mixed K a) F_law_mixed sc_law_mixed (by intro vs A Φ Ψ; unfold S_law_mixed; walk_at "len") (fun cdv A outer s H E hr => dv_law_mixed T  hr) (fun vs A Φ Ψ E hx h => w_law_mixed T h hx)
  have G_law_mixed := defR_of F_law_mixed (PySem.W.mg_of X G a_law_mixed) B_law_mixed O_law_mixed
  have O_law_whole := mk_fn (σ0 := fun _ => []) (P := l.prog) (w := w) (mg := mg) (base := base) (k := 0) (sp := S_law_whole K a) F_law_whole sc_law_whole (by intro vs A Φ Ψ; unfold S_law_whole; walk_at "len") (fun cdv A outer s H E hr => dv_law_whole T  hr) (fun vs A Φ Ψ E hx h => w_law_whole T h hx)
  have G_law_whole := defR_of F_law_whole (PySem.W.mg_of X G a_law_whole) B_law_whole O_law_whole
  have O_rest_sum := mk_fn (σ0 := fun _ => []) (P := l.prog) (w := w) (mg := mg) (base := base) (k := 1) (sp := S_rest_sum K a) F_rest_sum sc_rest_sum (by intro vs A Φ Ψ; unfold S_rest_sum; walk_at "len") (fun cdv A outer s H E hr => dv_rest_sum T G_wait_after hr) (fun vs A Φ Ψ E hx h => w_rest_sum T h hx)
  have G_rest_sum := defR_of F_rest_sum (PySem.W.mg_of X G a_rest_sum) B_rest_sum O_rest_sum
  have O_is_among := mk_fn (σ0 := fun _ => []) (P := l.prog) (w := w) (mg := mg) (base := base) (k := 1) (sp := S_is_among K a) F_is_among sc_is_among (by intro vs A Φ Ψ; unfold S_is_among; walk_at "len") (fun cdv A outer s H E hr => dv_is_among T G_is_whole hr) (fun vs A Φ Ψ E hx h => w_is_among T h hx)
  have G_is_among := defR_of F_is_among (PySem.W.mg_of X G a_is_among) B_is_among O_is_among
  have O_is_name := mk_fn (σ0 := fun _ => []) (P := l.prog) (w := w) (mg := mg) (base := base) (k := 1) (sp := S_is_name K a) F_is_name sc_is_name (by intro vs A Φ Ψ; unfold S_is_name; walk_at "len") (fun cdv A outer s H E hr => dv_is_name T G_is_made_of hr) (fun vs A Φ Ψ E hx h => w_is_name T h hx)
  have G_is_name := defR_of F_is_name (PySem.W.mg_of X G a_is_name) B_is_name O_is_name
  have O_next_place := mk_fn (σ0 := fun _ => []) (P := l.prog) (w := w) (mg := mg) (base := base) (k := 1) (sp := S_next_place K a) F_next_place sc_next_place (by intro vs A Φ Ψ; unfold S_next_place; walk_at "len") (fun cdv A outer s H E hr => dv_next_place T G_can_stand hr) (fun vs A Φ Ψ E hx h => w_next_place T h hx)
  have G_next_place := defR_of F_next_place (PySem.W.mg_of X G a_next_place) B_next_place O_next_place
  have MM_place_of : ∀ C sp, MT K a "place_of" C sp → MethR l.prog w K mg base 1 C "place_of" (lift sp) := by
    intro C sp hm
    rcases mt_place_of rfl hm with ⟨rfl, rfl⟩
    · exact methR_mono (methR_of T.i_Plan.c ⟨a_Plan_place_of, i_Plan_place_of, k_Plan_place_of⟩ B_Plan_place_of O_Plan_place_of) (by decide)
  have O_Plan_needed := mk_fn (σ0 := fun _ => []) (P := l.prog) (w := w) (mg := mg) (base := base) (k := 1) (sp := S_Plan_needed K a) F_Plan_needed sc_Plan_needed (by intro vs A Φ Ψ; unfold S_Plan_needed; walk_at "len") (fun cdv A outer s H E hr => dv_Plan_needed T MM_place_of hr) (fun vs A Φ Ψ E hx h => w_Plan_needed T h hx)
  have O_law_numbers := mk_fn (σ0 := fun _ => []) (P := l.prog) (w := w) (mg := mg) (base := base) (k := 1) (sp := S_law_numbers K a) F_law_numbers sc_law_numbers (by intro vs A Φ Ψ; unfold S_law_numbers; walk_at "len") (fun cdv A outer s H E hr => dv_law_numbers T G_law_cell_at G_law_mixed hr) (fun vs A Φ Ψ E hx h => w_law_numbers T h hx)
  have G_law_numbers := defR_of F_law_numbers (PySem.W.mg_of X G a_law_numbers) B_law_numbers O_law_numbers
  have O_bound := mk_fn (σ0 := fun _ => []) (P := l.prog) (w := w) (mg := mg) (base := base) (k := 2) (sp := S_bound K a) F_bound sc_bound (by intro vs A Φ Ψ; unfold S_bound; walk_at "len") (fun cdv A outer s H E hr => dv_bound T G_rest_sum hr) (fun vs A Φ Ψ E hx h => w_bound T h hx)
  have G_bound := defR_of F_bound (PySem.W.mg_of X G a_bound) B_bound O_bound
  have O_own_needs := mk_fn (σ0 := fun _ => []) (P := l.prog) (w := w) (mg := mg) (base := base) (k := 2) (sp := S_own_needs K a) F_own_needs sc_own_needs (by intro vs A Φ Ψ; unfold S_own_needs; walk_at "len") (fun cdv A outer s H E hr => dv_own_needs T G_is_name hr) (fun vs A Φ Ψ E hx h => w_own_needs T h hx)
  have G_own_needs := defR_of F_own_needs (PySem.W.mg_of X G a_own_needs) B_own_needs O_own_needs
  have O_need_numbers := mk_fn (σ0 := fun _ => []) (P := l.prog) (w := w) (mg := mg) (base := base) (k := 2) (sp := S_need_numbers K a) F_need_numbers sc_need_numbers (by intro vs A Φ Ψ; unfold S_need_numbers; walk_at "len") (fun cdv A outer s H E hr => dv_need_numbers T G_is_among hr) (fun vs A Φ Ψ E hx h => w_need_numbers T h hx)
  have G_need_numbers := defR_of F_need_numbers (PySem.W.mg_of X G a_need_numbers) B_need_numbers O_need_numbers
  have O_beginning := mk_fn (σ0 := fun _ => []) (P := l.prog) (w := w) (mg := mg) (base := base) (k := 2) (sp := S_beginning K a) F_beginning sc_beginning (by intro vs A Φ Ψ; unfold S_beginning; walk_at "len") (fun cdv A outer s H E hr => dv_beginning T G_next_place hr) (fun vs A Φ Ψ E hx h => w_beginning T h hx)
  have G_beginning := defR_of F_beginning (PySem.W.mg_of X G a_beginning) B_beginning O_beginning
  have O_Job_init := mk_fn (σ0 := fun _ => []) (P := l.prog) (w := w) (mg := mg) (base := base) (k := 3) (sp := S_Job_init K a) F_Job_init sc_Job_init (by intro vs A Φ Ψ; unfold S_Job_init; walk_at "len") (fun cdv A outer s H E hr => dv_Job_init T G_is_name G_need_numbers G_own_needs hr) (fun vs A Φ Ψ E hx h => w_Job_init T h hx)
  have G_Job_init := makR_of ⟨mk_Job, a_Job_init, i_Job_init, kc_Job⟩ T.m_Job B_Job_init O_Job_init
  have O_ring_of := mk_fn (σ0 := fun _ => []) (P := l.prog) (w := w) (mg := mg) (base := base) (k := 3) (sp := S_ring_of K a) F_ring_of sc_ring_of (by intro vs A Φ Ψ; unfold S_ring_of; walk_at "len") (fun cdv A outer s H E hr => dv_ring_of T G_beginning hr) (fun vs A Φ Ψ E hx h => w_ring_of T h hx)
  have G_ring_of := defR_of F_ring_of (PySem.W.mg_of X G a_ring_of) B_ring_of O_ring_of
  have MM_needed : ∀ C sp, MT K a "needed" C sp → MethR l.prog w K mg base 2 C "needed" (lift sp) := by
    intro C sp hm
    rcases mt_needed rfl hm with ⟨rfl, rfl⟩
    · exact methR_mono (methR_of T.i_Plan.c ⟨a_Plan_needed, i_Plan_needed, k_Plan_needed⟩ B_Plan_needed O_Plan_needed) (by decide)
  have O_Plan_init := mk_fn (σ0 := fun _ => []) (P := l.prog) (w := w) (mg := mg) (base := base) (k := 4) (sp := S_Plan_init K a) F_Plan_init sc_Plan_init (by intro vs A Φ Ψ; unfold S_Plan_init; walk_at "len") (fun cdv A outer s H E hr => dv_Plan_init T G_own_jobs G_places_of G_ring_of MM_needed hr) (fun vs A Φ Ψ E hx h => w_Plan_init T h hx)
  have G_Plan_init := makR_of ⟨mk_Plan, a_Plan_init, i_Plan_init, kc_Plan⟩ T.m_Plan B_Plan_init O_Plan_init
  have MM_job_at : ∀ C sp, MT K a "job_at" C sp → MethR l.prog w K mg base 1 C "job_at" (lift sp) := by
    intro C sp hm
    rcases mt_job_at rfl hm with ⟨rfl, rfl⟩
    · exact methR_mono (methR_of T.i_Plan.c ⟨a_Plan_job_at, i_Plan_job_at, k_Plan_job_at⟩ B_Plan_job_at O_Plan_job_at) (by decide)
  have MM_many : ∀ C sp, MT K a "many" C sp → MethR l.prog w K mg base 1 C "many" (lift sp) := by
    intro C sp hm
    rcases mt_many rfl hm with ⟨rfl, rfl⟩
    · exact methR_mono (methR_of T.i_Plan.c ⟨a_Plan_many, i_Plan_many, k_Plan_many⟩ B_Plan_many O_Plan_many) (by decide)
  have O_law := mk_fn (σ0 := fun _ => []) (P := l.prog) (w := w) (mg := mg) (base := base) (k := 6) (sp := S_law K a) F_law sc_law (by intro vs A Φ Ψ; unfold S_law; walk_at "len") (fun cdv A outer s H E hr => dv_law T G_Job_init G_Plan_init G_law_cell_at G_law_numbers G_law_whole G_bound MM_job_at MM_many hr) (fun vs A Φ Ψ E hx h => w_law T h hx)
  exact O_law
theorem all_mk {l : PySem.W.OpenLaw} {w : World} {K : PySem.W.Frag} {h : Heap} {mg : Str → Option Value} {fa : Addr} {cJob : Addr} {cPlan : Addr} {gLEAST : Addr} {gMOST : Addr}  {tk_MOST_WAIT : Tok} {tk_LETTERS : Tok} {tk_MOST_LETTERS : Tok} {tk_MOST_NEEDS : Tok} {tk_LEAST_0 : Tok} {tk_LEAST_1 : Tok} {tk_LEAST_2 : Tok} {tk_LEAST_3 : Tok} {tk_LEAST_4 : Tok} {od_LEAST : Option Addr} {sz_LEAST : Nat} {sl_LEAST : Array (Option Value)} {tk_MOST_0 : Tok} {tk_MOST_1 : Tok} {tk_MOST_2 : Tok} {tk_MOST_3 : Tok} {tk_MOST_4 : Tok} {od_MOST : Option Addr} {sz_MOST : Nat} {sl_MOST : Array (Option Value)} {tk_MOST_JOBS : Tok} {oc_wait_after : Value} {od_wait_after : Option Addr} {kV_wait_after : Value} {dc_wait_after : Value} {pm_wait_after : Value} {an_wait_after : Option Addr} {cd_wait_after : Value} {ct_wait_after : Value} {sl_wait_after : Array (Option Value)} {f_wait_after : Addr} {oc_rest_sum : Value} {od_rest_sum : Option Addr} {kV_rest_sum : Value} {dc_rest_sum : Value} {pm_rest_sum : Value} {an_rest_sum : Option Addr} {cd_rest_sum : Value} {ct_rest_sum : Value} {sl_rest_sum : Array (Option Value)} {f_rest_sum : Addr} {oc_bound : Value} {od_bound : Option Addr} {kV_bound : Value} {dc_bound : Value} {pm_bound : Value} {an_bound : Option Addr} {cd_bound : Value} {ct_bound : Value} {sl_bound : Array (Option Value)} {f_bound : Addr} {oc_is_whole : Value} {od_is_whole : Option Addr} {kV_is_whole : Value} {dc_is_whole : Value} {pm_is_whole : Value} {an_is_whole : Option Addr} {cd_is_whole : Value} {ct_is_whole : Value} {sl_is_whole : Array (Option Value)} {f_is_whole : Addr} {oc_is_among : Value} {od_is_among : Option Addr} {kV_is_among : Value} {dc_is_among : Value} {pm_is_among : Value} {an_is_among : Option Addr} {cd_is_among : Value} {ct_is_among : Value} {sl_is_among : Array (Option Value)} {f_is_among : Addr} {oc_is_made_of : Value} {od_is_made_of : Option Addr} {kV_is_made_of : Value} {dc_is_made_of : Value} {pm_is_made_of : Value} {an_is_made_of : Option Addr} {cd_is_made_of : Value} {ct_is_made_of : Value} {sl_is_made_of : Array (Option Value)} {f_is_made_of : Addr} {oc_is_name : Value} {od_is_name : Option Addr} {kV_is_name : Value} {dc_is_name : Value} {pm_is_name : Value} {an_is_name : Option Addr} {cd_is_name : Value} {ct_is_name : Value} {sl_is_name : Array (Option Value)} {f_is_name : Addr} {oc_own_needs : Value} {od_own_needs : Option Addr} {kV_own_needs : Value} {dc_own_needs : Value} {pm_own_needs : Value} {an_own_needs : Option Addr} {cd_own_needs : Value} {ct_own_needs : Value} {sl_own_needs : Array (Option Value)} {f_own_needs : Addr} {oc_need_numbers : Value} {od_need_numbers : Option Addr} {kV_need_numbers : Value} {dc_need_numbers : Value} {pm_need_numbers : Value} {an_need_numbers : Option Addr} {cd_need_numbers : Value} {ct_need_numbers : Value} {sl_need_numbers : Array (Option Value)} {f_need_numbers : Addr} {D_Job_init : Addr} {oc_Job_init : Value} {od_Job_init : Option Addr} {kV_Job_init : Value} {dc_Job_init : Value} {pm_Job_init : Value} {an_Job_init : Option Addr} {cd_Job_init : Value} {ct_Job_init : Value} {sl_Job_init : Array (Option Value)} {f_Job_init : Addr} {dt_Job_init_1 : Tok} {dt_Job_init_2 : Tok} {dt_Job_init_3 : Tok} {dt_Job_init_4 : Tok} {dt_Job_init_5 : Tok} {doc_Job_init : Value} {dod_Job_init : Option Addr} {dn_Job_init : Nat} {dsl_Job_init : Array (Option Value)} {oc_can_stand : Value} {od_can_stand : Option Addr} {kV_can_stand : Value} {dc_can_stand : Value} {pm_can_stand : Value} {an_can_stand : Option Addr} {cd_can_stand : Value} {ct_can_stand : Value} {sl_can_stand : Array (Option Value)} {f_can_stand : Addr} {oc_next_place : Value} {od_next_place : Option Addr} {kV_next_place : Value} {dc_next_place : Value} {pm_next_place : Value} {an_next_place : Option Addr} {cd_next_place : Value} {ct_next_place : Value} {sl_next_place : Array (Option Value)} {f_next_place : Addr} {oc_beginning : Value} {od_beginning : Option Addr} {kV_beginning : Value} {dc_beginning : Value} {pm_beginning : Value} {an_beginning : Option Addr} {cd_beginning : Value} {ct_beginning : Value} {sl_beginning : Array (Option Value)} {f_beginning : Addr} {oc_ring_of : Value} {od_ring_of : Option Addr} {kV_ring_of : Value} {dc_ring_of : Value} {pm_ring_of : Value} {an_ring_of : Option Addr} {cd_ring_of : Value} {ct_ring_of : Value} {sl_ring_of : Array (Option Value)} {f_ring_of : Addr} {oc_own_jobs : Value} {od_own_jobs : Option Addr} {kV_own_jobs : Value} {dc_own_jobs : Value} {pm_own_jobs : Value} {an_own_jobs : Option Addr} {cd_own_jobs : Value} {ct_own_jobs : Value} {sl_own_jobs : Array (Option Value)} {f_own_jobs : Addr} {oc_places_of : Value} {od_places_of : Option Addr} {kV_places_of : Value} {dc_places_of : Value} {pm_places_of : Value} {an_places_of : Option Addr} {cd_places_of : Value} {ct_places_of : Value} {sl_places_of : Array (Option Value)} {f_places_of : Addr} {oc_Plan_init : Value} {od_Plan_init : Option Addr} {kV_Plan_init : Value} {dc_Plan_init : Value} {pm_Plan_init : Value} {an_Plan_init : Option Addr} {cd_Plan_init : Value} {ct_Plan_init : Value} {sl_Plan_init : Array (Option Value)} {f_Plan_init : Addr} {oc_Plan_needed : Value} {od_Plan_needed : Option Addr} {kV_Plan_needed : Value} {dc_Plan_needed : Value} {pm_Plan_needed : Value} {an_Plan_needed : Option Addr} {cd_Plan_needed : Value} {ct_Plan_needed : Value} {sl_Plan_needed : Array (Option Value)} {f_Plan_needed : Addr} {oc_Plan_many : Value} {od_Plan_many : Option Addr} {kV_Plan_many : Value} {dc_Plan_many : Value} {pm_Plan_many : Value} {an_Plan_many : Option Addr} {cd_Plan_many : Value} {ct_Plan_many : Value} {sl_Plan_many : Array (Option Value)} {f_Plan_many : Addr} {oc_Plan_job_at : Value} {od_Plan_job_at : Option Addr} {kV_Plan_job_at : Value} {dc_Plan_job_at : Value} {pm_Plan_job_at : Value} {an_Plan_job_at : Option Addr} {cd_Plan_job_at : Value} {ct_Plan_job_at : Value} {sl_Plan_job_at : Array (Option Value)} {f_Plan_job_at : Addr} {oc_Plan_place_of : Value} {od_Plan_place_of : Option Addr} {kV_Plan_place_of : Value} {dc_Plan_place_of : Value} {pm_Plan_place_of : Value} {an_Plan_place_of : Option Addr} {cd_Plan_place_of : Value} {ct_Plan_place_of : Value} {sl_Plan_place_of : Array (Option Value)} {f_Plan_place_of : Addr} {oc_law_cell_at : Value} {od_law_cell_at : Option Addr} {kV_law_cell_at : Value} {dc_law_cell_at : Value} {pm_law_cell_at : Value} {an_law_cell_at : Option Addr} {cd_law_cell_at : Value} {ct_law_cell_at : Value} {sl_law_cell_at : Array (Option Value)} {f_law_cell_at : Addr} {oc_law_mixed : Value} {od_law_mixed : Option Addr} {kV_law_mixed : Value} {dc_law_mixed : Value} {pm_law_mixed : Value} {an_law_mixed : Option Addr} {cd_law_mixed : Value} {ct_law_mixed : Value} {sl_law_mixed : Array (Option Value)} {f_law_mixed : Addr} {oc_law_whole : Value} {od_law_whole : Option Addr} {kV_law_whole : Value} {dc_law_whole : Value} {pm_law_whole : Value} {an_law_whole : Option Addr} {cd_law_whole : Value} {ct_law_whole : Value} {sl_law_whole : Array (Option Value)} {f_law_whole : Addr} {oc_law_numbers : Value} {od_law_numbers : Option Addr} {kV_law_numbers : Value} {dc_law_numbers : Value} {pm_law_numbers : Value} {an_law_numbers : Option Addr} {cd_law_numbers : Value} {ct_law_numbers : Value} {sl_law_numbers : Array (Option Value)} {f_law_numbers : Addr} {oc_law : Value} {od_law : Option Addr} {kV_law : Value} {dc_law : Value} {pm_law : Value} {an_law : Option Addr} {cd_law : Value} {ct_law : Value} {sl_law : Array (Option Value)} {f_law : Addr} (X : K.In h) (G : h.Ns mainGlobals mg) (hfa : mg "law" = some (.ref fa))
    (g_MOST_WAIT : PySem.W.nsIn K mainGlobals "MOST_WAIT" = some (some (.int (100000) tk_MOST_WAIT)))
    (g_LETTERS : PySem.W.nsIn K mainGlobals "LETTERS" = some (some (.str "abcdefghijklmnopqrstuvwxyz" tk_LETTERS)))
    (g_MOST_LETTERS : PySem.W.nsIn K mainGlobals "MOST_LETTERS" = some (some (.int (12) tk_MOST_LETTERS)))
    (g_MOST_NEEDS : PySem.W.nsIn K mainGlobals "MOST_NEEDS" = some (some (.int (8) tk_MOST_NEEDS)))
    (g_LEAST : PySem.W.nsIn K mainGlobals "LEAST" = some (some (.ref gLEAST)))
    (k_LEAST : K.lookup gLEAST = some ⟨.type "tuple", od_LEAST, .seq (List.toArray [.int (0) tk_LEAST_0, .int (1) tk_LEAST_1, .int (1) tk_LEAST_2, .int (0) tk_LEAST_3, .int (1) tk_LEAST_4]) sz_LEAST, sl_LEAST⟩)
    (g_MOST : PySem.W.nsIn K mainGlobals "MOST" = some (some (.ref gMOST)))
    (k_MOST : K.lookup gMOST = some ⟨.type "tuple", od_MOST, .seq (List.toArray [.int (99) tk_MOST_0, .int (1000) tk_MOST_1, .int (20) tk_MOST_2, .int (1000) tk_MOST_3, .int (4) tk_MOST_4]) sz_MOST, sl_MOST⟩)
    (g_MOST_JOBS : PySem.W.nsIn K mainGlobals "MOST_JOBS" = some (some (.int (40) tk_MOST_JOBS)))
    (b_bool : PySem.W.nsIn K mainGlobals "bool" = some none)
    (b_enumerate : PySem.W.nsIn K mainGlobals "enumerate" = some none)
    (b_int : PySem.W.nsIn K mainGlobals "int" = some none)
    (b_isinstance : PySem.W.nsIn K mainGlobals "isinstance" = some none)
    (b_len : PySem.W.nsIn K mainGlobals "len" = some none)
    (b_list : PySem.W.nsIn K mainGlobals "list" = some none)
    (b_min : PySem.W.nsIn K mainGlobals "min" = some none)
    (b_range : PySem.W.nsIn K mainGlobals "range" = some none)
    (b_str : PySem.W.nsIn K mainGlobals "str" = some none)
    (b_tuple : PySem.W.nsIn K mainGlobals "tuple" = some none)
    (m_Job : PySem.W.nsIn K mainGlobals "Job" = some (some (.ref cJob)))
    (pg_Job : PySem.W.plainGet K cJob Str.empty = true)
    (hd_Job : PySem.W.hasDictIn K cJob = true)
    (po_Job : PySem.W.plainOver K cJob = true)
    (sa_Job : PySem.W.findIn K (.ref cJob) "__setattr__" = some (some (.builtin "object.__setattr__")))
    (mk_Job : PySem.W.makesIn K cJob = true)
    (kc_Job : PySem.W.keepIn K (.ref cJob) = true)
    (ia_Job : PySem.W.findIn K (.ref cJob) "__class__" = some (some (.builtin "object.__class__")))
    (im_Job : PySem.W.mroIn K cJob (.type "object") = some true)
    (n_Job_name : PySem.W.findIn K (.ref cJob) "name" = some none)
    (n_Job_needs : PySem.W.findIn K (.ref cJob) "needs" = some none)
    (n_Job_rank : PySem.W.findIn K (.ref cJob) "rank" = some none)
    (n_Job_span : PySem.W.findIn K (.ref cJob) "span" = some none)
    (n_Job_tries : PySem.W.findIn K (.ref cJob) "tries" = some none)
    (n_Job_wait : PySem.W.findIn K (.ref cJob) "wait" = some none)
    (n_Job_grow : PySem.W.findIn K (.ref cJob) "grow" = some none)
    (m_Plan : PySem.W.nsIn K mainGlobals "Plan" = some (some (.ref cPlan)))
    (pg_Plan : PySem.W.plainGet K cPlan Str.empty = true)
    (hd_Plan : PySem.W.hasDictIn K cPlan = true)
    (po_Plan : PySem.W.plainOver K cPlan = true)
    (sa_Plan : PySem.W.findIn K (.ref cPlan) "__setattr__" = some (some (.builtin "object.__setattr__")))
    (mk_Plan : PySem.W.makesIn K cPlan = true)
    (kc_Plan : PySem.W.keepIn K (.ref cPlan) = true)
    (ia_Plan : PySem.W.findIn K (.ref cPlan) "__class__" = some (some (.builtin "object.__class__")))
    (im_Plan : PySem.W.mroIn K cPlan (.type "object") = some true)
    (n_Plan_jobs : PySem.W.findIn K (.ref cPlan) "jobs" = some none)
    (n_Plan_places : PySem.W.findIn K (.ref cPlan) "places" = some none)
    (zz_n : PySem.W.specialIn K (.builtin "object.__class__") "__get__" = some (some (.builtin "getset_descriptor.__get__")))
    (zz_t : PySem.W.takesIn K (.builtin "object.__class__") = some true)
    (a_wait_after : PySem.W.nsIn K mainGlobals "wait_after" = some (some (.ref f_wait_after)))
    (l_wait_after : K.lookup f_wait_after = some ⟨oc_wait_after, od_wait_after, .func (PySem.W.fnOf "wait_after" "wait_after" (defArgs s_wait_after) (defBody s_wait_after) (defScope s_wait_after) .none kV_wait_after dc_wait_after pm_wait_after an_wait_after cd_wait_after ct_wait_after), sl_wait_after⟩)
    (c_wait_after : PySem.W.codeIn K cd_wait_after "wait_after" = true)
    (k_wait_after : PySem.W.keepIn K (.ref f_wait_after) = true)
    (a_rest_sum : PySem.W.nsIn K mainGlobals "rest_sum" = some (some (.ref f_rest_sum)))
    (l_rest_sum : K.lookup f_rest_sum = some ⟨oc_rest_sum, od_rest_sum, .func (PySem.W.fnOf "rest_sum" "rest_sum" (defArgs s_rest_sum) (defBody s_rest_sum) (defScope s_rest_sum) .none kV_rest_sum dc_rest_sum pm_rest_sum an_rest_sum cd_rest_sum ct_rest_sum), sl_rest_sum⟩)
    (c_rest_sum : PySem.W.codeIn K cd_rest_sum "rest_sum" = true)
    (k_rest_sum : PySem.W.keepIn K (.ref f_rest_sum) = true)
    (a_bound : PySem.W.nsIn K mainGlobals "bound" = some (some (.ref f_bound)))
    (l_bound : K.lookup f_bound = some ⟨oc_bound, od_bound, .func (PySem.W.fnOf "bound" "bound" (defArgs s_bound) (defBody s_bound) (defScope s_bound) .none kV_bound dc_bound pm_bound an_bound cd_bound ct_bound), sl_bound⟩)
    (c_bound : PySem.W.codeIn K cd_bound "bound" = true)
    (k_bound : PySem.W.keepIn K (.ref f_bound) = true)
    (a_is_whole : PySem.W.nsIn K mainGlobals "is_whole" = some (some (.ref f_is_whole)))
    (l_is_whole : K.lookup f_is_whole = some ⟨oc_is_whole, od_is_whole, .func (PySem.W.fnOf "is_whole" "is_whole" (defArgs s_is_whole) (defBody s_is_whole) (defScope s_is_whole) .none kV_is_whole dc_is_whole pm_is_whole an_is_whole cd_is_whole ct_is_whole), sl_is_whole⟩)
    (c_is_whole : PySem.W.codeIn K cd_is_whole "is_whole" = true)
    (k_is_whole : PySem.W.keepIn K (.ref f_is_whole) = true)
    (a_is_among : PySem.W.nsIn K mainGlobals "is_among" = some (some (.ref f_is_among)))
    (l_is_among : K.lookup f_is_among = some ⟨oc_is_among, od_is_among, .func (PySem.W.fnOf "is_among" "is_among" (defArgs s_is_among) (defBody s_is_among) (defScope s_is_among) .none kV_is_among dc_is_among pm_is_among an_is_among cd_is_among ct_is_among), sl_is_among⟩)
    (c_is_among : PySem.W.codeIn K cd_is_among "is_among" = true)
    (k_is_among : PySem.W.keepIn K (.ref f_is_among) = true)
    (a_is_made_of : PySem.W.nsIn K mainGlobals "is_made_of" = some (some (.ref f_is_made_of)))
    (l_is_made_of : K.lookup f_is_made_of = some ⟨oc_is_made_of, od_is_made_of, .func (PySem.W.fnOf "is_made_of" "is_made_of" (defArgs s_is_made_of) (defBody s_is_made_of) (defScope s_is_made_of) .none kV_is_made_of dc_is_made_of pm_is_made_of an_is_made_of cd_is_made_of ct_is_made_of), sl_is_made_of⟩)
    (c_is_made_of : PySem.W.codeIn K cd_is_made_of "is_made_of" = true)
    (k_is_made_of : PySem.W.keepIn K (.ref f_is_made_of) = true)
    (a_is_name : PySem.W.nsIn K mainGlobals "is_name" = some (some (.ref f_is_name)))
    (l_is_name : K.lookup f_is_name = some ⟨oc_is_name, od_is_name, .func (PySem.W.fnOf "is_name" "is_name" (defArgs s_is_name) (defBody s_is_name) (defScope s_is_name) .none kV_is_name dc_is_name pm_is_name an_is_name cd_is_name ct_is_name), sl_is_name⟩)
    (c_is_name : PySem.W.codeIn K cd_is_name "is_name" = true)
    (k_is_name : PySem.W.keepIn K (.ref f_is_name) = true)
    (a_own_needs : PySem.W.nsIn K mainGlobals "own_needs" = some (some (.ref f_own_needs)))
    (l_own_needs : K.lookup f_own_needs = some ⟨oc_own_needs, od_own_needs, .func (PySem.W.fnOf "own_needs" "own_needs" (defArgs s_own_needs) (defBody s_own_needs) (defScope s_own_needs) .none kV_own_needs dc_own_needs pm_own_needs an_own_needs cd_own_needs ct_own_needs), sl_own_needs⟩)
    (c_own_needs : PySem.W.codeIn K cd_own_needs "own_needs" = true)
    (k_own_needs : PySem.W.keepIn K (.ref f_own_needs) = true)
    (a_need_numbers : PySem.W.nsIn K mainGlobals "need_numbers" = some (some (.ref f_need_numbers)))
    (l_need_numbers : K.lookup f_need_numbers = some ⟨oc_need_numbers, od_need_numbers, .func (PySem.W.fnOf "need_numbers" "need_numbers" (defArgs s_need_numbers) (defBody s_need_numbers) (defScope s_need_numbers) .none kV_need_numbers dc_need_numbers pm_need_numbers an_need_numbers cd_need_numbers ct_need_numbers), sl_need_numbers⟩)
    (c_need_numbers : PySem.W.codeIn K cd_need_numbers "need_numbers" = true)
    (k_need_numbers : PySem.W.keepIn K (.ref f_need_numbers) = true)
    (a_Job_init : PySem.W.findIn K (.ref cJob) "__init__" = some (some (.ref f_Job_init)))
    (i_Job_init : PySem.W.isFn K (.ref f_Job_init) = true)
    (l_Job_init : K.lookup f_Job_init = some ⟨oc_Job_init, od_Job_init, .func (PySem.W.fnOf "__init__" "Job.__init__" (defArgs s_Job_init) (defBody s_Job_init) (defScope s_Job_init) (.ref D_Job_init) kV_Job_init dc_Job_init pm_Job_init an_Job_init cd_Job_init ct_Job_init), sl_Job_init⟩)
    (c_Job_init : PySem.W.codeIn K cd_Job_init "Job.__init__" = true)
    (k_Job_init : PySem.W.keepIn K (.ref f_Job_init) = true)
    (dl_Job_init : K.lookup D_Job_init = some ⟨doc_Job_init, dod_Job_init, .seq (List.toArray [.none, .int (0) dt_Job_init_1, .int (1) dt_Job_init_2, .int (1) dt_Job_init_3, .int (0) dt_Job_init_4, .int (1) dt_Job_init_5]) dn_Job_init, dsl_Job_init⟩)
    (a_can_stand : PySem.W.nsIn K mainGlobals "can_stand" = some (some (.ref f_can_stand)))
    (l_can_stand : K.lookup f_can_stand = some ⟨oc_can_stand, od_can_stand, .func (PySem.W.fnOf "can_stand" "can_stand" (defArgs s_can_stand) (defBody s_can_stand) (defScope s_can_stand) .none kV_can_stand dc_can_stand pm_can_stand an_can_stand cd_can_stand ct_can_stand), sl_can_stand⟩)
    (c_can_stand : PySem.W.codeIn K cd_can_stand "can_stand" = true)
    (k_can_stand : PySem.W.keepIn K (.ref f_can_stand) = true)
    (a_next_place : PySem.W.nsIn K mainGlobals "next_place" = some (some (.ref f_next_place)))
    (l_next_place : K.lookup f_next_place = some ⟨oc_next_place, od_next_place, .func (PySem.W.fnOf "next_place" "next_place" (defArgs s_next_place) (defBody s_next_place) (defScope s_next_place) .none kV_next_place dc_next_place pm_next_place an_next_place cd_next_place ct_next_place), sl_next_place⟩)
    (c_next_place : PySem.W.codeIn K cd_next_place "next_place" = true)
    (k_next_place : PySem.W.keepIn K (.ref f_next_place) = true)
    (a_beginning : PySem.W.nsIn K mainGlobals "beginning" = some (some (.ref f_beginning)))
    (l_beginning : K.lookup f_beginning = some ⟨oc_beginning, od_beginning, .func (PySem.W.fnOf "beginning" "beginning" (defArgs s_beginning) (defBody s_beginning) (defScope s_beginning) .none kV_beginning dc_beginning pm_beginning an_beginning cd_beginning ct_beginning), sl_beginning⟩)
    (c_beginning : PySem.W.codeIn K cd_beginning "beginning" = true)
    (k_beginning : PySem.W.keepIn K (.ref f_beginning) = true)
    (a_ring_of : PySem.W.nsIn K mainGlobals "ring_of" = some (some (.ref f_ring_of)))
    (l_ring_of : K.lookup f_ring_of = some ⟨oc_ring_of, od_ring_of, .func (PySem.W.fnOf "ring_of" "ring_of" (defArgs s_ring_of) (defBody s_ring_of) (defScope s_ring_of) .none kV_ring_of dc_ring_of pm_ring_of an_ring_of cd_ring_of ct_ring_of), sl_ring_of⟩)
    (c_ring_of : PySem.W.codeIn K cd_ring_of "ring_of" = true)
    (k_ring_of : PySem.W.keepIn K (.ref f_ring_of) = true)
    (a_own_jobs : PySem.W.nsIn K mainGlobals "own_jobs" = some (some (.ref f_own_jobs)))
    (l_own_jobs : K.lookup f_own_jobs = some ⟨oc_own_jobs, od_own_jobs, .func (PySem.W.fnOf "own_jobs" "own_jobs" (defArgs s_own_jobs) (defBody s_own_jobs) (defScope s_own_jobs) .none kV_own_jobs dc_own_jobs pm_own_jobs an_own_jobs cd_own_jobs ct_own_jobs), sl_own_jobs⟩)
    (c_own_jobs : PySem.W.codeIn K cd_own_jobs "own_jobs" = true)
    (k_own_jobs : PySem.W.keepIn K (.ref f_own_jobs) = true)
    (a_places_of : PySem.W.nsIn K mainGlobals "places_of" = some (some (.ref f_places_of)))
    (l_places_of : K.lookup f_places_of = some ⟨oc_places_of, od_places_of, .func (PySem.W.fnOf "places_of" "places_of" (defArgs s_places_of) (defBody s_places_of) (defScope s_places_of) .none kV_places_of dc_places_of pm_places_of an_places_of cd_places_of ct_places_of), sl_places_of⟩)
    (c_places_of : PySem.W.codeIn K cd_places_of "places_of" = true)
    (k_places_of : PySem.W.keepIn K (.ref f_places_of) = true)
    (a_Plan_init : PySem.W.findIn K (.ref cPlan) "__init__" = some (some (.ref f_Plan_init)))
    (i_Plan_init : PySem.W.isFn K (.ref f_Plan_init) = true)
    (l_Plan_init : K.lookup f_Plan_init = some ⟨oc_Plan_init, od_Plan_init, .func (PySem.W.fnOf "__init__" "Plan.__init__" (defArgs s_Plan_init) (defBody s_Plan_init) (defScope s_Plan_init) .none kV_Plan_init dc_Plan_init pm_Plan_init an_Plan_init cd_Plan_init ct_Plan_init), sl_Plan_init⟩)
    (c_Plan_init : PySem.W.codeIn K cd_Plan_init "Plan.__init__" = true)
    (k_Plan_init : PySem.W.keepIn K (.ref f_Plan_init) = true)
    (a_Plan_needed : PySem.W.findIn K (.ref cPlan) "needed" = some (some (.ref f_Plan_needed)))
    (i_Plan_needed : PySem.W.isFn K (.ref f_Plan_needed) = true)
    (l_Plan_needed : K.lookup f_Plan_needed = some ⟨oc_Plan_needed, od_Plan_needed, .func (PySem.W.fnOf "needed" "Plan.needed" (defArgs s_Plan_needed) (defBody s_Plan_needed) (defScope s_Plan_needed) .none kV_Plan_needed dc_Plan_needed pm_Plan_needed an_Plan_needed cd_Plan_needed ct_Plan_needed), sl_Plan_needed⟩)
    (c_Plan_needed : PySem.W.codeIn K cd_Plan_needed "Plan.needed" = true)
    (k_Plan_needed : PySem.W.keepIn K (.ref f_Plan_needed) = true)
    (a_Plan_many : PySem.W.findIn K (.ref cPlan) "many" = some (some (.ref f_Plan_many)))
    (i_Plan_many : PySem.W.isFn K (.ref f_Plan_many) = true)
    (l_Plan_many : K.lookup f_Plan_many = some ⟨oc_Plan_many, od_Plan_many, .func (PySem.W.fnOf "many" "Plan.many" (defArgs s_Plan_many) (defBody s_Plan_many) (defScope s_Plan_many) .none kV_Plan_many dc_Plan_many pm_Plan_many an_Plan_many cd_Plan_many ct_Plan_many), sl_Plan_many⟩)
    (c_Plan_many : PySem.W.codeIn K cd_Plan_many "Plan.many" = true)
    (k_Plan_many : PySem.W.keepIn K (.ref f_Plan_many) = true)
    (a_Plan_job_at : PySem.W.findIn K (.ref cPlan) "job_at" = some (some (.ref f_Plan_job_at)))
    (i_Plan_job_at : PySem.W.isFn K (.ref f_Plan_job_at) = true)
    (l_Plan_job_at : K.lookup f_Plan_job_at = some ⟨oc_Plan_job_at, od_Plan_job_at, .func (PySem.W.fnOf "job_at" "Plan.job_at" (defArgs s_Plan_job_at) (defBody s_Plan_job_at) (defScope s_Plan_job_at) .none kV_Plan_job_at dc_Plan_job_at pm_Plan_job_at an_Plan_job_at cd_Plan_job_at ct_Plan_job_at), sl_Plan_job_at⟩)
    (c_Plan_job_at : PySem.W.codeIn K cd_Plan_job_at "Plan.job_at" = true)
    (k_Plan_job_at : PySem.W.keepIn K (.ref f_Plan_job_at) = true)
    (a_Plan_place_of : PySem.W.findIn K (.ref cPlan) "place_of" = some (some (.ref f_Plan_place_of)))
    (i_Plan_place_of : PySem.W.isFn K (.ref f_Plan_place_of) = true)
    (l_Plan_place_of : K.lookup f_Plan_place_of = some ⟨oc_Plan_place_of, od_Plan_place_of, .func (PySem.W.fnOf "place_of" "Plan.place_of" (defArgs s_Plan_place_of) (defBody s_Plan_place_of) (defScope s_Plan_place_of) .none kV_Plan_place_of dc_Plan_place_of pm_Plan_place_of an_Plan_place_of cd_Plan_place_of ct_Plan_place_of), sl_Plan_place_of⟩)
    (c_Plan_place_of : PySem.W.codeIn K cd_Plan_place_of "Plan.place_of" = true)
    (k_Plan_place_of : PySem.W.keepIn K (.ref f_Plan_place_of) = true)
    (a_law_cell_at : PySem.W.nsIn K mainGlobals "_law_cell_at" = some (some (.ref f_law_cell_at)))
    (l_law_cell_at : K.lookup f_law_cell_at = some ⟨oc_law_cell_at, od_law_cell_at, .func (PySem.W.fnOf "_law_cell_at" "_law_cell_at" (defArgs s_law_cell_at) (defBody s_law_cell_at) (defScope s_law_cell_at) .none kV_law_cell_at dc_law_cell_at pm_law_cell_at an_law_cell_at cd_law_cell_at ct_law_cell_at), sl_law_cell_at⟩)
    (c_law_cell_at : PySem.W.codeIn K cd_law_cell_at "_law_cell_at" = true)
    (k_law_cell_at : PySem.W.keepIn K (.ref f_law_cell_at) = true)
    (a_law_mixed : PySem.W.nsIn K mainGlobals "_law_mixed" = some (some (.ref f_law_mixed)))
    (l_law_mixed : K.lookup f_law_mixed = some ⟨oc_law_mixed, od_law_mixed, .func (PySem.W.fnOf "_law_mixed" "_law_mixed" (defArgs s_law_mixed) (defBody s_law_mixed) (defScope s_law_mixed) .none kV_law_mixed dc_law_mixed pm_law_mixed an_law_mixed cd_law_mixed ct_law_mixed), sl_law_mixed⟩)
    (c_law_mixed : PySem.W.codeIn K cd_law_mixed "_law_mixed" = true)
    (k_law_mixed : PySem.W.keepIn K (.ref f_law_mixed) = true)
    (a_law_whole : PySem.W.nsIn K mainGlobals "_law_whole" = some (some (.ref f_law_whole)))
    (l_law_whole : K.lookup f_law_whole = some ⟨oc_law_whole, od_law_whole, .func (PySem.W.fnOf "_law_whole" "_law_whole" (defArgs s_law_whole) (defBody s_law_whole) (defScope s_law_whole) .none kV_law_whole dc_law_whole pm_law_whole an_law_whole cd_law_whole ct_law_whole), sl_law_whole⟩)
    (c_law_whole : PySem.W.codeIn K cd_law_whole "_law_whole" = true)
    (k_law_whole : PySem.W.keepIn K (.ref f_law_whole) = true)
    (a_law_numbers : PySem.W.nsIn K mainGlobals "_law_numbers" = some (some (.ref f_law_numbers)))
    (l_law_numbers : K.lookup f_law_numbers = some ⟨oc_law_numbers, od_law_numbers, .func (PySem.W.fnOf "_law_numbers" "_law_numbers" (defArgs s_law_numbers) (defBody s_law_numbers) (defScope s_law_numbers) .none kV_law_numbers dc_law_numbers pm_law_numbers an_law_numbers cd_law_numbers ct_law_numbers), sl_law_numbers⟩)
    (c_law_numbers : PySem.W.codeIn K cd_law_numbers "_law_numbers" = true)
    (k_law_numbers : PySem.W.keepIn K (.ref f_law_numbers) = true)
    (a_law : PySem.W.nsIn K mainGlobals "law" = some (some (.ref f_law)))
    (l_law : K.lookup f_law = some ⟨oc_law, od_law, .func (PySem.W.fnOf "law" "law" (defArgs s_law) (defBody s_law) (defScope s_law) .none kV_law dc_law pm_law an_law cd_law ct_law), sl_law⟩)
    (c_law : PySem.W.codeIn K cd_law "law" = true)
    (k_law : PySem.W.keepIn K (.ref f_law) = true) :
    ∃ fd : FuncData, (∀ (s : Shared) (v : Value), BindsTo s fd ⟨[v], []⟩ [("_law_script", v)]) ∧ ∀ base : Heap, K.In base → base.Ns mainGlobals mg → FnOk l.prog w K mg base (L2.CX l.prog w) 7 fa fd ["_law_script"] (lift (S_law K ⟨0, 0, 0, 0, 0, 0, 0, 0, 0, 0, 0, 0⟩)) := by
  exact all_mk' (a := ⟨0, 0, 0, 0, 0, 0, 0, 0, cJob, cPlan, gLEAST, gMOST⟩) X G hfa g_MOST_WAIT g_LETTERS g_MOST_LETTERS g_MOST_NEEDS g_LEAST k_LEAST g_MOST k_MOST g_MOST_JOBS b_bool b_enumerate b_int b_isinstance b_len b_list b_min b_range b_str b_tuple m_Job pg_Job hd_Job po_Job sa_Job mk_Job kc_Job ia_Job im_Job n_Job_name n_Job_needs n_Job_rank n_Job_span n_Job_tries n_Job_wait n_Job_grow m_Plan pg_Plan hd_Plan po_Plan sa_Plan mk_Plan kc_Plan ia_Plan im_Plan n_Plan_jobs n_Plan_places zz_n zz_t a_wait_after l_wait_after c_wait_after k_wait_after a_rest_sum l_rest_sum c_rest_sum k_rest_sum a_bound l_bound c_bound k_bound a_is_whole l_is_whole c_is_whole k_is_whole a_is_among l_is_among c_is_among k_is_among a_is_made_of l_is_made_of c_is_made_of k_is_made_of a_is_name l_is_name c_is_name k_is_name a_own_needs l_own_needs c_own_needs k_own_needs a_need_numbers l_need_numbers c_need_numbers k_need_numbers a_Job_init i_Job_init l_Job_init c_Job_init k_Job_init dl_Job_init a_can_stand l_can_stand c_can_stand k_can_stand a_next_place l_next_place c_next_place k_next_place a_beginning l_beginning c_beginning k_beginning a_ring_of l_ring_of c_ring_of k_ring_of a_own_jobs l_own_jobs c_own_jobs k_own_jobs a_places_of l_places_of c_places_of k_places_of a_Plan_init i_Plan_init l_Plan_init c_Plan_init k_Plan_init a_Plan_needed i_Plan_needed l_Plan_needed c_Plan_needed k_Plan_needed a_Plan_many i_Plan_many l_Plan_many c_Plan_many k_Plan_many a_Plan_job_at i_Plan_job_at l_Plan_job_at c_Plan_job_at k_Plan_job_at a_Plan_place_of i_Plan_place_of l_Plan_place_of c_Plan_place_of k_Plan_place_of a_law_cell_at l_law_cell_at c_law_cell_at k_law_cell_at a_law_mixed l_law_mixed c_law_mixed k_law_mixed a_law_whole l_law_whole c_law_whole k_law_whole a_law_numbers l_law_numbers c_law_numbers k_law_numbers a_law l_law c_law k_law
theorem walk {l : PySem.W.OpenLaw} {q : Program} {loose : List Str} {XP : (Str → Option Value) → Heap → Prop} {YP : World → Heap → Prop} {d : DefRec} {K : Params → PySem.W.Frag} (hn : l.most = some 63) (hdf : d.params.defaults = [])
    (hY : ∀ (w : World) (h : Heap), YP w h → (K w.params).In h)
    (F : ∀ (w : World) (mg : Str → Option Value) (fa : Addr) (h : Heap), (K w.params).In h → h.Ns mainGlobals mg → mg d.name = some (.ref fa) →
      ∃ fd : FuncData, (∀ (s : Shared) (u : Value), BindsTo s fd ⟨[u], []⟩ [("_law_script", u)]) ∧ ∀ base : Heap, (K w.params).In base → base.Ns mainGlobals mg → FnOk l.prog w (K w.params) mg base (L2.CX l.prog w) 7 fa fd ["_law_script"] (lift (S_law (K w.params) ⟨0, 0, 0, 0, 0, 0, 0, 0, 0, 0, 0, 0⟩))) :
    PySem.W.WalkO q loose XP YP l.row.toRowW d [] (fun f vs => PySem.call f vs) :=
  L2.walk_of (n := 63) (k := 7) (x := "_law_script") (CX := fun w => L2.CX l.prog w) (sp := fun w => lift (S_law (K w.params) ⟨0, 0, 0, 0, 0, 0, 0, 0, 0, 0, 0, 0⟩)) hn (by decide) hdf ⟨rfl, by decide, by decide⟩ hY F (fun w H a ns hl _ hS => law_in hS fun A hA => ⟨a, ns, rfl, hA, hl, rfl⟩) fun w H s e s' z => cx_no z

end S
open PySem PySem.W PyProof.Rows in
set_option maxRecDepth 100000 in
set_option maxHeartbeats 0 in
theorem PySem.Challenge.cw_buildhall_k30_bounds_holds : PySem.Challenge.rw_buildhall_k30_bounds.Holds := by
  w_on; o_law; k_head; (case hw => w_witness2)
  k_fill
  refine S.walk (l := PySem.Challenge.rw_buildhall_k30_bounds) rfl rfl (fun w h Y => PySem.W.kIn_of Y) ?F
  case F =>
    intro w mg fa h KX G hmg0
    have hmg : mg (PySem.Str.ofString "law") = some (.ref fa) := hmg0
    clear hmg0
    refine' S.all_mk KX G hmg ?g_MOST_WAIT ?g_LETTERS ?g_MOST_LETTERS ?g_MOST_NEEDS ?g_LEAST ?k_LEAST ?g_MOST ?k_MOST ?g_MOST_JOBS ?b_bool ?b_enumerate ?b_int ?b_isinstance ?b_len ?b_list ?b_min ?b_range ?b_str ?b_tuple ?m_Job ?pg_Job ?hd_Job ?po_Job ?sa_Job ?mk_Job ?kc_Job ?ia_Job ?im_Job ?n_Job_name ?n_Job_needs ?n_Job_rank ?n_Job_span ?n_Job_tries ?n_Job_wait ?n_Job_grow ?m_Plan ?pg_Plan ?hd_Plan ?po_Plan ?sa_Plan ?mk_Plan ?kc_Plan ?ia_Plan ?im_Plan ?n_Plan_jobs ?n_Plan_places ?zz_n ?zz_t ?a_wait_after ?l_wait_after ?c_wait_after ?k_wait_after ?a_rest_sum ?l_rest_sum ?c_rest_sum ?k_rest_sum ?a_bound ?l_bound ?c_bound ?k_bound ?a_is_whole ?l_is_whole ?c_is_whole ?k_is_whole ?a_is_among ?l_is_among ?c_is_among ?k_is_among ?a_is_made_of ?l_is_made_of ?c_is_made_of ?k_is_made_of ?a_is_name ?l_is_name ?c_is_name ?k_is_name ?a_own_needs ?l_own_needs ?c_own_needs ?k_own_needs ?a_need_numbers ?l_need_numbers ?c_need_numbers ?k_need_numbers ?a_Job_init ?i_Job_init ?l_Job_init ?c_Job_init ?k_Job_init ?dl_Job_init ?a_can_stand ?l_can_stand ?c_can_stand ?k_can_stand ?a_next_place ?l_next_place ?c_next_place ?k_next_place ?a_beginning ?l_beginning ?c_beginning ?k_beginning ?a_ring_of ?l_ring_of ?c_ring_of ?k_ring_of ?a_own_jobs ?l_own_jobs ?c_own_jobs ?k_own_jobs ?a_places_of ?l_places_of ?c_places_of ?k_places_of ?a_Plan_init ?i_Plan_init ?l_Plan_init ?c_Plan_init ?k_Plan_init ?a_Plan_needed ?i_Plan_needed ?l_Plan_needed ?c_Plan_needed ?k_Plan_needed ?a_Plan_many ?i_Plan_many ?l_Plan_many ?c_Plan_many ?k_Plan_many ?a_Plan_job_at ?i_Plan_job_at ?l_Plan_job_at ?c_Plan_job_at ?k_Plan_job_at ?a_Plan_place_of ?i_Plan_place_of ?l_Plan_place_of ?c_Plan_place_of ?k_Plan_place_of ?a_law_cell_at ?l_law_cell_at ?c_law_cell_at ?k_law_cell_at ?a_law_mixed ?l_law_mixed ?c_law_mixed ?k_law_mixed ?a_law_whole ?l_law_whole ?c_law_whole ?k_law_whole ?a_law_numbers ?l_law_numbers ?c_law_numbers ?k_law_numbers ?a_law ?l_law ?c_law ?k_law
    (case g_MOST_WAIT => k_is)
    (case g_LETTERS => k_is)
    (case g_MOST_LETTERS => k_is)
    (case g_MOST_NEEDS => k_is)
    (case g_LEAST => k_is)
    (case k_LEAST => k_is)
    (case g_MOST => k_is)
    (case k_MOST => k_is)
    (case g_MOST_JOBS => k_is)
    (case b_bool => k_is)
    (case b_enumerate => k_is)
    (case b_int => k_is)
    (case b_isinstance => k_is)
    (case b_len => k_is)
    (case b_list => k_is)
    (case b_min => k_is)
    (case b_range => k_is)
    (case b_str => k_is)
    (case b_tuple => k_is)
    (case m_Job => k_is)
    (case pg_Job => k_is)
    (case hd_Job => k_is)
    (case po_Job => k_is)
    (case sa_Job => k_is)
    (case mk_Job => k_is)
    (case kc_Job => k_is)
    (case ia_Job => k_is)
    (case im_Job => k_is)
    (case n_Job_name => k_is)
    (case n_Job_needs => k_is)
    (case n_Job_rank => k_is)
    (case n_Job_span => k_is)
    (case n_Job_tries => k_is)
    (case n_Job_wait => k_is)
    (case n_Job_grow => k_is)
    (case m_Plan => k_is)
    (case pg_Plan => k_is)
    (case hd_Plan => k_is)
    (case po_Plan => k_is)
    (case sa_Plan => k_is)
    (case mk_Plan => k_is)
    (case kc_Plan => k_is)
    (case ia_Plan => k_is)
    (case im_Plan => k_is)
    (case n_Plan_jobs => k_is)
    (case n_Plan_places => k_is)
    (case zz_n => k_is)
    (case zz_t => k_is)
    (case a_wait_after => k_is)
    (case l_wait_after => k_is)
    (case c_wait_after => k_is)
    (case k_wait_after => k_is)
    (case a_rest_sum => k_is)
    (case l_rest_sum => k_is)
    (case c_rest_sum => k_is)
    (case k_rest_sum => k_is)
    (case a_bound => k_is)
    (case l_bound => k_is)
    (case c_bound => k_is)
    (case k_bound => k_is)
    (case a_is_whole => k_is)
    (case l_is_whole => k_is)
    (case c_is_whole => k_is)
    (case k_is_whole => k_is)
    (case a_is_among => k_is)
    (case l_is_among => k_is)
    (case c_is_among => k_is)
    (case k_is_among => k_is)
    (case a_is_made_of => k_is)
    (case l_is_made_of => k_is)
    (case c_is_made_of => k_is)
    (case k_is_made_of => k_is)
    (case a_is_name => k_is)
    (case l_is_name => k_is)
    (case c_is_name => k_is)
    (case k_is_name => k_is)
    (case a_own_needs => k_is)
    (case l_own_needs => k_is)
    (case c_own_needs => k_is)
    (case k_own_needs => k_is)
    (case a_need_numbers => k_is)
    (case l_need_numbers => k_is)
    (case c_need_numbers => k_is)
    (case k_need_numbers => k_is)
    (case a_Job_init => k_is)
    (case i_Job_init => k_is)
    (case l_Job_init => k_is)
    (case c_Job_init => k_is)
    (case k_Job_init => k_is)
    (case dl_Job_init => k_is)
    (case a_can_stand => k_is)
    (case l_can_stand => k_is)
    (case c_can_stand => k_is)
    (case k_can_stand => k_is)
    (case a_next_place => k_is)
    (case l_next_place => k_is)
    (case c_next_place => k_is)
    (case k_next_place => k_is)
    (case a_beginning => k_is)
    (case l_beginning => k_is)
    (case c_beginning => k_is)
    (case k_beginning => k_is)
    (case a_ring_of => k_is)
    (case l_ring_of => k_is)
    (case c_ring_of => k_is)
    (case k_ring_of => k_is)
    (case a_own_jobs => k_is)
    (case l_own_jobs => k_is)
    (case c_own_jobs => k_is)
    (case k_own_jobs => k_is)
    (case a_places_of => k_is)
    (case l_places_of => k_is)
    (case c_places_of => k_is)
    (case k_places_of => k_is)
    (case a_Plan_init => k_is)
    (case i_Plan_init => k_is)
    (case l_Plan_init => k_is)
    (case c_Plan_init => k_is)
    (case k_Plan_init => k_is)
    (case a_Plan_needed => k_is)
    (case i_Plan_needed => k_is)
    (case l_Plan_needed => k_is)
    (case c_Plan_needed => k_is)
    (case k_Plan_needed => k_is)
    (case a_Plan_many => k_is)
    (case i_Plan_many => k_is)
    (case l_Plan_many => k_is)
    (case c_Plan_many => k_is)
    (case k_Plan_many => k_is)
    (case a_Plan_job_at => k_is)
    (case i_Plan_job_at => k_is)
    (case l_Plan_job_at => k_is)
    (case c_Plan_job_at => k_is)
    (case k_Plan_job_at => k_is)
    (case a_Plan_place_of => k_is)
    (case i_Plan_place_of => k_is)
    (case l_Plan_place_of => k_is)
    (case c_Plan_place_of => k_is)
    (case k_Plan_place_of => k_is)
    (case a_law_cell_at => k_is)
    (case l_law_cell_at => k_is)
    (case c_law_cell_at => k_is)
    (case k_law_cell_at => k_is)
    (case a_law_mixed => k_is)
    (case l_law_mixed => k_is)
    (case c_law_mixed => k_is)
    (case k_law_mixed => k_is)
    (case a_law_whole => k_is)
    (case l_law_whole => k_is)
    (case c_law_whole => k_is)
    (case k_law_whole => k_is)
    (case a_law_numbers => k_is)
    (case l_law_numbers => k_is)
    (case c_law_numbers => k_is)
    (case k_law_numbers => k_is)
    (case a_law => k_is)
    (case l_law => k_is)
    (case c_law => k_is)
    (case k_law => k_is)
