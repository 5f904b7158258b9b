import PyProof.Rows.All
import Wide.All
import OpenK.AllK
import Wide.FinOn
import HandS.ForMost
import HandS.ForExc
import HandS.IsInst
import HandS.Defaults
import HandS.CallSlots
import HandS.Star
import HandS.Wide
import HandS.TupLe
import HandS.SortInts
import HandS.EndBits
import HandS.MakeKw
import HandS.Style
import HandS.Conv
import HandS.Codes
import PySem.Challenge.RW_buildhall_k07_rests_behind_failings
set_option Elab.async false
set_option linter.all false
set_option maxRecDepth 100000
set_option maxHeartbeats 4000000
namespace S
open PySem L2

/-! ### symbolic heaps: a list of parts that stand apart -/
abbrev SH := List Hp
def Sub (h H : Hp) : Prop := ∀ a o, h a = some o → H a = some o
def Dj (h g : Hp) : Prop := ∀ a o u, h a = some o → g a = some u → False
def Has (H : Hp) (A : SH) : Prop := (∀ h ∈ A, Sub h H) ∧ A.Pairwise Dj
def sg (p : Addr) (o : HO) : Hp := fun a => if a = p then some o else none
def emp : Hp := fun _ => none
/-- what stands in A' stands in A, too -/
def Le (A A' : SH) : Prop := ∀ H, Has H A' → Has H A
inductive Pull : SH → Hp → SH → Prop
  | head {h : Hp} {A : SH} : Pull (h :: A) h A
  | tail {h g : Hp} {A B : SH} : Pull A h B → Pull (g :: A) h (g :: B)

theorem sg_same {p : Addr} {o : HO} : sg p o p = some o := by unfold sg; rw [if_pos rfl]
theorem sg_some {p a : Addr} {o u : HO} (h : sg p o a = some u) : a = p ∧ u = o := by
  unfold sg at h
  by_cases e : a = p
  · rw [if_pos e] at h
    exact ⟨e, (Option.some.inj h).symm⟩
  · rw [if_neg e] at h
    cases h
theorem Dj.symm {h g : Hp} (d : Dj h g) : Dj g h := fun a o u x y => d a u o y x
theorem Has.nil {H : Hp} : Has H [] := ⟨fun _ h => (nomatch h), .nil⟩
theorem Has.tail {H h : Hp} {A : SH} (x : Has H (h :: A)) : Has H A := ⟨fun g hg => x.1 g (List.mem_cons_of_mem _ hg), (List.pairwise_cons.mp x.2).2⟩
theorem Has.head {H h : Hp} {A : SH} (x : Has H (h :: A)) : Sub h H := x.1 h List.mem_cons_self
theorem Has.dj {H h g : Hp} {A : SH} (x : Has H (h :: A)) (hg : g ∈ A) : Dj h g := (List.pairwise_cons.mp x.2).1 g hg
theorem Has.cons {H h : Hp} {A : SH} (x : Has H A) (s : Sub h H) (d : ∀ g ∈ A, Dj h g) : Has H (h :: A) :=
  ⟨fun g hg => by
    rcases List.mem_cons.mp hg with e | hg
    · rw [e]; exact s
    · exact x.1 g hg, List.pairwise_cons.mpr ⟨d, x.2⟩⟩
theorem Pull.mem {A B : SH} {h : Hp} (p : Pull A h B) : h ∈ A := by
  induction p with
  | head => exact List.mem_cons_self
  | tail _ ih => exact List.mem_cons_of_mem _ ih
theorem Pull.sub {A B : SH} {h : Hp} (p : Pull A h B) : ∀ g ∈ B, g ∈ A := by
  induction p with
  | head => exact fun g hg => List.mem_cons_of_mem _ hg
  | tail _ ih =>
    intro g hg
    rcases List.mem_cons.mp hg with e | hg
    · rw [e]; exact List.mem_cons_self
    · exact List.mem_cons_of_mem _ (ih g hg)
theorem Pull.has {A B : SH} {h : Hp} (p : Pull A h B) : ∀ {H : Hp}, Has H A → Has H (h :: B) := by
  induction p with
  | head => exact fun x => x
  | @tail h g A B p ih =>
    intro H x
    have y := ih x.tail
    refine (Has.cons (Has.cons y.tail x.head fun u hu => x.dj (p.sub u hu)) y.head fun u hu => ?_)
    rcases List.mem_cons.mp hu with e | hu
    · rw [e]; exact (x.dj p.mem).symm
    · exact y.dj hu
theorem Le.refl {A : SH} : Le A A := fun _ h => h
theorem Le.trans {A B C : SH} (a : Le A B) (b : Le B C) : Le A C := fun H h => a H (b H h)
theorem Le.drop {A A' : SH} {g : Hp} (a : Le A A') : Le A (g :: A') := fun H h => a H h.tail
theorem Le.nil {A : SH} : Le [] A := fun _ _ => Has.nil
theorem Le.keep {A B : SH} {g : Hp} (a : Le A B) (d : ∀ H, Has H (g :: B) → ∀ u ∈ A, Dj g u) : Le (g :: A) (g :: B) := fun H h => Has.cons (a H h.tail) h.head (d H h)
/-- A is B with some left out, in any order -/
inductive Sl : SH → SH → Prop
  | refl {A : SH} : Sl A A
  | nil {A : SH} : Sl [] A
  | drop {A B : SH} {g : Hp} : Sl A B → Sl A (g :: B)
  | pull {A B C : SH} {g : Hp} : Pull B g C → Sl A C → Sl (g :: A) B
theorem Sl.mem {A B : SH} (s : Sl A B) : ∀ g ∈ A, g ∈ B := by
  induction s with
  | refl => exact fun _ h => h
  | nil => exact fun _ h => nomatch h
  | drop _ ih => exact fun g h => List.mem_cons_of_mem _ (ih g h)
  | pull p _ ih =>
    intro g h
    rcases List.mem_cons.mp h with e | h
    · rw [e]; exact p.mem
    · exact p.sub g (ih g h)
theorem Sl.le {A B : SH} (s : Sl A B) : Le A B := by
  induction s with
  | refl => exact Le.refl
  | nil => exact Le.nil
  | drop _ ih => exact Le.drop ih
  | @pull A B C g p s ih =>
    intro H h
    have y := p.has h
    exact Has.cons (ih H y.tail) y.head fun u hu => y.dj (s.mem u hu)
theorem Has.new {H : Hp} {A : SH} {p : Addr} {o : HO} (x : Has H A) (hp : H p = none) : Has (upd H p o) (sg p o :: A) := by
  refine Has.cons ⟨fun h hh a u e => ?_, x.2⟩ (fun a u e => ?_) fun g hg a u v e e' => ?_
  · rw [upd_ne (ne_of_none (x.1 h hh a u e) hp)]
    exact x.1 h hh a u e
  · obtain ⟨rfl, rfl⟩ := sg_some e
    exact upd_same
  · obtain ⟨rfl, rfl⟩ := sg_some e
    have := x.1 g hg a v e'
    rw [hp] at this
    cases this
theorem Has.at {H : Hp} {A : SH} {p : Addr} {o : HO} (x : Has H (sg p o :: A)) : H p = some o := x.head p o sg_same
theorem Has.set {H : Hp} {A : SH} {p : Addr} {o u : HO} (x : Has H (sg p o :: A)) : Has (upd H p u) (sg p u :: A) := by
  have far : ∀ g ∈ A, ∀ a v, g a = some v → a ≠ p := fun g hg a v e z => by
    subst z
    exact x.dj hg a o v sg_same e
  refine Has.cons ⟨fun h hh a v e => ?_, x.tail.2⟩ (fun a v e => ?_) fun g hg a v v' e e' => ?_
  · rw [upd_ne (far h hh a v e)]
    exact x.tail.1 h hh a v e
  · obtain ⟨rfl, rfl⟩ := sg_some e
    exact upd_same
  · exact far g hg a v' e' (sg_some e).1

/-! ### what is wanted behind -/
def Post (Φ : V → SH → Prop) (Q : VK) : Prop := ∀ v A H, Has H A → Φ v A → Q v H
def XPost (Ψ : Value → Option Addr → SH → Prop) (E : XK) : Prop := ∀ c d A H, Has H A → Ψ c d A → E c d H
def WPost (Ψ : Value → Option Addr → St → SH → Prop) (W : WX) : Prop := ∀ c d σ A H, Has H A → Ψ c d σ A → W c d σ H
/-- P holds of a part that the state leads to -/
def Cl {α : Type} (P : α → SH → Prop) : α → SH → Prop := fun x A => ∀ H, Has H A → ∃ B, Has H B ∧ P x B
theorem Cl.le {α : Type} {P : α → SH → Prop} {x : α} {A B : SH} (l : Le B A) (p : P x B) : Cl P x A := fun H h => ⟨B, l H h, p⟩
theorem Cl.of {α : Type} {P : α → SH → Prop} {x : α} {A : SH} (p : P x A) : Cl P x A := fun H h => ⟨A, h, p⟩
theorem Post.cl {Φ : V → SH → Prop} {Q : VK} (h : Post Φ Q) : Post (Cl Φ) Q := fun v A H x q => by
  obtain ⟨B, y, q⟩ := q H x
  exact h v B H y q
structure AE where
  nx : St → SH → Prop
  rt : V → SH → Prop
  bk : St → SH → Prop := fun _ _ => False
  ct : St → SH → Prop := fun _ _ => False
structure EIm (D : AE) (E : Ends) : Prop where
  nx : ∀ σ A H, Has H A → D.nx σ A → E.nx σ H
  rt : Post D.rt E.rt
  bk : ∀ σ A H, Has H A → D.bk σ A → E.bk σ H
  ct : ∀ σ A H, Has H A → D.ct σ A → E.ct σ H

/-! ### the goals -/
def GE (t : TE) (σ : St) (A : SH) (Φ : V → SH → Prop) : Prop := ∀ H Q, Has H A → Post Φ Q → t σ H Q
def GT (t : TT) (σ : St) (A : SH) (Φ : Bool → SH → Prop) : Prop := ∀ H (Q : Bool → Hp → Prop), Has H A → (∀ b A' H', Has H' A' → Φ b A' → Q b H') → t σ H Q
def GA (t : TA) (σ : St) (A : SH) (Φ : List V → SH → Prop) : Prop := ∀ H (Q : List V → Hp → Prop), Has H A → (∀ b A' H', Has H' A' → Φ b A' → Q b H') → t σ H Q
def GS (t : TS) (D : AE) (σ : St) (A : SH) : Prop := ∀ H E, Has H A → EIm D E → t E σ H
def GG (t : TG) (v : V) (σ : St) (A : SH) (Φ : St → SH → Prop) : Prop := ∀ H (Q : St → Hp → Prop), Has H A → (∀ σ' A' H', Has H' A' → Φ σ' A' → Q σ' H') → t v σ H Q
def GI (t : TI) (σ : St) (A : SH) (Φ : It → SH → Prop) : Prop := ∀ H (Q : It → Hp → Prop), Has H A → (∀ J A' H', Has H' A' → Φ J A' → Q J H') → t σ H Q
def GR (r : R2) (x y : V) (A : SH) (Φ : V → SH → Prop) : Prop := ∀ H Q, Has H A → Post Φ Q → r x y H Q
def GU (r : V → Hp → VK → Prop) (x : V) (A : SH) (Φ : V → SH → Prop) : Prop := ∀ H Q, Has H A → Post Φ Q → r x H Q
def GC (r : List V → Hp → VK → Prop) (vs : List V) (A : SH) (Φ : V → SH → Prop) : Prop := ∀ H Q, Has H A → Post Φ Q → r vs H Q
def GM (r : V → List V → Hp → VK → Prop) (x : V) (vs : List V) (A : SH) (Φ : V → SH → Prop) : Prop := ∀ H Q, Has H A → Post Φ Q → r x vs H Q
def GF (J : It) (g : TG) (tb : TS) (D : AE) (σ : St) (A : SH) : Prop := ∀ H E, Has H A → EIm D E → ∃ W : Nat → Nat → St → Hp → Prop, (∃ m, W 0 m σ H) ∧ ∀ i m σ H, W i m σ H →
  (J.stop i H ∧ E.nx σ H) ∨ (J.go i H ∧ ∃ N : St → Hp → Prop, (∀ σ' H', N σ' H' → ∃ m', m' < m ∧ W (i + 1) m' σ' H') ∧ ∀ x H', J.yld i H x H' → g x σ H' fun σ2 H2 => tb { E with nx := N, ct := N, bk := E.nx } σ2 H2)

/-! ### reading -/
def RL (K : PySem.W.Frag) (A : SH) (a : Addr) (xs : List V) : Prop := ∀ H, Has H A → SqL K H a xs
def RT (K : PySem.W.Frag) (A : SH) (a : Addr) (xs : List V) : Prop := ∀ H, Has H A → SqT K H a xs
/-- an object that stands -/
def RO (A : SH) (a : Addr) (o : HO) : Prop := ∀ H, Has H A → H a = some o
theorem RL.tail {K : PySem.W.Frag} {A : SH} {g : Hp} {a : Addr} {xs : List V} (h : RL K A a xs) : RL K (g :: A) a xs := fun H x => h H x.tail
theorem RT.tail {K : PySem.W.Frag} {A : SH} {g : Hp} {a : Addr} {xs : List V} (h : RT K A a xs) : RT K (g :: A) a xs := fun H x => h H x.tail
theorem RO.tail {A : SH} {g : Hp} {a : Addr} {o : HO} (h : RO A a o) : RO (g :: A) a o := fun H x => h H x.tail
theorem RO.head {A : SH} {a : Addr} {o : HO} : RO (sg a o :: A) a o := fun _ x => x.at
theorem RO.blk {A : SH} {g : Hp} {a : Addr} {o : HO} (h : g a = some o) : RO (g :: A) a o := fun _ x => x.head a o h
theorem RO.mem {A : SH} {g : Hp} {a : Addr} {o : HO} (hg : g ∈ A) (h : g a = some o) : RO A a o := fun _ x => x.1 g hg a o h
theorem RO.pull {A B : SH} {a : Addr} {o : HO} (p : Pull A (sg a o) B) : RO A a o := fun _ x => (p.has x).at
theorem RO.le {A B : SH} {a : Addr} {o : HO} (l : Le A B) (h : RO A a o) : RO B a o := fun H x => h H (l H x)
theorem RL.le {K : PySem.W.Frag} {A B : SH} {a : Addr} {xs : List V} (l : Le A B) (h : RL K A a xs) : RL K B a xs := fun H x => h H (l H x)
theorem RT.le {K : PySem.W.Frag} {A B : SH} {a : Addr} {xs : List V} (l : Le A B) (h : RT K A a xs) : RT K B a xs := fun H x => h H (l H x)
theorem RL.ro {K : PySem.W.Frag} {A : SH} {a : Addr} {xs : List V} (h : RO A a (.lst xs)) : RL K A a xs := fun H x => .inl (.inl (h H x))
theorem RT.ro {K : PySem.W.Frag} {A : SH} {a : Addr} {xs : List V} (h : RO A a (.tup xs)) : RT K A a xs := fun H x => .inl (.inl (h H x))
theorem RL.head {K : PySem.W.Frag} {A : SH} {a : Addr} {xs : List V} : RL K (sg a (.lst xs) :: A) a xs := .ro .head
theorem RT.head {K : PySem.W.Frag} {A : SH} {a : Addr} {xs : List V} : RT K (sg a (.tup xs) :: A) a xs := .ro .head
theorem RL.blk {K : PySem.W.Frag} {A : SH} {g : Hp} {a : Addr} {xs : List V} (h : g a = some (.lst xs)) : RL K (g :: A) a xs := .ro (.blk h)
theorem RT.blk {K : PySem.W.Frag} {A : SH} {g : Hp} {a : Addr} {xs : List V} (h : g a = some (.tup xs)) : RT K (g :: A) a xs := .ro (.blk h)

/-! ### slots -/
def Set1 (σ : St) (i : Nat) (o : Option V) (σ' : St) : Prop := σ.set i o = σ'
def Get1 (σ : St) (i : Nat) (v : V) : Prop := σ[i]? = some (some v)
theorem set0 {x o : Option V} {r : St} : Set1 (x :: r) 0 o (o :: r) := rfl
theorem setS {x o : Option V} {r r' : St} {n : Nat} (h : Set1 r n o r') : Set1 (x :: r) (n + 1) o (x :: r') := by
  show (x :: r).set (n + 1) o = x :: r'
  rw [List.set_cons_succ, h]
theorem get0 {v : V} {r : St} : Get1 (some v :: r) 0 v := rfl
theorem getS {x : Option V} {v : V} {r : St} {n : Nat} (h : Get1 r n v) : Get1 (x :: r) (n + 1) v := by
  show (x :: r)[n + 1]? = some (some v)
  rw [List.getElem?_cons_succ]; exact h
def Wi (σ : St) (vs : List Nat) (σ' : St) : Prop := wipe σ vs = σ'
theorem wi0 {σ : St} : Wi σ [] σ := rfl
theorem wi1 {σ σ1 σ2 : St} {v : Nat} {vs : List Nat} (h : Wi σ vs σ1) (s : Set1 σ1 v none σ2) : Wi σ (v :: vs) σ2 := by
  show (wipe σ vs).set v none = σ2
  rw [h]; exact s

section
variable {K : PySem.W.Frag} {σ σ' : St} {A B : SH} {Φ : V → SH → Prop} {v x y : V} {ta tb te tc : TE} {t u : TT} {r : R2} {i j : Int}
/-! ### expressions -/
theorem ge_var {n : Nat} (h : Get1 σ n v) (k : Φ v A) : GE (tVar n) σ A Φ := fun H Q a p => ⟨v, h, p v A H a k⟩
theorem ge_c (k : Φ v A) : GE (tC v) σ A Φ := fun H Q a p => p v A H a k
theorem ge_op (h : GE ta σ A fun x A1 => GE tb σ A1 fun y A2 => GR r x y A2 Φ) : GE (tOp r ta tb) σ A Φ := fun H Q a p =>
  h H _ a fun x A1 H1 a1 h1 => h1 H1 _ a1 fun y A2 H2 a2 h2 => h2 H2 Q a2 p
theorem ge_un {r : V → Hp → VK → Prop} (h : GE ta σ A fun x A1 => GU r x A1 Φ) : GE (tUn r ta) σ A Φ := fun H Q a p => h H _ a fun x A1 H1 a1 h1 => h1 H1 Q a1 p
/-- either reading -/
def tAlt (t u : TE) : TE := fun σ H Q => t σ H Q ∨ u σ H Q
theorem ge_altL (h : GE ta σ A Φ) : GE (tAlt ta tb) σ A Φ := fun H Q a p => .inl (h H Q a p)
theorem ge_altR (h : GE tb σ A Φ) : GE (tAlt ta tb) σ A Φ := fun H Q a p => .inr (h H Q a p)
theorem pe_alt {X : Cx} {e : Expr} (h1 : PE X e ta) (h2 : PE X e tb) : PE X e (tAlt ta tb) := ⟨fun pins s σ H Q I h => by
  rcases h with h | h
  · exact h1.run pins s σ H Q I h
  · exact h2.run pins s σ H Q I h⟩
theorem ga_nil {Φ : List V → SH → Prop} (k : Φ [] A) : GA tNil σ A Φ := fun H Q a p => p [] A H a k
theorem ga_cons {Φ : List V → SH → Prop} {tr : TA} (h : GE ta σ A fun x A1 => GA tr σ A1 fun xs A2 => Φ (x :: xs) A2) : GA (tCons ta tr) σ A Φ := fun H Q a p =>
  h H _ a fun x A1 H1 a1 h1 => h1 H1 _ a1 fun xs A2 H2 a2 h2 => p _ A2 H2 a2 h2
theorem ge_tup {tr : TA} (h : GA tr σ A fun xs A1 => xs.length ≤ sizeLine ∧ ∀ p, Φ (.ref p) (sg p (.tup xs) :: A1)) : GE (tTup tr) σ A Φ := fun H Q a p =>
  h H _ a fun xs A1 H1 a1 h1 => ⟨h1.1, fun q hq => p _ _ _ (a1.new hq) (h1.2 q)⟩
theorem ge_lst {tr : TA} (h : GA tr σ A fun xs A1 => xs.length ≤ sizeLine ∧ ∀ p, Φ (.ref p) (sg p (.lst xs) :: A1)) : GE (tLst tr) σ A Φ := fun H Q a p =>
  h H _ a fun xs A1 H1 a1 h1 => ⟨h1.1, fun q hq => p _ _ _ (a1.new hq) (h1.2 q)⟩
theorem ge_dnew (h : ∀ p, Φ (.ref p) (sg p (.dK []) :: A)) : GE tDNewK σ A Φ := fun H Q a p q hq => p _ _ _ (a.new hq) (h q)
theorem ge_if (h : GT t σ A fun c A1 => (c = true → GE ta σ A1 Φ) ∧ (c = false → GE tb σ A1 Φ)) : GE (tIf t ta tb) σ A Φ := fun H Q a p =>
  h H _ a fun c A1 H1 a1 h1 => by
    cases c with
    | true => rw [if_pos rfl]; exact h1.1 rfl H1 Q a1 p
    | false => rw [if_neg Bool.false_ne_true]; exact h1.2 rfl H1 Q a1 p
theorem ge_andV (h : GE ta σ A fun x A1 => ∃ c, x = .bl c ∧ (c = true → GE tb σ A1 Φ) ∧ (c = false → Φ (.bl false) A1)) : GE (tAndV ta tb) σ A Φ := fun H Q a p =>
  h H _ a fun x A1 H1 a1 ⟨c, e, h1, h2⟩ => ⟨c, e, by
    cases c with
    | true => rw [if_pos rfl]; exact h1 rfl H1 Q a1 p
    | false => rw [if_neg Bool.false_ne_true]; exact p _ _ _ a1 (h2 rfl)⟩
theorem ge_orV (h : GE ta σ A fun x A1 => ∃ c, x = .bl c ∧ (c = true → Φ (.bl true) A1) ∧ (c = false → GE tb σ A1 Φ)) : GE (tOrV ta tb) σ A Φ := fun H Q a p =>
  h H _ a fun x A1 H1 a1 ⟨c, e, h1, h2⟩ => ⟨c, e, by
    cases c with
    | true => rw [if_pos rfl]; exact p _ _ _ a1 (h1 rfl)
    | false => rw [if_neg Bool.false_ne_true]; exact h2 rfl H1 Q a1 p⟩
theorem ge_notV (h : GE ta σ A fun x A1 => ∃ c, x = .bl c ∧ Φ (.bl (!c)) A1) : GE (tNotV ta) σ A Φ := fun H Q a p =>
  h H _ a fun x A1 H1 a1 ⟨c, e, h1⟩ => ⟨c, e, p _ _ _ a1 h1⟩
theorem ge_chain {r' : R2} (h : GE ta σ A fun x A1 => GE tb σ A1 fun y A2 => GR r x y A2 fun z A3 => ∃ c, z = .bl c ∧ (c = true → GE tc σ A3 fun w A4 => GR r' y w A4 Φ) ∧ (c = false → Φ (.bl false) A3)) : GE (tChain r r' ta tb tc) σ A Φ := fun H Q a p =>
  h H _ a fun x A1 H1 a1 h1 => h1 H1 _ a1 fun y A2 H2 a2 h2 => h2 H2 _ a2 fun z A3 H3 a3 ⟨c, e, h3, h4⟩ => ⟨c, e, by
    cases c with
    | true => rw [if_pos rfl]; exact h3 rfl H3 _ a3 fun w A4 H4 a4 h5 => h5 H4 Q a4 p
    | false => rw [if_neg Bool.false_ne_true]; exact p _ _ _ a3 (h4 rfl)⟩
/-! ### tests -/
section
variable {Ψ : Bool → SH → Prop}
theorem gt_test (h : GE te σ A fun x A' => ∃ k, x = .bl k ∧ Ψ k A') : GT (tTest te) σ A Ψ := fun H Q a p => h H _ a fun x A1 H1 a1 ⟨k, e, h1⟩ => ⟨k, e, p k A1 H1 a1 h1⟩
theorem gt_B (h : GE te σ A fun x A' => ∃ k, x = .bl k ∧ Ψ k A') : GT (tB te) σ A Ψ := fun H Q a p => h H _ a fun x A1 H1 a1 ⟨k, e, h1⟩ => ⟨k, e, p k A1 H1 a1 h1⟩
theorem gt_and (h : GT t σ A fun c A1 => (c = true → GT u σ A1 Ψ) ∧ (c = false → Ψ false A1)) : GT (tAnd t u) σ A Ψ := fun H Q a p =>
  h H _ a fun c A1 H1 a1 h1 => by
    cases c with
    | true => rw [if_pos rfl]; exact h1.1 rfl H1 Q a1 p
    | false => rw [if_neg Bool.false_ne_true]; exact p _ _ _ a1 (h1.2 rfl)
theorem gt_or (h : GT t σ A fun c A1 => (c = true → Ψ true A1) ∧ (c = false → GT u σ A1 Ψ)) : GT (tOr t u) σ A Ψ := fun H Q a p =>
  h H _ a fun c A1 H1 a1 h1 => by
    cases c with
    | true => rw [if_pos rfl]; exact p _ _ _ a1 (h1.1 rfl)
    | false => rw [if_neg Bool.false_ne_true]; exact h1.2 rfl H1 Q a1 p
theorem gt_not (h : GT t σ A fun c A1 => Ψ (!c) A1) : GT (tNot t) σ A Ψ := fun H Q a p => h H _ a fun c A1 H1 a1 h1 => p _ A1 H1 a1 h1
end
/-- a test's outcome -/
theorem br_dec {p P Q : Prop} [Decidable p] (h1 : p → P) (h2 : ¬ p → Q) : (decide p = true → P) ∧ (decide p = false → Q) := ⟨fun h => h1 (of_decide_eq_true h), fun h => h2 (of_decide_eq_false h)⟩
theorem br_ndec {p P Q : Prop} [Decidable p] (h1 : ¬ p → P) (h2 : p → Q) : ((!decide p) = true → P) ∧ ((!decide p) = false → Q) :=
  ⟨fun h => h1 (by simpa using h), fun h => h2 (by simpa using h)⟩
theorem br_t {P Q : Prop} (h : P) : (true = true → P) ∧ (true = false → Q) := ⟨fun _ => h, fun z => nomatch z⟩
theorem br_f {P Q : Prop} (h : Q) : (false = true → P) ∧ (false = false → Q) := ⟨fun z => (nomatch z), fun _ => h⟩
theorem br_nt {P Q : Prop} (h : Q) : ((!true) = true → P) ∧ ((!true) = false → Q) := ⟨fun z => (nomatch z), fun _ => h⟩
theorem br_nf {P Q : Prop} (h : P) : ((!false) = true → P) ∧ ((!false) = false → Q) := ⟨fun _ => h, fun z => nomatch z⟩
theorem br_not {b : Bool} {P Q : Prop} (h : (b = true → Q) ∧ (b = false → P)) : ((!b) = true → P) ∧ ((!b) = false → Q) := ⟨fun z => h.2 (by simpa using z), fun z => h.1 (by simpa using z)⟩
theorem br_b {b : Bool} {P Q : Prop} (h1 : b = true → P) (h2 : b = false → Q) : (b = true → P) ∧ (b = false → Q) := ⟨h1, h2⟩
/-- a test whose outcome the facts tell -/
theorem br_yes {p P Q : Prop} [Decidable p] (hp : p) (h1 : P) : (decide p = true → P) ∧ (decide p = false → Q) := ⟨fun _ => h1, fun h => absurd hp (of_decide_eq_false h)⟩
theorem br_no {p P Q : Prop} [Decidable p] (hp : ¬ p) (h1 : Q) : (decide p = true → P) ∧ (decide p = false → Q) := ⟨fun h => absurd (of_decide_eq_true h) hp, fun _ => h1⟩
theorem br_nyes {p P Q : Prop} [Decidable p] (hp : ¬ p) (h1 : P) : ((!decide p) = true → P) ∧ ((!decide p) = false → Q) := br_not (br_no hp h1)
theorem br_nno {p P Q : Prop} [Decidable p] (hp : p) (h1 : Q) : ((!decide p) = true → P) ∧ ((!decide p) = false → Q) := br_not (br_yes hp h1)

/-! ### operators by values -/
theorem gr_I0 {g : Int → Int → V} (k : Φ (g i j) A) : GR (rI0 g) (.int i) (.int j) A Φ := fun H Q a p => ⟨i, j, rfl, rfl, p _ A H a k⟩
theorem gr_I {C : Int → Int → Prop} {g : Int → Int → V} (c : C i j) (k : Φ (g i j) A) : GR (rI C g) (.int i) (.int j) A Φ := fun H Q a p => ⟨i, j, rfl, rfl, c, p _ A H a k⟩
end

/-! ### statements -/
section
variable {K : PySem.W.Frag} {σ σ' : St} {A B : SH} {nx : St → SH → Prop} {rt : V → SH → Prop} {bk ct : St → SH → Prop} {t u : TS} {c : TT} {te : TE} {v : V}
theorem gs_seq (h : GS t ⟨fun σ A => GS u ⟨nx, rt, bk, ct⟩ σ A, rt, bk, ct⟩ σ A) : GS (tSeq t u) ⟨nx, rt, bk, ct⟩ σ A := fun H E a im =>
  h H { E with nx := u E } a ⟨fun σ A H a k => k H E a im, im.rt, im.bk, im.ct⟩
theorem gs_next (h : nx σ A) : GS tNext ⟨nx, rt, bk, ct⟩ σ A := fun H E a im => im.nx σ A H a h
theorem gs_break (h : bk σ A) : GS tBreak ⟨nx, rt, bk, ct⟩ σ A := fun H E a im => im.bk σ A H a h
theorem gs_cont (h : ct σ A) : GS tCont ⟨nx, rt, bk, ct⟩ σ A := fun H E a im => im.ct σ A H a h
theorem gs_asg {g : TG} (h : GE te σ A fun v A' => GG g v σ A' nx) : GS (tAsg te g) ⟨nx, rt, bk, ct⟩ σ A := fun H E a im => h H _ a fun v A' H' a' h' => h' H' _ a' im.nx
theorem gs_drop (h : GE te σ A fun _ A' => nx σ A') : GS (tDrop te) ⟨nx, rt, bk, ct⟩ σ A := fun H E a im => h H _ a fun _ A' H' a' h' => im.nx σ A' H' a' h'
theorem gs_ret (h : GE te σ A rt) : GS (tRet te) ⟨nx, rt, bk, ct⟩ σ A := fun H E a im => h H _ a im.rt
theorem gs_retN (h : rt .non A) : GS tRetN ⟨nx, rt, bk, ct⟩ σ A := fun H E a im => im.rt .non A H a h
theorem gs_if (h : GT c σ A fun b A' => (b = true → GS t ⟨nx, rt, bk, ct⟩ σ A') ∧ (b = false → GS u ⟨nx, rt, bk, ct⟩ σ A')) : GS (tIfS c t u) ⟨nx, rt, bk, ct⟩ σ A := fun H E a im =>
  h H _ a fun b A' H' a' h' => by
    cases b with
    | true => rw [if_pos rfl]; exact h'.1 rfl H' E a' im
    | false => rw [if_neg Bool.false_ne_true]; exact h'.2 rfl H' E a' im
theorem gg_name {n : Nat} {Φ : St → SH → Prop} (s : Set1 σ n (some v) σ') (k : Φ σ' A) : GG (gName n) v σ A Φ := fun H Q a p => by
  have e : σ.set n (some v) = σ' := s
  show Q (σ.set n (some v)) H
  rw [e]
  exact p σ' A H a k
theorem gg_nil {Φ : St → SH → Prop} (k : Φ σ A) : ∀ H (Q : St → Hp → Prop), Has H A → (∀ σ' A' H', Has H' A' → Φ σ' A' → Q σ' H') → gNil [] σ H Q := fun H Q a p => ⟨rfl, p σ A H a k⟩
def GGs (t : TGs) (vs : List V) (σ : St) (A : SH) (Φ : St → SH → Prop) : Prop := ∀ H (Q : St → Hp → Prop), Has H A → (∀ σ' A' H', Has H' A' → Φ σ' A' → Q σ' H') → t vs σ H Q
theorem ggs_nil {Φ : St → SH → Prop} (k : Φ σ A) : GGs gNil [] σ A Φ := fun H Q a p => ⟨rfl, p σ A H a k⟩
theorem ggs_cons {Φ : St → SH → Prop} {g : TG} {gs : TGs} {vs : List V} (h : GG g v σ A fun σ1 A1 => GGs gs vs σ1 A1 Φ) : GGs (gCons g gs) (v :: vs) σ A Φ := fun H Q a p =>
  ⟨v, vs, rfl, h H _ a fun σ1 A1 H1 a1 h1 => h1 H1 Q a1 p⟩
theorem gg_tup {Φ : St → SH → Prop} {n : Nat} {gs : TGs} {a : Addr} {xs : List V} (rd : RT K A a xs) (hl : xs.length = n) (h : GGs gs xs σ A Φ) : GG (gTup K n gs) (.ref a) σ A Φ := fun H Q x p =>
  ⟨a, xs, rfl, rd H x, hl, h H Q x p⟩
theorem gs_for {wi : TI} {g : TG} (h : GI wi σ A fun J A1 => GF J g t ⟨nx, rt, bk, ct⟩ σ A1) : GS (tFor wi g t) ⟨nx, rt, bk, ct⟩ σ A := fun H E a im => h H _ a fun J A1 H1 a1 h1 => h1 H1 E a1 im
theorem gf_list {a : Addr} {xs : List V} {g : TG} (Pv : Nat → St → SH → Prop) (h0 : Cl (Pv 0) σ A) (hl : ∀ i σ A, i ≤ xs.length → Pv i σ A → RL K A a xs)
    (hs : ∀ i x σ A, xs[i]? = some x → Pv i σ A → GG g x σ A fun σ' A' => GS t ⟨Cl (Pv (i + 1)), rt, nx, Cl (Pv (i + 1))⟩ σ' A')
    (hd : ∀ σ A, Pv xs.length σ A → nx σ A) : GF (Itl K a) g t ⟨nx, rt, bk, ct⟩ σ A := fun H E x im =>
  for_list (K := K) (a := a) (xs := xs) (D := E) (fun i σ H => ∃ A, Has H A ∧ Pv i σ A) (h0 H x) (fun i σ H hi ⟨A, x, p⟩ => hl i σ A hi p H x)
    (fun i y σ H hy ⟨A, x, p⟩ => hs i y σ A hy p H _ x fun σ' A' H' x' k => k H' _ x' ⟨fun σ A H x p => p H x, im.rt, im.nx, fun σ A H x p => p H x⟩)
    fun σ H ⟨A, x, p⟩ => im.nx σ A H x (hd σ A p)
theorem gf_tup {a : Addr} {xs : List V} {g : TG} (Pv : Nat → St → SH → Prop) (h0 : Cl (Pv 0) σ A) (hl : ∀ i σ A, i ≤ xs.length → Pv i σ A → RT K A a xs)
    (hs : ∀ i x σ A, xs[i]? = some x → Pv i σ A → GG g x σ A fun σ' A' => GS t ⟨Cl (Pv (i + 1)), rt, nx, Cl (Pv (i + 1))⟩ σ' A')
    (hd : ∀ σ A, Pv xs.length σ A → nx σ A) : GF (Itt K a) g t ⟨nx, rt, bk, ct⟩ σ A := fun H E x im =>
  for_tup (K := K) (a := a) (xs := xs) (D := E) (fun i σ H => ∃ A, Has H A ∧ Pv i σ A) (h0 H x) (fun i σ H hi ⟨A, x, p⟩ => hl i σ A hi p H x)
    (fun i y σ H hy ⟨A, x, p⟩ => hs i y σ A hy p H _ x fun σ' A' H' x' k => k H' _ x' ⟨fun σ A H x p => p H x, im.rt, im.nx, fun σ A H x p => p H x⟩)
    fun σ H ⟨A, x, p⟩ => im.nx σ A H x (hd σ A p)
theorem gf_range {lo : Int} {n : Nat} {g : TG} (Pv : Nat → St → SH → Prop) (h0 : Cl (Pv 0) σ A)
    (hs : ∀ i σ A, i < n → Pv i σ A → GG g (.int (lo + i)) σ A fun σ' A' => GS t ⟨Cl (Pv (i + 1)), rt, nx, Cl (Pv (i + 1))⟩ σ' A')
    (hd : ∀ σ A, Pv n σ A → nx σ A) : GF (Itr lo n) g t ⟨nx, rt, bk, ct⟩ σ A := fun H E x im =>
  for_range (lo := lo) (n := n) (D := E) (fun i σ H => ∃ A, Has H A ∧ Pv i σ A) (h0 H x)
    (fun i σ H hi ⟨A, x, p⟩ => hs i σ A hi p H _ x fun σ' A' H' x' k => k H' _ x' ⟨fun σ A H x p => p H x, im.rt, im.nx, fun σ A H x p => p H x⟩)
    fun σ H ⟨A, x, p⟩ => im.nx σ A H x (hd σ A p)
theorem gi_list {Φ : It → SH → Prop} (h : GE te σ A fun x A' => ∃ a xs, x = .ref a ∧ RL K A' a xs ∧ Φ (Itl K a) A') : GI (iList K te) σ A Φ := fun H Q x p =>
  h H _ x fun v A' H' x' ⟨a, xs, e, r, k⟩ => ⟨a, e, ⟨xs, r H' x'⟩, p _ A' H' x' k⟩
theorem gi_tup {Φ : It → SH → Prop} (h : GE te σ A fun x A' => ∃ a xs, x = .ref a ∧ RT K A' a xs ∧ Φ (Itt K a) A') : GI (iTup K te) σ A Φ := fun H Q x p =>
  h H _ x fun v A' H' x' ⟨a, xs, e, r, k⟩ => ⟨a, e, ⟨xs, r H' x'⟩, p _ A' H' x' k⟩
theorem gi_rng1 {Φ : It → SH → Prop} {ta : TA} (h : GA ta σ A fun vs A' => ∃ j : Int, vs = [.int j] ∧ -(2 ^ 62) ≤ j ∧ j < 2 ^ 62 ∧ Φ (Itr 0 j.toNat) A') : GI (iRng1 ta) σ A Φ := fun H Q x p =>
  h H _ x fun vs A' H' x' ⟨j, e, h1, h2, k⟩ => ⟨j, e, h1, h2, p _ A' H' x' k⟩
theorem gi_rng2 {Φ : It → SH → Prop} {ta : TA} (h : GA ta σ A fun vs A' => ∃ i j : Int, vs = [.int i, .int j] ∧ (-(2 ^ 62) ≤ i ∧ i < 2 ^ 62 ∧ -(2 ^ 62) ≤ j ∧ j < 2 ^ 62) ∧ Φ (Itr i (j - i).toNat) A') : GI (iRng2 ta) σ A Φ := fun H Q x p =>
  h H _ x fun vs A' H' x' ⟨i, j, e, h1, k⟩ => ⟨i, j, e, h1, p _ A' H' x' k⟩
theorem gi_enum {Φ : It → SH → Prop} {ta : TA} (h : GA ta σ A fun vs A' => ∃ a xs, vs = [.ref a] ∧ RL K A' a xs ∧ Φ (Ite K a) A') : GI (iEnum K ta) σ A Φ := fun H Q x p =>
  h H _ x fun vs A' H' x' ⟨a, xs, e, r, k⟩ => ⟨a, xs, e, r H' x', p _ A' H' x' k⟩
def iAlt (w u : TI) : TI := fun σ H R => w σ H R ∨ u σ H R
theorem pi_alt {X : Cx} {tg iter : Expr} {w u : TI} (h1 : PI X tg iter w) (h2 : PI X tg iter u) : PI X tg iter (iAlt w u) := ⟨fun pins s σ H R I h => by
  rcases h with h | h
  · exact h1.run pins s σ H R I h
  · exact h2.run pins s σ H R I h⟩
theorem gi_altL {w u : TI} {Φ : It → SH → Prop} (h : GI w σ A Φ) : GI (iAlt w u) σ A Φ := fun H Q a p => .inl (h H Q a p)
theorem gi_altR {w u : TI} {Φ : It → SH → Prop} (h : GI u σ A Φ) : GI (iAlt w u) σ A Φ := fun H Q a p => .inr (h H Q a p)
/-- for i, x in enumerate(xs): the pair is a new tuple -/
theorem gf_enum {a : Addr} {xs : List V} {g : TG} (Pv : Nat → St → SH → Prop) (h0 : Cl (Pv 0) σ A) (hl : ∀ i σ A, i ≤ xs.length → Pv i σ A → RL K A a xs)
    (hs : ∀ i x σ A p, xs[i]? = some x → Pv i σ A → GG g (.ref p) σ (sg p (.tup [.int (i : Nat), x]) :: A) fun σ' A' => GS t ⟨Cl (Pv (i + 1)), rt, nx, Cl (Pv (i + 1))⟩ σ' A')
    (hd : ∀ σ A, Pv xs.length σ A → nx σ A) : GF (Ite K a) g t ⟨nx, rt, bk, ct⟩ σ A := fun H E x im => by
  refine ⟨fun i m σ H => m = xs.length - i ∧ i ≤ xs.length ∧ ∃ A, Has H A ∧ Pv i σ A, ⟨xs.length, by simp, Nat.zero_le _, h0 H x⟩, ?_⟩
  rintro i m σ H ⟨rfl, hi, A, x, p⟩
  have q := hl i σ A hi p H x
  by_cases hlt : i < xs.length
  · refine .inr ⟨⟨xs, xs[i], q, by simp [hlt]⟩, fun σ' H' => ∃ A, Has H' A ∧ Pv (i + 1) σ' A, fun σ' H' p' => ⟨xs.length - (i + 1), by omega, rfl, hlt, p'⟩, fun y H' yl => ?_⟩
    obtain ⟨T, z, rfl, hT, rfl, hz⟩ := yl
    exact hs i z σ A T (hz xs q) p _ _ (x.new hT) fun σ' A' H' x' k => k H' _ x' ⟨fun σ A H x p => p H x, im.rt, im.nx, fun σ A H x p => p H x⟩
  · have e : i = xs.length := by omega
    subst e
    exact .inl ⟨⟨xs, q, Nat.le_refl _⟩, im.nx σ A H x (hd σ A p)⟩
/-- while: an invariant and what falls -/
theorem gs_while (Pv : Nat → St → SH → Prop) (m : Nat) (h0 : Cl (Pv m) σ A)
    (hs : ∀ m σ A, Pv m σ A → GT c σ A fun b A' => (b = true → GS t ⟨fun σ A => ∃ m', m' < m ∧ Cl (Pv m') σ A, rt, nx, fun σ A => ∃ m', m' < m ∧ Cl (Pv m') σ A⟩ σ A') ∧ (b = false → nx σ A')) : GS (tWhile c t) ⟨nx, rt, bk, ct⟩ σ A := fun H E x im =>
  ⟨fun m σ H => ∃ A, Has H A ∧ Pv m σ A, ⟨m, h0 H x⟩, fun m σ H ⟨A, x, p⟩ => hs m σ A p H _ x fun b A' H' x' k => by
    cases b with
    | true =>
      rw [if_pos rfl]
      refine ⟨fun σ H => ∃ m', m' < m ∧ ∃ A, Has H A ∧ Pv m' σ A, fun σ' H' h => h, k.1 rfl H' _ x' ⟨?_, im.rt, im.nx, ?_⟩⟩
      · exact fun σ A H x ⟨m', l, p⟩ => ⟨m', l, p H x⟩
      · exact fun σ A H x ⟨m', l, p⟩ => ⟨m', l, p H x⟩
    | false =>
      rw [if_neg Bool.false_ne_true]
      exact im.nx σ A' H' x' (k.2 rfl)⟩
end
/-! ### parts joined -/
/-- several parts become one -/
theorem blk {H : Hp} {A : SH} : ∀ {xs : SH}, Has H (xs ++ A) → ∃ h, Has H (h :: A) ∧ (∀ x ∈ xs, Sub x h) ∧ ∀ a o, h a = some o → ∃ x ∈ xs, x a = some o
  | [], x => ⟨emp, Has.cons x (fun a o e => nomatch e) fun g _ a o u e _ => (nomatch e), fun x h => (nomatch h), fun a o e => nomatch e⟩
  | y :: xs, x => by
    obtain ⟨h, hh, hs, hb⟩ := blk (xs := xs) (x : Has H (y :: (xs ++ A))).tail
    have x : Has H (y :: (xs ++ A)) := x
    have dj : Dj y h := fun a o u e1 e2 => by
      obtain ⟨z, hz, e3⟩ := hb a u e2
      exact x.dj (List.mem_append_left _ hz) a o u e1 e3
    refine ⟨fun a => (y a).or (h a), Has.cons hh.tail (fun a o e => ?_) (fun g hg a o u e1 e2 => ?_), fun z hz a o e => ?_, fun a o e => ?_⟩
    all_goals try (have e : (y a).or (h a) = some o := e)
    all_goals try (have e1 : (y a).or (h a) = some o := e1)
    · cases e1 : y a with
      | some v =>
        rw [e1] at e
        exact e ▸ x.head a v e1
      | none =>
        rw [e1] at e
        exact hh.head a o e
    · cases e3 : y a with
      | some v => exact x.dj (List.mem_append_right _ hg) a v u e3 e2
      | none =>
        rw [e3] at e1
        exact hh.dj hg a o u e1 e2
    · rcases List.mem_cons.mp hz with q | hz
      · subst q
        show (z a).or (h a) = some o
        rw [e]; rfl
      · have e2 := hs z hz a o e
        show (y a).or (h a) = some o
        cases e3 : y a with
        | some v => exact (dj a v o e3 e2).elim
        | none => exact e2
    · cases e1 : y a with
      | some v =>
        rw [e1] at e
        exact ⟨y, List.mem_cons_self, e1.trans e⟩
      | none =>
        rw [e1] at e
        obtain ⟨z, hz, e2⟩ := hb a o e
        exact ⟨z, List.mem_cons_of_mem _ hz, e2⟩
/-- the parts xs of the state become one, the parts ys stay -/
theorem Cl.blk {α : Type} {P : α → SH → Prop} {x : α} {A B xs : SH} (l : Le (xs ++ A) B) (p : ∀ h, (∀ y ∈ xs, Sub y h) → P x (h :: A)) : Cl P x B := fun H hB => by
  obtain ⟨h, a, s, _⟩ := S.blk (l H hB)
  exact ⟨_, a, p h s⟩
theorem RO.sub {A : SH} {g h : Hp} {a : Addr} {o : HO} (s : Sub g h) (e : g a = some o) : RO (h :: A) a o := .blk (s a o e)
/-- the state seen otherwise -/
theorem ge_as {t : TE} {σ : St} {A : SH} {Φ : V → SH → Prop} (h : Cl (fun σ A => GE t σ A Φ) σ A) : GE t σ A Φ := fun H Q x p => by
  obtain ⟨B, y, k⟩ := h H x
  exact k H Q y p
theorem gs_as {t : TS} {D : AE} {σ : St} {A : SH} (h : Cl (fun σ A => GS t D σ A) σ A) : GS t D σ A := fun H E x im => by
  obtain ⟨B, y, k⟩ := h H x
  exact k H E y im
end S

namespace S
open PySem L2

/-! ### calls -/
abbrev Spec := List V → SH → (V → SH → Prop) → (Value → Option Addr → SH → Prop) → Prop
def lift (sp : Spec) : Sp := fun vs H Q E => ∃ A Φ Ψ, Has H A ∧ Post Φ Q ∧ XPost Ψ E ∧ sp vs A Φ Ψ
/-- the def of that name keeps its promise -/
def DefR (P : Program) (w : World) (K : PySem.W.Frag) (mg : Str → Option Value) (base : Heap) (k : Nat) (x : Str) (sp : Sp) : Prop :=
  ∃ f, FnR P w K mg base (L2.CX P w) k f sp ∧ mg x = some (.ref f) ∧ PySem.W.keepIn K (.ref f) = true
def MethR (P : Program) (w : World) (K : PySem.W.Frag) (mg : Str → Option Value) (base : Heap) (k : Nat) (C : Addr) (m : Str) (sp : Sp) : Prop :=
  Cls K C ∧ ∃ f, Meth K C m f ∧ FnR P w K mg base (L2.CX P w) k f sp
def MakR (P : Program) (w : World) (K : PySem.W.Frag) (mg : Str → Option Value) (base : Heap) (k : Nat) (x : Str) (C : Addr) (sp : Sp) : Prop :=
  ∃ f, Mk K C f ∧ FnR P w K mg base (L2.CX P w) k f sp ∧ mg x = some (.ref C)
def tCal (sp : Sp) (W : WX) (t : TA) : TE := fun σ H Q => t σ H fun vs H1 => sp vs H1 Q (WE W σ)
def tMet (MT : Addr → Spec → Prop) (m : Str) (W : WX) (ta : TE) (t : TA) : TE := fun σ H Q => ta σ H fun x H1 => ∃ a C dx fs sp, x = .ref a ∧ H1 a = some (.ins C dx fs) ∧ MT C sp ∧ fs.lookup m = none ∧
  t σ H1 fun vs H2 => lift sp (x :: vs) H2 Q (WE W σ)
def tMak (C : Addr) (sp : Sp) (W : WX) (t : TA) : TE := fun σ H Q => t σ H fun vs H1 => ∀ x dx, H1 x = Option.none → H1 dx = Option.none → dx ≠ x →
  sp (V.ref x :: vs) (upd (upd H1 dx (.own x)) x (.ins C dx [])) (fun v H2 => v = .non ∧ Q (.ref x) H2) (WE W σ)
section
variable {X : Cx} {k : Nat} {f C : Addr} {sp : Sp} {W : WX} {x m : Str} {p pos apos : Pos} {e o : Expr} {es : List Expr} {ta : TE} {t : TA} {σ : L2.St}
theorem run_at {E : XK} {pins : List (Addr × Obj)} {H : Hp} {s : Shared} {Q : VK} {us : List Value} {vs : List V} (F : FnR X.prog X.w X.K X.mg X.base (L2.CX X.prog X.w) k f sp) (hr : Room k X.A) (hx : PassesAt (L2.CX X.prog X.w) X σ E)
    (I : Inv X pins σ H s) (r : Vals vs us) (h : sp vs H Q E) : wpAny (model X.prog X.w) X.A (call (.ref f) us) (EP X pins σ Q) X.xe s := by
  refine wpAny_call (codeAny_mono (F X.A X.stack s H us vs Q E hr I.env0 r h) ?_)
  intro res s' got
  match res, got with
  | .error e, got => exact hx pins H s e s' I got
  | .ok (.ret u), got => exact I.after got
  | .ok .next, got => exact False.elim got
  | .ok .brk, got => exact False.elim got
  | .ok .cont, got => exact False.elim got
theorem pe_own (G : DefR X.prog X.w X.K X.mg X.base k x sp) (hr : Room k X.A) (hg : Gl X x) (tk : Takes X W) (ha : PA X (e :: es) t) (hdb : (x == ("__debug__" : Str)) = false := by decide)
    (he : starEach (e :: es) X.env = (false, eval e X.env) :: starEach es X.env := by rfl) (hpl : (backTo pos (starEach es X.env)).any (·.1) = false := by rfl) : PE X (.Call (.Name x p) (e :: es) [] pos) (tCal sp W t) := by
  obtain ⟨f, F, hm, hk⟩ := G
  constructor
  intro pins s σ H Q I h
  refine wpAny_Call_Name_kw (ld_glob I hg hm ?_ hdb)
  refine PySem.W.callWith_K (h₀ := X.base) I.ok.mod.kin hk (thn (ha.run pos pins s σ H _ I h) ?_) he hpl
  rintro us s1 ⟨vs, H1, I1, r, q⟩
  exact ⟨I1.kIn, run_at F hr (passAt tk σ) I1 r q⟩
theorem pe_own0 (G : DefR X.prog X.w X.K X.mg X.base k x sp) (hr : Room k X.A) (hg : Gl X x) (tk : Takes X W) (hdb : (x == ("__debug__" : Str)) = false := by decide) : PE X (.Call (.Name x p) [] [] pos) (tCal sp W tNil) := by
  obtain ⟨f, F, hm, hk⟩ := G
  constructor
  intro pins s σ H Q I h
  refine wpAny_Call_Name_kw (ld_glob I hg hm ?_ hdb)
  exact PySem.W.callWith_K0 I.kIn hk (run_at F hr (passAt tk σ) I .nil h)
theorem pe_met {pl : Sem Bool} {MT : Addr → Spec → Prop} (he : PE X o ta) (G : ∀ C sp, MT C sp → MethR X.prog X.w X.K X.mg X.base k C m (lift sp)) (hr : Room k X.A) (tk : Takes X W) (ha : PA X (e :: es) t)
    (hst : starEach (e :: es) X.env = (false, eval e X.env) :: starEach es X.env := by rfl) (hpl : (backTo pos (starEach es X.env)).any (·.1) = false := by rfl)
    (ht : eval (.Call (.Attribute o m apos) (e :: es) [] pos) X.env = (do let ov ← eval o X.env; standAt apos.atName; let (f, first) ← holding [ov] (getMethod ov m pl); callWith pos f first (backTo pos (starEach (e :: es) X.env)) (backToKw pos (keywordEach [] X.env))) := by rfl) :
    PE X (.Call (.Attribute o m apos) (e :: es) [] pos) (tMet MT m W ta t) := by
  constructor
  intro pins s σ H Q I h
  refine PySem.W.methodCall_KW (pl := pl) (thn (he.run pins s σ H _ I h) ?_) ht
  rintro u s1 ⟨x, H1, I1, rx, a, C, dx, fs, sp, rfl, ea, mt, l, q⟩
  obtain ⟨c, f, hm, F⟩ := G C sp mt
  cases (show u = Value.ref a from rx)
  refine getmeth_ok I1 ea c hm l ?_
  refine PySem.W.callWith_K (first := [.ref a]) (h₀ := X.base) I.ok.mod.kin hm.kp (thn (ha.run pos pins s1 σ H1 _ I1 q) ?_) hst hpl
  rintro us s2 ⟨vs, H2, I2, r, q2⟩
  exact ⟨I2.kIn, run_at (us := .ref a :: us) (vs := .ref a :: vs) F hr (passAt tk σ) I2 (.cons rfl r) q2⟩
theorem pe_met0 {pl : Sem Bool} {MT : Addr → Spec → Prop} (he : PE X o ta) (G : ∀ C sp, MT C sp → MethR X.prog X.w X.K X.mg X.base k C m (lift sp)) (hr : Room k X.A) (tk : Takes X W)
    (ht : eval (.Call (.Attribute o m apos) [] [] pos) X.env = (do let ov ← eval o X.env; standAt apos.atName; let (f, first) ← holding [ov] (getMethod ov m pl); callWith pos f first (backTo pos (starEach [] X.env)) (backToKw pos (keywordEach [] X.env))) := by rfl) :
    PE X (.Call (.Attribute o m apos) [] [] pos) (tMet MT m W ta tNil) := by
  constructor
  intro pins s σ H Q I h
  refine PySem.W.methodCall_KW (pl := pl) (thn (he.run pins s σ H _ I h) ?_) ht
  rintro u s1 ⟨x, H1, I1, rx, a, C, dx, fs, sp, rfl, ea, mt, l, q⟩
  obtain ⟨c, f, hm, F⟩ := G C sp mt
  cases (show u = Value.ref a from rx)
  refine getmeth_ok I1 ea c hm l ?_
  exact PySem.W.callWith_K0 (first := [.ref a]) I1.kIn hm.kp (run_at (us := [.ref a]) (vs := [.ref a]) F hr (passAt tk σ) I1 (.cons rfl .nil) q)
theorem run_mak {E : XK} {pins : List (Addr × Obj)} {H : Hp} {s : Shared} {Q : VK} {us : List Value} {vs : List V} (M : Mk X.K C f) (F : FnR X.prog X.w X.K X.mg X.base (L2.CX X.prog X.w) k f sp) (hr : Room (k + 1) X.A) (hx : PassesAt (L2.CX X.prog X.w) X σ E)
    (I : Inv X pins σ H s) (r : Vals vs us)
    (h : ∀ x dx, H x = Option.none → H dx = Option.none → dx ≠ x → sp (V.ref x :: vs) (upd (upd H dx (.own x)) x (.ins C dx [])) (fun v H2 => v = .non ∧ Q (.ref x) H2) E) :
    wpAny (model X.prog X.w) X.A (call (.ref C) us) (EP X pins σ Q) X.xe s := by
  have hq := h (s.heap.objs.size + 1) s.heap.objs.size (I.hok.fresh (Nat.le_succ _)) (I.hok.fresh (Nat.le_refl _)) (Nat.ne_of_lt (Nat.lt_succ_self _))
  have J := Inv.made (C := C) I
  have rr : Vals (V.ref (s.heap.objs.size + 1) :: vs) (Value.ref (s.heap.objs.size + 1) :: us) := .cons rfl r
  refine wpAny_call (make_map (f := f) I.kIn M.makes M.init (beq_iff_eq.mp M.fn) (codeAny_mono (F _ X.stack _ _ (Value.ref (s.heap.objs.size + 1) :: us) _ _ E (hr.make C us []) (J.env0.make C us []) rr hq) ?_))
  intro res s' got
  match res, got with
  | .error e, got => exact hx pins _ _ e s' J got
  | .ok (.ret u), got =>
    obtain ⟨v, H', I3, rv, ev, q3⟩ := J.after got
    subst ev
    exact ⟨rv, ⟨V.ref (s.heap.objs.size + 1), H', I3, rfl, q3⟩⟩
  | .ok .next, got => exact False.elim got
  | .ok .brk, got => exact False.elim got
  | .ok .cont, got => exact False.elim got
theorem pe_mak (G : MakR X.prog X.w X.K X.mg X.base k x C sp) (hr : Room (k + 1) X.A) (hg : Gl X x) (tk : Takes X W) (ha : PA X (e :: es) t) (hdb : (x == ("__debug__" : Str)) = false := by decide)
    (he : starEach (e :: es) X.env = (false, eval e X.env) :: starEach es X.env := by rfl) (hpl : (backTo pos (starEach es X.env)).any (·.1) = false := by rfl) : PE X (.Call (.Name x p) (e :: es) [] pos) (tMak C sp W t) := by
  obtain ⟨f, M, F, hm⟩ := G
  constructor
  intro pins s σ H Q I h
  refine wpAny_Call_Name_kw (ld_glob I hg hm ?_ hdb)
  refine PySem.W.callWith_K (h₀ := X.base) I.ok.mod.kin M.kp (thn (ha.run pos pins s σ H _ I h) ?_) he hpl
  rintro us s1 ⟨vs, H1, I1, r, q⟩
  exact ⟨I1.kIn, run_mak M F hr (passAt tk σ) I1 r q⟩
theorem pe_mak0 (G : MakR X.prog X.w X.K X.mg X.base k x C sp) (hr : Room (k + 1) X.A) (hg : Gl X x) (tk : Takes X W) (hdb : (x == ("__debug__" : Str)) = false := by decide) : PE X (.Call (.Name x p) [] [] pos) (tMak C sp W tNil) := by
  obtain ⟨f, M, F, hm⟩ := G
  constructor
  intro pins s σ H Q I h
  refine wpAny_Call_Name_kw (ld_glob I hg hm ?_ hdb)
  exact PySem.W.callWith_K0 I.kIn M.kp (run_mak M F hr (passAt tk σ) I .nil h)
end
section
variable {σ : L2.St} {A B : SH} {Φ : V → SH → Prop} {Ψ : Value → Option Addr → L2.St → SH → Prop} {W : WX} {ta : TE} {t : TA} {sp : Spec} {m : Str} {C : Addr}
theorem ge_cal (hx : WPost Ψ W) (h : GA t σ A fun vs A1 => sp vs A1 Φ fun c d A2 => Ψ c d σ A2) : GE (tCal (lift sp) W t) σ A Φ := fun H Q a p =>
  h H _ a fun vs A1 H1 a1 h1 => ⟨A1, Φ, _, a1, p, fun c d A2 H2 a2 k => hx c d σ A2 H2 a2 k, h1⟩
theorem ge_met {MT : Addr → Spec → Prop} (hx : WPost Ψ W)
    (h : GE ta σ A fun x A1 => ∃ a C dx fs sp, x = .ref a ∧ RO A1 a (.ins C dx fs) ∧ MT C sp ∧ fs.lookup m = none ∧ GA t σ A1 fun vs A2 => sp (x :: vs) A2 Φ fun c d A3 => Ψ c d σ A3) : GE (tMet MT m W ta t) σ A Φ := fun H Q a p =>
  h H _ a fun x A1 H1 a1 ⟨b, C, dx, fs, sp, e, ro, mt, l, h1⟩ => ⟨b, C, dx, fs, sp, e, ro H1 a1, mt, l, h1 H1 _ a1 fun vs A2 H2 a2 h2 => ⟨A2, Φ, _, a2, p, fun c d A3 H3 a3 k => hx c d σ A3 H3 a3 k, h2⟩⟩
theorem ge_mak (hx : WPost Ψ W) (h : GA t σ A fun vs A1 => ∀ x dx, sp (V.ref x :: vs) (sg x (.ins C dx []) :: A1) (fun v A2 => v = .non ∧ Φ (.ref x) A2) fun c d A2 => Ψ c d σ A2) : GE (tMak C (lift sp) W t) σ A Φ := fun H Q a p =>
  h H _ a fun vs A1 H1 a1 h1 x dx nx nd ne => ⟨_, _, _, (a1.new nd).tail.new (by rw [upd_ne (Ne.symm ne)]; exact nx), fun v A2 H2 a2 ⟨e, k⟩ => ⟨e, p _ A2 H2 a2 k⟩, fun c d A2 H2 a2 k => hx c d σ A2 H2 a2 k, h1 x dx⟩
end
/-- where a def's body leads -/
abbrev AEf (Φ : V → SH → Prop) : AE := ⟨fun _ A => Cl Φ .non A, Cl Φ, fun _ _ => False, fun _ _ => False⟩
/-- a def keeps its promise: its body, and the goal of it -/
theorem mk_fn {P : Program} {w : World} {K : PySem.W.Frag} {mg : Str → Option Value} {base : Heap} {x qual : Str} {params : Arguments} {body : List Stmt} {scope : Scope} {dvs : List V} {kws : List (Str × V)} {f : Addr} {fd : FuncData} {N ps : List Str} {k : Nat} {sp : Spec} {t : XK → TS} {σ0 : List V → L2.St}
    (F : FunD K x qual params body scope dvs kws f fd) (sc : FnScope N ps scope) (len : ∀ vs A Φ Ψ, sp vs A Φ Ψ → vs.length = ps.length)
    (dv : ∀ (cdv : Value) (A : Around) (outer : List Env) (s : Shared) (H : Hp) (E : XK), Room k (A.deeper (PyProof.Rows.envOfC qual scope s.heap.objs.size f cdv)) → PSs (cxOf (L2.CX P w) P w K mg base N qual scope f cdv A outer s H E) body (t E))
    (hs : ∀ vs A Φ Ψ E, WPost (fun c d _ A => Cl (fun (_ : Unit) A => Ψ c d A) () A) (fun c d _ H => E c d H) → sp vs A Φ Ψ → GS (t E) (AEf Φ) (L2.start N vs) A) :
    FnOk P w K mg base (L2.CX P w) (k + 1) f fd ps (lift sp) := by
  refine FunD.ok F sc (fun vs H Q E ⟨A, Φ, Ψ, _, _, _, h⟩ => len vs A Φ Ψ h) ?_
  rintro cdv A outer s H vs Q E hr ⟨B, Φ, Ψ, hB, hq, hx, h⟩
  refine ⟨t E, dv cdv A outer s H E hr, hs vs B Φ Ψ E ?_ h H _ hB ⟨?_, ?_, fun _ _ _ _ z => z, fun _ _ _ _ z => z⟩⟩
  · intro c d σ A H a q
    obtain ⟨B, b, q⟩ := q H a
    exact hx c d B H b q
  · intro σ A H a q
    exact hq.cl .non A H a q
  · exact hq.cl

end S

namespace S
open PySem L2

/-! ### operators that ask what they are given -/
def rAddS : R2 := fun x y H Q => ∃ i j, x = V.str i ∧ y = V.str j ∧ i.length + j.length ≤ sizeLine ∧ Q (V.str (i ++ j)) H
def dAdd (K : PySem.W.Frag) : R2 := fun x y H Q => rI0 (fun i j => .int (i + j)) x y H Q ∨ rAddS x y H Q ∨ rCat x y H Q ∨ rCatT K x y H Q
theorem op_dAdd {X : Cx} : OpR X (binaryOp .Add) (dAdd X.K) := OpR.or op_add (OpR.or op_add_str (OpR.or op_cat op_catT))
def dSub : R2 := rI0 fun i j => .int (i - j)
theorem op_dSub {X : Cx} : OpR X (binaryOp .Sub) dSub := op_sub
def dMul : R2 := rI CMul fun i j => .int (i * j)
theorem op_dMul {X : Cx} : OpR X (binaryOp .Mult) dMul := op_mul
def dMod : R2 := rI (fun _ j => 0 < j) fun i j => .int (i % j)
theorem op_dMod {X : Cx} : OpR X (binaryOp .Mod) dMod := op_mod
def dDiv : R2 := rI CDiv fun i j => .int (i / j)
theorem op_dDiv {X : Cx} : OpR X (binaryOp .FloorDiv) dDiv := op_fdiv
def dEq (K : PySem.W.Frag) : R2 := fun x y H Q => rEq x y H Q ∨ rEqD K x y H Q
theorem op_dEq {X : Cx} {k : Nat} (hr : Room k X.A) : OpR X (compareOp .Eq) (dEq X.K) := OpR.or op_eq (op_eqD hr.units)
def dNe (K : PySem.W.Frag) : R2 := fun x y H Q => rNe x y H Q ∨ rNeD K x y H Q
theorem op_dNe {X : Cx} {k : Nat} (hr : Room k X.A) : OpR X (compareOp .NotEq) (dNe X.K) := OpR.or op_ne (op_neD hr.units)
def rLtI : R2 := rI0 fun i j => .bl (decide (i < j))
def dLt (K : PySem.W.Frag) : R2 := fun x y H Q => rLtI x y H Q ∨ rLtT K x y H Q
theorem op_dLt {X : Cx} {k : Nat} (hr : Room k X.A) : OpR X (compareOp .Lt) (dLt X.K) := OpR.or op_lt (op_ltT hr.units0)
def dLe : R2 := rI0 fun i j => .bl (decide (i ≤ j))
theorem op_dLe {X : Cx} : OpR X (compareOp .LtE) dLe := op_le
def dGt : R2 := rI0 fun i j => .bl (decide (j < i))
theorem op_dGt {X : Cx} : OpR X (compareOp .Gt) dGt := op_gt
def dGe : R2 := rI0 fun i j => .bl (decide (j ≤ i))
theorem op_dGe {X : Cx} : OpR X (compareOp .GtE) dGe := op_ge
def rSgn (neg : Bool) : R2 := fun x y H Q => ∃ (c : Nat) (z : Str), x = .str ⟨#[c]⟩ ∧ y = .str z ∧ Q (.bl (if neg then !decide (c ∈ z.cps.toList) else decide (c ∈ z.cps.toList))) H
def dIn (K : PySem.W.Frag) (neg : Bool) : R2 := fun x y H Q => rIn K neg x y H Q ∨ rSgn neg x y H Q
theorem op_dIn {X : Cx} : OpR X (compareOp .In) (dIn X.K false) := OpR.or op_in_seq fun pins s σ H x y v u Q I rx ry ⟨c, z, e1, e2, q⟩ => op_in_sign pins s σ H x y v u Q I rx ry ⟨c, z, e1, e2, q⟩
theorem op_dNotIn {X : Cx} : OpR X (compareOp .NotIn) (dIn X.K true) := OpR.or op_notIn_seq fun pins s σ H x y v u Q I rx ry ⟨c, z, e1, e2, q⟩ => op_notIn_sign pins s σ H x y v u Q I rx ry ⟨c, z, e1, e2, q⟩
def dIs (neg : Bool) : R2 := fun x y H Q => y = V.non ∧ Q (V.bl (if neg then !decide (x = V.non) else decide (x = V.non))) H
theorem op_dIs {X : Cx} : OpR X (compareOp .Is) (dIs false) := op_isN
theorem op_dIsNot {X : Cx} : OpR X (compareOp .IsNot) (dIs true) := op_notN

section
variable {K : PySem.W.Frag} {σ σ' : L2.St} {A B C : SH} {Φ : V → SH → Prop} {v x y : V} {i j : Int} {p q : Addr} {xs ys : List V}
theorem gr_addI (k : Φ (.int (i + j)) A) : GR (dAdd K) (.int i) (.int j) A Φ := fun H Q a p => .inl (gr_I0 (A := A) k H Q a p)
theorem gr_addS {z w : Str} (h : z.length + w.length ≤ sizeLine) (k : Φ (.str (z ++ w)) A) : GR (dAdd K) (.str z) (.str w) A Φ := fun H Q a p => .inr (.inl ⟨z, w, rfl, rfl, h, p _ A H a k⟩)
theorem gr_addL (h1 : RO A p (.lst xs)) (h2 : RO A q (.lst ys)) (h : xs.length + ys.length ≤ sizeLine) (k : ∀ r, Φ (.ref r) (sg r (.lst (xs ++ ys)) :: A)) : GR (dAdd K) (.ref p) (.ref q) A Φ := fun H Q a ps =>
  .inr (.inr (.inl ⟨p, q, xs, ys, rfl, rfl, h1 H a, h2 H a, h, fun r hr => ps _ _ _ (a.new hr) (k r)⟩))
theorem gr_subI (k : Φ (.int (i - j)) A) : GR dSub (.int i) (.int j) A Φ := gr_I0 k
theorem gr_mulI (c : CMul i j) (k : Φ (.int (i * j)) A) : GR dMul (.int i) (.int j) A Φ := gr_I c k
theorem gr_modI (c : 0 < j) (k : Φ (.int (i % j)) A) : GR dMod (.int i) (.int j) A Φ := gr_I c k
theorem gr_divI (c : CDiv i j) (k : Φ (.int (i / j)) A) : GR dDiv (.int i) (.int j) A Φ := gr_I c k
theorem gr_ltI (k : Φ (.bl (decide (i < j))) A) : GR (dLt K) (.int i) (.int j) A Φ := fun H Q a p => .inl (gr_I0 (g := fun i j => .bl (decide (i < j))) k H Q a p)
theorem gr_ltT {ns ms : List Int} (h1 : RT K A p (ns.map V.int)) (h2 : RT K A q (ms.map V.int)) (k : Φ (.bl (HT.lexLt ns ms)) A) : GR (dLt K) (.ref p) (.ref q) A Φ := fun H Q a ps =>
  .inr ⟨p, q, ns, ms, rfl, rfl, h1 H a, h2 H a, ps _ A H a k⟩
theorem gr_leI (k : Φ (.bl (decide (i ≤ j))) A) : GR dLe (.int i) (.int j) A Φ := gr_I0 (g := fun i j => .bl (decide (i ≤ j))) k
theorem gr_gtI (k : Φ (.bl (decide (j < i))) A) : GR dGt (.int i) (.int j) A Φ := gr_I0 (g := fun i j => .bl (decide (j < i))) k
theorem gr_geI (k : Φ (.bl (decide (j ≤ i))) A) : GR dGe (.int i) (.int j) A Φ := gr_I0 (g := fun i j => .bl (decide (j ≤ i))) k
theorem dec_int (i j : Int) : decide (V.int i = V.int j) = decide (i = j) := by
  by_cases h : i = j
  · subst h; simp
  · rw [decide_eq_false h, decide_eq_false fun e => h (V.int.inj e)]
theorem dec_str (i j : Str) : decide (V.str i = V.str j) = decide (i = j) := by
  by_cases h : i = j
  · subst h; simp
  · rw [decide_eq_false h, decide_eq_false fun e => h (V.str.inj e)]
theorem dec_bl (i j : Bool) : decide (V.bl i = V.bl j) = decide (i = j) := by
  by_cases h : i = j
  · subst h; simp
  · rw [decide_eq_false h, decide_eq_false fun e => h (V.bl.inj e)]
theorem gr_eqI (k : Φ (.bl (decide (i = j))) A) : GR (dEq K) (.int i) (.int j) A Φ := fun H Q a p => .inl ⟨rfl, by rw [dec_int]; exact p _ A H a k⟩
theorem gr_eqS {z w : Str} (k : Φ (.bl (decide (z = w))) A) : GR (dEq K) (.str z) (.str w) A Φ := fun H Q a p => .inl ⟨rfl, by rw [dec_str]; exact p _ A H a k⟩
theorem gr_eqB {b c : Bool} (k : Φ (.bl (decide (b = c))) A) : GR (dEq K) (.bl b) (.bl c) A Φ := fun H Q a p => .inl ⟨rfl, by rw [dec_bl]; exact p _ A H a k⟩
theorem gr_eq_scal (hs : scal x y = true) (k : Φ (.bl (decide (x = y))) A) : GR (dEq K) x y A Φ := fun H Q a p => .inl ⟨hs, p _ A H a k⟩
theorem gr_neI (k : Φ (.bl (!decide (i = j))) A) : GR (dNe K) (.int i) (.int j) A Φ := fun H Q a p => .inl ⟨rfl, by rw [dec_int]; exact p _ A H a k⟩
theorem gr_neS {z w : Str} (k : Φ (.bl (!decide (z = w))) A) : GR (dNe K) (.str z) (.str w) A Φ := fun H Q a p => .inl ⟨rfl, by rw [dec_str]; exact p _ A H a k⟩
theorem gr_ne_scal (hs : scal x y = true) (k : Φ (.bl (!decide (x = y))) A) : GR (dNe K) x y A Φ := fun H Q a p => .inl ⟨hs, p _ A H a k⟩
/-- data at any depth -/
def DP (K : PySem.W.Frag) (A : SH) (v : V) (d : PyData) : Prop := ∀ H, Has H A → Dp K H v d
def DPs (K : PySem.W.Frag) (A : SH) (v : List V) (d : List PyData) : Prop := ∀ H, Has H A → DpAll K H v d
theorem DP.le {d : PyData} (l : Le A B) (h : DP K A v d) : DP K B v d := fun H x => h H (l H x)
theorem DP.tail {g : Hp} {d : PyData} (h : DP K A v d) : DP K (g :: A) v d := fun H x => h H x.tail
theorem DPs.tail {g : Hp} {vs : List V} {ds : List PyData} (h : DPs K A vs ds) : DPs K (g :: A) vs ds := fun H x => h H x.tail
theorem dp_non : DP K A .non .none := fun _ _ => .non
theorem dp_bl {b : Bool} : DP K A (.bl b) (.bool b) := fun _ _ => .bl b
theorem dp_int : DP K A (.int i) (.int i) := fun _ _ => .int i
theorem dp_str {z : Str} : DP K A (.str z) (.str z) := fun _ _ => .str z
theorem dp_lst {ds : List PyData} (r : RL K A p xs) (h : DPs K A xs ds) : DP K A (.ref p) (.list ds) := fun H x => .lst (r H x) (h H x)
theorem dp_tup {ds : List PyData} (r : RT K A p xs) (h : DPs K A xs ds) : DP K A (.ref p) (.tuple ds) := fun H x => .tup (r H x) (h H x)
theorem dps_nil : DPs K A [] [] := fun _ _ => .nil
theorem dps_cons {vs : List V} {d : PyData} {ds : List PyData} (h : DP K A v d) (t : DPs K A vs ds) : DPs K A (v :: vs) (d :: ds) := fun H x => .cons (h H x) (t H x)
theorem dps_map {α : Type} {f : α → V} {g : α → PyData} : ∀ {l : List α}, (∀ a ∈ l, DP K A (f a) (g a)) → DPs K A (l.map f) (l.map g)
  | [], _ => dps_nil
  | a :: l, h => dps_cons (h a List.mem_cons_self) (dps_map fun b hb => h b (List.mem_cons_of_mem _ hb))
theorem dps_ints {l : List Int} : DPs K A (l.map V.int) (l.map PyData.int) := dps_map fun _ _ => dp_int
theorem dps_strs {l : List Str} : DPs K A (l.map V.str) (l.map PyData.str) := dps_map fun _ _ => dp_str
theorem gr_eqD {d e : PyData} (h1 : DP K A x d) (h2 : DP K A y e) (s1 : SeqAt.shaped d = true) (s2 : SeqAt.shaped e = true) (k : Φ (.bl (PyData.eqv d e)) A) : GR (dEq K) x y A Φ := fun H Q a p =>
  .inr ⟨d, e, h1 H a, h2 H a, s1, s2, p _ A H a k⟩
theorem gr_neD {d e : PyData} (h1 : DP K A x d) (h2 : DP K A y e) (s1 : SeqAt.shaped d = true) (s2 : SeqAt.shaped e = true) (k : Φ (.bl (!PyData.eqv d e)) A) : GR (dNe K) x y A Φ := fun H Q a p =>
  .inr ⟨d, e, h1 H a, h2 H a, s1, s2, p _ A H a k⟩
theorem gr_inL {neg : Bool} (r : RL K A p xs) (f : flatV x = true) (fs : xs.all flatV = true) (k : Φ (.bl (if neg then !inV x xs else inV x xs)) A) : GR (dIn K neg) x (.ref p) A Φ := fun H Q a ps =>
  .inl ⟨p, xs, rfl, .inl (r H a), f, fs, ps _ A H a k⟩
theorem gr_inT {neg : Bool} (r : RT K A p xs) (f : flatV x = true) (fs : xs.all flatV = true) (k : Φ (.bl (if neg then !inV x xs else inV x xs)) A) : GR (dIn K neg) x (.ref p) A Φ := fun H Q a ps =>
  .inl ⟨p, xs, rfl, .inr (r H a), f, fs, ps _ A H a k⟩
theorem gr_inS {neg : Bool} {c : Nat} {z : Str} (k : Φ (.bl (if neg then !decide (c ∈ z.cps.toList) else decide (c ∈ z.cps.toList))) A) : GR (dIn K neg) (.str ⟨#[c]⟩) (.str z) A Φ := fun H Q a ps =>
  .inr ⟨c, z, rfl, rfl, ps _ A H a k⟩
theorem gr_isN {neg : Bool} (k : Φ (.bl (if neg then !decide (x = V.non) else decide (x = V.non))) A) : GR (dIs neg) x .non A Φ := fun H Q a p => ⟨rfl, p _ A H a k⟩
/-! ### subscripts, slices -/
theorem gr_ixL (r : RL K A p xs) (h : atI xs i = some v) (k : Φ v A) : GR (rIx K) (.ref p) (.int i) A Φ := fun H Q a ps => .inl ⟨p, xs, i, v, rfl, rfl, r H a, h, ps _ A H a k⟩
theorem gr_ixT (r : RT K A p xs) (h : atI xs i = some v) (k : Φ v A) : GR (rIx K) (.ref p) (.int i) A Φ := fun H Q a ps => .inr (.inl ⟨p, xs, i, v, rfl, rfl, r H a, h, ps _ A H a k⟩)
theorem gr_ixS {z : Str} {c : Nat} (l : z.length ≤ sizeLine) (h : atI z.cps.toList i = some c) (k : Φ (.str ⟨#[c]⟩) A) : GR (rIx K) (.str z) (.int i) A Φ := fun H Q a ps => .inr (.inr ⟨z, i, c, rfl, rfl, l, h, ps _ A H a k⟩)
theorem atI_lt {α : Type} {l : List α} {i : Int} (h0 : 0 ≤ i) (h1 : i < l.length) : atI l i = some (l[i.toNat]'(by omega)) := by
  unfold atI ixN
  rw [if_pos h0, if_pos h1]
  simp
def GO (t : TO) (σ : L2.St) (A : SH) (Φ : Option Int → SH → Prop) : Prop := ∀ H (Q : Option Int → Hp → Prop), Has H A → (∀ b A' H', Has H' A' → Φ b A' → Q b H') → t σ H Q
theorem go_no {Φ : Option Int → SH → Prop} (k : Φ none A) : GO tNoPart σ A Φ := fun H Q a p => p _ A H a k
theorem go_some {Φ : Option Int → SH → Prop} {te : TE} (h : GE te σ A fun x A' => ∃ i, x = .int i ∧ Φ (some i) A') : GO (tPart te) σ A Φ := fun H Q a p => h H _ a fun x A1 H1 a1 ⟨i, e, k⟩ => ⟨i, e, p _ A1 H1 a1 k⟩
def rSl (K : PySem.W.Frag) : V → Option Int → Option Int → Hp → VK → Prop := fun x lo hi H Q => rSlL K x lo hi H Q ∨ rSlS x lo hi H Q ∨ rSlT K x lo hi H Q
theorem sl_any {X : Cx} : SlR X (rSl X.K) := by
  intro pins s σ H x v vl vu lo hi sl Q I rx hs pl pu h
  rcases h with h | h | h
  · exact sl_list pins s σ H x v vl vu lo hi sl Q I rx hs pl pu h
  · exact sl_str pins s σ H x v vl vu lo hi sl Q I rx hs pl pu h
  · exact sl_tup pins s σ H x v vl vu lo hi sl Q I rx hs pl pu h
def GSl (r : V → Option Int → Option Int → Hp → VK → Prop) (x : V) (lo hi : Option Int) (A : SH) (Φ : V → SH → Prop) : Prop := ∀ H Q, Has H A → Post Φ Q → r x lo hi H Q
theorem ge_sl {r : V → Option Int → Option Int → Hp → VK → Prop} {te : TE} {tl th : TO} (h : GE te σ A fun x A1 => GO tl σ A1 fun l A2 => GO th σ A2 fun u A3 => GSl r x l u A3 Φ) : GE (tSl r te tl th) σ A Φ := fun H Q a p =>
  h H _ a fun x A1 H1 a1 h1 => h1 H1 _ a1 fun l A2 H2 a2 h2 => h2 H2 _ a2 fun u A3 H3 a3 h3 => h3 H3 Q a3 p
theorem gsl_list {lo hi : Option Int} (r : RL K A p xs) (k : ∀ q, Φ (.ref q) (sg q (.lst (cutV xs lo hi)) :: A)) : GSl (rSl K) (.ref p) lo hi A Φ := fun H Q a ps => .inl ⟨p, xs, rfl, r H a, fun q hq => ps _ _ _ (a.new hq) (k q)⟩
theorem gsl_str {z : Str} {lo hi : Option Int} (l : z.length ≤ sizeLine) (k : Φ (.str (cutS z lo hi)) A) : GSl (rSl K) (.str z) lo hi A Φ := fun H Q a ps => .inr (.inl ⟨z, rfl, l, ps _ A H a k⟩)

/-! ### dicts -/
def RD (A : SH) (a : Addr) (kvs : List (L2.Key × V)) : Prop := ∀ H, Has H A → Rd H a (.dK kvs)
theorem RD.tail {g : Hp} {a : Addr} {kvs : List (L2.Key × V)} (h : RD A a kvs) : RD (g :: A) a kvs := fun H x => h H x.tail
theorem RD.ro {a : Addr} {kvs : List (L2.Key × V)} (h : RO A a (.dK kvs)) : RD A a kvs := fun H x => .inl (h H x)
theorem RD.head {a : Addr} {kvs : List (L2.Key × V)} : RD (sg a (.dK kvs) :: A) a kvs := .ro .head
def KV1 (y : V) (k : L2.Key) : Prop := y = kV k
theorem kv_int : KV1 (.int i) (.inl i) := rfl
theorem kv_str {z : Str} : KV1 (.str z) (.inr z) := rfl
section
variable {td ty tv : TE} {a : Addr} {kvs : List (L2.Key × V)} {k : L2.Key} {nx : L2.St → SH → Prop} {rt : V → SH → Prop} {bk ct : L2.St → SH → Prop}
theorem ge_dget (h : GE td σ A fun x A1 => GE ty σ A1 fun y A2 => ∃ a kvs k v, x = .ref a ∧ RD A2 a kvs ∧ KV1 y k ∧ valV kvs k = some v ∧ Φ v A2) : GE (tDGet td ty) σ A Φ := fun H Q a p =>
  h H _ a fun x A1 H1 a1 h1 => h1 H1 _ a1 fun y A2 H2 a2 ⟨d, kvs, k, v, e, r, ky, hv, c⟩ => ⟨d, v, e, .inl ⟨kvs, k, r H2 a2, ky, hv.symm⟩, p _ A2 H2 a2 c⟩
theorem ge_din (h : GE ty σ A fun y A1 => GE td σ A1 fun x A2 => ∃ a kvs k, x = .ref a ∧ RD A2 a kvs ∧ KV1 y k ∧ Φ (.bl (valV kvs k).isSome) A2) : GE (tDIn ty td) σ A Φ := fun H Q a p =>
  h H _ a fun y A1 H1 a1 h1 => h1 H1 _ a1 fun x A2 H2 a2 ⟨d, kvs, k, e, r, ky, c⟩ => ⟨d, _, e, .inl ⟨kvs, k, r H2 a2, ky, rfl⟩, p _ A2 H2 a2 c⟩
theorem ge_dnotin (h : GE ty σ A fun y A1 => GE td σ A1 fun x A2 => ∃ a kvs k, x = .ref a ∧ RD A2 a kvs ∧ KV1 y k ∧ Φ (.bl (!(valV kvs k).isSome)) A2) : GE (tDNotIn ty td) σ A Φ := fun H Q a p =>
  h H _ a fun y A1 H1 a1 h1 => h1 H1 _ a1 fun x A2 H2 a2 ⟨d, kvs, k, e, r, ky, c⟩ => ⟨d, _, e, .inl ⟨kvs, k, r H2 a2, ky, rfl⟩, p _ A2 H2 a2 c⟩
theorem gs_dput (h : GE tv σ A fun v A1 => GE td σ A1 fun x A2 => GE ty σ A2 fun y A3 => ∃ a kvs k B, x = .ref a ∧ Pull A3 (sg a (.dK kvs)) B ∧ KV1 y k ∧ kvs.length < sizeLine ∧ nx σ (sg a (.dK (putK kvs k v)) :: B)) : GS (sDPut td ty tv) ⟨nx, rt, bk, ct⟩ σ A := fun H E a im =>
  h H _ a fun v A1 H1 a1 h1 => h1 H1 _ a1 fun x A2 H2 a2 h2 => h2 H2 _ a2 fun y A3 H3 a3 ⟨d, kvs, k, B, e, pl, ky, hl, c⟩ =>
    ⟨d, upd H3 d (.dK (putK kvs k v)), e, .inl ⟨kvs, k, (pl.has a3).at, ky, hl, rfl⟩, im.nx _ _ _ (pl.has a3).set c⟩
theorem ge_dpop1 (h : GE td σ A fun x A1 => ∃ a kvs, x = .ref a ∧ RO A1 a (.dK kvs) ∧ GE ty σ A1 fun y A2 => ∃ kvs k v B, Pull A2 (sg a (.dK kvs)) B ∧ KV1 y k ∧ valV kvs k = some v ∧ Φ v (sg a (.dK (dropK kvs k)) :: B)) : GE (tDPop1 td ty) σ A Φ := fun H Q a p =>
  h H _ a fun x A1 H1 a1 ⟨d, kv0, e, ro, h1⟩ => ⟨d, e, .inl ⟨kv0, .inl (ro H1 a1)⟩, h1 H1 _ a1 fun y A2 H2 a2 ⟨kvs, k, v, B, pl, ky, hv, c⟩ => ⟨kvs, k, v, (pl.has a2).at, ky, hv, p _ _ _ (pl.has a2).set c⟩⟩
end

/-! ### methods of lists -/
section
variable {to : TE} {t : TA} {r : V → List V → Hp → VK → Prop} {T : String}
def TyA (K : PySem.W.Frag) (T : String) (x : V) (A : SH) : Prop := ∀ H, Has H A → tyV K T x H
theorem ty_list (h : RL K A p xs) : TyA K "list" (.ref p) A := fun H a => .inl ⟨rfl, xs, h H a⟩
theorem ty_str {z : Str} : TyA K "str" (.str z) A := fun H a => rfl
theorem ty_dict {kvs : List (L2.Key × V)} (h : RO A p (.dK kvs)) : TyA K "dict" (.ref p) A := fun H a => .inr (.inr (.inl ⟨rfl, .inl ⟨kvs, h H a⟩⟩))
theorem ge_bm (h : GE to σ A fun x A1 => TyA K T x A1 ∧ GA t σ A1 fun vs A2 => GM r x vs A2 Φ) : GE (tBM K T r to t) σ A Φ := fun H Q a p =>
  h H _ a fun x A1 H1 a1 ⟨ty, h1⟩ => ⟨ty H1 a1, h1 H1 _ a1 fun vs A2 H2 a2 h2 => h2 H2 Q a2 p⟩
theorem ge_bm0 (h : GE to σ A fun x A1 => TyA K T x A1 ∧ GM r x [] A1 Φ) : GE (tBM0 K T r to) σ A Φ := fun H Q a p =>
  h H _ a fun x A1 H1 a1 ⟨ty, h1⟩ => ⟨ty H1 a1, h1 H1 Q a1 p⟩
theorem gm_append (pl : Pull A (sg p (.lst xs)) B) (hl : xs.length < sizeLine) (k : Φ .non (sg p (.lst (xs ++ [y])) :: B)) : GM rAppend (.ref p) [y] A Φ := fun H Q a ps =>
  ⟨p, xs, y, rfl, rfl, (pl.has a).at, hl, ps _ _ _ (pl.has a).set k⟩
theorem gm_pop (pl : Pull A (sg p (.lst xs)) B) (hy : xs[xs.length - 1]? = some y) (k : Φ y (sg p (.lst xs.dropLast) :: B)) : GM rPop (.ref p) [] A Φ := fun H Q a ps =>
  ⟨p, xs, y, rfl, rfl, (pl.has a).at, hy, ps _ _ _ (pl.has a).set k⟩
theorem gm_popAt {n : Nat} (pl : Pull A (sg p (.lst xs)) B) (h1 : -(2 ^ 63) ≤ i) (h2 : i < 2 ^ 63) (hi : seqIndex? i xs.length = some n) (hy : xs[n]? = some y) (k : Φ y (sg p (.lst (xs.eraseIdx n)) :: B)) : GM rPopAt (.ref p) [.int i] A Φ := fun H Q a ps =>
  ⟨p, xs, i, n, y, rfl, rfl, (pl.has a).at, h1, h2, hi, hy, ps _ _ _ (pl.has a).set k⟩
theorem gm_clear (pl : Pull A (sg p (.lst xs)) B) (k : Φ .non (sg p (.lst []) :: B)) : GM rClear (.ref p) [] A Φ := fun H Q a ps => ⟨p, xs, rfl, rfl, (pl.has a).at, ps _ _ _ (pl.has a).set k⟩
theorem gm_reverse (pl : Pull A (sg p (.lst xs)) B) (k : Φ .non (sg p (.lst xs.reverse) :: B)) : GM rReverse (.ref p) [] A Φ := fun H Q a ps => ⟨p, xs, rfl, rfl, (pl.has a).at, ps _ _ _ (pl.has a).set k⟩
theorem gm_extend (pl : Pull A (sg p (.lst xs)) B) (r : RO A q (.lst ys)) (hl : xs.length + ys.length ≤ sizeLine) (k : Φ .non (sg p (.lst (xs ++ ys)) :: B)) : GM rExtend (.ref p) [.ref q] A Φ := fun H Q a ps =>
  ⟨p, q, xs, ys, rfl, rfl, (pl.has a).at, r H a, hl, ps _ _ _ (pl.has a).set k⟩
theorem gm_index {n : Nat} {z : V} (r : RL K A p ys) (f : flatV y = true) (fs : ys.all flatV = true) (hz : ys[n]? = some z) (he : eqV z y = true) (hn : ∀ (m : Nat) (z' : V), m < n → ys[m]? = some z' → eqV z' y = false) (k : Φ (.int (n : Nat)) A) : GM (rIndex K) (.ref p) [y] A Φ := fun H Q a ps =>
  ⟨p, ys, y, n, z, rfl, rfl, r H a, f, fs, hz, he, hn, ps _ A H a k⟩
def rInsert : V → List V → Hp → VK → Prop := fun x vs H Q => ∃ (l : Addr) (xs : List V) (i : Int) (y : V), x = .ref l ∧ vs = [.int i, y] ∧ H l = some (.lst xs) ∧ xs.length < sizeLine ∧ 0 ≤ i ∧ i < 2 ^ 63 ∧ Q .non (upd H l (.lst (xs.take i.toNat ++ [y] ++ xs.drop i.toNat)))
theorem gm_insert (pl : Pull A (sg p (.lst xs)) B) (hl : xs.length < sizeLine) (h0 : 0 ≤ i) (h1 : i < 2 ^ 63) (k : Φ .non (sg p (.lst (xs.take i.toNat ++ [y] ++ xs.drop i.toNat)) :: B)) : GM rInsert (.ref p) [.int i, y] A Φ := fun H Q a ps =>
  ⟨p, xs, i, y, rfl, rfl, (pl.has a).at, hl, h0, h1, ps _ _ _ (pl.has a).set k⟩
end

/-! ### built-in functions -/
theorem ge_cb {r : List V → Hp → VK → Prop} {t : TA} (h : GA t σ A fun vs A1 => GC r vs A1 Φ) : GE (tCB r t) σ A Φ := fun H Q a p => h H _ a fun vs A1 H1 a1 h1 => h1 H1 Q a1 p
def cLen (K : PySem.W.Frag) : List V → Hp → VK → Prop := fun xs H Q => (∃ x n, xs = [x] ∧ LenV K x H n ∧ Q (.int n) H) ∨ ∃ a kvs, xs = [V.ref a] ∧ H a = some (.dK kvs) ∧ Q (.int kvs.length) H
theorem call_cLen {X : Cx} : CallR X (.builtin "len") (cLen X.K) := CallR.or call_len call_lenD
theorem gc_lenL (r : RL K A p xs) (k : Φ (.int (xs.length : Nat)) A) : GC (cLen K) [.ref p] A Φ := fun H Q a ps => .inl ⟨_, _, rfl, .inl ⟨xs, r H a, rfl⟩, ps _ A H a k⟩
theorem gc_lenT (r : RT K A p xs) (k : Φ (.int (xs.length : Nat)) A) : GC (cLen K) [.ref p] A Φ := fun H Q a ps => .inl ⟨_, _, rfl, .inr ⟨xs, r H a, rfl⟩, ps _ A H a k⟩
theorem gc_lenS {z : Str} (l : z.length ≤ sizeLine) (k : Φ (.int (z.length : Nat)) A) : GC (cLen K) [.str z] A Φ := fun H Q a ps => .inl ⟨_, _, rfl, ⟨l, rfl⟩, ps _ A H a k⟩
theorem gc_lenD {kvs : List (L2.Key × V)} (r : RO A p (.dK kvs)) (k : Φ (.int (kvs.length : Nat)) A) : GC (cLen K) [.ref p] A Φ := fun H Q a ps => .inr ⟨p, kvs, rfl, r H a, ps _ A H a k⟩
def cMin2 : List V → Hp → VK → Prop := fun xs H Q => ∃ i j, xs = [.int i, .int j] ∧ Q (.int (if j < i then j else i)) H
def cMax2 : List V → Hp → VK → Prop := fun xs H Q => ∃ i j, xs = [.int i, .int j] ∧ Q (.int (if j > i then j else i)) H
theorem call_cMin2 {X : Cx} (hc : X.calm = true) : CallR X (.builtin "min") cMin2 := call_min2 hc
theorem call_cMax2 {X : Cx} (hc : X.calm = true) : CallR X (.builtin "max") cMax2 := call_max2 hc
theorem gc_min2 (k : Φ (.int (min i j)) A) : GC cMin2 [.int i, .int j] A Φ := fun H Q a ps => ⟨i, j, rfl, by
  have e : (if j < i then j else i) = min i j := by omega
  rw [e]; exact ps _ A H a k⟩
theorem gc_max2 (k : Φ (.int (max i j)) A) : GC cMax2 [.int i, .int j] A Φ := fun H Q a ps => ⟨i, j, rfl, by
  have e : (if j > i then j else i) = max i j := by omega
  rw [e]; exact ps _ A H a k⟩
def cList (K : PySem.W.Frag) : List V → Hp → VK → Prop := fun xs H Q => (∃ p ys, xs = [.ref p] ∧ (SqL K H p ys ∨ SqT K H p ys) ∧ ∀ l, H l = none → Q (.ref l) (upd H l (.lst ys))) ∨
  ∃ (a : Addr) (kvs : List (L2.Key × V)), xs = [.ref a] ∧ Rd H a (.dK kvs) ∧ ∀ p, H p = none → Q (.ref p) (upd H p (.lst (kvs.map fun kv => kV kv.1)))
theorem call_cList {X : Cx} (hc : X.calm = true) : CallR X (.type "list") (cList X.K) := CallR.or call_list_of (call_listD hc)
theorem gc_listL (r : RL K A p xs) (k : ∀ q, Φ (.ref q) (sg q (.lst xs) :: A)) : GC (cList K) [.ref p] A Φ := fun H Q a ps => .inl ⟨p, xs, rfl, .inl (r H a), fun l hl => ps _ _ _ (a.new hl) (k l)⟩
theorem gc_listT (r : RT K A p xs) (k : ∀ q, Φ (.ref q) (sg q (.lst xs) :: A)) : GC (cList K) [.ref p] A Φ := fun H Q a ps => .inl ⟨p, xs, rfl, .inr (r H a), fun l hl => ps _ _ _ (a.new hl) (k l)⟩
theorem gc_listD {kvs : List (L2.Key × V)} (r : RD A p kvs) (k : ∀ q, Φ (.ref q) (sg q (.lst (kvs.map fun kv => kV kv.1)) :: A)) : GC (cList K) [.ref p] A Φ := fun H Q a ps => .inr ⟨p, kvs, rfl, r H a, fun l hl => ps _ _ _ (a.new hl) (k l)⟩
theorem gc_sum {ns : List Int} (r : RL K A p (ns.map V.int)) (k : Φ (.int ns.sum) A) : GC (rSum K) [.ref p] A Φ := fun H Q a ps => ⟨p, ns, rfl, r H a, ps _ A H a k⟩
theorem gc_all {bs : List Bool} (r : RL K A p (bs.map V.bl)) (k : Φ (.bl (bs.all id)) A) : GC (rAll K) [.ref p] A Φ := fun H Q a ps => ⟨p, bs, rfl, r H a, ps _ A H a k⟩
/-! ### isinstance -/
def TyG (K : PySem.W.Frag) (A : SH) (x : V) (t : Value) : Prop := ∀ H, Has H A → TyX K H x t
theorem gc_isi {c : V} {t u : Value} {b : Bool} (hc : ClsV c u) (ty : TyG K A x t) (e : PySem.W.kitOne K t u = some b) (k : Φ (.bl b) A) : GC (rIsi K) [x, c] A Φ := fun H Q a ps => ⟨x, c, t, u, b, rfl, hc, ty H a, e, ps _ A H a k⟩
theorem gc_isiT {tp : Addr} {cs : List V} {t : Value} {us : List Value} {b : Bool} (r : RO A tp (.tup cs)) (hc : Paired ClsV cs us) (ty : TyG K A x t) (e : PySem.W.kitAny K t us = some b) (k : Φ (.bl b) A) : GC (rIsiT K) [x, .ref tp] A Φ := fun H Q a ps =>
  ⟨x, tp, cs, t, us, b, rfl, r H a, hc, ty H a, e, ps _ A H a k⟩
theorem ty_non : TyG K A .non (.type "NoneType") := fun _ _ => .base .non
theorem ty_bl {b : Bool} : TyG K A (.bl b) (.type "bool") := fun _ _ => .base (.bl b)
theorem ty_int : TyG K A (.int i) (.type "int") := fun _ _ => .base (.int i)
theorem ty_strT {z : Str} : TyG K A (.str z) (.type "str") := fun _ _ => .base (.str z)
theorem ty_lst (r : RO A p (.lst xs)) : TyG K A (.ref p) (.type "list") := fun H a => .base (.lst (r H a))
theorem ty_tup (r : RO A p (.tup xs)) : TyG K A (.ref p) (.type "tuple") := fun H a => .base (.tup (r H a))
theorem ty_dK {kvs : List (L2.Key × V)} (r : RO A p (.dK kvs)) : TyG K A (.ref p) (.type "dict") := fun H a => .base (.dK (r H a))
/-- what isinstance asks of an own class -/
structure InsO (K : PySem.W.Frag) (C : Addr) : Prop where
  c : Cls K C
  a : PySem.W.findIn K (Value.ref C) (Str.ofString "__class__") = some (some (Value.builtin "object.__class__"))
  n : PySem.W.specialIn K (Value.builtin "object.__class__") (Str.ofString "__get__") = some (some (Value.builtin "getset_descriptor.__get__"))
  t : PySem.W.takesIn K (Value.builtin "object.__class__") = some true
  m : PySem.W.mroIn K C (Value.type "object") = some true
theorem ty_ins {C dx : Addr} {fs : List (Str × V)} (o : InsO K C) (r : RO A p (.ins C dx fs)) : TyG K A (.ref p) (.ref C) := fun H a => .base (.ins (r H a) o.c o.a o.n o.t o.m)
/-! ### fields -/
def FOk (K : PySem.W.Frag) (C : Addr) (f : Str) : Prop := Cls K C ∧ NoAttr K C f
theorem ge_fld {te : TE} {f : Str} (h : GE te σ A fun x A1 => ∃ a C dx fs v, x = .ref a ∧ RO A1 a (.ins C dx fs) ∧ FOk K C f ∧ fs.lookup f = some v ∧ Φ v A1) : GE (tFld K te f) σ A Φ := fun H Q a p =>
  h H _ a fun x A1 H1 a1 ⟨b, C, dx, fs, v, e, r, c, l, k⟩ => ⟨b, C, dx, fs, v, e, r H1 a1, c.1, c.2, l, p _ A1 H1 a1 k⟩
theorem gs_fld {ta tv : TE} {f : Str} {nx : L2.St → SH → Prop} {rt : V → SH → Prop} {bk ct : L2.St → SH → Prop} (h : GE tv σ A fun y A1 => GE ta σ A1 fun x A2 => ∃ a C dx fs B, x = .ref a ∧ Pull A2 (sg a (.ins C dx fs)) B ∧ FOk K C f ∧ fs.length < 1000 ∧ nx σ (sg a (.ins C dx (putF f y fs)) :: B)) : GS (sFld K ta tv f) ⟨nx, rt, bk, ct⟩ σ A := fun H E a im =>
  h H _ a fun y A1 H1 a1 h1 => h1 H1 _ a1 fun x A2 H2 a2 ⟨b, C, dx, fs, B, e, pl, c, l, k⟩ => ⟨b, C, dx, fs, e, (pl.has a2).at, c.1, c.2, l, im.nx _ _ _ (pl.has a2).set k⟩
theorem gs_fldaug {ta tv : TE} {f : Str} {nx : L2.St → SH → Prop} {rt : V → SH → Prop} {bk ct : L2.St → SH → Prop} {rd : V → V → Hp → VK → Prop} (h : GE ta σ A fun x A1 => ∃ a C dx fs v, x = .ref a ∧ RO A1 a (.ins C dx fs) ∧ FOk K C f ∧ fs.lookup f = some v ∧ GE tv σ A1 fun y A2 => GR rd v y A2 fun z A3 =>
    ∃ dx fs B, Pull A3 (sg a (.ins C dx fs)) B ∧ fs.length < 1000 ∧ nx σ (sg a (.ins C dx (putF f z fs)) :: B)) : GS (sFldAug K ta tv rd f) ⟨nx, rt, bk, ct⟩ σ A := fun H E a im =>
  h H _ a fun x A1 H1 a1 ⟨b, C, dx, fs, v, e, r, c, l, h1⟩ => ⟨b, C, dx, fs, v, e, r H1 a1, c.1, c.2, l, h1 H1 _ a1 fun y A2 H2 a2 h2 => h2 H2 _ a2 fun z A3 H3 a3 ⟨dx', fs', B, pl, l', k⟩ =>
    ⟨dx', fs', (pl.has a3).at, l', im.nx _ _ _ (pl.has a3).set k⟩⟩
theorem gs_aug {nx : L2.St → SH → Prop} {rt : V → SH → Prop} {bk ct : L2.St → SH → Prop} {n : Nat} {te : TE} {ti : TIp} (hg : Get1 σ n x) (h : GE te σ A fun y A1 => GR ti x y A1 fun z A2 => GG (gName n) z σ A2 nx) : GS (tAug n te ti) ⟨nx, rt, bk, ct⟩ σ A := fun H E a im =>
  ⟨x, hg, h H _ a fun y A1 H1 a1 h1 => h1 H1 _ a1 fun z A2 H2 a2 h2 => h2 H2 _ a2 im.nx⟩
theorem gr_ipI {f : Int → Int → Int} (k : Φ (.int (f i j)) A) : GR (ipI f) (.int i) (.int j) A Φ := fun H Q a p => ⟨i, j, rfl, rfl, p _ A H a k⟩
/-- the truth of a value as a test -/
def tTru (K : PySem.W.Frag) (ta : TE) : TT := fun σ H Q => ta σ H fun x H' => ∃ k, TruV K x H' k ∧ Q k H'
theorem gs_never {nx : L2.St → SH → Prop} {rt : V → SH → Prop} {bk ct : L2.St → SH → Prop} (h : False) : GS tNever ⟨nx, rt, bk, ct⟩ σ A := h.elim

/-! ### comprehensions -/
def GLC (J : It) (g : TG) (tt : TT) (te : TE) (vs : List Nat) (σ : L2.St) (A : SH) (Φ : V → SH → Prop) : Prop := ∀ H1 Q, Has H1 A → Post Φ Q → ∀ D, H1 D = none → ∃ W : Nat → Nat → Hp → Prop, (∃ m, W 0 m (upd H1 D (.lst []))) ∧ ∀ i m H, W i m H →
  (J.stop i H ∧ Q (.ref D) H) ∨ (J.go i H ∧ ∃ Nx : Hp → Prop, (∀ H', Nx H' → ∃ m', m' < m ∧ W (i + 1) m' H') ∧ ∀ x H', J.yld i H x H' → g x (wipe σ vs) H' fun σ2 H2 => wipe σ2 vs = wipe σ vs ∧ tt σ2 H2 fun b H3 =>
    if b = true then te σ2 H3 fun y H4 => ∃ acc, H4 D = some (.lst acc) ∧ acc.length < sizeLine ∧ Nx (upd H4 D (.lst (acc ++ [y]))) else Nx H3)
theorem ge_lc {wi : TI} {g : TG} {tt : TT} {te : TE} {vs : List Nat} (h : GI wi σ A fun J A1 => GLC J g tt te vs σ A1 Φ) : GE (tLc wi g tt te vs) σ A Φ := fun H Q a p => h H _ a fun J A1 H1 a1 h1 => h1 H1 Q a1 p
theorem gt_yes {Ψ : Bool → SH → Prop} (k : Ψ true A) : GT tYes σ A Ψ := fun H Q a p => p true A H a k
/-- behind a turn: the new list still holds acc, the rest is as wanted for acc' -/
def CT (N : List V → SH → Prop) (D : Addr) (acc acc' : List V) : SH → Prop := fun A => ∀ H, Has H A → ∃ B, Has H (sg D (.lst acc) :: B) ∧ N acc' B
theorem CT.pull {N : List V → SH → Prop} {D : Addr} {acc acc' : List V} (p : Pull A (sg D (.lst acc)) B) (n : N acc' B) : CT N D acc acc' A := fun H h => ⟨B, p.has h, n⟩
theorem CT.le {N : List V → SH → Prop} {D : Addr} {acc acc' : List V} (l : Le (sg D (.lst acc) :: B) A) (n : N acc' B) : CT N D acc acc' A := fun H h => ⟨B, l H h, n⟩
theorem CT.blk {N : List V → SH → Prop} {D : Addr} {acc acc' : List V} {xs : SH} (l : Le (xs ++ sg D (.lst acc) :: B) A) (n : ∀ h, (∀ y ∈ xs, Sub y h) → N acc' (h :: B)) : CT N D acc acc' A := fun H hA => by
  obtain ⟨h, a, s, _⟩ := S.blk (l H hA)
  exact ⟨h :: B, Pull.has (.tail .head) a, n h s⟩
/-- one turn -/
def Turn1 (g : TG) (tt : TT) (te : TE) (vs : List Nat) (σw : L2.St) (D : Addr) (acc : List V) (x : V) (A : SH) (N : List V → SH → Prop) : Prop :=
  GG g x σw (sg D (.lst acc) :: A) fun σ2 A2 => Wi σ2 vs σw ∧ GT tt σ2 A2 fun b A3 => (b = true → GE te σ2 A3 fun y => CT N D acc (acc ++ [y])) ∧ (b = false → CT N D acc acc A3)
theorem turn1_run {g : TG} {tt : TT} {te : TE} {vs : List Nat} {σw : L2.St} {D : Addr} {acc : List V} {x : V} {N : List V → SH → Prop} {Nx : Hp → Prop} {H : Hp} (hz : acc.length < sizeLine) (h : Turn1 g tt te vs σw D acc x A N) (a : Has H (sg D (.lst acc) :: A))
    (hN : ∀ acc' A' H', acc'.length ≤ acc.length + 1 → Has H' (sg D (.lst acc') :: A') → N acc' A' → Nx H') : g x σw H fun σ2 H2 => wipe σ2 vs = σw ∧ tt σ2 H2 fun b H3 =>
      if b = true then te σ2 H3 fun y H4 => ∃ acc, H4 D = some (.lst acc) ∧ acc.length < sizeLine ∧ Nx (upd H4 D (.lst (acc ++ [y]))) else Nx H3 := by
  refine h H _ a fun σ2 A2 H2 a2 ⟨hw, h2⟩ => ⟨hw, h2 H2 _ a2 fun b A3 H3 a3 h3 => ?_⟩
  cases b with
  | true =>
    rw [if_pos rfl]
    exact h3.1 rfl H3 _ a3 fun y A4 H4 a4 c => by
      obtain ⟨A5, b, n⟩ := c H4 a4
      exact ⟨acc, b.at, hz, hN _ A5 _ (by simp) b.set n⟩
  | false =>
    rw [if_neg Bool.false_ne_true]
    obtain ⟨A5, b, n⟩ := h3.2 rfl H3 a3
    exact hN _ A5 H3 (Nat.le_succ _) b n
theorem glc_list {g : TG} {tt : TT} {te : TE} {vs : List Nat} {σw : L2.St} (Pv : Nat → List V → SH → Prop) (hw : Wi σ vs σw) (h0 : Pv 0 [] A) (hz : xs.length < sizeLine) (hl : ∀ i acc A, i ≤ xs.length → Pv i acc A → RL K A p xs)
    (hs : ∀ i x acc A D, xs[i]? = some x → acc.length ≤ i → Pv i acc A → Turn1 g tt te vs σw D acc x A (Pv (i + 1))) (hd : ∀ acc A D, acc.length ≤ xs.length → Pv xs.length acc A → Φ (.ref D) (sg D (.lst acc) :: A)) : GLC (Itl K p) g tt te vs σ A Φ := by
  intro H1 Q a ps D hD
  have e : wipe σ vs = σw := hw
  refine lc_list (K := K) (a := p) (xs := xs) (Qd := fun H => Q (.ref D) H) (fun i H => ∃ acc A, Has H (sg D (.lst acc) :: A) ∧ acc.length ≤ i ∧ Pv i acc A) ⟨[], A, a.new hD, Nat.le_refl _, h0⟩ (fun i H hi ⟨acc, A, x, _, q⟩ => hl i acc A hi q H x.tail) ?_ ?_
  · rintro i x H hx ⟨acc, A, hA, hk, q⟩
    have hi := (List.getElem?_eq_some_iff.mp hx).1
    rw [e]
    exact turn1_run (by omega) (hs i x acc A D hx hk q) hA fun acc' A' H' hk' a' n => ⟨acc', A', a', by omega, n⟩
  · rintro H ⟨acc, A, hA, hk, q⟩
    exact ps _ _ _ hA (hd acc A D hk q)
theorem glc_tup {g : TG} {tt : TT} {te : TE} {vs : List Nat} {σw : L2.St} (Pv : Nat → List V → SH → Prop) (hw : Wi σ vs σw) (h0 : Pv 0 [] A) (hz : xs.length < sizeLine) (hl : ∀ i acc A, i ≤ xs.length → Pv i acc A → RT K A p xs)
    (hs : ∀ i x acc A D, xs[i]? = some x → acc.length ≤ i → Pv i acc A → Turn1 g tt te vs σw D acc x A (Pv (i + 1))) (hd : ∀ acc A D, acc.length ≤ xs.length → Pv xs.length acc A → Φ (.ref D) (sg D (.lst acc) :: A)) : GLC (Itt K p) g tt te vs σ A Φ := by
  intro H1 Q a ps D hD
  have e : wipe σ vs = σw := hw
  refine lc_tup (K := K) (a := p) (xs := xs) (Qd := fun H => Q (.ref D) H) (fun i H => ∃ acc A, Has H (sg D (.lst acc) :: A) ∧ acc.length ≤ i ∧ Pv i acc A) ⟨[], A, a.new hD, Nat.le_refl _, h0⟩ (fun i H hi ⟨acc, A, x, _, q⟩ => hl i acc A hi q H x.tail) ?_ ?_
  · rintro i x H hx ⟨acc, A, hA, hk, q⟩
    have hi := (List.getElem?_eq_some_iff.mp hx).1
    rw [e]
    exact turn1_run (by omega) (hs i x acc A D hx hk q) hA fun acc' A' H' hk' a' n => ⟨acc', A', a', by omega, n⟩
  · rintro H ⟨acc, A, hA, hk, q⟩
    exact ps _ _ _ hA (hd acc A D hk q)
theorem glc_range {lo : Int} {n : Nat} {g : TG} {tt : TT} {te : TE} {vs : List Nat} {σw : L2.St} (Pv : Nat → List V → SH → Prop) (hw : Wi σ vs σw) (h0 : Pv 0 [] A) (hz : n < sizeLine)
    (hs : ∀ i acc A D, i < n → acc.length ≤ i → Pv i acc A → Turn1 g tt te vs σw D acc (.int (lo + i)) A (Pv (i + 1))) (hd : ∀ acc A D, acc.length ≤ n → Pv n acc A → Φ (.ref D) (sg D (.lst acc) :: A)) : GLC (Itr lo n) g tt te vs σ A Φ := by
  intro H1 Q a ps D hD
  have e : wipe σ vs = σw := hw
  refine lc_range (lo := lo) (n := n) (Qd := fun H => Q (.ref D) H) (fun i H => ∃ acc A, Has H (sg D (.lst acc) :: A) ∧ acc.length ≤ i ∧ Pv i acc A) ⟨[], A, a.new hD, Nat.le_refl _, h0⟩ ?_ ?_
  · rintro i H hi ⟨acc, A, hA, hk, q⟩
    rw [e]
    exact turn1_run (by omega) (hs i acc A D hi hk q) hA fun acc' A' H' hk' a' n => ⟨acc', A', a', by omega, n⟩
  · rintro H ⟨acc, A, hA, hk, q⟩
    exact ps _ _ _ hA (hd acc A D hk q)
end
end S

namespace S
open PySem L2
section
variable {X : Cx}
/-- a constant of the module -/
theorem pe_gl {x : Str} {v : V} {pos : Pos} (h : ∃ u, X.mg x = some u ∧ RelV v u) (hg : Gl X x := by rfl) (hd : (x == ("__debug__" : Str)) = false := by decide) : PE X (.Name x pos) (tC v) := by
  obtain ⟨u, h1, h2⟩ := h
  exact pe_glob hg h1 h2 hd
/-- what the top has written of an own exception class without an __init__ -/
structure XOk (K : PySem.W.Frag) (mg : Str → Option Value) (x : Str) (C : Addr) : Prop where
  g : mg x = some (.ref C)
  x : PySem.W.excIn K C [.type "ValueError", .type "Exception", .type "BaseException", .type "object"] "ValueError.__new__" = true
  k : PySem.W.keepIn K (.ref C) = true
  b : PySem.W.subIn K (.ref C) (.type "BaseException") = some true
  t : PySem.W.typeIn K (.ref C) = some (.type "type")
def tRais (C : Addr) (W : WX) : TS := fun _ σ H => W (.ref C) none σ H
theorem ps_rais {C : Addr} {W : WX} {x m : Str} {j : Nat} {p p2 pos pos2 : Pos} (hc : X.calm = true) (tk : Takes X W) (x0 : XOk X.K X.mg x C) (hg : Gl X x) (hd : (x == ("__debug__" : Str)) = false := by decide) :
    PS X (.Raise (some (.Call (.Name x p) [.Constant (.str m) j p2] [] pos)) none pos2) (tRais C W) :=
  ps_raise hc tk (pmk_own PySem.F.excBase_ValueError x0.x x0.g x0.k (raises_own x0.b x0.t) hg hd)
end
theorem gs_rais {C : Addr} {W : WX} {Ψ : Value → Option Addr → L2.St → SH → Prop} {nx : L2.St → SH → Prop} {rt : V → SH → Prop} {bk ct : L2.St → SH → Prop} {σ : L2.St} {A : SH} (hx : WPost Ψ W) (k : Ψ (.ref C) none σ A) : GS (tRais C W) ⟨nx, rt, bk, ct⟩ σ A := fun H E a im => hx _ _ σ A H a k
/-! ### for over a text -/
theorem gi_str {σ : L2.St} {A : SH} {te : TE} {Φ : It → SH → Prop} (h : GE te σ A fun v A' => ∃ x, v = .str x ∧ Φ (Its x) A') : GI (iStr te) σ A Φ := fun H Q x p =>
  h H _ x fun v A' H' x' ⟨z, e, k⟩ => ⟨z, e, p _ A' H' x' k⟩
theorem gf_str {z : Str} {g : TG} {t : TS} {nx : L2.St → SH → Prop} {rt : V → SH → Prop} {bk ct : L2.St → SH → Prop} {σ : L2.St} {A : SH} (Pv : Nat → L2.St → SH → Prop) (h0 : Cl (Pv 0) σ A)
    (hs : ∀ i c σ A, z.cps[i]? = some c → Pv i σ A → GG g (.str ⟨#[c]⟩) σ A fun σ' A' => GS t ⟨Cl (Pv (i + 1)), rt, nx, Cl (Pv (i + 1))⟩ σ' A')
    (hd : ∀ σ A, Pv z.cps.size σ A → nx σ A) : GF (Its z) g t ⟨nx, rt, bk, ct⟩ σ A := fun H E x im => by
  refine ⟨fun i m σ H => m = z.cps.size - i ∧ i ≤ z.cps.size ∧ ∃ A, Has H A ∧ Pv i σ A, ⟨z.cps.size, by simp, Nat.zero_le _, h0 H x⟩, ?_⟩
  rintro i m σ H ⟨rfl, hi, A, x, p⟩
  by_cases hlt : i < z.cps.size
  · refine .inr ⟨hlt, fun σ' H' => ∃ A, Has H' A ∧ Pv (i + 1) σ' A, fun σ' H' p' => ⟨z.cps.size - (i + 1), by omega, rfl, hlt, p'⟩, fun y H' yl => ?_⟩
    obtain ⟨rfl, c, hc, rfl⟩ := yl
    exact hs i c σ A hc p _ _ x fun σ' A' H' x' k => k H' _ x' ⟨fun σ A H x p => p H x, im.rt, im.nx, fun σ A H x p => p H x⟩
  · have e : i = z.cps.size := by omega
    subst e
    exact .inl ⟨Nat.le_refl _, im.nx σ A H x (hd σ A p)⟩
end S

namespace S
open PySem L2
/-! ### slots by their numbers -/
theorem gx0 {v : V} {r : L2.St} : Get1 (some v :: r) 0 v := rfl
theorem sx0 {x o : Option V} {r : L2.St} : Set1 (x :: r) 0 o (o :: r) := rfl
theorem gx1 {x0 : Option V} {v : V} {r : L2.St} : Get1 (x0 :: some v :: r) 1 v := rfl
theorem sx1 {x0 : Option V} {x o : Option V} {r : L2.St} : Set1 (x0 :: x :: r) 1 o (x0 :: o :: r) := rfl
theorem gx2 {x0 x1 : Option V} {v : V} {r : L2.St} : Get1 (x0 :: x1 :: some v :: r) 2 v := rfl
theorem sx2 {x0 x1 : Option V} {x o : Option V} {r : L2.St} : Set1 (x0 :: x1 :: x :: r) 2 o (x0 :: x1 :: o :: r) := rfl
theorem gx3 {x0 x1 x2 : Option V} {v : V} {r : L2.St} : Get1 (x0 :: x1 :: x2 :: some v :: r) 3 v := rfl
theorem sx3 {x0 x1 x2 : Option V} {x o : Option V} {r : L2.St} : Set1 (x0 :: x1 :: x2 :: x :: r) 3 o (x0 :: x1 :: x2 :: o :: r) := rfl
theorem gx4 {x0 x1 x2 x3 : Option V} {v : V} {r : L2.St} : Get1 (x0 :: x1 :: x2 :: x3 :: some v :: r) 4 v := rfl
theorem sx4 {x0 x1 x2 x3 : Option V} {x o : Option V} {r : L2.St} : Set1 (x0 :: x1 :: x2 :: x3 :: x :: r) 4 o (x0 :: x1 :: x2 :: x3 :: o :: r) := rfl
theorem gx5 {x0 x1 x2 x3 x4 : Option V} {v : V} {r : L2.St} : Get1 (x0 :: x1 :: x2 :: x3 :: x4 :: some v :: r) 5 v := rfl
theorem sx5 {x0 x1 x2 x3 x4 : Option V} {x o : Option V} {r : L2.St} : Set1 (x0 :: x1 :: x2 :: x3 :: x4 :: x :: r) 5 o (x0 :: x1 :: x2 :: x3 :: x4 :: o :: r) := rfl
theorem gx6 {x0 x1 x2 x3 x4 x5 : Option V} {v : V} {r : L2.St} : Get1 (x0 :: x1 :: x2 :: x3 :: x4 :: x5 :: some v :: r) 6 v := rfl
theorem sx6 {x0 x1 x2 x3 x4 x5 : Option V} {x o : Option V} {r : L2.St} : Set1 (x0 :: x1 :: x2 :: x3 :: x4 :: x5 :: x :: r) 6 o (x0 :: x1 :: x2 :: x3 :: x4 :: x5 :: o :: r) := rfl
theorem gx7 {x0 x1 x2 x3 x4 x5 x6 : Option V} {v : V} {r : L2.St} : Get1 (x0 :: x1 :: x2 :: x3 :: x4 :: x5 :: x6 :: some v :: r) 7 v := rfl
theorem sx7 {x0 x1 x2 x3 x4 x5 x6 : Option V} {x o : Option V} {r : L2.St} : Set1 (x0 :: x1 :: x2 :: x3 :: x4 :: x5 :: x6 :: x :: r) 7 o (x0 :: x1 :: x2 :: x3 :: x4 :: x5 :: x6 :: o :: r) := rfl
theorem gx8 {x0 x1 x2 x3 x4 x5 x6 x7 : Option V} {v : V} {r : L2.St} : Get1 (x0 :: x1 :: x2 :: x3 :: x4 :: x5 :: x6 :: x7 :: some v :: r) 8 v := rfl
theorem sx8 {x0 x1 x2 x3 x4 x5 x6 x7 : Option V} {x o : Option V} {r : L2.St} : Set1 (x0 :: x1 :: x2 :: x3 :: x4 :: x5 :: x6 :: x7 :: x :: r) 8 o (x0 :: x1 :: x2 :: x3 :: x4 :: x5 :: x6 :: x7 :: o :: r) := rfl
theorem gx9 {x0 x1 x2 x3 x4 x5 x6 x7 x8 : Option V} {v : V} {r : L2.St} : Get1 (x0 :: x1 :: x2 :: x3 :: x4 :: x5 :: x6 :: x7 :: x8 :: some v :: r) 9 v := rfl
theorem sx9 {x0 x1 x2 x3 x4 x5 x6 x7 x8 : Option V} {x o : Option V} {r : L2.St} : Set1 (x0 :: x1 :: x2 :: x3 :: x4 :: x5 :: x6 :: x7 :: x8 :: x :: r) 9 o (x0 :: x1 :: x2 :: x3 :: x4 :: x5 :: x6 :: x7 :: x8 :: o :: r) := rfl
theorem gx10 {x0 x1 x2 x3 x4 x5 x6 x7 x8 x9 : Option V} {v : V} {r : L2.St} : Get1 (x0 :: x1 :: x2 :: x3 :: x4 :: x5 :: x6 :: x7 :: x8 :: x9 :: some v :: r) 10 v := rfl
theorem sx10 {x0 x1 x2 x3 x4 x5 x6 x7 x8 x9 : Option V} {x o : Option V} {r : L2.St} : Set1 (x0 :: x1 :: x2 :: x3 :: x4 :: x5 :: x6 :: x7 :: x8 :: x9 :: x :: r) 10 o (x0 :: x1 :: x2 :: x3 :: x4 :: x5 :: x6 :: x7 :: x8 :: x9 :: o :: r) := rfl
theorem gx11 {x0 x1 x2 x3 x4 x5 x6 x7 x8 x9 x10 : Option V} {v : V} {r : L2.St} : Get1 (x0 :: x1 :: x2 :: x3 :: x4 :: x5 :: x6 :: x7 :: x8 :: x9 :: x10 :: some v :: r) 11 v := rfl
theorem sx11 {x0 x1 x2 x3 x4 x5 x6 x7 x8 x9 x10 : Option V} {x o : Option V} {r : L2.St} : Set1 (x0 :: x1 :: x2 :: x3 :: x4 :: x5 :: x6 :: x7 :: x8 :: x9 :: x10 :: x :: r) 11 o (x0 :: x1 :: x2 :: x3 :: x4 :: x5 :: x6 :: x7 :: x8 :: x9 :: x10 :: o :: r) := rfl
theorem gx12 {x0 x1 x2 x3 x4 x5 x6 x7 x8 x9 x10 x11 : Option V} {v : V} {r : L2.St} : Get1 (x0 :: x1 :: x2 :: x3 :: x4 :: x5 :: x6 :: x7 :: x8 :: x9 :: x10 :: x11 :: some v :: r) 12 v := rfl
theorem sx12 {x0 x1 x2 x3 x4 x5 x6 x7 x8 x9 x10 x11 : Option V} {x o : Option V} {r : L2.St} : Set1 (x0 :: x1 :: x2 :: x3 :: x4 :: x5 :: x6 :: x7 :: x8 :: x9 :: x10 :: x11 :: x :: r) 12 o (x0 :: x1 :: x2 :: x3 :: x4 :: x5 :: x6 :: x7 :: x8 :: x9 :: x10 :: x11 :: o :: r) := rfl
theorem gx13 {x0 x1 x2 x3 x4 x5 x6 x7 x8 x9 x10 x11 x12 : Option V} {v : V} {r : L2.St} : Get1 (x0 :: x1 :: x2 :: x3 :: x4 :: x5 :: x6 :: x7 :: x8 :: x9 :: x10 :: x11 :: x12 :: some v :: r) 13 v := rfl
theorem sx13 {x0 x1 x2 x3 x4 x5 x6 x7 x8 x9 x10 x11 x12 : Option V} {x o : Option V} {r : L2.St} : Set1 (x0 :: x1 :: x2 :: x3 :: x4 :: x5 :: x6 :: x7 :: x8 :: x9 :: x10 :: x11 :: x12 :: x :: r) 13 o (x0 :: x1 :: x2 :: x3 :: x4 :: x5 :: x6 :: x7 :: x8 :: x9 :: x10 :: x11 :: x12 :: o :: r) := rfl
theorem gx14 {x0 x1 x2 x3 x4 x5 x6 x7 x8 x9 x10 x11 x12 x13 : Option V} {v : V} {r : L2.St} : Get1 (x0 :: x1 :: x2 :: x3 :: x4 :: x5 :: x6 :: x7 :: x8 :: x9 :: x10 :: x11 :: x12 :: x13 :: some v :: r) 14 v := rfl
theorem sx14 {x0 x1 x2 x3 x4 x5 x6 x7 x8 x9 x10 x11 x12 x13 : Option V} {x o : Option V} {r : L2.St} : Set1 (x0 :: x1 :: x2 :: x3 :: x4 :: x5 :: x6 :: x7 :: x8 :: x9 :: x10 :: x11 :: x12 :: x13 :: x :: r) 14 o (x0 :: x1 :: x2 :: x3 :: x4 :: x5 :: x6 :: x7 :: x8 :: x9 :: x10 :: x11 :: x12 :: x13 :: o :: r) := rfl
theorem gx15 {x0 x1 x2 x3 x4 x5 x6 x7 x8 x9 x10 x11 x12 x13 x14 : Option V} {v : V} {r : L2.St} : Get1 (x0 :: x1 :: x2 :: x3 :: x4 :: x5 :: x6 :: x7 :: x8 :: x9 :: x10 :: x11 :: x12 :: x13 :: x14 :: some v :: r) 15 v := rfl
theorem sx15 {x0 x1 x2 x3 x4 x5 x6 x7 x8 x9 x10 x11 x12 x13 x14 : Option V} {x o : Option V} {r : L2.St} : Set1 (x0 :: x1 :: x2 :: x3 :: x4 :: x5 :: x6 :: x7 :: x8 :: x9 :: x10 :: x11 :: x12 :: x13 :: x14 :: x :: r) 15 o (x0 :: x1 :: x2 :: x3 :: x4 :: x5 :: x6 :: x7 :: x8 :: x9 :: x10 :: x11 :: x12 :: x13 :: x14 :: o :: r) := rfl
theorem gx16 {x0 x1 x2 x3 x4 x5 x6 x7 x8 x9 x10 x11 x12 x13 x14 x15 : Option V} {v : V} {r : L2.St} : Get1 (x0 :: x1 :: x2 :: x3 :: x4 :: x5 :: x6 :: x7 :: x8 :: x9 :: x10 :: x11 :: x12 :: x13 :: x14 :: x15 :: some v :: r) 16 v := rfl
theorem sx16 {x0 x1 x2 x3 x4 x5 x6 x7 x8 x9 x10 x11 x12 x13 x14 x15 : Option V} {x o : Option V} {r : L2.St} : Set1 (x0 :: x1 :: x2 :: x3 :: x4 :: x5 :: x6 :: x7 :: x8 :: x9 :: x10 :: x11 :: x12 :: x13 :: x14 :: x15 :: x :: r) 16 o (x0 :: x1 :: x2 :: x3 :: x4 :: x5 :: x6 :: x7 :: x8 :: x9 :: x10 :: x11 :: x12 :: x13 :: x14 :: x15 :: o :: r) := rfl
theorem gx17 {x0 x1 x2 x3 x4 x5 x6 x7 x8 x9 x10 x11 x12 x13 x14 x15 x16 : Option V} {v : V} {r : L2.St} : Get1 (x0 :: x1 :: x2 :: x3 :: x4 :: x5 :: x6 :: x7 :: x8 :: x9 :: x10 :: x11 :: x12 :: x13 :: x14 :: x15 :: x16 :: some v :: r) 17 v := rfl
theorem sx17 {x0 x1 x2 x3 x4 x5 x6 x7 x8 x9 x10 x11 x12 x13 x14 x15 x16 : Option V} {x o : Option V} {r : L2.St} : Set1 (x0 :: x1 :: x2 :: x3 :: x4 :: x5 :: x6 :: x7 :: x8 :: x9 :: x10 :: x11 :: x12 :: x13 :: x14 :: x15 :: x16 :: x :: r) 17 o (x0 :: x1 :: x2 :: x3 :: x4 :: x5 :: x6 :: x7 :: x8 :: x9 :: x10 :: x11 :: x12 :: x13 :: x14 :: x15 :: x16 :: o :: r) := rfl
theorem gx18 {x0 x1 x2 x3 x4 x5 x6 x7 x8 x9 x10 x11 x12 x13 x14 x15 x16 x17 : Option V} {v : V} {r : L2.St} : Get1 (x0 :: x1 :: x2 :: x3 :: x4 :: x5 :: x6 :: x7 :: x8 :: x9 :: x10 :: x11 :: x12 :: x13 :: x14 :: x15 :: x16 :: x17 :: some v :: r) 18 v := rfl
theorem sx18 {x0 x1 x2 x3 x4 x5 x6 x7 x8 x9 x10 x11 x12 x13 x14 x15 x16 x17 : Option V} {x o : Option V} {r : L2.St} : Set1 (x0 :: x1 :: x2 :: x3 :: x4 :: x5 :: x6 :: x7 :: x8 :: x9 :: x10 :: x11 :: x12 :: x13 :: x14 :: x15 :: x16 :: x17 :: x :: r) 18 o (x0 :: x1 :: x2 :: x3 :: x4 :: x5 :: x6 :: x7 :: x8 :: x9 :: x10 :: x11 :: x12 :: x13 :: x14 :: x15 :: x16 :: x17 :: o :: r) := rfl
theorem gx19 {x0 x1 x2 x3 x4 x5 x6 x7 x8 x9 x10 x11 x12 x13 x14 x15 x16 x17 x18 : Option V} {v : V} {r : L2.St} : Get1 (x0 :: x1 :: x2 :: x3 :: x4 :: x5 :: x6 :: x7 :: x8 :: x9 :: x10 :: x11 :: x12 :: x13 :: x14 :: x15 :: x16 :: x17 :: x18 :: some v :: r) 19 v := rfl
theorem sx19 {x0 x1 x2 x3 x4 x5 x6 x7 x8 x9 x10 x11 x12 x13 x14 x15 x16 x17 x18 : Option V} {x o : Option V} {r : L2.St} : Set1 (x0 :: x1 :: x2 :: x3 :: x4 :: x5 :: x6 :: x7 :: x8 :: x9 :: x10 :: x11 :: x12 :: x13 :: x14 :: x15 :: x16 :: x17 :: x18 :: x :: r) 19 o (x0 :: x1 :: x2 :: x3 :: x4 :: x5 :: x6 :: x7 :: x8 :: x9 :: x10 :: x11 :: x12 :: x13 :: x14 :: x15 :: x16 :: x17 :: x18 :: o :: r) := rfl
theorem gx20 {x0 x1 x2 x3 x4 x5 x6 x7 x8 x9 x10 x11 x12 x13 x14 x15 x16 x17 x18 x19 : Option V} {v : V} {r : L2.St} : Get1 (x0 :: x1 :: x2 :: x3 :: x4 :: x5 :: x6 :: x7 :: x8 :: x9 :: x10 :: x11 :: x12 :: x13 :: x14 :: x15 :: x16 :: x17 :: x18 :: x19 :: some v :: r) 20 v := rfl
theorem sx20 {x0 x1 x2 x3 x4 x5 x6 x7 x8 x9 x10 x11 x12 x13 x14 x15 x16 x17 x18 x19 : Option V} {x o : Option V} {r : L2.St} : Set1 (x0 :: x1 :: x2 :: x3 :: x4 :: x5 :: x6 :: x7 :: x8 :: x9 :: x10 :: x11 :: x12 :: x13 :: x14 :: x15 :: x16 :: x17 :: x18 :: x19 :: x :: r) 20 o (x0 :: x1 :: x2 :: x3 :: x4 :: x5 :: x6 :: x7 :: x8 :: x9 :: x10 :: x11 :: x12 :: x13 :: x14 :: x15 :: x16 :: x17 :: x18 :: x19 :: o :: r) := rfl
theorem gx21 {x0 x1 x2 x3 x4 x5 x6 x7 x8 x9 x10 x11 x12 x13 x14 x15 x16 x17 x18 x19 x20 : Option V} {v : V} {r : L2.St} : Get1 (x0 :: x1 :: x2 :: x3 :: x4 :: x5 :: x6 :: x7 :: x8 :: x9 :: x10 :: x11 :: x12 :: x13 :: x14 :: x15 :: x16 :: x17 :: x18 :: x19 :: x20 :: some v :: r) 21 v := rfl
theorem sx21 {x0 x1 x2 x3 x4 x5 x6 x7 x8 x9 x10 x11 x12 x13 x14 x15 x16 x17 x18 x19 x20 : Option V} {x o : Option V} {r : L2.St} : Set1 (x0 :: x1 :: x2 :: x3 :: x4 :: x5 :: x6 :: x7 :: x8 :: x9 :: x10 :: x11 :: x12 :: x13 :: x14 :: x15 :: x16 :: x17 :: x18 :: x19 :: x20 :: x :: r) 21 o (x0 :: x1 :: x2 :: x3 :: x4 :: x5 :: x6 :: x7 :: x8 :: x9 :: x10 :: x11 :: x12 :: x13 :: x14 :: x15 :: x16 :: x17 :: x18 :: x19 :: x20 :: o :: r) := rfl
theorem gx22 {x0 x1 x2 x3 x4 x5 x6 x7 x8 x9 x10 x11 x12 x13 x14 x15 x16 x17 x18 x19 x20 x21 : Option V} {v : V} {r : L2.St} : Get1 (x0 :: x1 :: x2 :: x3 :: x4 :: x5 :: x6 :: x7 :: x8 :: x9 :: x10 :: x11 :: x12 :: x13 :: x14 :: x15 :: x16 :: x17 :: x18 :: x19 :: x20 :: x21 :: some v :: r) 22 v := rfl
theorem sx22 {x0 x1 x2 x3 x4 x5 x6 x7 x8 x9 x10 x11 x12 x13 x14 x15 x16 x17 x18 x19 x20 x21 : Option V} {x o : Option V} {r : L2.St} : Set1 (x0 :: x1 :: x2 :: x3 :: x4 :: x5 :: x6 :: x7 :: x8 :: x9 :: x10 :: x11 :: x12 :: x13 :: x14 :: x15 :: x16 :: x17 :: x18 :: x19 :: x20 :: x21 :: x :: r) 22 o (x0 :: x1 :: x2 :: x3 :: x4 :: x5 :: x6 :: x7 :: x8 :: x9 :: x10 :: x11 :: x12 :: x13 :: x14 :: x15 :: x16 :: x17 :: x18 :: x19 :: x20 :: x21 :: o :: r) := rfl
theorem gx23 {x0 x1 x2 x3 x4 x5 x6 x7 x8 x9 x10 x11 x12 x13 x14 x15 x16 x17 x18 x19 x20 x21 x22 : Option V} {v : V} {r : L2.St} : Get1 (x0 :: x1 :: x2 :: x3 :: x4 :: x5 :: x6 :: x7 :: x8 :: x9 :: x10 :: x11 :: x12 :: x13 :: x14 :: x15 :: x16 :: x17 :: x18 :: x19 :: x20 :: x21 :: x22 :: some v :: r) 23 v := rfl
theorem sx23 {x0 x1 x2 x3 x4 x5 x6 x7 x8 x9 x10 x11 x12 x13 x14 x15 x16 x17 x18 x19 x20 x21 x22 : Option V} {x o : Option V} {r : L2.St} : Set1 (x0 :: x1 :: x2 :: x3 :: x4 :: x5 :: x6 :: x7 :: x8 :: x9 :: x10 :: x11 :: x12 :: x13 :: x14 :: x15 :: x16 :: x17 :: x18 :: x19 :: x20 :: x21 :: x22 :: x :: r) 23 o (x0 :: x1 :: x2 :: x3 :: x4 :: x5 :: x6 :: x7 :: x8 :: x9 :: x10 :: x11 :: x12 :: x13 :: x14 :: x15 :: x16 :: x17 :: x18 :: x19 :: x20 :: x21 :: x22 :: o :: r) := rfl
theorem gx24 {x0 x1 x2 x3 x4 x5 x6 x7 x8 x9 x10 x11 x12 x13 x14 x15 x16 x17 x18 x19 x20 x21 x22 x23 : Option V} {v : V} {r : L2.St} : Get1 (x0 :: x1 :: x2 :: x3 :: x4 :: x5 :: x6 :: x7 :: x8 :: x9 :: x10 :: x11 :: x12 :: x13 :: x14 :: x15 :: x16 :: x17 :: x18 :: x19 :: x20 :: x21 :: x22 :: x23 :: some v :: r) 24 v := rfl
theorem sx24 {x0 x1 x2 x3 x4 x5 x6 x7 x8 x9 x10 x11 x12 x13 x14 x15 x16 x17 x18 x19 x20 x21 x22 x23 : Option V} {x o : Option V} {r : L2.St} : Set1 (x0 :: x1 :: x2 :: x3 :: x4 :: x5 :: x6 :: x7 :: x8 :: x9 :: x10 :: x11 :: x12 :: x13 :: x14 :: x15 :: x16 :: x17 :: x18 :: x19 :: x20 :: x21 :: x22 :: x23 :: x :: r) 24 o (x0 :: x1 :: x2 :: x3 :: x4 :: x5 :: x6 :: x7 :: x8 :: x9 :: x10 :: x11 :: x12 :: x13 :: x14 :: x15 :: x16 :: x17 :: x18 :: x19 :: x20 :: x21 :: x22 :: x23 :: o :: r) := rfl
theorem gx25 {x0 x1 x2 x3 x4 x5 x6 x7 x8 x9 x10 x11 x12 x13 x14 x15 x16 x17 x18 x19 x20 x21 x22 x23 x24 : Option V} {v : V} {r : L2.St} : Get1 (x0 :: x1 :: x2 :: x3 :: x4 :: x5 :: x6 :: x7 :: x8 :: x9 :: x10 :: x11 :: x12 :: x13 :: x14 :: x15 :: x16 :: x17 :: x18 :: x19 :: x20 :: x21 :: x22 :: x23 :: x24 :: some v :: r) 25 v := rfl
theorem sx25 {x0 x1 x2 x3 x4 x5 x6 x7 x8 x9 x10 x11 x12 x13 x14 x15 x16 x17 x18 x19 x20 x21 x22 x23 x24 : Option V} {x o : Option V} {r : L2.St} : Set1 (x0 :: x1 :: x2 :: x3 :: x4 :: x5 :: x6 :: x7 :: x8 :: x9 :: x10 :: x11 :: x12 :: x13 :: x14 :: x15 :: x16 :: x17 :: x18 :: x19 :: x20 :: x21 :: x22 :: x23 :: x24 :: x :: r) 25 o (x0 :: x1 :: x2 :: x3 :: x4 :: x5 :: x6 :: x7 :: x8 :: x9 :: x10 :: x11 :: x12 :: x13 :: x14 :: x15 :: x16 :: x17 :: x18 :: x19 :: x20 :: x21 :: x22 :: x23 :: x24 :: o :: r) := rfl
theorem gx26 {x0 x1 x2 x3 x4 x5 x6 x7 x8 x9 x10 x11 x12 x13 x14 x15 x16 x17 x18 x19 x20 x21 x22 x23 x24 x25 : Option V} {v : V} {r : L2.St} : Get1 (x0 :: x1 :: x2 :: x3 :: x4 :: x5 :: x6 :: x7 :: x8 :: x9 :: x10 :: x11 :: x12 :: x13 :: x14 :: x15 :: x16 :: x17 :: x18 :: x19 :: x20 :: x21 :: x22 :: x23 :: x24 :: x25 :: some v :: r) 26 v := rfl
theorem sx26 {x0 x1 x2 x3 x4 x5 x6 x7 x8 x9 x10 x11 x12 x13 x14 x15 x16 x17 x18 x19 x20 x21 x22 x23 x24 x25 : Option V} {x o : Option V} {r : L2.St} : Set1 (x0 :: x1 :: x2 :: x3 :: x4 :: x5 :: x6 :: x7 :: x8 :: x9 :: x10 :: x11 :: x12 :: x13 :: x14 :: x15 :: x16 :: x17 :: x18 :: x19 :: x20 :: x21 :: x22 :: x23 :: x24 :: x25 :: x :: r) 26 o (x0 :: x1 :: x2 :: x3 :: x4 :: x5 :: x6 :: x7 :: x8 :: x9 :: x10 :: x11 :: x12 :: x13 :: x14 :: x15 :: x16 :: x17 :: x18 :: x19 :: x20 :: x21 :: x22 :: x23 :: x24 :: x25 :: o :: r) := rfl
theorem gx27 {x0 x1 x2 x3 x4 x5 x6 x7 x8 x9 x10 x11 x12 x13 x14 x15 x16 x17 x18 x19 x20 x21 x22 x23 x24 x25 x26 : Option V} {v : V} {r : L2.St} : Get1 (x0 :: x1 :: x2 :: x3 :: x4 :: x5 :: x6 :: x7 :: x8 :: x9 :: x10 :: x11 :: x12 :: x13 :: x14 :: x15 :: x16 :: x17 :: x18 :: x19 :: x20 :: x21 :: x22 :: x23 :: x24 :: x25 :: x26 :: some v :: r) 27 v := rfl
theorem sx27 {x0 x1 x2 x3 x4 x5 x6 x7 x8 x9 x10 x11 x12 x13 x14 x15 x16 x17 x18 x19 x20 x21 x22 x23 x24 x25 x26 : Option V} {x o : Option V} {r : L2.St} : Set1 (x0 :: x1 :: x2 :: x3 :: x4 :: x5 :: x6 :: x7 :: x8 :: x9 :: x10 :: x11 :: x12 :: x13 :: x14 :: x15 :: x16 :: x17 :: x18 :: x19 :: x20 :: x21 :: x22 :: x23 :: x24 :: x25 :: x26 :: x :: r) 27 o (x0 :: x1 :: x2 :: x3 :: x4 :: x5 :: x6 :: x7 :: x8 :: x9 :: x10 :: x11 :: x12 :: x13 :: x14 :: x15 :: x16 :: x17 :: x18 :: x19 :: x20 :: x21 :: x22 :: x23 :: x24 :: x25 :: x26 :: o :: r) := rfl
theorem gx28 {x0 x1 x2 x3 x4 x5 x6 x7 x8 x9 x10 x11 x12 x13 x14 x15 x16 x17 x18 x19 x20 x21 x22 x23 x24 x25 x26 x27 : Option V} {v : V} {r : L2.St} : Get1 (x0 :: x1 :: x2 :: x3 :: x4 :: x5 :: x6 :: x7 :: x8 :: x9 :: x10 :: x11 :: x12 :: x13 :: x14 :: x15 :: x16 :: x17 :: x18 :: x19 :: x20 :: x21 :: x22 :: x23 :: x24 :: x25 :: x26 :: x27 :: some v :: r) 28 v := rfl
theorem sx28 {x0 x1 x2 x3 x4 x5 x6 x7 x8 x9 x10 x11 x12 x13 x14 x15 x16 x17 x18 x19 x20 x21 x22 x23 x24 x25 x26 x27 : Option V} {x o : Option V} {r : L2.St} : Set1 (x0 :: x1 :: x2 :: x3 :: x4 :: x5 :: x6 :: x7 :: x8 :: x9 :: x10 :: x11 :: x12 :: x13 :: x14 :: x15 :: x16 :: x17 :: x18 :: x19 :: x20 :: x21 :: x22 :: x23 :: x24 :: x25 :: x26 :: x27 :: x :: r) 28 o (x0 :: x1 :: x2 :: x3 :: x4 :: x5 :: x6 :: x7 :: x8 :: x9 :: x10 :: x11 :: x12 :: x13 :: x14 :: x15 :: x16 :: x17 :: x18 :: x19 :: x20 :: x21 :: x22 :: x23 :: x24 :: x25 :: x26 :: x27 :: o :: r) := rfl
theorem gx29 {x0 x1 x2 x3 x4 x5 x6 x7 x8 x9 x10 x11 x12 x13 x14 x15 x16 x17 x18 x19 x20 x21 x22 x23 x24 x25 x26 x27 x28 : Option V} {v : V} {r : L2.St} : Get1 (x0 :: x1 :: x2 :: x3 :: x4 :: x5 :: x6 :: x7 :: x8 :: x9 :: x10 :: x11 :: x12 :: x13 :: x14 :: x15 :: x16 :: x17 :: x18 :: x19 :: x20 :: x21 :: x22 :: x23 :: x24 :: x25 :: x26 :: x27 :: x28 :: some v :: r) 29 v := rfl
theorem sx29 {x0 x1 x2 x3 x4 x5 x6 x7 x8 x9 x10 x11 x12 x13 x14 x15 x16 x17 x18 x19 x20 x21 x22 x23 x24 x25 x26 x27 x28 : Option V} {x o : Option V} {r : L2.St} : Set1 (x0 :: x1 :: x2 :: x3 :: x4 :: x5 :: x6 :: x7 :: x8 :: x9 :: x10 :: x11 :: x12 :: x13 :: x14 :: x15 :: x16 :: x17 :: x18 :: x19 :: x20 :: x21 :: x22 :: x23 :: x24 :: x25 :: x26 :: x27 :: x28 :: x :: r) 29 o (x0 :: x1 :: x2 :: x3 :: x4 :: x5 :: x6 :: x7 :: x8 :: x9 :: x10 :: x11 :: x12 :: x13 :: x14 :: x15 :: x16 :: x17 :: x18 :: x19 :: x20 :: x21 :: x22 :: x23 :: x24 :: x25 :: x26 :: x27 :: x28 :: o :: r) := rfl
/-! ### named leaves: one head a question -/
section
variable {K : PySem.W.Frag} {σ σ' : L2.St} {A B C : SH} {Φ : V → SH → Prop} {v x y : V} {i j : Int} {p q : Addr} {xs ys : List V} {ta tb te : TE} {t u : TA} {nx : L2.St → SH → Prop} {rt : V → SH → Prop} {bk ct : L2.St → SH → Prop}
def NB (Ψ : Bool → SH → Prop) : V → SH → Prop := fun x A => ∃ k, x = .bl k ∧ Ψ k A
theorem nb {Ψ : Bool → SH → Prop} {b : Bool} (k : Ψ b A) : NB Ψ (.bl b) A := ⟨b, rfl, k⟩
theorem gt_test' {Ψ : Bool → SH → Prop} (h : GE te σ A (NB Ψ)) : GT (tTest te) σ A Ψ := gt_test h
theorem gt_B' {Ψ : Bool → SH → Prop} (h : GE te σ A (NB Ψ)) : GT (tB te) σ A Ψ := gt_B h
theorem ge_andV' (h : GE ta σ A (NB fun c A1 => (c = true → GE tb σ A1 Φ) ∧ (c = false → Φ (.bl false) A1))) : GE (tAndV ta tb) σ A Φ := ge_andV h
theorem ge_orV' (h : GE ta σ A (NB fun c A1 => (c = true → Φ (.bl true) A1) ∧ (c = false → GE tb σ A1 Φ))) : GE (tOrV ta tb) σ A Φ := ge_orV h
theorem ge_notV' (h : GE ta σ A (NB fun c A1 => Φ (.bl (!c)) A1)) : GE (tNotV ta) σ A Φ := ge_notV h
theorem ge_chain' {r r' : R2} {tc : TE} (h : GE ta σ A fun x A1 => GE tb σ A1 fun y A2 => GR r x y A2 (NB fun c A3 => (c = true → GE tc σ A3 fun w A4 => GR r' y w A4 Φ) ∧ (c = false → Φ (.bl false) A3))) : GE (tChain r r' ta tb tc) σ A Φ := ge_chain h
def NNew (o : List V → HO) (Φ : V → SH → Prop) : List V → SH → Prop := fun xs A1 => xs.length ≤ sizeLine ∧ ∀ p, Φ (.ref p) (sg p (o xs) :: A1)
theorem nnew {o : List V → HO} (h : xs.length ≤ 1000) (k : ∀ p, Φ (.ref p) (sg p (o xs) :: A)) : NNew o Φ xs A := ⟨Nat.le_trans h (by decide), k⟩
theorem ge_tup' (h : GA t σ A (NNew .tup Φ)) : GE (tTup t) σ A Φ := ge_tup h
theorem ge_lst' (h : GA t σ A (NNew .lst Φ)) : GE (tLst t) σ A Φ := ge_lst h
def NFld (K : PySem.W.Frag) (f : Str) (Φ : V → SH → Prop) : V → SH → Prop := fun x A1 => ∃ a C dx fs v, x = .ref a ∧ RO A1 a (.ins C dx fs) ∧ FOk K C f ∧ fs.lookup f = some v ∧ Φ v A1
theorem nfld {f : Str} {C dx : Addr} {fs : List (Str × V)} (r : RO A p (.ins C dx fs)) (o : FOk K C f) (l : fs.lookup f = some v) (k : Φ v A) : NFld K f Φ (.ref p) A := ⟨p, C, dx, fs, v, rfl, r, o, l, k⟩
theorem ge_fld' {f : Str} (h : GE te σ A (NFld K f Φ)) : GE (tFld K te f) σ A Φ := ge_fld h
def NFst (K : PySem.W.Frag) (f : Str) (y : V) (k : SH → Prop) : V → SH → Prop := fun x A2 => ∃ a C dx fs B, x = .ref a ∧ Pull A2 (sg a (.ins C dx fs)) B ∧ FOk K C f ∧ fs.length < 1000 ∧ k (sg a (.ins C dx (putF f y fs)) :: B)
theorem nfst {f : Str} {C dx : Addr} {fs fs' : List (Str × V)} {kk : SH → Prop} (pl : Pull A (sg p (.ins C dx fs)) B) (o : FOk K C f) (l : fs.length < 1000) (e : putF f y fs = fs') (k : kk (sg p (.ins C dx fs') :: B)) : NFst K f y kk (.ref p) A := ⟨p, C, dx, fs, B, rfl, pl, o, l, e ▸ k⟩
theorem gs_fld' {f : Str} (h : GE tb σ A fun y A1 => GE ta σ A1 (NFst K f y (nx σ))) : GS (sFld K ta tb f) ⟨nx, rt, bk, ct⟩ σ A := gs_fld h
def NDget (Φ : V → SH → Prop) (y : V) (x : V) : SH → Prop := fun A2 => ∃ a kvs k v, x = .ref a ∧ RD A2 a kvs ∧ KV1 y k ∧ valV kvs k = some v ∧ Φ v A2
theorem ndget {kvs : List (L2.Key × V)} {k : L2.Key} (r : RD A p kvs) (ky : KV1 y k) (hv : valV kvs k = some v) (c : Φ v A) : NDget Φ y (.ref p) A := ⟨p, kvs, k, v, rfl, r, ky, hv, c⟩
theorem ge_dget' (h : GE ta σ A fun x A1 => GE tb σ A1 fun y => NDget Φ y x) : GE (tDGet ta tb) σ A Φ := ge_dget h
def NDin (neg : Bool) (Φ : V → SH → Prop) (y x : V) : SH → Prop := fun A2 => ∃ a kvs k, x = .ref a ∧ RD A2 a kvs ∧ KV1 y k ∧ Φ (.bl (if neg then !(valV kvs k).isSome else (valV kvs k).isSome)) A2
theorem ndin {neg : Bool} {kvs : List (L2.Key × V)} {k : L2.Key} (r : RD A p kvs) (ky : KV1 y k) (c : Φ (.bl (if neg then !(valV kvs k).isSome else (valV kvs k).isSome)) A) : NDin neg Φ y (.ref p) A := ⟨p, kvs, k, rfl, r, ky, c⟩
theorem ge_din' (h : GE ta σ A fun y A1 => GE tb σ A1 fun x => NDin false Φ y x) : GE (tDIn ta tb) σ A Φ := ge_din h
theorem ge_dnotin' (h : GE ta σ A fun y A1 => GE tb σ A1 fun x => NDin true Φ y x) : GE (tDNotIn ta tb) σ A Φ := ge_dnotin h
def NDput (kk : SH → Prop) (v x y : V) : SH → Prop := fun A3 => ∃ a kvs k B, x = .ref a ∧ Pull A3 (sg a (.dK kvs)) B ∧ KV1 y k ∧ kvs.length < sizeLine ∧ kk (sg a (.dK (putK kvs k v)) :: B)
theorem ndput {kk : SH → Prop} {kvs : List (L2.Key × V)} {k : L2.Key} (pl : Pull A (sg p (.dK kvs)) B) (ky : KV1 y k) (l : kvs.length ≤ 1000) (c : kk (sg p (.dK (putK kvs k v)) :: B)) : NDput kk v (.ref p) y A := ⟨p, kvs, k, B, rfl, pl, ky, Nat.lt_of_le_of_lt l (by decide), c⟩
theorem gs_dput' {tv td ty : TE} (h : GE tv σ A fun v A1 => GE td σ A1 fun x A2 => GE ty σ A2 fun y => NDput (nx σ) v x y) : GS (sDPut td ty tv) ⟨nx, rt, bk, ct⟩ σ A := gs_dput h
def NList (K : PySem.W.Frag) (Φ : It → SH → Prop) : V → SH → Prop := fun x A' => ∃ a xs, x = .ref a ∧ RL K A' a xs ∧ Φ (Itl K a) A'
theorem nlist {Φ : It → SH → Prop} (r : RL K A p xs) (k : Φ (Itl K p) A) : NList K Φ (.ref p) A := ⟨p, xs, rfl, r, k⟩
theorem gi_list' {Φ : It → SH → Prop} (h : GE te σ A (NList K Φ)) : GI (iList K te) σ A Φ := gi_list h
def NTup (K : PySem.W.Frag) (Φ : It → SH → Prop) : V → SH → Prop := fun x A' => ∃ a xs, x = .ref a ∧ RT K A' a xs ∧ Φ (Itt K a) A'
theorem ntup {Φ : It → SH → Prop} (r : RT K A p xs) (k : Φ (Itt K p) A) : NTup K Φ (.ref p) A := ⟨p, xs, rfl, r, k⟩
theorem gi_tup' {Φ : It → SH → Prop} (h : GE te σ A (NTup K Φ)) : GI (iTup K te) σ A Φ := gi_tup h
def NRng1 (Φ : It → SH → Prop) : List V → SH → Prop := fun vs A' => ∃ j : Int, vs = [.int j] ∧ -(2 ^ 62) ≤ j ∧ j < 2 ^ 62 ∧ Φ (Itr 0 j.toNat) A'
theorem nrng1 {Φ : It → SH → Prop} (h1 : -(2 ^ 62) ≤ j) (h2 : j < 2 ^ 62) (k : Φ (Itr 0 j.toNat) A) : NRng1 Φ [.int j] A := ⟨j, rfl, h1, h2, k⟩
theorem gi_rng1' {Φ : It → SH → Prop} (h : GA t σ A (NRng1 Φ)) : GI (iRng1 t) σ A Φ := gi_rng1 h
def NRng2 (Φ : It → SH → Prop) : List V → SH → Prop := fun vs A' => ∃ i j : Int, vs = [.int i, .int j] ∧ (-(2 ^ 62) ≤ i ∧ i < 2 ^ 62 ∧ -(2 ^ 62) ≤ j ∧ j < 2 ^ 62) ∧ Φ (Itr i (j - i).toNat) A'
theorem nrng2 {Φ : It → SH → Prop} (h : -(2 ^ 62) ≤ i ∧ i < 2 ^ 62 ∧ -(2 ^ 62) ≤ j ∧ j < 2 ^ 62) (k : Φ (Itr i (j - i).toNat) A) : NRng2 Φ [.int i, .int j] A := ⟨i, j, rfl, h, k⟩
theorem gi_rng2' {Φ : It → SH → Prop} (h : GA t σ A (NRng2 Φ)) : GI (iRng2 t) σ A Φ := gi_rng2 h
def NEnum (K : PySem.W.Frag) (Φ : It → SH → Prop) : List V → SH → Prop := fun vs A' => ∃ a xs, vs = [.ref a] ∧ RL K A' a xs ∧ Φ (Ite K a) A'
theorem nenum {Φ : It → SH → Prop} (r : RL K A p xs) (k : Φ (Ite K p) A) : NEnum K Φ [.ref p] A := ⟨p, xs, rfl, r, k⟩
theorem gi_enum' {Φ : It → SH → Prop} (h : GA t σ A (NEnum K Φ)) : GI (iEnum K t) σ A Φ := gi_enum h
def NStr (Φ : It → SH → Prop) : V → SH → Prop := fun v A' => ∃ x, v = .str x ∧ Φ (Its x) A'
theorem nstr {Φ : It → SH → Prop} {z : Str} (k : Φ (Its z) A) : NStr Φ (.str z) A := ⟨z, rfl, k⟩
theorem gi_str' {Φ : It → SH → Prop} (h : GE te σ A (NStr Φ)) : GI (iStr te) σ A Φ := gi_str h
def NPart (Φ : Option Int → SH → Prop) : V → SH → Prop := fun x A' => ∃ i, x = .int i ∧ Φ (some i) A'
theorem npart {Φ : Option Int → SH → Prop} (k : Φ (some i) A) : NPart Φ (.int i) A := ⟨i, rfl, k⟩
theorem go_some' {Φ : Option Int → SH → Prop} (h : GE te σ A (NPart Φ)) : GO (tPart te) σ A Φ := go_some h
def NBm (K : PySem.W.Frag) (T : String) (t : TA) (σ : L2.St) (r : V → List V → Hp → VK → Prop) (Φ : V → SH → Prop) : V → SH → Prop := fun x A1 => TyA K T x A1 ∧ GA t σ A1 fun vs A2 => GM r x vs A2 Φ
theorem nbm {T : String} {r : V → List V → Hp → VK → Prop} (ty : TyA K T x A) (k : GA t σ A fun vs A2 => GM r x vs A2 Φ) : NBm K T t σ r Φ x A := ⟨ty, k⟩
theorem ge_bm' {T : String} {r : V → List V → Hp → VK → Prop} (h : GE te σ A (NBm K T t σ r Φ)) : GE (tBM K T r te t) σ A Φ := ge_bm h
def NBm0 (K : PySem.W.Frag) (T : String) (r : V → List V → Hp → VK → Prop) (Φ : V → SH → Prop) : V → SH → Prop := fun x A1 => TyA K T x A1 ∧ GM r x [] A1 Φ
theorem nbm0 {T : String} {r : V → List V → Hp → VK → Prop} (ty : TyA K T x A) (k : GM r x [] A Φ) : NBm0 K T r Φ x A := ⟨ty, k⟩
theorem ge_bm0' {T : String} {r : V → List V → Hp → VK → Prop} (h : GE te σ A (NBm0 K T r Φ)) : GE (tBM0 K T r te) σ A Φ := ge_bm0 h
def NMet (MT : Addr → Spec → Prop) (m : Str) (Ψ : Value → Option Addr → L2.St → SH → Prop) (t : TA) (σ : L2.St) (Φ : V → SH → Prop) : V → SH → Prop := fun x A1 => ∃ a C dx fs sp, x = .ref a ∧ RO A1 a (.ins C dx fs) ∧ MT C sp ∧ fs.lookup m = none ∧ GA t σ A1 fun vs A2 => sp (x :: vs) A2 Φ fun c d A3 => Ψ c d σ A3
theorem nmet {MT : Addr → Spec → Prop} {m : Str} {Ψ : Value → Option Addr → L2.St → SH → Prop} {C dx : Addr} {fs : List (Str × V)} {sp : Spec} (r : RO A p (.ins C dx fs)) (mt : MT C sp) (l : fs.lookup m = none)
    (k : GA t σ A fun vs A2 => sp (.ref p :: vs) A2 Φ fun c d A3 => Ψ c d σ A3) : NMet MT m Ψ t σ Φ (.ref p) A := ⟨p, C, dx, fs, sp, rfl, r, mt, l, k⟩
theorem ge_met' {MT : Addr → Spec → Prop} {m : Str} {Ψ : Value → Option Addr → L2.St → SH → Prop} {W : WX} (hx : WPost Ψ W) (h : GE ta σ A (NMet MT m Ψ t σ Φ)) : GE (tMet MT m W ta t) σ A Φ := ge_met hx h
def NMak (C : Addr) (sp : Spec) (Φ : V → SH → Prop) (Ψ : Value → Option Addr → L2.St → SH → Prop) (σ : L2.St) : List V → SH → Prop := fun vs A1 => ∀ x dx, sp (V.ref x :: vs) (sg x (.ins C dx []) :: A1) (fun v A2 => v = .non ∧ Φ (.ref x) A2) fun c d A2 => Ψ c d σ A2
theorem ge_mak' {C : Addr} {sp : Spec} {W : WX} {Ψ : Value → Option Addr → L2.St → SH → Prop} (hx : WPost Ψ W) (h : GA t σ A (NMak C sp Φ Ψ σ)) : GE (tMak C (lift sp) W t) σ A Φ := ge_mak hx h
/-! ### short bounds -/
def IntL (xs : List V) (ns : List Int) : Prop := xs = ns.map V.int
theorem il_nil : IntL [] [] := rfl
theorem il_cons {ns : List Int} (h : IntL xs ns) : IntL (.int i :: xs) (i :: ns) := by
  show V.int i :: xs = V.int i :: ns.map V.int
  rw [h]
theorem il_map {ns : List Int} : IntL (ns.map V.int) ns := rfl
theorem getD_at {ns : List Int} {k : Nat} (h : k < ns.length) : ns[k]? = some (ns.getD k 0) := by
  rw [List.getD_eq_getElem?_getD, List.getElem?_eq_getElem h]
  rfl
theorem at_ints {ns : List Int} (hx : IntL xs ns) (h0 : 0 ≤ i) (h1 : i < (ns.length : Int)) : atI xs i = some (.int (ns.getD i.toNat 0)) := by
  have e : xs = ns.map V.int := hx
  subst e
  have hl : i < ((ns.map V.int).length : Int) := by rw [List.length_map]; exact h1
  rw [atI_lt h0 hl]
  congr 1
  rw [List.getElem_map]
  congr 1
  have := getD_at (ns := ns) (k := i.toNat) (by omega)
  rw [List.getElem?_eq_getElem (by omega)] at this
  exact Option.some.inj this
theorem gr_ixI {ns : List Int} (r : RL K A p xs) (hx : IntL xs ns) (h0 : 0 ≤ i) (h1 : i < (ns.length : Int)) (k : Φ (.int (ns.getD i.toNat 0)) A) : GR (rIx K) (.ref p) (.int i) A Φ := gr_ixL r (at_ints hx h0 h1) k
theorem gr_ixTI {ns : List Int} (r : RT K A p xs) (hx : IntL xs ns) (h0 : 0 ≤ i) (h1 : i < (ns.length : Int)) (k : Φ (.int (ns.getD i.toNat 0)) A) : GR (rIx K) (.ref p) (.int i) A Φ := gr_ixT r (at_ints hx h0 h1) k
theorem cdiv (h1 : 0 < j) (h2 : j < 1073741824) : CDiv i j := ⟨h1, h2⟩
theorem cmulL (h1 : -(2 ^ 64) < i) (h2 : i < 2 ^ 64) : CMul i j := .inl ⟨h1, h2⟩
theorem cmulR (h1 : -(2 ^ 64) < j) (h2 : j < 2 ^ 64) : CMul i j := .inr ⟨h1, h2⟩
/-- facts of a known part of the heap -/
theorem RT.k {a : Addr} (h : ∀ H, SqT K H a xs) : RT K A a xs := fun H _ => h H
theorem sz (n : Nat) (h : n ≤ 1000 := by decide) : n ≤ sizeLine := Nat.le_trans h (by decide)
theorem sz1 {n : Nat} (h : n ≤ 1000) : n < sizeLine := Nat.lt_of_le_of_lt h (by decide)
theorem sz2 {n : Nat} (h : n ≤ 1000) : n ≤ sizeLine := Nat.le_trans h (by decide)
end
end S

namespace S
open PySem L2
theorem kt_NoneType_int {K : PySem.W.Frag} : PySem.W.kitOne K (.type "NoneType") (.type "int") = some false := kit_ty (by decide +kernel)
theorem kt_NoneType_bool {K : PySem.W.Frag} : PySem.W.kitOne K (.type "NoneType") (.type "bool") = some false := kit_ty (by decide +kernel)
theorem kt_NoneType_str {K : PySem.W.Frag} : PySem.W.kitOne K (.type "NoneType") (.type "str") = some false := kit_ty (by decide +kernel)
theorem kt_NoneType_list {K : PySem.W.Frag} : PySem.W.kitOne K (.type "NoneType") (.type "list") = some false := kit_ty (by decide +kernel)
theorem kt_NoneType_tuple {K : PySem.W.Frag} : PySem.W.kitOne K (.type "NoneType") (.type "tuple") = some false := kit_ty (by decide +kernel)
theorem kt_NoneType_dict {K : PySem.W.Frag} : PySem.W.kitOne K (.type "NoneType") (.type "dict") = some false := kit_ty (by decide +kernel)
theorem kt_bool_int {K : PySem.W.Frag} : PySem.W.kitOne K (.type "bool") (.type "int") = some true := kit_ty (by decide +kernel)
theorem kt_bool_bool {K : PySem.W.Frag} : PySem.W.kitOne K (.type "bool") (.type "bool") = some true := kit_ty (by decide +kernel)
theorem kt_bool_str {K : PySem.W.Frag} : PySem.W.kitOne K (.type "bool") (.type "str") = some false := kit_ty (by decide +kernel)
theorem kt_bool_list {K : PySem.W.Frag} : PySem.W.kitOne K (.type "bool") (.type "list") = some false := kit_ty (by decide +kernel)
theorem kt_bool_tuple {K : PySem.W.Frag} : PySem.W.kitOne K (.type "bool") (.type "tuple") = some false := kit_ty (by decide +kernel)
theorem kt_bool_dict {K : PySem.W.Frag} : PySem.W.kitOne K (.type "bool") (.type "dict") = some false := kit_ty (by decide +kernel)
theorem kt_int_int {K : PySem.W.Frag} : PySem.W.kitOne K (.type "int") (.type "int") = some true := kit_ty (by decide +kernel)
theorem kt_int_bool {K : PySem.W.Frag} : PySem.W.kitOne K (.type "int") (.type "bool") = some false := kit_ty (by decide +kernel)
theorem kt_int_str {K : PySem.W.Frag} : PySem.W.kitOne K (.type "int") (.type "str") = some false := kit_ty (by decide +kernel)
theorem kt_int_list {K : PySem.W.Frag} : PySem.W.kitOne K (.type "int") (.type "list") = some false := kit_ty (by decide +kernel)
theorem kt_int_tuple {K : PySem.W.Frag} : PySem.W.kitOne K (.type "int") (.type "tuple") = some false := kit_ty (by decide +kernel)
theorem kt_int_dict {K : PySem.W.Frag} : PySem.W.kitOne K (.type "int") (.type "dict") = some false := kit_ty (by decide +kernel)
theorem kt_str_int {K : PySem.W.Frag} : PySem.W.kitOne K (.type "str") (.type "int") = some false := kit_ty (by decide +kernel)
theorem kt_str_bool {K : PySem.W.Frag} : PySem.W.kitOne K (.type "str") (.type "bool") = some false := kit_ty (by decide +kernel)
theorem kt_str_str {K : PySem.W.Frag} : PySem.W.kitOne K (.type "str") (.type "str") = some true := kit_ty (by decide +kernel)
theorem kt_str_list {K : PySem.W.Frag} : PySem.W.kitOne K (.type "str") (.type "list") = some false := kit_ty (by decide +kernel)
theorem kt_str_tuple {K : PySem.W.Frag} : PySem.W.kitOne K (.type "str") (.type "tuple") = some false := kit_ty (by decide +kernel)
theorem kt_str_dict {K : PySem.W.Frag} : PySem.W.kitOne K (.type "str") (.type "dict") = some false := kit_ty (by decide +kernel)
theorem kt_list_int {K : PySem.W.Frag} : PySem.W.kitOne K (.type "list") (.type "int") = some false := kit_ty (by decide +kernel)
theorem kt_list_bool {K : PySem.W.Frag} : PySem.W.kitOne K (.type "list") (.type "bool") = some false := kit_ty (by decide +kernel)
theorem kt_list_str {K : PySem.W.Frag} : PySem.W.kitOne K (.type "list") (.type "str") = some false := kit_ty (by decide +kernel)
theorem kt_list_list {K : PySem.W.Frag} : PySem.W.kitOne K (.type "list") (.type "list") = some true := kit_ty (by decide +kernel)
theorem kt_list_tuple {K : PySem.W.Frag} : PySem.W.kitOne K (.type "list") (.type "tuple") = some false := kit_ty (by decide +kernel)
theorem kt_list_dict {K : PySem.W.Frag} : PySem.W.kitOne K (.type "list") (.type "dict") = some false := kit_ty (by decide +kernel)
theorem kt_tuple_int {K : PySem.W.Frag} : PySem.W.kitOne K (.type "tuple") (.type "int") = some false := kit_ty (by decide +kernel)
theorem kt_tuple_bool {K : PySem.W.Frag} : PySem.W.kitOne K (.type "tuple") (.type "bool") = some false := kit_ty (by decide +kernel)
theorem kt_tuple_str {K : PySem.W.Frag} : PySem.W.kitOne K (.type "tuple") (.type "str") = some false := kit_ty (by decide +kernel)
theorem kt_tuple_list {K : PySem.W.Frag} : PySem.W.kitOne K (.type "tuple") (.type "list") = some false := kit_ty (by decide +kernel)
theorem kt_tuple_tuple {K : PySem.W.Frag} : PySem.W.kitOne K (.type "tuple") (.type "tuple") = some true := kit_ty (by decide +kernel)
theorem kt_tuple_dict {K : PySem.W.Frag} : PySem.W.kitOne K (.type "tuple") (.type "dict") = some false := kit_ty (by decide +kernel)
theorem kt_dict_int {K : PySem.W.Frag} : PySem.W.kitOne K (.type "dict") (.type "int") = some false := kit_ty (by decide +kernel)
theorem kt_dict_bool {K : PySem.W.Frag} : PySem.W.kitOne K (.type "dict") (.type "bool") = some false := kit_ty (by decide +kernel)
theorem kt_dict_str {K : PySem.W.Frag} : PySem.W.kitOne K (.type "dict") (.type "str") = some false := kit_ty (by decide +kernel)
theorem kt_dict_list {K : PySem.W.Frag} : PySem.W.kitOne K (.type "dict") (.type "list") = some false := kit_ty (by decide +kernel)
theorem kt_dict_tuple {K : PySem.W.Frag} : PySem.W.kitOne K (.type "dict") (.type "tuple") = some false := kit_ty (by decide +kernel)
theorem kt_dict_dict {K : PySem.W.Frag} : PySem.W.kitOne K (.type "dict") (.type "dict") = some true := kit_ty (by decide +kernel)
theorem kit_self {K : PySem.W.Frag} {C : Addr} : PySem.W.kitOne K (.ref C) (.ref C) = some true := by
  unfold PySem.W.kitOne
  rw [if_pos (by simp)]
section
variable {K : PySem.W.Frag} {σ : L2.St} {A B : SH} {Φ : V → SH → Prop} {v x y : V} {i j : Int} {p q : Addr} {xs ys : List V}
theorem gc_lenM {α : Type} {f : α → V} {l : List α} (r : RL K A p (l.map f)) (k : Φ (.int (l.length : Nat)) A) : GC (cLen K) [.ref p] A Φ := gc_lenL r (by rw [List.length_map]; exact k)
theorem atI_nat' {α : Type} {l : List α} {n : Nat} {x : α} (h : l[n]? = some x) : atI l (n : Int) = some x := by
  have := (List.getElem?_eq_some_iff.mp h).1
  unfold atI ixN
  rw [if_pos (by omega), if_pos (by omega)]
  simpa using h
theorem gr_ixN {n : Nat} (r : RL K A p xs) (h : xs[n]? = some v) (k : Φ v A) : GR (rIx K) (.ref p) (.int (n : Int)) A Φ := gr_ixL r (atI_nat' h) k
theorem gr_inS0 {c : Nat} {z : Str} (k : Φ (.bl (decide (c ∈ z.cps.toList))) A) : GR (dIn K false) (.str ⟨#[c]⟩) (.str z) A Φ := gr_inS k
theorem gr_inS1 {c : Nat} {z : Str} (k : Φ (.bl (!decide (c ∈ z.cps.toList))) A) : GR (dIn K true) (.str ⟨#[c]⟩) (.str z) A Φ := gr_inS k
theorem gr_inL0 (r : RL K A p xs) (f : flatV x = true) (fs : xs.all flatV = true) (k : Φ (.bl (inV x xs)) A) : GR (dIn K false) x (.ref p) A Φ := gr_inL r f fs k
theorem gr_inL1 (r : RL K A p xs) (f : flatV x = true) (fs : xs.all flatV = true) (k : Φ (.bl (!inV x xs)) A) : GR (dIn K true) x (.ref p) A Φ := gr_inL r f fs k
theorem gr_inT0 (r : RT K A p xs) (f : flatV x = true) (fs : xs.all flatV = true) (k : Φ (.bl (inV x xs)) A) : GR (dIn K false) x (.ref p) A Φ := gr_inT r f fs k
theorem gr_inT1 (r : RT K A p xs) (f : flatV x = true) (fs : xs.all flatV = true) (k : Φ (.bl (!inV x xs)) A) : GR (dIn K true) x (.ref p) A Φ := gr_inT r f fs k
theorem ndin0 {kvs : List (L2.Key × V)} {k : L2.Key} (r : RD A p kvs) (ky : KV1 y k) (c : Φ (.bl (valV kvs k).isSome) A) : NDin false Φ y (.ref p) A := ndin r ky c
theorem ndin1 {kvs : List (L2.Key × V)} {k : L2.Key} (r : RD A p kvs) (ky : KV1 y k) (c : Φ (.bl (!(valV kvs k).isSome)) A) : NDin true Φ y (.ref p) A := ndin r ky c
theorem is_non (k : Φ (.bl true) A) : GR (dIs false) .non .non A Φ := gr_isN k
theorem isn_non (k : Φ (.bl false) A) : GR (dIs true) .non .non A Φ := gr_isN k
theorem is_int (k : Φ (.bl false) A) : GR (dIs false) (.int i) .non A Φ := gr_isN k
theorem isn_int (k : Φ (.bl true) A) : GR (dIs true) (.int i) .non A Φ := gr_isN k
theorem is_ref (k : Φ (.bl false) A) : GR (dIs false) (.ref p) .non A Φ := gr_isN k
theorem isn_ref (k : Φ (.bl true) A) : GR (dIs true) (.ref p) .non A Φ := gr_isN k
theorem is_str {z : Str} (k : Φ (.bl false) A) : GR (dIs false) (.str z) .non A Φ := gr_isN k
theorem isn_str {z : Str} (k : Φ (.bl true) A) : GR (dIs true) (.str z) .non A Φ := gr_isN k
theorem is_bl {b : Bool} (k : Φ (.bl false) A) : GR (dIs false) (.bl b) .non A Φ := gr_isN k
theorem gc_isi2t {tp : Addr} {c1 c2 : V} {t u1 u2 : Value} (r : RO A tp (.tup [c1, c2])) (h1 : ClsV c1 u1) (h2 : ClsV c2 u2) (ty : TyG K A x t) (e : PySem.W.kitOne K t u1 = some true) (k : Φ (.bl true) A) : GC (rIsiT K) [x, .ref tp] A Φ :=
  gc_isiT r (.cons h1 (.cons h2 .nil)) ty (kitAny_cons e (fun z => (nomatch z)) fun _ => rfl) k
theorem gc_isi2f {tp : Addr} {c1 c2 : V} {t u1 u2 : Value} {b : Bool} (r : RO A tp (.tup [c1, c2])) (h1 : ClsV c1 u1) (h2 : ClsV c2 u2) (ty : TyG K A x t) (e : PySem.W.kitOne K t u1 = some false) (e2 : PySem.W.kitOne K t u2 = some b) (k : Φ (.bl b) A) : GC (rIsiT K) [x, .ref tp] A Φ :=
  gc_isiT r (.cons h1 (.cons h2 .nil)) ty (kitAny_cons e (fun _ => kitAny_cons e2 (fun z => by rw [z]; exact kitAny_nil) fun z => z) fun z => (nomatch z)) k
def FlN (fs : List (Str × V)) (n : Nat) : Prop := fs.length ≤ n
theorem fl0 : FlN [] 0 := Nat.le_refl 0
theorem putF_le (f : Str) (y : V) : ∀ fs : List (Str × V), (putF f y fs).length ≤ fs.length + 1
  | [] => Nat.le_refl _
  | (g, z) :: r => by
    show (if g = f then (g, y) :: r else (g, z) :: putF f y r).length ≤ r.length + 1 + 1
    split
    · simp
    · have := putF_le f y r
      simp only [List.length_cons]
      omega
theorem fl1 {f : Str} {y : V} {fs : List (Str × V)} {n : Nat} (h : FlN fs n) : FlN (putF f y fs) (n + 1) := Nat.le_trans (putF_le f y fs) (Nat.succ_le_succ h)
theorem fl_of {fs : List (Str × V)} {n : Nat} (h : FlN fs n) (l : n < 1000) : fs.length < 1000 := Nat.lt_of_le_of_lt h l
theorem gr_eqE0 (r1 : RL K A p []) (r2 : RL K A q []) (k : Φ (.bl true) A) : GR (dEq K) (.ref p) (.ref q) A Φ := gr_eqD (dp_lst r1 dps_nil) (dp_lst r2 dps_nil) (by decide +kernel) (by decide +kernel) k
/-- what was made on the way, ahead of the rest -/
theorem Sl.app {G A : SH} : Sl A (G ++ A) := by
  induction G with
  | nil => exact .refl
  | cons g G ih => exact .drop ih
theorem Sl.app' {G A B : SH} (h : Sl B A) : Sl B (G ++ A) := by
  induction G with
  | nil => exact h
  | cons g G ih => exact .drop ih
theorem Le.pre {G A : SH} : Le G (G ++ A) := fun H h => ⟨fun g hg => h.1 g (List.mem_append_left _ hg), (List.pairwise_append.mp h.2).1⟩
theorem Le.app' {G A B : SH} (l : Le B A) : Le B (G ++ A) := fun H h => l H ⟨fun g hg => h.1 g (List.mem_append_right _ hg), (List.pairwise_append.mp h.2).2.1⟩
theorem Le.app {G A : SH} : Le A (G ++ A) := Sl.app.le
theorem RO.app {G A : SH} {a : Addr} {o : HO} (h : RO A a o) : RO (G ++ A) a o := h.le Le.app
theorem RL.app {G A : SH} {a : Addr} (h : RL K A a xs) : RL K (G ++ A) a xs := h.le Le.app
theorem RT.app {G A : SH} {a : Addr} (h : RT K A a xs) : RT K (G ++ A) a xs := h.le Le.app
theorem RD.le {a : Addr} {kvs : List (L2.Key × V)} (l : Le A B) (h : RD A a kvs) : RD B a kvs := fun H x => h H (l H x)
theorem RD.app {G A : SH} {a : Addr} {kvs : List (L2.Key × V)} (h : RD A a kvs) : RD (G ++ A) a kvs := h.le Le.app
theorem Pull.app {G A B : SH} {h : Hp} (p : Pull A h B) : Pull (G ++ A) h (G ++ B) := by
  induction G with
  | nil => exact p
  | cons g G ih => exact .tail ih
theorem lk_put {f : Str} {y : V} {fs : List (Str × V)} : (putF f y fs).lookup f = some y := by rw [lookup_putF, if_pos rfl]
theorem lk_ne {f g : Str} {y z : V} {fs : List (Str × V)} (h : ¬ g = f) (l : fs.lookup g = some z) : (putF f y fs).lookup g = some z := by rw [lookup_putF, if_neg h]; exact l
theorem lk_nil {g : Str} : ([] : List (Str × V)).lookup g = none := rfl
theorem lk_no {f g : Str} {y : V} {fs : List (Str × V)} (h : ¬ g = f) (l : fs.lookup g = none) : (putF f y fs).lookup g = none := by rw [lookup_putF, if_neg h]; exact l
theorem lay_ints : ∀ ns : List Int, PyData.canLayAll0 (ns.map PyData.int) = true ∧ PyData.depthAll (ns.map PyData.int) = 0
  | [] => ⟨by simp only [List.map_nil, PyData.canLayAll0], by simp only [List.map_nil, PyData.depthAll]⟩
  | n :: r => by
    obtain ⟨h1, h2⟩ := lay_ints r
    exact ⟨by simp only [List.map_cons, PyData.canLayAll0, PyData.canLay0, h1, Bool.and_self], by simp only [List.map_cons, PyData.depthAll, PyData.depth, h2, Nat.max_self]⟩
theorem shp_ints (ns : List Int) : SeqAt.shaped (.list (ns.map PyData.int)) = true ∧ SeqAt.shaped (.tuple (ns.map PyData.int)) = true := by
  obtain ⟨h1, h2⟩ := lay_ints ns
  constructor <;> (unfold SeqAt.shaped; simp only [PyData.canLay0, PyData.depth, h1, h2]; decide)
theorem eqv_ints : ∀ ns ms : List Int, PyData.eqvAll (ns.map PyData.int) (ms.map PyData.int) = decide (ns = ms)
  | [], [] => by simp only [List.map_nil, PyData.eqvAll, decide_true]
  | [], _ :: _ => by simp [PyData.eqvAll]
  | _ :: _, [] => by simp [PyData.eqvAll]
  | n :: r, m :: t => by
    have ih := eqv_ints r t
    simp only [List.map_cons, PyData.eqvAll, PyData.eqv, ih]
    by_cases e : n = m
    · subst e
      simp
    · simp [e]
theorem dps_il {ns : List Int} (h : IntL xs ns) : DPs K A xs (ns.map PyData.int) := by
  have e : xs = ns.map V.int := h
  rw [e]; exact dps_ints
theorem gr_eqTI {ns ms : List Int} (r1 : RT K A p xs) (r2 : RT K A q ys) (h1 : IntL xs ns) (h2 : IntL ys ms) (k : Φ (.bl (decide (ns = ms))) A) : GR (dEq K) (.ref p) (.ref q) A Φ :=
  gr_eqD (dp_tup r1 (dps_il h1)) (dp_tup r2 (dps_il h2)) (shp_ints ns).2 (shp_ints ms).2 (by simp only [PyData.eqv, eqv_ints]; exact k)
theorem gr_neTI {ns ms : List Int} (r1 : RT K A p xs) (r2 : RT K A q ys) (h1 : IntL xs ns) (h2 : IntL ys ms) (k : Φ (.bl (!decide (ns = ms))) A) : GR (dNe K) (.ref p) (.ref q) A Φ :=
  gr_neD (dp_tup r1 (dps_il h1)) (dp_tup r2 (dps_il h2)) (shp_ints ns).2 (shp_ints ms).2 (by simp only [PyData.eqv, eqv_ints]; exact k)
theorem gr_eqLI {ns ms : List Int} (r1 : RL K A p xs) (r2 : RL K A q ys) (h1 : IntL xs ns) (h2 : IntL ys ms) (k : Φ (.bl (decide (ns = ms))) A) : GR (dEq K) (.ref p) (.ref q) A Φ :=
  gr_eqD (dp_lst r1 (dps_il h1)) (dp_lst r2 (dps_il h2)) (shp_ints ns).1 (shp_ints ms).1 (by simp only [PyData.eqv, eqv_ints]; exact k)
theorem gr_neLI {ns ms : List Int} (r1 : RL K A p xs) (r2 : RL K A q ys) (h1 : IntL xs ns) (h2 : IntL ys ms) (k : Φ (.bl (!decide (ns = ms))) A) : GR (dNe K) (.ref p) (.ref q) A Φ :=
  gr_neD (dp_lst r1 (dps_il h1)) (dp_lst r2 (dps_il h2)) (shp_ints ns).1 (shp_ints ms).1 (by simp only [PyData.eqv, eqv_ints]; exact k)
theorem gr_ixSD {z : Str} (l : z.length ≤ 1000) (h0 : 0 ≤ i) (h1 : i < (z.length : Int)) (k : Φ (.str ⟨#[z.cps.toList.getD i.toNat 0]⟩) A) : GR (rIx K) (.str z) (.int i) A Φ := by
  have hl : i.toNat < z.cps.toList.length := by
    have : (z.length : Int) = (z.cps.toList.length : Int) := by simp [Str.length]
    omega
  refine gr_ixS (c := z.cps.toList.getD i.toNat 0) (Nat.le_trans l (by decide)) ?_ k
  rw [atI_lt h0 (by omega), List.getD_eq_getElem?_getD, List.getElem?_eq_getElem hl]
  rfl
theorem len1 {c : Nat} : (⟨#[c]⟩ : Str).length = 1 := rfl
/-- a list mapped, at a place -/
theorem gr_ixM {α : Type} {f : α → V} {l : List α} {n : Nat} {x : α} (r : RL K A p (l.map f)) (h : l[n]? = some x) (k : Φ (f x) A) : GR (rIx K) (.ref p) (.int (n : Int)) A Φ := gr_ixN r (by rw [List.getElem?_map, h]; rfl) k
end
end S

namespace S
open PySem L2
section
variable {P : Program} {w : World} {K : PySem.W.Frag} {mg : Str → Option Value} {base : Heap} {x qual m : Str} {params : Arguments} {body : List Stmt} {scope : Scope} {dvs : List V} {kws : List (Str × V)} {f C : Addr} {fd : FuncData} {ps : List Str} {k : Nat} {sp : Sp}
theorem fnR_of (ok : FnOk P w K mg base (L2.CX P w) k f fd ps sp) (hb : Binds K fd ps []) : FnR P w K mg base (L2.CX P w) k f sp :=
  (FnOk.raw ok hb .nil).imp fun vs H Q E h => by rw [List.append_nil]; exact h
theorem defR_of (F : FunD K x qual params body scope dvs kws f fd) (hm : mg x = some (.ref f)) (hb : Binds K fd ps []) (ok : FnOk P w K mg base (L2.CX P w) k f fd ps sp) : DefR P w K mg base k x sp := ⟨f, fnR_of ok hb, hm, F.kp⟩
theorem methR_of (c : Cls K C) (hm : Meth K C m f) (hb : Binds K fd ps []) (ok : FnOk P w K mg base (L2.CX P w) k f fd ps sp) : MethR P w K mg base k C m sp := ⟨c, f, hm, fnR_of ok hb⟩
theorem makR_of (M : Mk K C f) (hm : mg x = some (.ref C)) (hb : Binds K fd ps []) (ok : FnOk P w K mg base (L2.CX P w) k f fd ps sp) : MakR P w K mg base k x C sp := ⟨f, M, fnR_of ok hb, hm⟩
theorem methR_mono {j : Nat} (h : MethR P w K mg base j C m sp) (l : j ≤ k) : MethR P w K mg base k C m sp := by
  obtain ⟨c, f, hm, F⟩ := h
  exact ⟨c, f, hm, F.mono l⟩
theorem funD_mk {st : Stmt} {oc : Value} {od an : Option Addr} {osl : Array (Option Value)} {kV doc pm cdv ct : Value} (l : K.lookup f = some ⟨oc, od, .func (PySem.W.fnOf x qual (defArgs st) (defBody st) (defScope st) .none kV doc pm an cdv ct), osl⟩)
    (c : PySem.W.codeIn K cdv qual = true) (kp : PySem.W.keepIn K (.ref f) = true) : FunD K x qual (defArgs st) (defBody st) (defScope st) [] [] f (PySem.W.fnOf x qual (defArgs st) (defBody st) (defScope st) .none kV doc pm an cdv ct) :=
  ⟨⟨oc, od, .none, kV, doc, pm, an, cdv, ct, osl, rfl, l, c, .inl ⟨rfl, rfl⟩, .inl rfl⟩, kp⟩
theorem funD_mkD {st : Stmt} {oc : Value} {od an : Option Addr} {osl : Array (Option Value)} {kV doc pm cdv ct : Value} {D : Addr} {o : Obj} {its : List Value} {n : Nat} (l : K.lookup f = some ⟨oc, od, .func (PySem.W.fnOf x qual (defArgs st) (defBody st) (defScope st) (.ref D) kV doc pm an cdv ct), osl⟩)
    (c : PySem.W.codeIn K cdv qual = true) (kp : PySem.W.keepIn K (.ref f) = true) (hD : K.lookup D = some o) (hs : o.data = .seq its.toArray n) (hv : Vals dvs its) (hne : dvs ≠ []) :
    FunD K x qual (defArgs st) (defBody st) (defScope st) dvs [] f (PySem.W.fnOf x qual (defArgs st) (defBody st) (defScope st) (.ref D) kV doc pm an cdv ct) :=
  ⟨⟨oc, od, .ref D, kV, doc, pm, an, cdv, ct, osl, rfl, l, c, .inr ⟨hne, D, o, its, n, rfl, hD, hs, hv⟩, .inl rfl⟩, kp⟩
theorem binds_all (F : FunD K x qual params body scope dvs [] f fd) (hd : dvs ≠ [])
    (h : ∀ (T : Addr) (kV doc pm : Value) (an : Option Addr) (cdv ct : Value) (us its : List Value), us.length = ps.length → its.length = dvs.length →
      ∃ k, bindArgs (PySem.W.fnOf x qual params body scope (.ref T) kV doc pm an cdv ct) ⟨us, []⟩ = seqItems? (.ref T) >>= k ∧ k (some its.toArray) = pure (ps.zip us)) : Binds K fd ps [] := by
  obtain ⟨ds, hv, hb⟩ := F.binds1 (ps := ps) ps.length dvs.length hd (by omega) fun T kV doc pm an cdv ct us its h1 h2 => by
    obtain ⟨k, e1, e2⟩ := h T kV doc pm an cdv ct us its h1 h2
    refine ⟨k, e1, ?_⟩
    rw [e2, List.drop_eq_nil_of_le (by omega), List.append_nil]
  rw [List.drop_eq_nil_of_le (Nat.le_refl _)] at hv
  cases hv
  exact hb
end
/-- a constant tuple of the module -/
theorem sqT_k {K : PySem.W.Frag} {p : Addr} {od : Option Addr} {its : Array Value} {n : Nat} {sl : Array (Option Value)} {xs : List V} (l : K.lookup p = some ⟨.type "tuple", od, .seq its n, sl⟩) (hz : its.size ≤ 1000) (hv : Vals xs its.toList) : ∀ H, SqT K H p xs :=
  fun H => .inr ⟨_, its, n, l, rfl, rfl, Nat.le_trans hz (by decide), hv⟩
theorem sqL_sub {K : PySem.W.Frag} {H H' : Hp} {p : Addr} {xs : List V} (s : Sub H H') (h : SqL K H p xs) : SqL K H' p xs := by
  rcases h with (h | ⟨o, h⟩) | h
  · exact .inl (.inl (s _ _ h))
  · exact .inl (.inr ⟨o, s _ _ h⟩)
  · exact .inr h
theorem has_self {H : Hp} : Has H [H] := ⟨fun h hh => by rw [List.mem_singleton.mp hh]; exact fun _ _ e => e, List.pairwise_singleton _ _⟩
/-- the law's call -/
theorem law_in {K : PySem.W.Frag} {a : Addr} {ns : List Int} {H : Hp} {sp : Spec} (hS : SqL K H a (ns.map V.int)) (h : ∀ A : SH, RL K A a (ns.map V.int) → sp [.ref a] A (fun v _ => v = .bl true) fun _ _ _ => False) : lift sp [.ref a] H (fun v _ => v = .bl true) fun _ _ _ => False :=
  ⟨[H], fun v _ => v = .bl true, fun _ _ _ => False, has_self, fun v A H' _ e => e, fun _ _ _ _ _ z => z, h [H] fun H' x => sqL_sub x.head hS⟩
theorem cx_no {P : Program} {w : World} {H : Hp} {s : Shared} {e : Value} {s' : Shared} (h : L2.CX P w [] H s (fun _ _ _ => False) e s') : False := by
  obtain ⟨_, _, _, _, _, _, _, _, _, _, _, _, z⟩ := h
  exact z
end S

namespace S
section
variable {α : Type} [DecidableEq α]
/-- how many unlike ones -/
def dst : List α → Nat
  | [] => 0
  | x :: r => if x ∈ r then dst r else dst r + 1
def dsf (l : List α) : Nat := dst l.reverse
theorem dsf_snoc (l : List α) (x : α) : dsf (l ++ [x]) = if x ∈ l then dsf l else dsf l + 1 := by
  unfold dsf
  rw [List.reverse_append]
  show dst (x :: l.reverse) = _
  rw [dst]
  simp only [List.mem_reverse]
theorem dst_le : ∀ l : List α, dst l ≤ l.length
  | [] => Nat.le_refl _
  | x :: r => by
    have := dst_le r
    rw [dst, List.length_cons]
    split <;> omega
theorem dsf_le (l : List α) : dsf l ≤ l.length := by
  have := dst_le l.reverse
  rwa [List.length_reverse] at this
theorem dst_full : ∀ l : List α, dst l = l.length ↔ l.Nodup
  | [] => by simp [dst]
  | x :: r => by
    have h := dst_le r
    have ih := dst_full r
    rw [dst, List.length_cons, List.nodup_cons]
    split
    · rename_i m
      constructor
      · intro e
        omega
      · intro e
        exact absurd m e.1
    · rename_i m
      constructor
      · intro e
        exact ⟨m, ih.mp (by omega)⟩
      · intro e
        rw [ih.mpr e.2]
theorem dsf_full (l : List α) : dsf l = l.length ↔ l.Nodup := by
  have := dst_full l.reverse
  rw [List.length_reverse] at this
  unfold dsf
  rw [this]
  exact (List.reverse_perm l).nodup_iff
end
section
open PySem PyProof.Rows
variable {P : Program} {w : World} {α : Type} [DecidableEq α] {knd : KeyKind P w α} {A : Around} {R : Result → Shared → Prop} {I : Addr} {fp wr : List Addr} {G : Array GenState → Array GenState → Prop} {n : Nat} {Pv : Nat → Value → Prop} {St : Nat → Shared → Prop}
theorem setOf_as {h : Heap} {a : Addr} {f g : α → Bool} {i j : Nat} (x : h.SetOf knd a f i) (e : f = g) (e' : i = j) : h.SetOf knd a g j := e ▸ e' ▸ x
theorem setOf_mv {h h' : Heap} {a : Addr} {f : α → Bool} {i : Nat} (x : h.SetOf knd a f i) (k : ∀ o, h.get? a = some o → h'.get? a = some o) : h'.SetOf knd a f i := let ⟨o, es, ep, t, ho, r⟩ := x; ⟨o, es, ep, t, k o ho, r⟩
theorem set_fill (W : WalksS P w A.in1 I fp wr G n Pv St) (S : Addr) (hf : S ∉ fp) (xs : List α) (hl : xs.length = n) (hz : n + 1 < scanBound) (hv : ∀ i v, Pv i v → ∃ x, xs[i]? = some x ∧ knd.is x v = true ∧ v.scannable = true) :
    ∀ (k i : Nat) (s : Shared), n - i = k → i ≤ n → St i s → s.heap.SetOf knd S (fun y => decide (y ∈ xs.take i)) (dsf (xs.take i)) →
      (∀ s', Moved (S :: wr) G s s' → s'.heap.SetOf knd S (fun y => decide (y ∈ xs)) (dsf xs) → R (.ok (.ret .none)) s') → codeAny (model P w) A (.builtin "set.update.loop" ⟨[.ref S, .ref I], []⟩) R s := by
  have out : S ∉ wr := fun z => hf (W.sub _ z)
  have more : ∀ b ∈ wr, b ∈ S :: wr := fun b z => .tail _ z
  intro k
  induction k with
  | zero =>
    intro i s e le st x q
    obtain rfl : i = n := by omega
    refine codeAny_builtin PyProof.Rows.F.entry_set_update_loop ?_
    rw [Around.under_plainId PyProof.Rows.F.plain_set_update_loop _]
    show wpAny _ A.in1 (pyNext (.ref I) >>= _) _ _ s
    refine wpAny_bind (W.done s _ _ st fun s1 mv => ?_)
    refine wpAny_pure (q s1 (mv.mono more) ?_)
    rw [List.take_of_length_le (Nat.le_of_eq hl)] at x
    exact setOf_mv x fun o e => mv.heap S o out e
  | succ k ih =>
    intro i s e le st x q
    have lt : i < n := by omega
    refine codeAny_builtin PyProof.Rows.F.entry_set_update_loop ?_
    rw [Around.under_plainId PyProof.Rows.F.plain_set_update_loop _]
    show wpAny _ A.in1 (pyNext (.ref I) >>= _) _ _ s
    refine wpAny_bind (W.item i s _ _ lt st fun v s1 pv st1 mv => ?_)
    obtain ⟨y, hy, isy, scn⟩ := hv i v pv
    have x1 := setOf_mv x fun o e => mv.heap S o out e
    show wpAny _ A.in1 (holding [v] (setAdd S v) >>= _) _ _ s1
    refine wpAny_bind (wpAny_holding ?_)
    unfold setAdd
    refine wpAny_holding (wpAny_bind (knd.pyHash isy ?_))
    have room : dsf (xs.take i) + 1 < scanBound := by
      have a := dsf_le (xs.take i)
      rw [List.length_take] at a
      omega
    refine wpAny_setAddHashed_of (s := { s1 with toks := s1.toks + 1 }) isy scn x1 room fun h2 but x2 => ?_
    have tk : xs.take (i + 1) = xs.take i ++ [y] := by
      rw [List.take_add_one, hy]
      rfl
    have x3 : h2.SetOf knd S (fun z => decide (z ∈ xs.take (i + 1))) (dsf (xs.take (i + 1))) := by
      refine setOf_as x2 (funext fun z => ?_) ?_
      · rw [tk, Bool.eq_iff_iff]
        simp
      · rw [tk, dsf_snoc]
        by_cases m : y ∈ xs.take i <;> simp [m]
    refine wpAny_pure ⟨plainId_quiet PyProof.Rows.F.plain_set_update_loop _, ih (i + 1) _ (by omega) lt (W.frame _ s1 _ _ st1 (Nat.le_succ _) fun b hb o e => ?_) x3 fun s3 mv3 x4 => ?_⟩
    · have nb : b ≠ S := fun z => hf (z ▸ hb)
      rw [but.2 b nb]
      exact e
    · refine q s3 (Moved.trans W.gtrans ((mv.mono more).then_heap (Nat.le_succ _) fun b o nb e => ?_) mv3) x4
      have nS : b ≠ S := fun z => nb (z ▸ .head _)
      rw [but.2 b nS]
      exact e
end
section
open PySem
variable {P : Program} {w : World} {α : Type} [DecidableEq α] {knd : KeyKind P w α} {A : Around} {E : Value → Shared → Prop} {s : Shared}
abbrev mtSet (led : Bool) : Obj := { cls := .type "set", dict := none, data := .set #[] 0 (.fresh 0 0 led) }
theorem set_of_list {l : Addr} {its : Array Value} {xs : List α} {Q : Value → Shared → Prop} (hh : A.handled = none) (hl : s.heap.IsList l its) (hx : xs.length = its.size) (hv : ∀ (i : Nat) v, its[i]? = some v → ∃ x, xs[i]? = some x ∧ knd.is x v = true ∧ v.scannable = true) (hz : its.size + 1 < scanBound)
    (q : ∀ (h1 : Heap) (tk : Nat), h1.SetOf knd s.heap.objs.size (fun y => decide (y ∈ xs)) (dsf xs) → (∀ b o, s.heap.get? b = some o → h1.get? b = some o) → Q (.ref s.heap.objs.size) { s with heap := h1, toks := tk }) :
    wpAny (model P w) A (call (.type "set") [.ref l]) Q E s := by
  obtain ⟨c, tl, mro⟩ := PySem.F.called_set.mro
  have z1 := PySem.F.called_set.made
  have z2 := PySem.F.called_set.sub
  refine wpAny_call (codeAny_of_tree ?_)
  show wpAny _ _ (callAny (.type "set") _) _ _ _
  refine wpAny_pure ⟨Code.quiet_builtin _ (by decide +kernel), codeAny_builtin PySem.F.entry_type_call ?_⟩
  rw [Around.under_plain (weight_type_call_type "set" [.ref l] []) rfl]
  have z3 := PySem.F.called_set.notType
  have z4 := PySem.F.called_set.canCreate
  have z5 := PySem.F.typeCall_set_1 (.ref l)
  repeat (any_goals (first | assumption | wp_step))
  refine codeAny_mono (code_set_new_1 (.ref l) (E := E) (Q₁ := fun obj s1 => ∃ led, obj = .ref s.heap.objs.size ∧ s1 = { s with heap := s.heap.push (mtSet led) }) fun led => ⟨led, rfl, rfl⟩) fun r s1 hr => ?_
  cases r with
  | error e => exact hr
  | ok fl =>
    cases fl with
    | ret obj =>
      obtain ⟨led, rfl, rfl⟩ := hr
      have at0 : (s.heap.push (mtSet led)).get? s.heap.objs.size = some (mtSet led) := Heap.get?_push_size _ rfl
      have ty0 : Shared.TypeIs { s with heap := s.heap.push (mtSet led) } (.ref s.heap.objs.size) "set" := ⟨_, at0, rfl⟩
      have z6 := PySem.F.called_set.init.lookup
      have z7 := PySem.F.called_set.init.bind (.ref s.heap.objs.size)
      repeat (any_goals (first | assumption | wp_step))
      refine codeAny_mono (codeAny_call_builtin (R := wants (fun r s2 => r = .none ∧ ∃ h1 tk, s2 = { s with heap := h1, toks := tk } ∧ h1.SetOf knd s.heap.objs.size (fun y => decide (y ∈ xs)) (dsf xs) ∧ (∀ b o, s.heap.get? b = some o → h1.get? b = some o)) E)
        PySem.F.called_set.init.plain PySem.F.entry_set_init (check_set_init_1 ty0 ?_)) fun r2 s2 hr2 => ?_
      · obtain ⟨ol, hol, hcl, nl, hdl⟩ := hl
        obtain ⟨oc, od, ot, os⟩ := ol
        simp only at hcl hdl
        subst hcl
        subst hdl
        have hol1 := Heap.get?_push_of_some (mtSet led) hol
        have z8 := PySem.F.sub_list_set
        have z9 := PySem.F.sub_list_frozenset
        have z0 : (Value.type "list" == Value.type "dict") = false := by decide
        have il : (s.heap.push (mtSet led)).IsList l its := ⟨_, hol1, rfl, nl, rfl⟩
        unfold Builtin.«set.__init__» noKeywords Builtin.Frozenset.updateFrom
        generalize hPI : pyIter = PI
        wp_walk
        subst hPI
        refine wpAny_pyIter_list il (wpAny_bind (wpAny_runValue ?_))
        have lt : l < s.heap.objs.size := Heap.lt_size hol
        have hh3 : A.in1.in1.in1.handled = none := by simp [hh]
        have sz : (s.heap.push (mtSet led)).objs.size = s.heap.objs.size + 1 := Heap.size_push _ _
        have neI : l ≠ (s.heap.push (mtSet led)).objs.size := Nat.ne_of_lt (Nat.lt_of_lt_of_eq (Nat.lt_succ_of_lt lt) sz.symm)
        have nfp : s.heap.objs.size ∉ [(s.heap.push (mtSet led)).objs.size, l] := by
          intro m
          rcases List.mem_cons.mp m with m | m
          · exact Nat.ne_of_lt (Nat.lt_of_lt_of_eq (Nat.lt_succ_self _) sz.symm) m
          · exact Nat.ne_of_gt lt (List.mem_singleton.mp m)
        refine set_fill ((Walks.list hh3 _ l neI its).toS) s.heap.objs.size nfp xs hx hz hv (its.size - 0) 0 _ (by omega) (Nat.zero_le _) ⟨⟨_, Heap.get?_push_size _ rfl, rfl, rfl⟩, il.push _⟩ ?_ ?_
        · exact setOf_as ((PyProof.Rows.setObjOf_fresh (knd := knd) led).setOf (Heap.get?_push_of_some _ at0) (by unfold scanBound; omega)) (funext fun y => by simp) rfl
        · intro s3 mv x
          obtain ⟨h3, g3, d3, t3, o3⟩ := s3
          obtain rfl : g3 = s.gens := mv.gens
          obtain rfl : d3 = s.drawn := mv.drawn
          obtain rfl : o3 = s.os := mv.os
          show wpAny _ _ _ _ _ _
          refine wpAny_pure ?_
          show wpAny _ _ (ret Value.none) _ _ _
          refine wpAny_pure ⟨rfl, h3, t3, rfl, x, fun b o e => ?_⟩
          have lb : b < s.heap.objs.size := Heap.lt_size e
          refine mv.heap b o (fun m => ?_) (Heap.get?_push_of_some _ (Heap.get?_push_of_some _ e))
          rcases List.mem_cons.mp m with m | m
          · exact Nat.ne_of_lt lb m
          · exact Nat.ne_of_lt (Nat.lt_of_lt_of_eq (Nat.lt_succ_of_lt lb) sz.symm) (List.mem_singleton.mp m)
      · cases r2 with
        | error e => exact hr2
        | ok f2 =>
          cases f2 with
          | ret r =>
            obtain ⟨rfl, h1, tk, rfl, x, kp⟩ := hr2
            repeat (any_goals (first | assumption | wp_step))
            exact q _ _ x kp
          | _ => exact hr2.elim
    | _ => exact hr.elim
end
end S

namespace S
open PySem PySem.Spec PyProof.Rows L2
/-! ### len(set(xs)) -/
/-- of texts or of ints, in a list -/
def tLenS (K : PySem.W.Frag) (ta : TE) : TE := fun σ H Q => ta σ H fun x H1 => ∃ l, x = .ref l ∧ ((∃ xs : List Str, SqL K H1 l (xs.map V.str) ∧ xs.length ≤ 1000 ∧ Q (.int (dsf xs)) H1) ∨ (∃ ns : List Int, SqL K H1 l (ns.map V.int) ∧ ns.length ≤ 1000 ∧ Q (.int (dsf ns)) H1))
theorem valStr : ∀ {ys : List Str} {us : List Value}, Vals (ys.map V.str) us → ∀ (i : Nat) v, us.toArray[i]? = some v → ∃ x, ys[i]? = some x ∧ ∃ t, v = .str x t := fun {ys us} r i v h => by
  have hi : i < us.length := by
    have := (Array.getElem?_eq_some_iff.mp h).1
    rwa [List.size_toArray] at this
  have hy : i < ys.length := by
    have := r.length
    rw [List.length_map] at this
    omega
  obtain ⟨u, hu, t, e⟩ := r.get (i := i) (x := .str ys[i]) (by simp [hy])
  refine ⟨ys[i], by simp [hy], t, ?_⟩
  rw [List.getElem?_toArray, hu] at h
  cases h
  exact e
theorem valInt : ∀ {ys : List Int} {us : List Value}, Vals (ys.map V.int) us → ∀ (i : Nat) v, us.toArray[i]? = some v → ∃ x, ys[i]? = some x ∧ ∃ t, v = .int x t := fun {ys us} r i v h => by
  have hi : i < us.length := by
    have := (Array.getElem?_eq_some_iff.mp h).1
    rwa [List.size_toArray] at this
  have hy : i < ys.length := by
    have := r.length
    rw [List.length_map] at this
    omega
  obtain ⟨u, hu, t, e⟩ := r.get (i := i) (x := .int ys[i]) (by simp [hy])
  refine ⟨ys[i], by simp [hy], t, ?_⟩
  rw [List.getElem?_toArray, hu] at h
  cases h
  exact e
section
variable {X : Cx}
theorem pe_lenS {a : Expr} {ta : TE} {p p2 q pos : Pos} (hc : X.calm = true) (hg : Gl X "len") (hm : X.mg "len" = none) (hg2 : Gl X "set") (hm2 : X.mg "set" = none) (ha : PE X a ta)
    (na : starEach [a] X.env = (false, eval a X.env) :: starEach [] X.env := by rfl) : PE X (.Call (.Name "len" p) [.Call (.Name "set" p2) [a] [] q] [] pos) (tLenS X.K ta) := by
  constructor
  intro pins s σ H Q I h
  refine Call_ (ld_blt I hg hm boot_len (PyProof.Rows.callWith_builtin1 (PyProof.Rows.args_cons ?_ rfl) rfl rfl))
  refine Call_ (ld_blt I hg2 hm2 boot_set (PyProof.Rows.callWith_type1 (PyProof.Rows.args_cons (thn (ha.run pins s σ H _ I h) ?_) na) na rfl))
  rintro v s1 ⟨x, H1, I1, r1, l, rfl, q1⟩
  refine PyProof.Rows.args_nil ?_
  cases r1
  have fin : ∀ {α : Type} [DecidableEq α] (knd : KeyKind X.prog X.w α) (xs : List α) (h1 : Heap) (tk : Nat), xs.length ≤ 1000 → Q (.int (dsf xs)) H1 → h1.SetOf knd s1.heap.objs.size (fun y => decide (y ∈ xs)) (dsf xs) → (∀ b o, s1.heap.get? b = some o → h1.get? b = some o) →
      wpAny (model X.prog X.w) X.A (spliced (backTo pos (starEach [] X.env))) (fun vs s2 => wpAny (model X.prog X.w) X.A (call (.builtin "len") (Value.ref s1.heap.objs.size :: vs)) (EP X pins σ Q) X.xe s2) X.xe { s1 with heap := h1, toks := tk } := by
    intro α _ knd xs h1 tk hx q x kp
    refine PyProof.Rows.args_nil ?_
    obtain ⟨o, es, ep, t, ho, hex, hd, _, _, _, hf, hn⟩ := x
    have I2 : Inv X pins σ H1 { s1 with heap := h1, toks := tk } := I1.kept fun b o e => kp b o e
    have le := dsf_le xs
    refine call_len_set ho hex hd hf (by rw [hn]; omega) ⟨.int (dsf xs), H1, I2.tok _, ⟨_, by rw [hn]⟩, q⟩
  rcases q1 with ⟨xs, hq, hz, q⟩ | ⟨ns, hq, hz, q⟩
  · obtain ⟨its, r, pl, _⟩ := I1.list hq
    have e1 := r.length
    rw [List.length_map] at e1
    refine set_of_list (knd := strKind X.prog X.w) (xs := xs) (I1.ok.hd hc) pl.isList (by rw [List.size_toArray, e1]) (fun i v e => ?_) (by rw [List.size_toArray]; unfold scanBound; omega) fun h1 tk x kp => fin _ xs h1 tk hz q x kp
    obtain ⟨x, hx, t, rfl⟩ := valStr r i v e
    exact ⟨x, hx, strKind_is _ _ _ _, rfl⟩
  · obtain ⟨its, r, pl, _⟩ := I1.list hq
    have e1 := r.length
    rw [List.length_map] at e1
    refine set_of_list (knd := intKind X.prog X.w) (xs := ns) (I1.ok.hd hc) pl.isList (by rw [List.size_toArray, e1]) (fun i v e => ?_) (by rw [List.size_toArray]; unfold scanBound; omega) fun h1 tk x kp => fin _ ns h1 tk hz q x kp
    obtain ⟨x, hx, t, rfl⟩ := valInt r i v e
    exact ⟨x, hx, intKind_is _ _ _ _, rfl⟩
/-! ### xs[::s], s 1 or -1 -/
def tRow (K : PySem.W.Frag) (te ts : TE) : TE := fun σ H Q => te σ H fun x H1 => ts σ H1 fun y H2 => ∃ (a : Addr) (xs : List V) (i : Int), x = .ref a ∧ y = .int i ∧ SqL K H2 a xs ∧ (i = 1 ∨ i = -1) ∧ ∀ p, H2 p = none → Q (.ref p) (upd H2 p (.lst (if i = 1 then xs else xs.reverse)))
theorem pick1 (its : Array Value) : slicePick its none none (some 1) = its := by
  have : slicePick its none none (some 1) = slicePick its none none none := rfl
  rw [this, slicePick_all]
theorem pe_row {e st : Expr} {te ts : TE} {p3 pos : Pos} (he : PE X e te) (hs : PE X st ts) : PE X (.Subscript e (.Slice none none (some st) p3) pos) (tRow X.K te ts) := by
  constructor
  intro pins s σ H Q I h
  refine Subscript_ (thn (he.run pins s σ H _ I h) ?_)
  rintro v s1 ⟨x, H1, I1, r1, q1⟩
  refine wpAny_Slice (thn (po_none.run pins s1 σ H1 (fun o H2 => o = none ∧ H2 = H1) I1 ⟨rfl, rfl⟩) ?_)
  rintro vl s2 ⟨l, H2, I2, pl, rfl, rfl⟩
  refine thn (po_none.run pins s2 σ H2 (fun o H3 => o = none ∧ H3 = H2) I2 ⟨rfl, rfl⟩) ?_
  rintro vu s3 ⟨u, H3, I3, pu, rfl, rfl⟩
  refine thn (hs.run pins s3 σ H3 _ I3 q1) ?_
  rintro vs s4 ⟨y, H4, I4, r4, a, xs, i, rfl, rfl, hx, hi, q⟩
  obtain ⟨t, rfl⟩ := r4
  cases r1
  have I5 : Inv X pins σ H4 { s4 with heap := s4.heap.push { cls := .type "slice", data := .fields #[vl, vu, .int i t] } } := I4.kept (t' := s4.toks) fun b ob z => Heap.get?_push_of_some _ z
  obtain ⟨its, r, ht, hz⟩ := I5.list hx
  have e1 := r.length
  show wpAny (model X.prog X.w) X.A (subscriptTail e (.Slice none none (some st) p3) (.ref a) (.ref s4.heap.objs.size)) (EP X pins σ Q) X.xe { s4 with heap := s4.heap.push { cls := .type "slice", data := .fields #[vl, vu, .int i t] } }
  refine tail_any (ops := [.ref a, .ref s4.heap.objs.size]) ht.isList.typeIs (PySem.slot_list_getitem.lookup) ?_ (by with_unfolding_all rfl)
  have i0 : some i ≠ some 0 := by
    intro z
    cases z
    omega
  refine wpAny_getItem_list_slice (st := some i) ht.isList (Heap.IsSliceOf.new _ vl vu _) pl pu (.int i t) i0 ?_ (by rw [List.size_toArray]; omega)
  rcases hi with rfl | rfl
  · rw [pick1]
    exact ⟨.ref _, _, I5.laid (t' := s4.toks) (o := .lst xs) (fun b ob z => Heap.get?_push_of_some _ z) (Nat.le_refl _) ⟨hz, _, 0, r, Heap.get?_push_size _ rfl⟩, rfl, q _ (I5.hok.fresh (Nat.le_refl _))⟩
  · rw [PySem.W.krv_pick]
    exact ⟨.ref _, _, I5.laid (t' := s4.toks) (o := .lst xs.reverse) (fun b ob z => Heap.get?_push_of_some _ z) (Nat.le_refl _) ⟨by rw [List.length_reverse]; exact hz, _, 0, r.reverse, Heap.get?_push_size _ rfl⟩, rfl, q _ (I5.hok.fresh (Nat.le_refl _))⟩
/-! ### big powers -/
def CPw (i j : Int) : Prop := 0 ≤ j ∧ (Builtin.Int.intBits i : Int) * j ≤ 2 ^ 27
def dPow : R2 := rI CPw fun i j => .int (i ^ j.toNat)
theorem op_dPow : OpR X (binaryOp .Pow) dPow := opI fun _ _ _ _ _ _ _ hc q => pow_int hc.1 hc.2 q
/-- x.join(ys) -/
def rJoin (K : PySem.W.Frag) : V → List V → Hp → VK → Prop := fun x xs H Q => ∃ a p, ∃ ys : List Str, x = .str a ∧ xs = [.ref p] ∧ (SqL K H p (ys.map V.str) ∨ SqT K H p (ys.map V.str)) ∧
      (ys.map (·.length)).sum + ys.length * a.length ≤ 16777216 ∧ Q (.str (Txt.join a ys)) H
end
end S

namespace S
open PySem PySem.Spec PyProof.Rows L2
/-! ### C(.., k = v), with defaults -/
def MakRK (P : Program) (w : World) (K : PySem.W.Frag) (mg : Str → Option Value) (base : Heap) (k : Nat) (x : Str) (C : Addr) (n : Nat) (ks : List Str) (gV : List V → List V → List V) (sp : Sp) : Prop :=
  ∃ f fd ps g, Mk K C f ∧ FnOk P w K mg base (L2.CX P w) k f fd ps sp ∧ KBn K fd ps (n + 1) ks g gV ∧ mg x = some (.ref C)
def tMakK (C : Addr) (sp : Sp) (W : WX) (n m : Nat) (gV : List V → List V → List V) (t tk : TA) : TE := fun σ H Q => t σ H fun vs H1 => tk σ H1 fun zs H2 => vs.length = n ∧ zs.length = m ∧ ∀ x dx, H2 x = Option.none → H2 dx = Option.none → dx ≠ x →
  sp (gV (V.ref x :: vs) zs) (upd (upd H2 dx (.own x)) x (.ins C dx [])) (fun v H3 => v = .non ∧ Q (.ref x) H3) (WE W σ)
section
variable {X : Cx} {k n : Nat} {f C : Addr} {fd : FuncData} {ps ks : List Str} {sp : Sp} {W : WX} {x : Str} {p pos : Pos} {e : Expr} {es : List Expr} {kws : List Keyword} {t tk : TA} {σ : L2.St} {g : List Value → List Value → List Value} {gV : List V → List V → List V}
theorem run_makK {E : XK} {pins : List (Addr × Obj)} {H : Hp} {s : Shared} {Q : VK} {us ws : List Value} {vs zs : List V} (M : Mk X.K C f) (F : FnOk X.prog X.w X.K X.mg X.base (L2.CX X.prog X.w) k f fd ps sp) (hb : KBn X.K fd ps (n + 1) ks g gV) (hr : Room (k + 1) X.A)
    (hx : PassesAt (L2.CX X.prog X.w) X σ E) (I : Inv X pins σ H s) (r : Vals vs us) (rz : Vals zs ws) (l1 : vs.length = n) (l2 : zs.length = ks.length)
    (h : ∀ x dx, H x = Option.none → H dx = Option.none → dx ≠ x → sp (gV (V.ref x :: vs) zs) (upd (upd H dx (.own x)) x (.ins C dx [])) (fun v H2 => v = .non ∧ Q (.ref x) H2) E) :
    wpAny (model X.prog X.w) X.A (call (.ref C) us (ks.zip ws)) (EP X pins σ Q) X.xe s := by
  have new := h (s.heap.objs.size + 1) s.heap.objs.size (I.hok.fresh (Nat.le_succ _)) (I.hok.fresh (Nat.le_refl _)) (Nat.ne_of_lt (Nat.lt_succ_self _))
  have J := Inv.made (C := C) I
  have rr : Vals (V.ref (s.heap.objs.size + 1) :: vs) (Value.ref (s.heap.objs.size + 1) :: us) := .cons rfl r
  have n1 : (Value.ref (s.heap.objs.size + 1) :: us).length = n + 1 := by rw [List.length_cons, ← r.length, l1]
  have n2 : ws.length = ks.length := by rw [← rz.length, l2]
  have run := F.run _ X.stack _ _ ⟨Value.ref (s.heap.objs.size + 1) :: us, ks.zip ws⟩ (g (Value.ref (s.heap.objs.size + 1) :: us) ws) _ _ E (hr.make C us (ks.zip ws)) (J.env0.make C us (ks.zip ws)) (hb.to _ _ ws J.kIn n1 n2) (hb.rel rr rz) new
  refine wpAny_call (make_map (f := f) I.kIn M.makes M.init (beq_iff_eq.mp M.fn) (codeAny_mono run ?_))
  intro res s' got
  match res, got with
  | .error e, got => exact hx pins _ _ e s' J got
  | .ok (.ret u), got =>
    obtain ⟨v, H', I3, rv, ev, q3⟩ := J.after got
    subst ev
    exact ⟨rv, ⟨V.ref (s.heap.objs.size + 1), H', I3, rfl, q3⟩⟩
  | .ok .next, got => exact False.elim got
  | .ok .brk, got => exact False.elim got
  | .ok .cont, got => exact False.elim got
theorem pe_makK (G : MakRK X.prog X.w X.K X.mg X.base k x C n ks gV sp) (hr : Room (k + 1) X.A) (hg : Gl X x) (tw : Takes X W) (ha : PA X (e :: es) t) (hkw : PK X kws tk)
    (hall : (backToKw pos (keywordEach kws X.env)).all (·.1.isSome) = true := by rfl) (hks : (backToKw pos (keywordEach kws X.env)).filterMap (·.1) = ks := by rfl) (hdb : (x == ("__debug__" : Str)) = false := by decide)
    (he : starEach (e :: es) X.env = (false, eval e X.env) :: starEach es X.env := by rfl)
    (hpl : ((backTo pos (starEach (e :: es) X.env)).any (·.1) || (backToKw pos (keywordEach kws X.env)).any (·.1.isNone)) = false := by rfl) : PE X (.Call (.Name x p) (e :: es) kws pos) (tMakK C sp W n ks.length gV t tk) := by
  obtain ⟨f, fd, ps, g, M, F, hb, hm⟩ := G
  constructor
  intro pins s σ H Q I h
  refine wpAny_Call_Name_kw (ld_glob I hg hm ?_ hdb)
  refine PySem.W.callWith_KW (h₀ := X.base) I.ok.mod.kin M.kp hall (thn (ha.run pos pins s σ H _ I h) ?_) hpl he
  rintro us s1 ⟨vs, H1, I1, r, q⟩
  refine thn (hkw.run pos pins s1 σ H1 _ I1 q) ?_
  rintro ws s2 ⟨zs, H2, I2, rz, l1, l2, q2⟩
  refine ⟨I2.kIn, ?_⟩
  rw [hks]
  exact run_makK M F hb hr (passAt tw σ) I2 r rz l1 l2 q2
end
theorem makRK_of {P : Program} {w : World} {K : PySem.W.Frag} {mg : Str → Option Value} {base : Heap} {x : Str} {f C : Addr} {fd : FuncData} {ps ks : List Str} {k n : Nat} {sp : Sp} {g : List Value → List Value → List Value} {gV : List V → List V → List V}
    (M : Mk K C f) (hm : mg x = some (.ref C)) (hb : KBn K fd ps (n + 1) ks g gV) (ok : FnOk P w K mg base (L2.CX P w) k f fd ps sp) : MakRK P w K mg base k x C n ks gV sp := ⟨f, fd, ps, g, M, ok, hb, hm⟩
/-- Vals of a joined row -/
theorem kbn_of {K : PySem.W.Frag} {x qual : Str} {params : Arguments} {body : List Stmt} {scope : Scope} {dvs : List V} {f : Addr} {fd : FuncData} {ps : List Str} (F : FunD K x qual params body scope dvs [] f fd) (n : Nat) (ks : List Str) (g : {α : Type} → List α → List α → List α → List α) (hd : dvs ≠ [])
    (hrel : ∀ {vs ds zs : List V} {us its ws : List Value}, Vals vs us → Vals ds its → Vals zs ws → Vals (g vs ds zs) (g us its ws))
    (h : ∀ (T : Addr) (kV doc pm : Value) (an : Option Addr) (cdv ct : Value) (us its ws : List Value), us.length = n → its.length = dvs.length → ws.length = ks.length →
      ∃ k, bindArgs (PySem.W.fnOf x qual params body scope (.ref T) kV doc pm an cdv ct) ⟨us, ks.zip ws⟩ = seqItems? (.ref T) >>= k ∧ k (some its.toArray) = pure (ps.zip (g us its ws))) : ∃ g', KBn K fd ps n ks g' (fun vs zs => g vs dvs zs) := by
  obtain ⟨its, r⟩ := FunD.kbindsD F n ks g hd hrel h
  exact ⟨_, r⟩
section
variable {K : PySem.W.Frag} {σ : L2.St} {A B : SH} {Φ : V → SH → Prop} {Ψ : Value → Option Addr → L2.St → SH → Prop} {W : WX} {te ts ta : TE} {t tk : TA} {sp : Spec} {C p q : Addr} {xs : List V} {i j : Int} {n m : Nat} {gV : List V → List V → List V}
def NMakK (C : Addr) (sp : Spec) (Φ : V → SH → Prop) (Ψ : Value → Option Addr → L2.St → SH → Prop) (σ : L2.St) (n m : Nat) (gV : List V → List V → List V) (vs : List V) : List V → SH → Prop := fun zs A1 => vs.length = n ∧ zs.length = m ∧ ∀ x dx, sp (gV (V.ref x :: vs) zs) (sg x (.ins C dx []) :: A1) (fun v A2 => v = .non ∧ Φ (.ref x) A2) fun c d A2 => Ψ c d σ A2
theorem ge_makK' (hx : WPost Ψ W) (h : GA t σ A fun vs A1 => GA tk σ A1 (NMakK C sp Φ Ψ σ n m gV vs)) : GE (tMakK C (lift sp) W n m gV t tk) σ A Φ := fun H Q a p =>
  h H _ a fun vs A1 H1 a1 h1 => h1 H1 _ a1 fun zs A2 H2 a2 ⟨l1, l2, h2⟩ => ⟨l1, l2, fun x dx nx nd ne =>
    ⟨_, _, _, (a2.new nd).tail.new (by rw [upd_ne (Ne.symm ne)]; exact nx), fun v A3 H3 a3 ⟨e, k⟩ => ⟨e, p _ A3 H3 a3 k⟩, fun c d A3 H3 a3 k => hx c d σ A3 H3 a3 k, h2 x dx⟩⟩
def NLenS (K : PySem.W.Frag) (Φ : V → SH → Prop) : V → SH → Prop := fun x A => ∃ l, x = .ref l ∧ ((∃ xs : List Str, RL K A l (xs.map V.str) ∧ xs.length ≤ 1000 ∧ Φ (.int (dsf xs)) A) ∨ (∃ ns : List Int, RL K A l (ns.map V.int) ∧ ns.length ≤ 1000 ∧ Φ (.int (dsf ns)) A))
theorem ge_lenS' (h : GE ta σ A (NLenS K Φ)) : GE (tLenS K ta) σ A Φ := fun H Q a ps =>
  h H _ a fun x A1 H1 a1 ⟨l, e, r⟩ => ⟨l, e, r.elim (fun ⟨xs, r, z, k⟩ => .inl ⟨xs, r H1 a1, z, ps _ A1 H1 a1 k⟩) fun ⟨xs, r, z, k⟩ => .inr ⟨xs, r H1 a1, z, ps _ A1 H1 a1 k⟩⟩
theorem nlenS {xs : List Str} (r : RL K A p (xs.map V.str)) (z : xs.length ≤ 1000) (k : Φ (.int (dsf xs)) A) : NLenS K Φ (.ref p) A := ⟨p, rfl, .inl ⟨xs, r, z, k⟩⟩
theorem nlenI {xs : List Int} (r : RL K A p (xs.map V.int)) (z : xs.length ≤ 1000) (k : Φ (.int (dsf xs)) A) : NLenS K Φ (.ref p) A := ⟨p, rfl, .inr ⟨xs, r, z, k⟩⟩
def NRow (K : PySem.W.Frag) (Φ : V → SH → Prop) (x : V) : V → SH → Prop := fun y A => ∃ a xs i, x = .ref a ∧ y = .int i ∧ RL K A a xs ∧ (i = 1 ∨ i = -1) ∧ ∀ p, Φ (.ref p) (sg p (.lst (if i = 1 then xs else xs.reverse)) :: A)
theorem ge_row' (h : GE te σ A fun x A1 => GE ts σ A1 (NRow K Φ x)) : GE (tRow K te ts) σ A Φ := fun H Q a ps =>
  h H _ a fun x A1 H1 a1 h1 => h1 H1 _ a1 fun y A2 H2 a2 ⟨b, xs, i, e1, e2, r, o, k⟩ => ⟨b, xs, i, e1, e2, r H2 a2, o, fun c hc => ps _ _ _ (a2.new hc) (k c)⟩
theorem nrow (r : RL K A p xs) (o : i = 1 ∨ i = -1) (k : ∀ p, Φ (.ref p) (sg p (.lst (if i = 1 then xs else xs.reverse)) :: A)) : NRow K Φ (.ref p) (.int i) A := ⟨p, xs, i, rfl, rfl, r, o, k⟩
theorem gr_pow (c : CPw i j) (k : Φ (.int (i ^ j.toNat)) A) : GR dPow (.int i) (.int j) A Φ := gr_I c k
def NJoin (K : PySem.W.Frag) (Φ : V → SH → Prop) (x : V) : V → SH → Prop := fun y A => ∃ a p, ∃ ys : List Str, x = .str a ∧ y = .ref p ∧ RL K A p (ys.map V.str) ∧ (ys.map (·.length)).sum + ys.length * a.length ≤ 16777216 ∧ Φ (.str (Txt.join a ys)) A
def NJ1 (K : PySem.W.Frag) (ts : TE) (σ : L2.St) (Φ : V → SH → Prop) : V → SH → Prop := fun x A => (∃ a, x = .str a) ∧ GE ts σ A (NJoin K Φ x)
def NLR1 (Φ : V → SH → Prop) : V → SH → Prop := fun x A => ∃ n : Int, x = .int n ∧ 0 ≤ n ∧ n ≤ 1000000 ∧ ∀ q, Φ (.ref q) (sg q (.lst ((List.range n.toNat).map fun i : Nat => V.int i)) :: A)
theorem rgV0 (n : Int) : rgV 0 n = (List.range n.toNat).map fun i : Nat => V.int i := by
  unfold rgV
  rw [Int.sub_zero]
  simp only [Int.zero_add]
theorem ge_lstRg1' (h : GE te σ A (NLR1 Φ)) : GE (tLstRg (tRg1 te)) σ A Φ := fun H Q a ps =>
  h H _ a fun x A1 H1 a1 ⟨n, e, z0, z1, k⟩ => ⟨n, e, RgOk.of_le (by decide) (by omega) (by decide) z0, fun q hq => ps _ _ _ (a1.new hq) (rgV0 n ▸ k q)⟩
theorem nlr1 {n : Int} (z0 : 0 ≤ n) (z1 : n ≤ 1000000) (k : ∀ q, Φ (.ref q) (sg q (.lst ((List.range n.toNat).map fun i : Nat => V.int i)) :: A)) : NLR1 Φ (.int n) A := ⟨n, rfl, z0, z1, k⟩
theorem nj1 {a : Str} (h : GE ts σ A (NJoin K Φ (.str a))) : NJ1 K ts σ Φ (.str a) A := ⟨⟨a, rfl⟩, h⟩
theorem ge_join' (h : GE te σ A (NJ1 K ts σ Φ)) : GE (tM1 (rJoin K) te ts) σ A Φ := fun H Q a ps =>
  h H _ a fun x A1 H1 a1 h1 => ⟨h1.1, h1.2 H1 _ a1 fun y A2 H2 a2 ⟨b, c, ys, e1, e2, r, z, k⟩ => ⟨b, c, ys, e1, by rw [e2], .inl (r H2 a2), z, ps _ A2 H2 a2 k⟩⟩
theorem njoin {a : Str} {ys : List Str} (r : RL K A p (ys.map V.str)) (z : (ys.map (·.length)).sum + ys.length * a.length ≤ 16777216) (k : Φ (.str (Txt.join a ys)) A) : NJoin K Φ (.str a) (.ref p) A := ⟨a, p, ys, rfl, rfl, r, z, k⟩
end
section
variable {K : PySem.W.Frag} {σ σ1 σ2 : L2.St} {A B : SH} {to ti : TE} {t : TA} {v w : V} {p : Addr} {xs : List V} {k : Int} {i j : Nat} {nx : L2.St → SH → Prop} {rt : V → SH → Prop} {bk ct : L2.St → SH → Prop} {Φ : L2.St → SH → Prop}
def NSet (Φ : L2.St → SH → Prop) (σ : L2.St) (v o : V) : V → SH → Prop := fun i A => ∃ p xs k B, o = .ref p ∧ i = .int k ∧ Pull A (sg p (.lst xs)) B ∧ 0 ≤ k ∧ k < (xs.length : Int) ∧ Φ σ (sg p (.lst (xs.set k.toNat v)) :: B)
theorem gg_sub' (h : GE to σ A fun o A1 => GE ti σ A1 (NSet Φ σ v o)) : GG (gSub to ti rSetL) v σ A Φ := fun H Q a ps =>
  h H _ a fun o A1 H1 a1 h1 => h1 H1 _ a1 fun i A2 H2 a2 ⟨p, xs, k, B, e1, e2, pl, z0, z1, q⟩ => ⟨p, xs, k, k.toNat, e1, e2, (pl.has a2).at, by unfold ixN; rw [if_pos z0, if_pos z1], ps _ _ _ (pl.has a2).set q⟩
theorem nset (pl : Pull A (sg p (.lst xs)) B) (z0 : 0 ≤ k) (z1 : k < (xs.length : Int)) (q : Φ σ (sg p (.lst (xs.set k.toNat v)) :: B)) : NSet Φ σ v (.ref p) (.int k) A := ⟨p, xs, k, B, rfl, rfl, pl, z0, z1, q⟩
def NPar (nx : L2.St → SH → Prop) (σ : L2.St) (i j : Nat) : List V → SH → Prop := fun vs A => ∃ v w, vs = [v, w] ∧ nx ((σ.set i (some v)).set j (some w)) A
theorem gs_par' (h : GA t σ A (NPar nx σ i j)) : GS (tPar i j t) ⟨nx, rt, bk, ct⟩ σ A := fun H E a im =>
  h H _ a fun vs A1 H1 a1 ⟨v, w, e, q⟩ => ⟨v, w, e, im.nx _ _ _ a1 q⟩
theorem npar (s1 : Set1 σ i (some v) σ1) (s2 : Set1 σ1 j (some w) σ2) (q : nx σ2 A) : NPar nx σ i j [v, w] A := by
  have e1 : σ.set i (some v) = σ1 := s1
  have e2 : σ1.set j (some w) = σ2 := s2
  exact ⟨v, w, rfl, by rw [e1, e2]; exact q⟩
end
/-! ### cells of any size -/
def Big : Nat := 2 ^ 1048576
theorem big_le {n : Nat} (h : n ≤ 2 ^ 64) : n ≤ Big := Nat.le_trans h (Nat.pow_le_pow_right (by decide) (by decide))
/-- a number of the script -/
def Cell (z : Int) : Prop := z.natAbs < Big
theorem cell_bits {z : Int} (h : Builtin.Int.intBits z ≤ 1048576) : Cell z := by
  unfold Cell Big
  by_cases h0 : z.natAbs = 0
  · rw [h0]
    exact Nat.pow_pos (by decide)
  · have hz : ¬ z = 0 := fun e => h0 (by rw [e]; rfl)
    have e : Builtin.Int.intBits z = z.natAbs.log2 + 1 := by
      unfold Builtin.Int.intBits
      first | rfl | (simp [h0, hz])
    rw [e] at h
    exact Nat.lt_of_lt_of_le (Nat.lt_log2_self) (Nat.pow_le_pow_right (by decide) h)
theorem bits_of {z : Int} {n : Nat} (h : z.natAbs < 2 ^ n) : Builtin.Int.intBits z ≤ n := by
  unfold Builtin.Int.intBits
  by_cases h0 : z.natAbs = 0
  · have hz : z = 0 := Int.natAbs_eq_zero.mp h0
    simp [hz]
  · have hz : ¬ z = 0 := fun e => h0 (by rw [e]; rfl)
    have := (Nat.log2_lt h0).mpr h
    simp [h0, hz]
    omega
/-- (z + d) ** 3 -/
theorem cpw3 {z d : Int} (h : Cell z) (h0 : -(2 ^ 40) ≤ d) (h1 : d ≤ 2 ^ 40) : CPw (z + d) 3 := by
  refine ⟨by decide, ?_⟩
  have b : (z + d).natAbs < 2 ^ 1048577 := by
    have e : (2 : Nat) ^ 1048577 = Big + Big := by
      unfold Big
      rw [Nat.pow_succ]
      omega
    rw [e]
    have hz : z.natAbs < Big := h
    have hb : 2 ^ 41 ≤ Big := big_le (by decide)
    generalize Big = N at *
    omega
  have := bits_of b
  omega
/-! ### slices from and up to a place -/
section
variable {K : PySem.W.Frag} {A : SH} {Φ : V → SH → Prop} {p : Addr} {xs : List V} {i j : Int}
theorem cut_to (h : 0 ≤ i) : cutV xs none (some i) = xs.take i.toNat := by
  unfold cutV
  show (xs.drop 0).take ((if i < 0 then _ else min i.toNat xs.length) - 0) = _
  rw [if_neg (by omega), List.drop_zero, Nat.sub_zero, List.take_eq_take_iff]
  omega
theorem cut_from (h : 0 ≤ i) : cutV xs (some i) none = xs.drop i.toNat := by
  unfold cutV
  show (xs.drop (if i < 0 then _ else min i.toNat xs.length)).take (xs.length - (if i < 0 then _ else min i.toNat xs.length)) = _
  rw [if_neg (by omega)]
  by_cases c : i.toNat ≤ xs.length
  · rw [Nat.min_eq_left c, List.take_of_length_le (by rw [List.length_drop]; omega)]
  · rw [Nat.min_eq_right (by omega), List.drop_eq_nil_of_le (Nat.le_refl _), List.drop_eq_nil_of_le (by omega)]
    exact List.take_nil
theorem gsl_to (r : RL K A p xs) (h : 0 ≤ i) (k : ∀ q, Φ (.ref q) (sg q (.lst (xs.take i.toNat)) :: A)) : GSl (rSl K) (.ref p) none (some i) A Φ := gsl_list r fun q => (cut_to (xs := xs) h).symm ▸ k q
theorem gsl_from (r : RL K A p xs) (h : 0 ≤ i) (k : ∀ q, Φ (.ref q) (sg q (.lst (xs.drop i.toNat)) :: A)) : GSl (rSl K) (.ref p) (some i) none A Φ := gsl_list r fun q => (cut_from (xs := xs) h).symm ▸ k q
end
/-! ### a place to meet -/
def tMid (t1 t2 : TS) : TS := tSeq t1 t2
theorem gs_mid {σ : L2.St} {A : SH} {t1 t2 : TS} {nx : L2.St → SH → Prop} {rt : V → SH → Prop} {bk ct : L2.St → SH → Prop} (Mid : L2.St → SH → Prop) (h : GS t1 ⟨Cl Mid, rt, bk, ct⟩ σ A) (k : ∀ σ A, Mid σ A → GS t2 ⟨nx, rt, bk, ct⟩ σ A) : GS (tMid t1 t2) ⟨nx, rt, bk, ct⟩ σ A := by
  show GS (tSeq t1 t2) ⟨nx, rt, bk, ct⟩ σ A
  refine gs_seq fun H E a im => h H E a ⟨fun σ A H x p => im.nx σ A H x (gs_as fun H2 x2 => ?_), im.rt, im.bk, im.ct⟩
  obtain ⟨B, hB, m⟩ := p H2 x2
  exact ⟨B, hB, k σ B m⟩
end S

namespace S
open PySem L2
abbrev top (i : Nat) : Stmt := PySem.Challenge.pw_buildhall_k07_rests_behind_failings.main.body.getD i (.Pass ⟨0, 0, 0, 0⟩)
abbrev s_wait_after : Stmt := (top 2)
abbrev s_rest_sum : Stmt := (top 3)
abbrev s_is_whole : Stmt := (top 12)
abbrev s_is_among : Stmt := (top 13)
abbrev s_is_made_of : Stmt := (top 14)
abbrev s_is_name : Stmt := (top 15)
abbrev s_own_needs : Stmt := (top 20)
abbrev s_need_numbers : Stmt := (top 21)
abbrev s_Job_init : Stmt := (inClass (top 22) 0)
abbrev s_law_cell_at : Stmt := (top 24)
abbrev s_law_mixed : Stmt := (top 25)
abbrev s_law_whole : Stmt := (top 26)
abbrev s_law_names : Stmt := (top 27)
abbrev s_law_due : Stmt := (top 28)
abbrev s_law_asked : Stmt := (top 29)
abbrev s_law_job_good : Stmt := (top 30)
abbrev s_law : Stmt := (top 31)
structure Ad where
  cHallError : Addr
  cBadName : Addr
  cBadNumber : Addr
  cBadNeeds : Addr
  cJob : Addr
  gLEAST : Addr
  gMOST : Addr

def fJob (x_name x_needs x_rank x_span x_tries x_wait x_grow : V) : List (Str × V) := [("name", x_name), ("needs", x_needs), ("rank", x_rank), ("span", x_span), ("tries", x_tries), ("wait", x_wait), ("grow", x_grow)]
theorem fJob_name {x_name x_needs x_rank x_span x_tries x_wait x_grow : V} : (fJob x_name x_needs x_rank x_span x_tries x_wait x_grow).lookup ("name" : Str) = some x_name := by first | rfl | kernel_rfl
theorem fJob_needs {x_name x_needs x_rank x_span x_tries x_wait x_grow : V} : (fJob x_name x_needs x_rank x_span x_tries x_wait x_grow).lookup ("needs" : Str) = some x_needs := by first | rfl | kernel_rfl
theorem fJob_rank {x_name x_needs x_rank x_span x_tries x_wait x_grow : V} : (fJob x_name x_needs x_rank x_span x_tries x_wait x_grow).lookup ("rank" : Str) = some x_rank := by first | rfl | kernel_rfl
theorem fJob_span {x_name x_needs x_rank x_span x_tries x_wait x_grow : V} : (fJob x_name x_needs x_rank x_span x_tries x_wait x_grow).lookup ("span" : Str) = some x_span := by first | rfl | kernel_rfl
theorem fJob_tries {x_name x_needs x_rank x_span x_tries x_wait x_grow : V} : (fJob x_name x_needs x_rank x_span x_tries x_wait x_grow).lookup ("tries" : Str) = some x_tries := by first | rfl | kernel_rfl
theorem fJob_wait {x_name x_needs x_rank x_span x_tries x_wait x_grow : V} : (fJob x_name x_needs x_rank x_span x_tries x_wait x_grow).lookup ("wait" : Str) = some x_wait := by first | rfl | kernel_rfl
theorem fJob_grow {x_name x_needs x_rank x_span x_tries x_wait x_grow : V} : (fJob x_name x_needs x_rank x_span x_tries x_wait x_grow).lookup ("grow" : Str) = some x_grow := by first | rfl | kernel_rfl
theorem fJob_put_name {x_name x_needs x_rank x_span x_tries x_wait x_grow y : V} : putF "name" y (fJob x_name x_needs x_rank x_span x_tries x_wait x_grow) = fJob y x_needs x_rank x_span x_tries x_wait x_grow := by first | rfl | kernel_rfl
theorem fJob_put_needs {x_name x_needs x_rank x_span x_tries x_wait x_grow y : V} : putF "needs" y (fJob x_name x_needs x_rank x_span x_tries x_wait x_grow) = fJob x_name y x_rank x_span x_tries x_wait x_grow := by first | rfl | kernel_rfl
theorem fJob_put_rank {x_name x_needs x_rank x_span x_tries x_wait x_grow y : V} : putF "rank" y (fJob x_name x_needs x_rank x_span x_tries x_wait x_grow) = fJob x_name x_needs y x_span x_tries x_wait x_grow := by first | rfl | kernel_rfl
theorem fJob_put_span {x_name x_needs x_rank x_span x_tries x_wait x_grow y : V} : putF "span" y (fJob x_name x_needs x_rank x_span x_tries x_wait x_grow) = fJob x_name x_needs x_rank y x_tries x_wait x_grow := by first | rfl | kernel_rfl
theorem fJob_put_tries {x_name x_needs x_rank x_span x_tries x_wait x_grow y : V} : putF "tries" y (fJob x_name x_needs x_rank x_span x_tries x_wait x_grow) = fJob x_name x_needs x_rank x_span y x_wait x_grow := by first | rfl | kernel_rfl
theorem fJob_put_wait {x_name x_needs x_rank x_span x_tries x_wait x_grow y : V} : putF "wait" y (fJob x_name x_needs x_rank x_span x_tries x_wait x_grow) = fJob x_name x_needs x_rank x_span x_tries y x_grow := by first | rfl | kernel_rfl
theorem fJob_put_grow {x_name x_needs x_rank x_span x_tries x_wait x_grow y : V} : putF "grow" y (fJob x_name x_needs x_rank x_span x_tries x_wait x_grow) = fJob x_name x_needs x_rank x_span x_tries x_wait y := by first | rfl | kernel_rfl
theorem fJob_all {x_name x_needs x_rank x_span x_tries x_wait x_grow : V} : (putF "grow" x_grow (putF "wait" x_wait (putF "tries" x_tries (putF "span" x_span (putF "rank" x_rank (putF "needs" x_needs (putF "name" x_name []))))))) = fJob x_name x_needs x_rank x_span x_tries x_wait x_grow := by first | rfl | kernel_rfl
theorem fJob_len {x_name x_needs x_rank x_span x_tries x_wait x_grow : V} : (fJob x_name x_needs x_rank x_span x_tries x_wait x_grow).length = 7 := rfl
end S

namespace S
open PySem L2
/-! ### the data -/
structure Jb where
  name : Str
  rank : Int
  span : Int
  tries : Int
  wait : Int
  grow : Int
abbrev fJb (j : Jb) (nd : Addr) : List (Str × V) := fJob (.str j.name) (.ref nd) (.int j.rank) (.int j.span) (.int j.tries) (.int j.wait) (.int j.grow)
/-- a job without needs stands at p -/
def JobAt (A : SH) (a : Ad) (p : Addr) (j : Jb) : Prop := ∃ dx nd, RO A p (.ins a.cJob dx (fJb j nd)) ∧ RO A nd (.lst [])
def JobsAt (A : SH) (a : Ad) (ps : List Addr) (js : List Jb) : Prop := ps.length = js.length ∧ ∀ (i : Nat) p j, ps[i]? = some p → js[i]? = some j → JobAt A a p j
def madeOf (z signs : Str) (most : Int) : Bool := decide (1 ≤ (z.length : Int)) && decide ((z.length : Int) ≤ most) && z.cps.toList.all fun c => decide (c ∈ signs.cps.toList)
def isName (z : Str) : Bool := madeOf z "abcdefghijklmnopqrstuvwxyz" 12
def mixF (c k : Int) : Int := (c + 7919 * k + 1) ^ 3 * 48271 % 2147483647
def restF (w g : Int) : Nat → Int
  | 0 => w
  | n + 1 => min (restF w g n * g) 100000
def restS (w g : Int) : Nat → Int
  | 0 => 0
  | n + 1 => restS w g n + restF w g n
def jobOk (j : Jb) : Prop := isName j.name = true ∧ 0 ≤ j.rank ∧ j.rank ≤ 99 ∧ 1 ≤ j.span ∧ j.span ≤ 1000 ∧ 1 ≤ j.tries ∧ j.tries ≤ 20 ∧ 0 ≤ j.wait ∧ j.wait ≤ 1000 ∧ 1 ≤ j.grow ∧ j.grow ≤ 4
def NamesOk (ys : List Str) : Prop := ys.length = 8 ∧ ∀ y ∈ ys, isName y = true ∧ y.length ≤ 12
def dueF (f u : Int) (n : Int) : Int := min (f * u ^ (n - 1).toNat) 100000
/-- nothing, or an empty list -/
def NoNeeds (A : SH) (x : V) : Prop := x = .non ∨ ∃ l, x = .ref l ∧ RO A l (.lst [])
def S_wait_after (K : PySem.W.Frag) (a : Ad) : Spec := fun vs A Φ _ => ∃ (p : Addr) (j : Jb) (fails : Int), vs = [.ref p, .int fails] ∧ JobAt A a p j ∧ jobOk j ∧ 0 ≤ fails ∧ fails ≤ 1000 ∧ Φ (.int (restF j.wait j.grow (fails - 1).toNat)) A
def S_rest_sum (K : PySem.W.Frag) (a : Ad) : Spec := fun vs A Φ _ => ∃ (p : Addr) (j : Jb), vs = [.ref p] ∧ JobAt A a p j ∧ jobOk j ∧ Φ (.int (restS j.wait j.grow (j.tries - 1).toNat)) A
def S_is_whole (K : PySem.W.Frag) (a : Ad) : Spec := fun vs A Φ _ => ∃ i : Int, vs = [.int i] ∧ Φ (.bl true) A
def S_is_among (K : PySem.W.Frag) (a : Ad) : Spec := fun vs A Φ _ => ∃ i l m : Int, vs = [.int i, .int l, .int m] ∧ (l ≤ i ∧ i ≤ m → Φ (.bl true) A) ∧ (¬ (l ≤ i ∧ i ≤ m) → Φ (.bl false) A)
def S_is_made_of (K : PySem.W.Frag) (a : Ad) : Spec := fun vs A Φ _ => ∃ (z s : Str) (m : Int), vs = [.str z, .str s, .int m] ∧ z.length ≤ 1000 ∧ Φ (.bl (madeOf z s m)) A
def S_is_name (K : PySem.W.Frag) (a : Ad) : Spec := fun vs A Φ _ => ∃ z : Str, vs = [.str z] ∧ z.length ≤ 1000 ∧ Φ (.bl (isName z)) A
def S_need_numbers (K : PySem.W.Frag) (a : Ad) : Spec := fun vs A Φ _ => ∃ (l : Addr) (r s t w g : Int), vs = [.ref l] ∧ RO A l (.lst [.int r, .int s, .int t, .int w, .int g]) ∧ 0 ≤ r ∧ r ≤ 99 ∧ 1 ≤ s ∧ s ≤ 1000 ∧ 1 ≤ t ∧ t ≤ 20 ∧ 0 ≤ w ∧ w ≤ 1000 ∧ 1 ≤ g ∧ g ≤ 4 ∧ Φ .non A
def S_law_whole (K : PySem.W.Frag) (a : Ad) : Spec := fun vs A Φ _ => ∃ i : Int, vs = [.int i] ∧ Φ (.bl true) A
def S_own_needs (K : PySem.W.Frag) (a : Ad) : Spec := fun vs A Φ _ => ∃ (z : Str) (x : V), vs = [.str z, x] ∧ NoNeeds A x ∧ ∀ q, Φ (.ref q) (sg q (.lst []) :: A)
def S_Job_init (K : PySem.W.Frag) (a : Ad) : Spec := fun vs A Φ _ => ∃ (p dx : Addr) (x : V) (j : Jb) (B : SH), vs = [.ref p, .str j.name, x, .int j.rank, .int j.span, .int j.tries, .int j.wait, .int j.grow] ∧ Pull A (sg p (.ins a.cJob dx [])) B ∧ NoNeeds B x ∧
  j.name.length ≤ 1000 ∧ jobOk j ∧ ∀ nd, Φ .non (sg p (.ins a.cJob dx (fJb j nd)) :: sg nd (.lst []) :: B)
def S_law_cell_at (K : PySem.W.Frag) (a : Ad) : Spec := fun vs A Φ _ => ∃ (p : Addr) (ns : List Int) (k : Int), vs = [.ref p, .int k] ∧ RL K A p (ns.map V.int) ∧ ns.length ≤ 63 ∧ 0 ≤ k ∧ k < 1000 ∧ Φ (.int (ns.getD k.toNat 0)) A
def S_law_mixed (K : PySem.W.Frag) (a : Ad) : Spec := fun vs A Φ _ => ∃ c k : Int, vs = [.int c, .int k] ∧ Cell c ∧ 0 ≤ k ∧ k < 1000 ∧ Φ (.int (mixF c k)) A
def S_law_names (K : PySem.W.Frag) (a : Ad) : Spec := fun vs A Φ _ => ∃ c : Int, vs = [.int c] ∧ Cell c ∧ ∀ q ys, NamesOk ys → Φ (.ref q) (sg q (.lst (ys.map V.str)) :: A)
def S_law_due (K : PySem.W.Frag) (a : Ad) : Spec := fun vs A Φ _ => ∃ f u n : Int, vs = [.int f, .int u, .int n] ∧ 0 ≤ f ∧ f ≤ 1000 ∧ 1 ≤ u ∧ u ≤ 4 ∧ 0 ≤ n ∧ n ≤ 31 ∧ Φ (.int (dueF f u n)) A
def S_law_asked (K : PySem.W.Frag) (a : Ad) : Spec := fun vs A Φ _ => ∃ (p : Addr) (j : Jb) (n : Int), vs = [.ref p, .int j.wait, .int j.grow, .int j.tries, .int n] ∧ JobAt A a p j ∧ jobOk j ∧ 0 ≤ n ∧ n ≤ 31 ∧ Φ (.bl true) A
def S_law_job_good (K : PySem.W.Frag) (a : Ad) : Spec := fun vs A Φ _ => ∃ (z : Str) (c : Int), vs = [.str z, .int c] ∧ isName z = true ∧ z.length ≤ 12 ∧ 0 ≤ c ∧ c < 2147483647 ∧ Φ (.bl true) A
def S_law (K : PySem.W.Frag) (a : Ad) : Spec := fun vs A Φ _ => ∃ (p : Addr) (ns : List Int), vs = [.ref p] ∧ RL K A p (ns.map V.int) ∧ ns.length ≤ 63 ∧ (∀ z ∈ ns, Cell z) ∧ Φ (.bl true) A
end S

namespace S
open PySem L2
/-- the methods of own classes -/
inductive MT (K : PySem.W.Frag) (a : Ad) : Str → Addr → Spec → Prop
/-- what the top has written -/
structure Txt (K : PySem.W.Frag) (mg : Str → Option Value) (a : Ad) : Prop where
  b_bool : mg "bool" = none
  b_enumerate : mg "enumerate" = none
  b_int : mg "int" = none
  b_isinstance : mg "isinstance" = none
  b_len : mg "len" = none
  b_list : mg "list" = none
  b_max : mg "max" = none
  b_min : mg "min" = none
  b_range : mg "range" = none
  b_set : mg "set" = none
  b_str : mg "str" = none
  b_sum : mg "sum" = none
  b_tuple : mg "tuple" = none
  g_MOST_WAIT : ∃ u, mg "MOST_WAIT" = some u ∧ RelV (.int (100000)) u
  g_LETTERS : ∃ u, mg "LETTERS" = some u ∧ RelV (.str "abcdefghijklmnopqrstuvwxyz") u
  g_MOST_LETTERS : ∃ u, mg "MOST_LETTERS" = some u ∧ RelV (.int (12)) u
  g_MOST_NEEDS : ∃ u, mg "MOST_NEEDS" = some u ∧ RelV (.int (8)) u
  g_LEAST : ∃ u, mg "LEAST" = some u ∧ RelV (.ref a.gLEAST) u
  k_LEAST : ∀ H, SqT K H a.gLEAST [.int (0), .int (1), .int (1), .int (0), .int (1)]
  g_MOST : ∃ u, mg "MOST" = some u ∧ RelV (.ref a.gMOST) u
  k_MOST : ∀ H, SqT K H a.gMOST [.int (99), .int (1000), .int (20), .int (1000), .int (4)]
  m_Job : mg "Job" = some (.ref a.cJob)
  i_Job : InsO K a.cJob
  n_Job_name : NoAttr K a.cJob "name"
  n_Job_needs : NoAttr K a.cJob "needs"
  n_Job_rank : NoAttr K a.cJob "rank"
  n_Job_span : NoAttr K a.cJob "span"
  n_Job_tries : NoAttr K a.cJob "tries"
  n_Job_wait : NoAttr K a.cJob "wait"
  n_Job_grow : NoAttr K a.cJob "grow"
/-- fields -/
theorem fo_Job_name {K : PySem.W.Frag} {mg : Str → Option Value} {a : Ad} (T : Txt K mg a) : FOk K a.cJob "name" := ⟨T.i_Job.c, T.n_Job_name⟩
theorem fo_Job_needs {K : PySem.W.Frag} {mg : Str → Option Value} {a : Ad} (T : Txt K mg a) : FOk K a.cJob "needs" := ⟨T.i_Job.c, T.n_Job_needs⟩
theorem fo_Job_rank {K : PySem.W.Frag} {mg : Str → Option Value} {a : Ad} (T : Txt K mg a) : FOk K a.cJob "rank" := ⟨T.i_Job.c, T.n_Job_rank⟩
theorem fo_Job_span {K : PySem.W.Frag} {mg : Str → Option Value} {a : Ad} (T : Txt K mg a) : FOk K a.cJob "span" := ⟨T.i_Job.c, T.n_Job_span⟩
theorem fo_Job_tries {K : PySem.W.Frag} {mg : Str → Option Value} {a : Ad} (T : Txt K mg a) : FOk K a.cJob "tries" := ⟨T.i_Job.c, T.n_Job_tries⟩
theorem fo_Job_wait {K : PySem.W.Frag} {mg : Str → Option Value} {a : Ad} (T : Txt K mg a) : FOk K a.cJob "wait" := ⟨T.i_Job.c, T.n_Job_wait⟩
theorem fo_Job_grow {K : PySem.W.Frag} {mg : Str → Option Value} {a : Ad} (T : Txt K mg a) : FOk K a.cJob "grow" := ⟨T.i_Job.c, T.n_Job_grow⟩
end S

namespace S
open PySem L2
theorem sc_wait_after : FnScope ["job", "fails", "turns", "turn"] ["job", "fails"] (defScope s_wait_after) := ⟨rfl, rfl, rfl, by decide +kernel, rfl, by decide +kernel, by decide +kernel⟩
def t_wait_after (K : PySem.W.Frag) (a : Ad) (W : WX) : TS :=
  (tSeq (tAsg (tFld K (tVar 0) "wait") (gName 2))
  (tSeq (tFor (iRng1 (tCons (tOp dSub (tVar 1) (tC (.int 1))) tNil)) (gName 3) (tAsg (tCB cMin2 (tCons (tOp dMul (tVar 2) (tFld K (tVar 0) "grow")) (tCons (tC (.int (100000))) tNil))) (gName 2)))
  (tRet (tVar 2))))
theorem dv_wait_after {P : Program} {w : World} {K : PySem.W.Frag} {mg : Str → Option Value} {base : Heap} {a : Ad} (T : Txt K mg a) 
    {f : Addr} {cdv : Value} {A : Around} {outer : List Env} {s : Shared} {H : Hp} {E : XK} (hr : Room 0 (A.deeper (PyProof.Rows.envOfC "wait_after" (defScope s_wait_after) s.heap.objs.size f cdv))) :
    PSs (cxOf (L2.CX P w) P w K mg base ["job", "fails", "turns", "turn"] "wait_after" (defScope s_wait_after) f cdv A outer s H E) (defBody s_wait_after) (t_wait_after K a fun c d _ H => E c d H) := by
  have tk : Takes (cxOf (L2.CX P w) P w K mg base ["job", "fails", "turns", "turn"] "wait_after" (defScope s_wait_after) f cdv A outer s H E) (fun c d _ H => E c d H) := takes_of rfl rfl rfl rfl
  have po : PassesOwn (model P w) (A.deeper (PyProof.Rows.envOfC "wait_after" (defScope s_wait_after) s.heap.objs.size f cdv)) (PyProof.Rows.envOfC "wait_after" (defScope s_wait_after) s.heap.objs.size f cdv) (cxOf (L2.CX P w) P w K mg base ["job", "fails", "turns", "turn"] "wait_after" (defScope s_wait_after) f cdv A outer s H E).xe := passes_of (X := cxOf (L2.CX P w) P w K mg base ["job", "fails", "turns", "turn"] "wait_after" (defScope s_wait_after) f cdv A outer s H E) rfl
  exact (pss_cons (ps_set (i := 2) sc_wait_after.nd rfl (by first | exact Or.inl rfl | exact Or.inr rfl) (pe_fld (pv 0) rfl))
  (pss_cons (ps_for po rfl (pi_range1 rfl T.b_range (pa_cons (pe_op op_dSub (pv 1) pe_int) pa_nil)) (pg_name (i := 3) sc_wait_after.nd rfl (by first | exact Or.inl rfl | exact Or.inr rfl)) (pss_one (ps_set (i := 2) sc_wait_after.nd rfl (by first | exact Or.inl rfl | exact Or.inr rfl) (pe_callB (call_cMin2 rfl) (by rfl) T.b_min (by decide +kernel) (pa_cons (pe_op op_dMul (pv 2) (pe_fld (pv 0) rfl)) (pa_cons (pe_gl (v := .int (100000)) T.g_MOST_WAIT) pa_nil))))))
  (pss_one (ps_ret (pv 2)))))
theorem sc_rest_sum : FnScope ["job", "turns", "fails"] ["job"] (defScope s_rest_sum) := ⟨rfl, rfl, rfl, by decide +kernel, rfl, by decide +kernel, by decide +kernel⟩
def t_rest_sum (K : PySem.W.Frag) (a : Ad) (W : WX) : TS :=
  (tSeq (tAsg (tC (.int 0)) (gName 1))
  (tSeq (tFor (iRng2 (tCons (tC (.int 1)) (tCons (tFld K (tVar 0) "tries") tNil))) (gName 2) (tAug 1 (tCal (lift (S_wait_after K a)) W (tCons (tVar 0) (tCons (tVar 2) tNil))) (ipI fun i j => i + j)))
  (tRet (tVar 1))))
theorem dv_rest_sum {P : Program} {w : World} {K : PySem.W.Frag} {mg : Str → Option Value} {base : Heap} {a : Ad} (T : Txt K mg a) (G_wait_after : DefR P w K mg base 1 "wait_after" (lift (S_wait_after K a)))
    {f : Addr} {cdv : Value} {A : Around} {outer : List Env} {s : Shared} {H : Hp} {E : XK} (hr : Room 1 (A.deeper (PyProof.Rows.envOfC "rest_sum" (defScope s_rest_sum) s.heap.objs.size f cdv))) :
    PSs (cxOf (L2.CX P w) P w K mg base ["job", "turns", "fails"] "rest_sum" (defScope s_rest_sum) f cdv A outer s H E) (defBody s_rest_sum) (t_rest_sum K a fun c d _ H => E c d H) := by
  have tk : Takes (cxOf (L2.CX P w) P w K mg base ["job", "turns", "fails"] "rest_sum" (defScope s_rest_sum) f cdv A outer s H E) (fun c d _ H => E c d H) := takes_of rfl rfl rfl rfl
  have po : PassesOwn (model P w) (A.deeper (PyProof.Rows.envOfC "rest_sum" (defScope s_rest_sum) s.heap.objs.size f cdv)) (PyProof.Rows.envOfC "rest_sum" (defScope s_rest_sum) s.heap.objs.size f cdv) (cxOf (L2.CX P w) P w K mg base ["job", "turns", "fails"] "rest_sum" (defScope s_rest_sum) f cdv A outer s H E).xe := passes_of (X := cxOf (L2.CX P w) P w K mg base ["job", "turns", "fails"] "rest_sum" (defScope s_rest_sum) f cdv A outer s H E) rfl
  exact (pss_cons (ps_set (i := 1) sc_rest_sum.nd rfl (by first | exact Or.inl rfl | exact Or.inr rfl) pe_int)
  (pss_cons (ps_for po rfl (pi_range2 rfl T.b_range (pa_cons pe_int (pa_cons (pe_fld (pv 0) rfl) pa_nil))) (pg_name (i := 2) sc_rest_sum.nd rfl (by first | exact Or.inl rfl | exact Or.inr rfl)) (pss_one (ps_aug (i := 1) sc_rest_sum.nd rfl (by first | exact Or.inl rfl | exact Or.inr rfl) (pe_own G_wait_after (hr.mono (by decide)) rfl tk (pa_cons (pv 0) (pa_cons (pv 2) pa_nil))) ip_add)))
  (pss_one (ps_ret (pv 1)))))
theorem sc_is_whole : FnScope ["thing"] ["thing"] (defScope s_is_whole) := ⟨rfl, rfl, rfl, by decide +kernel, rfl, by decide +kernel, by decide +kernel⟩
def t_is_whole (K : PySem.W.Frag) (a : Ad) (W : WX) : TS :=
  (tRet (tAndV (tCB (rIsi K) (tCons (tVar 0) (tCons (tC (.ty "int")) tNil))) (tNotV (tCB (rIsi K) (tCons (tVar 0) (tCons (tC (.ty "bool")) tNil))))))
theorem dv_is_whole {P : Program} {w : World} {K : PySem.W.Frag} {mg : Str → Option Value} {base : Heap} {a : Ad} (T : Txt K mg a) 
    {f : Addr} {cdv : Value} {A : Around} {outer : List Env} {s : Shared} {H : Hp} {E : XK} (hr : Room 0 (A.deeper (PyProof.Rows.envOfC "is_whole" (defScope s_is_whole) s.heap.objs.size f cdv))) :
    PSs (cxOf (L2.CX P w) P w K mg base ["thing"] "is_whole" (defScope s_is_whole) f cdv A outer s H E) (defBody s_is_whole) (t_is_whole K a fun c d _ H => E c d H) := by
  have tk : Takes (cxOf (L2.CX P w) P w K mg base ["thing"] "is_whole" (defScope s_is_whole) f cdv A outer s H E) (fun c d _ H => E c d H) := takes_of rfl rfl rfl rfl
  have po : PassesOwn (model P w) (A.deeper (PyProof.Rows.envOfC "is_whole" (defScope s_is_whole) s.heap.objs.size f cdv)) (PyProof.Rows.envOfC "is_whole" (defScope s_is_whole) s.heap.objs.size f cdv) (cxOf (L2.CX P w) P w K mg base ["thing"] "is_whole" (defScope s_is_whole) f cdv A outer s H E).xe := passes_of (X := cxOf (L2.CX P w) P w K mg base ["thing"] "is_whole" (defScope s_is_whole) f cdv A outer s H E) rfl
  exact (pss_one (ps_ret (pe_and (pe_callB call_isi (by rfl) T.b_isinstance (by decide +kernel) (pa_cons (pv 0) (pa_cons (pe_bltn (v := .ty "int") (by rfl) T.b_int (by decide +kernel) rfl) pa_nil))) (pe_one (pe_not (pe_callB call_isi (by rfl) T.b_isinstance (by decide +kernel) (pa_cons (pv 0) (pa_cons (pe_bltn (v := .ty "bool") (by rfl) T.b_bool (by decide +kernel) rfl) pa_nil))))))))
theorem sc_is_among : FnScope ["thing", "least", "most"] ["thing", "least", "most"] (defScope s_is_among) := ⟨rfl, rfl, rfl, by decide +kernel, rfl, by decide +kernel, by decide +kernel⟩
def t_is_among (K : PySem.W.Frag) (a : Ad) (W : WX) : TS :=
  (tRet (tAndV (tCal (lift (S_is_whole K a)) W (tCons (tVar 0) tNil)) (tChain dLe dLe (tVar 1) (tVar 0) (tVar 2))))
theorem dv_is_among {P : Program} {w : World} {K : PySem.W.Frag} {mg : Str → Option Value} {base : Heap} {a : Ad} (T : Txt K mg a) (G_is_whole : DefR P w K mg base 1 "is_whole" (lift (S_is_whole K a)))
    {f : Addr} {cdv : Value} {A : Around} {outer : List Env} {s : Shared} {H : Hp} {E : XK} (hr : Room 1 (A.deeper (PyProof.Rows.envOfC "is_among" (defScope s_is_among) s.heap.objs.size f cdv))) :
    PSs (cxOf (L2.CX P w) P w K mg base ["thing", "least", "most"] "is_among" (defScope s_is_among) f cdv A outer s H E) (defBody s_is_among) (t_is_among K a fun c d _ H => E c d H) := by
  have tk : Takes (cxOf (L2.CX P w) P w K mg base ["thing", "least", "most"] "is_among" (defScope s_is_among) f cdv A outer s H E) (fun c d _ H => E c d H) := takes_of rfl rfl rfl rfl
  have po : PassesOwn (model P w) (A.deeper (PyProof.Rows.envOfC "is_among" (defScope s_is_among) s.heap.objs.size f cdv)) (PyProof.Rows.envOfC "is_among" (defScope s_is_among) s.heap.objs.size f cdv) (cxOf (L2.CX P w) P w K mg base ["thing", "least", "most"] "is_among" (defScope s_is_among) f cdv A outer s H E).xe := passes_of (X := cxOf (L2.CX P w) P w K mg base ["thing", "least", "most"] "is_among" (defScope s_is_among) f cdv A outer s H E) rfl
  exact (pss_one (ps_ret (pe_and (pe_own G_is_whole (hr.mono (by decide)) rfl tk (pa_cons (pv 0) pa_nil)) (pe_one (pe_chain op_dLe op_dLe (pv 1) (pv 0) (pv 2))))))
theorem sc_is_made_of : FnScope ["thing", "signs", "most", "sign"] ["thing", "signs", "most"] (defScope s_is_made_of) := ⟨rfl, rfl, rfl, by decide +kernel, rfl, by decide +kernel, by decide +kernel⟩
def t_is_made_of (K : PySem.W.Frag) (a : Ad) (W : WX) : TS :=
  (tSeq (tIfS (tOr (tNot (tB (tCB (rIsi K) (tCons (tVar 0) (tCons (tC (.ty "str")) tNil))))) (tNot (tTest (tChain dLe dLe (tC (.int 1)) (tCB (cLen K) (tCons (tVar 0) tNil)) (tVar 2))))) (tRet (tC (.bl false))) tNext)
  (tSeq (tFor (iStr (tVar 0)) (gName 3) (tIfS (tTest (tOp (dIn K true) (tVar 3) (tVar 1))) (tRet (tC (.bl false))) tNext))
  (tRet (tC (.bl true)))))
theorem dv_is_made_of {P : Program} {w : World} {K : PySem.W.Frag} {mg : Str → Option Value} {base : Heap} {a : Ad} (T : Txt K mg a) 
    {f : Addr} {cdv : Value} {A : Around} {outer : List Env} {s : Shared} {H : Hp} {E : XK} (hr : Room 0 (A.deeper (PyProof.Rows.envOfC "is_made_of" (defScope s_is_made_of) s.heap.objs.size f cdv))) :
    PSs (cxOf (L2.CX P w) P w K mg base ["thing", "signs", "most", "sign"] "is_made_of" (defScope s_is_made_of) f cdv A outer s H E) (defBody s_is_made_of) (t_is_made_of K a fun c d _ H => E c d H) := by
  have tk : Takes (cxOf (L2.CX P w) P w K mg base ["thing", "signs", "most", "sign"] "is_made_of" (defScope s_is_made_of) f cdv A outer s H E) (fun c d _ H => E c d H) := takes_of rfl rfl rfl rfl
  have po : PassesOwn (model P w) (A.deeper (PyProof.Rows.envOfC "is_made_of" (defScope s_is_made_of) s.heap.objs.size f cdv)) (PyProof.Rows.envOfC "is_made_of" (defScope s_is_made_of) s.heap.objs.size f cdv) (cxOf (L2.CX P w) P w K mg base ["thing", "signs", "most", "sign"] "is_made_of" (defScope s_is_made_of) f cdv A outer s H E).xe := passes_of (X := cxOf (L2.CX P w) P w K mg base ["thing", "signs", "most", "sign"] "is_made_of" (defScope s_is_made_of) f cdv A outer s H E) rfl
  exact (pss_cons (ps_if (PW.pt (pw_or (pt_not (pt_val (pe_callB call_isi (by rfl) T.b_isinstance (by decide +kernel) (pa_cons (pv 0) (pa_cons (pe_bltn (v := .ty "str") (by rfl) T.b_str (by decide +kernel) rfl) pa_nil))))) (pw_or1 (pt_not (pt_chain op_dLe op_dLe pe_int (pe_callB call_cLen (by rfl) T.b_len (by decide +kernel) (pa_cons (pv 0) pa_nil)) (pv 2)))))) (pss_one (ps_ret pe_bl)) pss_nil)
  (pss_cons (ps_for po rfl (pi_str (pv 0)) (pg_name (i := 3) sc_is_made_of.nd rfl (by first | exact Or.inl rfl | exact Or.inr rfl)) (pss_one (ps_if (pt_cmpR op_dNotIn (pv 3) (pv 1) (by rfl)) (pss_one (ps_ret pe_bl)) pss_nil)))
  (pss_one (ps_ret pe_bl))))
theorem sc_is_name : FnScope ["thing"] ["thing"] (defScope s_is_name) := ⟨rfl, rfl, rfl, by decide +kernel, rfl, by decide +kernel, by decide +kernel⟩
def t_is_name (K : PySem.W.Frag) (a : Ad) (W : WX) : TS :=
  (tRet (tCal (lift (S_is_made_of K a)) W (tCons (tVar 0) (tCons (tC (.str "abcdefghijklmnopqrstuvwxyz")) (tCons (tC (.int (12))) tNil)))))
theorem dv_is_name {P : Program} {w : World} {K : PySem.W.Frag} {mg : Str → Option Value} {base : Heap} {a : Ad} (T : Txt K mg a) (G_is_made_of : DefR P w K mg base 1 "is_made_of" (lift (S_is_made_of K a)))
    {f : Addr} {cdv : Value} {A : Around} {outer : List Env} {s : Shared} {H : Hp} {E : XK} (hr : Room 1 (A.deeper (PyProof.Rows.envOfC "is_name" (defScope s_is_name) s.heap.objs.size f cdv))) :
    PSs (cxOf (L2.CX P w) P w K mg base ["thing"] "is_name" (defScope s_is_name) f cdv A outer s H E) (defBody s_is_name) (t_is_name K a fun c d _ H => E c d H) := by
  have tk : Takes (cxOf (L2.CX P w) P w K mg base ["thing"] "is_name" (defScope s_is_name) f cdv A outer s H E) (fun c d _ H => E c d H) := takes_of rfl rfl rfl rfl
  have po : PassesOwn (model P w) (A.deeper (PyProof.Rows.envOfC "is_name" (defScope s_is_name) s.heap.objs.size f cdv)) (PyProof.Rows.envOfC "is_name" (defScope s_is_name) s.heap.objs.size f cdv) (cxOf (L2.CX P w) P w K mg base ["thing"] "is_name" (defScope s_is_name) f cdv A outer s H E).xe := passes_of (X := cxOf (L2.CX P w) P w K mg base ["thing"] "is_name" (defScope s_is_name) f cdv A outer s H E) rfl
  exact (pss_one (ps_ret (pe_own G_is_made_of (hr.mono (by decide)) rfl tk (pa_cons (pv 0) (pa_cons (pe_gl (v := .str "abcdefghijklmnopqrstuvwxyz") T.g_LETTERS) (pa_cons (pe_gl (v := .int (12)) T.g_MOST_LETTERS) pa_nil))))))
theorem sc_own_needs : FnScope ["name", "needs", "found", "need"] ["name", "needs"] (defScope s_own_needs) := ⟨rfl, rfl, rfl, by decide +kernel, rfl, by decide +kernel, by decide +kernel⟩
def t_own_needs (K : PySem.W.Frag) (a : Ad) (W : WX) : TS :=
  (tSeq (tIfS (tTest (tOp (dIs false) (tVar 1) (tC .non))) (tRet (tLst tNil)) tNext)
  (tSeq (tIfS (tOr (tNot (tB (tCB (rIsiT K) (tCons (tVar 1) (tCons (tTup (tCons (tC (.ty "list")) (tCons (tC (.ty "tuple")) tNil))) tNil))))) (tTest (tOp dGt (tCB (cLen K) (tCons (tVar 1) tNil)) (tC (.int (8)))))) tNever tNext)
  (tSeq (tAsg (tLst tNil) (gName 2))
  (tSeq (tFor (iList K (tVar 1)) (gName 3) (tSeq (tIfS (tOr (tNot (tB (tCal (lift (S_is_name K a)) W (tCons (tVar 3) tNil)))) (tOr (tTest (tOp (dEq K) (tVar 3) (tVar 0))) (tTest (tOp (dIn K false) (tVar 3) (tVar 2))))) tNever tNext)
  (tDrop (tBM K "list" rAppend (tVar 2) (tCons (tVar 3) tNil)))))
  (tRet (tVar 2))))))
theorem dv_own_needs {P : Program} {w : World} {K : PySem.W.Frag} {mg : Str → Option Value} {base : Heap} {a : Ad} (T : Txt K mg a) (G_is_name : DefR P w K mg base 2 "is_name" (lift (S_is_name K a)))
    {f : Addr} {cdv : Value} {A : Around} {outer : List Env} {s : Shared} {H : Hp} {E : XK} (hr : Room 2 (A.deeper (PyProof.Rows.envOfC "own_needs" (defScope s_own_needs) s.heap.objs.size f cdv))) :
    PSs (cxOf (L2.CX P w) P w K mg base ["name", "needs", "found", "need"] "own_needs" (defScope s_own_needs) f cdv A outer s H E) (defBody s_own_needs) (t_own_needs K a fun c d _ H => E c d H) := by
  have tk : Takes (cxOf (L2.CX P w) P w K mg base ["name", "needs", "found", "need"] "own_needs" (defScope s_own_needs) f cdv A outer s H E) (fun c d _ H => E c d H) := takes_of rfl rfl rfl rfl
  have po : PassesOwn (model P w) (A.deeper (PyProof.Rows.envOfC "own_needs" (defScope s_own_needs) s.heap.objs.size f cdv)) (PyProof.Rows.envOfC "own_needs" (defScope s_own_needs) s.heap.objs.size f cdv) (cxOf (L2.CX P w) P w K mg base ["name", "needs", "found", "need"] "own_needs" (defScope s_own_needs) f cdv A outer s H E).xe := passes_of (X := cxOf (L2.CX P w) P w K mg base ["name", "needs", "found", "need"] "own_needs" (defScope s_own_needs) f cdv A outer s H E) rfl
  exact (pss_cons (ps_if (pt_cmpR op_dIs (pv 1) pe_non (nomark _)) (pss_one (ps_ret (pe_lst pa_nil))) pss_nil)
  (pss_cons (ps_if (PW.pt (pw_or (pt_not (pt_val (pe_callB call_isiT (by rfl) T.b_isinstance (by decide +kernel) (pa_cons (pv 1) (pa_cons (pe_tup (pa_cons (pe_bltn (v := .ty "list") (by rfl) T.b_list (by decide +kernel) rfl) (pa_cons (pe_bltn (v := .ty "tuple") (by rfl) T.b_tuple (by decide +kernel) rfl) pa_nil))) pa_nil))))) (pw_or1 (pt_cmpR op_dGt (pe_callB call_cLen (by rfl) T.b_len (by decide +kernel) (pa_cons (pv 1) pa_nil)) (pe_gl (v := .int (8)) T.g_MOST_NEEDS) (nomark _))))) (pss_one ps_never) pss_nil)
  (pss_cons (ps_set (i := 2) sc_own_needs.nd rfl (by first | exact Or.inl rfl | exact Or.inr rfl) (pe_lst pa_nil))
  (pss_cons (ps_for po rfl (pi_list (pv 1)) (pg_name (i := 3) sc_own_needs.nd rfl (by first | exact Or.inl rfl | exact Or.inr rfl)) (pss_cons (ps_if (PW.pt (pw_or (pt_not (pt_val (pe_own G_is_name (hr.mono (by decide)) rfl tk (pa_cons (pv 3) pa_nil)))) (pw_or (pt_cmpR (op_dEq hr) (pv 3) (pv 0) (nomark _)) (pw_or1 (pt_cmpR op_dIn (pv 3) (pv 2) (by rfl)))))) (pss_one ps_never) pss_nil)
  (pss_one (ps_expr (pe_bm PySem.F.plainAttrs_list PySem.F.slot_list_append PySem.F.type_list_append mt_append (pv 2) (pa_cons (pv 3) pa_nil))))))
  (pss_one (ps_ret (pv 2)))))))
theorem sc_need_numbers : FnScope ["numbers", "k", "number"] ["numbers"] (defScope s_need_numbers) := ⟨rfl, rfl, rfl, by decide +kernel, rfl, by decide +kernel, by decide +kernel⟩
def t_need_numbers (K : PySem.W.Frag) (a : Ad) (W : WX) : TS :=
  (tFor (iEnum K (tCons (tVar 0) tNil)) (gTup K 2 (gCons (gName 1) (gCons (gName 2) gNil))) (tIfS (tNot (tB (tCal (lift (S_is_among K a)) W (tCons (tVar 2) (tCons (tOp (rIx K) (tC (.ref a.gLEAST)) (tVar 1)) (tCons (tOp (rIx K) (tC (.ref a.gMOST)) (tVar 1)) tNil)))))) tNever tNext))
theorem dv_need_numbers {P : Program} {w : World} {K : PySem.W.Frag} {mg : Str → Option Value} {base : Heap} {a : Ad} (T : Txt K mg a) (G_is_among : DefR P w K mg base 2 "is_among" (lift (S_is_among K a)))
    {f : Addr} {cdv : Value} {A : Around} {outer : List Env} {s : Shared} {H : Hp} {E : XK} (hr : Room 2 (A.deeper (PyProof.Rows.envOfC "need_numbers" (defScope s_need_numbers) s.heap.objs.size f cdv))) :
    PSs (cxOf (L2.CX P w) P w K mg base ["numbers", "k", "number"] "need_numbers" (defScope s_need_numbers) f cdv A outer s H E) (defBody s_need_numbers) (t_need_numbers K a fun c d _ H => E c d H) := by
  have tk : Takes (cxOf (L2.CX P w) P w K mg base ["numbers", "k", "number"] "need_numbers" (defScope s_need_numbers) f cdv A outer s H E) (fun c d _ H => E c d H) := takes_of rfl rfl rfl rfl
  have po : PassesOwn (model P w) (A.deeper (PyProof.Rows.envOfC "need_numbers" (defScope s_need_numbers) s.heap.objs.size f cdv)) (PyProof.Rows.envOfC "need_numbers" (defScope s_need_numbers) s.heap.objs.size f cdv) (cxOf (L2.CX P w) P w K mg base ["numbers", "k", "number"] "need_numbers" (defScope s_need_numbers) f cdv A outer s H E).xe := passes_of (X := cxOf (L2.CX P w) P w K mg base ["numbers", "k", "number"] "need_numbers" (defScope s_need_numbers) f cdv A outer s H E) rfl
  exact (pss_one (ps_for po rfl (pi_enum (by rfl) T.b_enumerate (pa_cons (pv 0) pa_nil)) (pg_tup rfl (pgs_cons (pg_name (i := 1) sc_need_numbers.nd rfl (by first | exact Or.inl rfl | exact Or.inr rfl)) (pgs_cons (pg_name (i := 2) sc_need_numbers.nd rfl (by first | exact Or.inl rfl | exact Or.inr rfl)) pgs_nil))) (pss_one (ps_if (pt_not (pt_val (pe_own G_is_among (hr.mono (by decide)) rfl tk (pa_cons (pv 2) (pa_cons (pe_ix ix_seq (pe_gl (v := .ref a.gLEAST) T.g_LEAST) (pv 1) (fun _ _ => rfl)) (pa_cons (pe_ix ix_seq (pe_gl (v := .ref a.gMOST) T.g_MOST) (pv 1) (fun _ _ => rfl)) pa_nil)))))) (pss_one ps_never) pss_nil))))
theorem sc_Job_init : FnScope ["self", "name", "needs", "rank", "span", "tries", "wait", "grow"] ["self", "name", "needs", "rank", "span", "tries", "wait", "grow"] (defScope s_Job_init) := ⟨rfl, rfl, rfl, by decide +kernel, rfl, by decide +kernel, by decide +kernel⟩
def t_Job_init (K : PySem.W.Frag) (a : Ad) (W : WX) : TS :=
  (tSeq (tIfS (tNot (tB (tCal (lift (S_is_name K a)) W (tCons (tVar 1) tNil)))) tNever tNext)
  (tSeq (sFld K (tVar 0) (tVar 1) "name")
  (tSeq (sFld K (tVar 0) (tCal (lift (S_own_needs K a)) W (tCons (tVar 1) (tCons (tVar 2) tNil))) "needs")
  (tSeq (tDrop (tCal (lift (S_need_numbers K a)) W (tCons (tLst (tCons (tVar 3) (tCons (tVar 4) (tCons (tVar 5) (tCons (tVar 6) (tCons (tVar 7) tNil)))))) tNil)))
  (tSeq (sFld K (tVar 0) (tVar 3) "rank")
  (tSeq (sFld K (tVar 0) (tVar 4) "span")
  (tSeq (sFld K (tVar 0) (tVar 5) "tries")
  (tSeq (sFld K (tVar 0) (tVar 6) "wait")
  (sFld K (tVar 0) (tVar 7) "grow")))))))))
theorem dv_Job_init {P : Program} {w : World} {K : PySem.W.Frag} {mg : Str → Option Value} {base : Heap} {a : Ad} (T : Txt K mg a) (G_is_name : DefR P w K mg base 2 "is_name" (lift (S_is_name K a))) (G_need_numbers : DefR P w K mg base 3 "need_numbers" (lift (S_need_numbers K a))) (G_own_needs : DefR P w K mg base 3 "own_needs" (lift (S_own_needs K a)))
    {f : Addr} {cdv : Value} {A : Around} {outer : List Env} {s : Shared} {H : Hp} {E : XK} (hr : Room 3 (A.deeper (PyProof.Rows.envOfC "Job.__init__" (defScope s_Job_init) s.heap.objs.size f cdv))) :
    PSs (cxOf (L2.CX P w) P w K mg base ["self", "name", "needs", "rank", "span", "tries", "wait", "grow"] "Job.__init__" (defScope s_Job_init) f cdv A outer s H E) (defBody s_Job_init) (t_Job_init K a fun c d _ H => E c d H) := by
  have tk : Takes (cxOf (L2.CX P w) P w K mg base ["self", "name", "needs", "rank", "span", "tries", "wait", "grow"] "Job.__init__" (defScope s_Job_init) f cdv A outer s H E) (fun c d _ H => E c d H) := takes_of rfl rfl rfl rfl
  have po : PassesOwn (model P w) (A.deeper (PyProof.Rows.envOfC "Job.__init__" (defScope s_Job_init) s.heap.objs.size f cdv)) (PyProof.Rows.envOfC "Job.__init__" (defScope s_Job_init) s.heap.objs.size f cdv) (cxOf (L2.CX P w) P w K mg base ["self", "name", "needs", "rank", "span", "tries", "wait", "grow"] "Job.__init__" (defScope s_Job_init) f cdv A outer s H E).xe := passes_of (X := cxOf (L2.CX P w) P w K mg base ["self", "name", "needs", "rank", "span", "tries", "wait", "grow"] "Job.__init__" (defScope s_Job_init) f cdv A outer s H E) rfl
  exact (pss_cons (ps_if (pt_not (pt_val (pe_own G_is_name (hr.mono (by decide)) rfl tk (pa_cons (pv 1) pa_nil)))) (pss_one ps_never) pss_nil)
  (pss_cons (ps_fld (pv 0) (pv 1) rfl)
  (pss_cons (ps_fld (pv 0) (pe_own G_own_needs (hr.mono (by decide)) rfl tk (pa_cons (pv 1) (pa_cons (pv 2) pa_nil))) rfl)
  (pss_cons (ps_expr (pe_own G_need_numbers (hr.mono (by decide)) rfl tk (pa_cons (pe_lst (pa_cons (pv 3) (pa_cons (pv 4) (pa_cons (pv 5) (pa_cons (pv 6) (pa_cons (pv 7) pa_nil)))))) pa_nil)))
  (pss_cons (ps_fld (pv 0) (pv 3) rfl)
  (pss_cons (ps_fld (pv 0) (pv 4) rfl)
  (pss_cons (ps_fld (pv 0) (pv 5) rfl)
  (pss_cons (ps_fld (pv 0) (pv 6) rfl)
  (pss_one (ps_fld (pv 0) (pv 7) rfl))))))))))
theorem sc_law_cell_at : FnScope ["_law_script", "_law_k"] ["_law_script", "_law_k"] (defScope s_law_cell_at) := ⟨rfl, rfl, rfl, by decide +kernel, rfl, by decide +kernel, by decide +kernel⟩
def t_law_cell_at (K : PySem.W.Frag) (a : Ad) (W : WX) : TS :=
  (tSeq (tIfS (tTest (tOp (dLt K) (tVar 1) (tCB (cLen K) (tCons (tVar 0) tNil)))) (tRet (tOp (rIx K) (tVar 0) (tVar 1))) tNext)
  (tRet (tC (.int 0))))
theorem dv_law_cell_at {P : Program} {w : World} {K : PySem.W.Frag} {mg : Str → Option Value} {base : Heap} {a : Ad} (T : Txt K mg a) 
    {f : Addr} {cdv : Value} {A : Around} {outer : List Env} {s : Shared} {H : Hp} {E : XK} (hr : Room 0 (A.deeper (PyProof.Rows.envOfC "_law_cell_at" (defScope s_law_cell_at) s.heap.objs.size f cdv))) :
    PSs (cxOf (L2.CX P w) P w K mg base ["_law_script", "_law_k"] "_law_cell_at" (defScope s_law_cell_at) f cdv A outer s H E) (defBody s_law_cell_at) (t_law_cell_at K a fun c d _ H => E c d H) := by
  have tk : Takes (cxOf (L2.CX P w) P w K mg base ["_law_script", "_law_k"] "_law_cell_at" (defScope s_law_cell_at) f cdv A outer s H E) (fun c d _ H => E c d H) := takes_of rfl rfl rfl rfl
  have po : PassesOwn (model P w) (A.deeper (PyProof.Rows.envOfC "_law_cell_at" (defScope s_law_cell_at) s.heap.objs.size f cdv)) (PyProof.Rows.envOfC "_law_cell_at" (defScope s_law_cell_at) s.heap.objs.size f cdv) (cxOf (L2.CX P w) P w K mg base ["_law_script", "_law_k"] "_law_cell_at" (defScope s_law_cell_at) f cdv A outer s H E).xe := passes_of (X := cxOf (L2.CX P w) P w K mg base ["_law_script", "_law_k"] "_law_cell_at" (defScope s_law_cell_at) f cdv A outer s H E) rfl
  exact (pss_cons (ps_if (pt_cmpR (op_dLt hr) (pv 1) (pe_callB call_cLen (by rfl) T.b_len (by decide +kernel) (pa_cons (pv 0) pa_nil)) (nomark _)) (pss_one (ps_ret (pe_ix ix_seq (pv 0) (pv 1) (fun _ _ => rfl)))) pss_nil)
  (pss_one (ps_ret pe_int)))
theorem sc_law_mixed : FnScope ["_law_cell", "_law_k"] ["_law_cell", "_law_k"] (defScope s_law_mixed) := ⟨rfl, rfl, rfl, by decide +kernel, rfl, by decide +kernel, by decide +kernel⟩
def t_law_mixed (K : PySem.W.Frag) (a : Ad) (W : WX) : TS :=
  (tRet (tOp dMod (tOp dMul (tOp dPow (tOp (dAdd K) (tOp (dAdd K) (tVar 0) (tOp dMul (tC (.int 7919)) (tVar 1))) (tC (.int 1))) (tC (.int 3))) (tC (.int 48271))) (tC (.int 2147483647))))
theorem dv_law_mixed {P : Program} {w : World} {K : PySem.W.Frag} {mg : Str → Option Value} {base : Heap} {a : Ad} (T : Txt K mg a) 
    {f : Addr} {cdv : Value} {A : Around} {outer : List Env} {s : Shared} {H : Hp} {E : XK} (hr : Room 0 (A.deeper (PyProof.Rows.envOfC "_law_mixed" (defScope s_law_mixed) s.heap.objs.size f cdv))) :
    PSs (cxOf (L2.CX P w) P w K mg base ["_law_cell", "_law_k"] "_law_mixed" (defScope s_law_mixed) f cdv A outer s H E) (defBody s_law_mixed) (t_law_mixed K a fun c d _ H => E c d H) := by
  have tk : Takes (cxOf (L2.CX P w) P w K mg base ["_law_cell", "_law_k"] "_law_mixed" (defScope s_law_mixed) f cdv A outer s H E) (fun c d _ H => E c d H) := takes_of rfl rfl rfl rfl
  have po : PassesOwn (model P w) (A.deeper (PyProof.Rows.envOfC "_law_mixed" (defScope s_law_mixed) s.heap.objs.size f cdv)) (PyProof.Rows.envOfC "_law_mixed" (defScope s_law_mixed) s.heap.objs.size f cdv) (cxOf (L2.CX P w) P w K mg base ["_law_cell", "_law_k"] "_law_mixed" (defScope s_law_mixed) f cdv A outer s H E).xe := passes_of (X := cxOf (L2.CX P w) P w K mg base ["_law_cell", "_law_k"] "_law_mixed" (defScope s_law_mixed) f cdv A outer s H E) rfl
  exact (pss_one (ps_ret (pe_op op_dMod (pe_op op_dMul (pe_op op_dPow (pe_op op_dAdd (pe_op op_dAdd (pv 0) (pe_op op_dMul pe_int (pv 1))) pe_int) pe_int) pe_int) pe_int)))
theorem sc_law_whole : FnScope ["_law_found"] ["_law_found"] (defScope s_law_whole) := ⟨rfl, rfl, rfl, by decide +kernel, rfl, by decide +kernel, by decide +kernel⟩
def t_law_whole (K : PySem.W.Frag) (a : Ad) (W : WX) : TS :=
  (tRet (tAndV (tCB (rIsi K) (tCons (tVar 0) (tCons (tC (.ty "int")) tNil))) (tNotV (tCB (rIsi K) (tCons (tVar 0) (tCons (tC (.ty "bool")) tNil))))))
theorem dv_law_whole {P : Program} {w : World} {K : PySem.W.Frag} {mg : Str → Option Value} {base : Heap} {a : Ad} (T : Txt K mg a) 
    {f : Addr} {cdv : Value} {A : Around} {outer : List Env} {s : Shared} {H : Hp} {E : XK} (hr : Room 0 (A.deeper (PyProof.Rows.envOfC "_law_whole" (defScope s_law_whole) s.heap.objs.size f cdv))) :
    PSs (cxOf (L2.CX P w) P w K mg base ["_law_found"] "_law_whole" (defScope s_law_whole) f cdv A outer s H E) (defBody s_law_whole) (t_law_whole K a fun c d _ H => E c d H) := by
  have tk : Takes (cxOf (L2.CX P w) P w K mg base ["_law_found"] "_law_whole" (defScope s_law_whole) f cdv A outer s H E) (fun c d _ H => E c d H) := takes_of rfl rfl rfl rfl
  have po : PassesOwn (model P w) (A.deeper (PyProof.Rows.envOfC "_law_whole" (defScope s_law_whole) s.heap.objs.size f cdv)) (PyProof.Rows.envOfC "_law_whole" (defScope s_law_whole) s.heap.objs.size f cdv) (cxOf (L2.CX P w) P w K mg base ["_law_found"] "_law_whole" (defScope s_law_whole) f cdv A outer s H E).xe := passes_of (X := cxOf (L2.CX P w) P w K mg base ["_law_found"] "_law_whole" (defScope s_law_whole) f cdv A outer s H E) rfl
  exact (pss_one (ps_ret (pe_and (pe_callB call_isi (by rfl) T.b_isinstance (by decide +kernel) (pa_cons (pv 0) (pa_cons (pe_bltn (v := .ty "int") (by rfl) T.b_int (by decide +kernel) rfl) pa_nil))) (pe_one (pe_not (pe_callB call_isi (by rfl) T.b_isinstance (by decide +kernel) (pa_cons (pv 0) (pa_cons (pe_bltn (v := .ty "bool") (by rfl) T.b_bool (by decide +kernel) rfl) pa_nil))))))))
theorem sc_law_names : FnScope ["_law_cell", "_law_letters", "_law_size", "_law_j", "_law_row", "_law_at", "_law_found", "_law_k", "_law_word", "_law_long"] ["_law_cell"] (defScope s_law_names) := ⟨rfl, rfl, rfl, by decide +kernel, rfl, by decide +kernel, by decide +kernel⟩
def t_law_names (K : PySem.W.Frag) (a : Ad) (W : WX) : TS :=
  (tSeq (tAsg (tC (.str "abcdefghijklmnopqrstuvwxyz")) (gName 1))
  (tSeq (tAsg (tOp (dAdd K) (tC (.int 1)) (tOp dMod (tOp dDiv (tVar 0) (tC (.int 3))) (tC (.int 12)))) (gName 2))
  (tSeq (tAsg (tLc (iRng1 (tCons (tC (.int 12)) tNil)) (gName 3) tYes (tOp (rIx K) (tVar 1) (tOp dMod (tCal (lift (S_law_mixed K a)) (fun _ _ _ _ => False) (tCons (tVar 0) (tCons (tOp (dAdd K) (tC (.int 40)) (tVar 3)) tNil))) (tC (.int 26)))) [3]) (gName 4))
  (tSeq (tAsg (tOp dMod (tOp dDiv (tVar 0) (tC (.int 36))) (tVar 2)) (gName 5))
  (tSeq (tAsg (tLst tNil) (gName 6))
  (tSeq (tFor (iRng1 (tCons (tC (.int 8)) tNil)) (gName 7) (tSeq (tAsg (tSl (rSl K) (tVar 4) tNoPart (tPart (tVar 2))) (gName 8))
  (tSeq (tAsg (tOp (rIx K) (tVar 1) (tOp dMod (tOp (dAdd K) (tOp dDiv (tVar 0) (tC (.int 432))) (tOp dMul (tC (.int 3)) (tVar 7))) (tC (.int 26)))) (gSub (tVar 8) (tVar 5) rSetL))
  (tSeq (tIfS (tTest (tOp (dEq K) (tOp dMod (tVar 0) (tC (.int 3))) (tC (.int 1)))) (tAsg (tSl (rSl K) (tVar 4) tNoPart (tPart (tOp (dAdd K) (tC (.int 1)) (tOp dMod (tOp (dAdd K) (tVar 7) (tOp dDiv (tVar 0) (tC (.int 36)))) (tC (.int 12)))))) (gName 8)) tNext)
  (tSeq (tIfS (tTest (tOp (dEq K) (tOp dMod (tVar 0) (tC (.int 3))) (tC (.int 2)))) (tSeq (tAsg (tOp (dAdd K) (tC (.int 1)) (tOp dMod (tCal (lift (S_law_mixed K a)) W (tCons (tVar 0) (tCons (tOp (dAdd K) (tC (.int 99)) (tVar 7)) tNil))) (tC (.int 12)))) (gName 9))
  (tSeq (tAsg (tLc (iRng1 (tCons (tVar 9) tNil)) (gName 3) tYes (tOp dMod (tCal (lift (S_law_mixed K a)) (fun _ _ _ _ => False) (tCons (tVar 0) (tCons (tOp (dAdd K) (tOp dMul (tC (.int 12)) (tVar 7)) (tVar 3)) tNil))) (tC (.int 26))) [3]) (gName 8))
  (tAsg (tLc (iList K (tVar 8)) (gName 3) tYes (tOp (rIx K) (tVar 1) (tVar 3)) [3]) (gName 8)))) tNext)
  (tDrop (tBM K "list" rAppend (tVar 6) (tCons (tM1 (rJoin K) (tC (.str "")) (tVar 8)) tNil))))))))
  (tRet (tIf (tTest (tOp (dEq K) (tLenS K (tVar 6)) (tC (.int 8)))) (tVar 6) (tLst (tCons (tC (.str "a")) (tCons (tC (.str "ab")) (tCons (tC (.str "abc")) (tCons (tC (.str "b")) (tCons (tC (.str "ba")) (tCons (tC (.str "bb")) (tCons (tC (.str "c")) (tCons (tC (.str "cab")) tNil)))))))))))))))))
theorem dv_law_names {P : Program} {w : World} {K : PySem.W.Frag} {mg : Str → Option Value} {base : Heap} {a : Ad} (T : Txt K mg a) (G_law_mixed : DefR P w K mg base 1 "_law_mixed" (lift (S_law_mixed K a)))
    {f : Addr} {cdv : Value} {A : Around} {outer : List Env} {s : Shared} {H : Hp} {E : XK} (hr : Room 1 (A.deeper (PyProof.Rows.envOfC "_law_names" (defScope s_law_names) s.heap.objs.size f cdv))) :
    PSs (cxOf (L2.CX P w) P w K mg base ["_law_cell", "_law_letters", "_law_size", "_law_j", "_law_row", "_law_at", "_law_found", "_law_k", "_law_word", "_law_long"] "_law_names" (defScope s_law_names) f cdv A outer s H E) (defBody s_law_names) (t_law_names K a fun c d _ H => E c d H) := by
  have tk : Takes (cxOf (L2.CX P w) P w K mg base ["_law_cell", "_law_letters", "_law_size", "_law_j", "_law_row", "_law_at", "_law_found", "_law_k", "_law_word", "_law_long"] "_law_names" (defScope s_law_names) f cdv A outer s H E) (fun c d _ H => E c d H) := takes_of rfl rfl rfl rfl
  have po : PassesOwn (model P w) (A.deeper (PyProof.Rows.envOfC "_law_names" (defScope s_law_names) s.heap.objs.size f cdv)) (PyProof.Rows.envOfC "_law_names" (defScope s_law_names) s.heap.objs.size f cdv) (cxOf (L2.CX P w) P w K mg base ["_law_cell", "_law_letters", "_law_size", "_law_j", "_law_row", "_law_at", "_law_found", "_law_k", "_law_word", "_law_long"] "_law_names" (defScope s_law_names) f cdv A outer s H E).xe := passes_of (X := cxOf (L2.CX P w) P w K mg base ["_law_cell", "_law_letters", "_law_size", "_law_j", "_law_row", "_law_at", "_law_found", "_law_k", "_law_word", "_law_long"] "_law_names" (defScope s_law_names) f cdv A outer s H E) rfl
  exact (pss_cons (ps_set (i := 1) sc_law_names.nd rfl (by first | exact Or.inl rfl | exact Or.inr rfl) pe_str)
  (pss_cons (ps_set (i := 2) sc_law_names.nd rfl (by first | exact Or.inl rfl | exact Or.inr rfl) (pe_op op_dAdd pe_int (pe_op op_dMod (pe_op op_dDiv (pv 0) pe_int) pe_int)))
  (pss_cons (ps_setLc (i := 4) (own := [("_law_j", 3)]) rfl sc_law_names.nd rfl rfl (sw_true rfl rfl rfl (by decide +kernel)) (pi_range1 rfl T.b_range (pa_cons pe_int pa_nil)) (blkOk_by (own := [("_law_j", 3)]) (by kernel_rfl)) (fun _ _ _ _ _ => (pg_name (i := 3) sc_law_names.nd rfl (by first | exact Or.inl rfl | exact Or.inr rfl))) (fun _ _ _ _ _ => pts_nil) (fun _ _ _ _ _ => (pe_ix ix_seq (pv 1) (pe_op op_dMod (pe_own G_law_mixed (hr.mono (by decide)) rfl takes0 (pa_cons (pv 0) (pa_cons (pe_op op_dAdd pe_int (pv 3)) pa_nil))) pe_int) (fun _ _ => rfl))))
  (pss_cons (ps_set (i := 5) sc_law_names.nd rfl (by first | exact Or.inl rfl | exact Or.inr rfl) (pe_op op_dMod (pe_op op_dDiv (pv 0) pe_int) (pv 2)))
  (pss_cons (ps_set (i := 6) sc_law_names.nd rfl (by first | exact Or.inl rfl | exact Or.inr rfl) (pe_lst pa_nil))
  (pss_cons (ps_for po rfl (pi_range1 rfl T.b_range (pa_cons pe_int pa_nil)) (pg_name (i := 7) sc_law_names.nd rfl (by first | exact Or.inl rfl | exact Or.inr rfl)) (pss_cons (ps_set (i := 8) sc_law_names.nd rfl (by first | exact Or.inl rfl | exact Or.inr rfl) (pe_slice sl_any (pv 4) po_none (po_some (pv 2))))
  (pss_cons (ps_asg (pe_ix ix_seq (pv 1) (pe_op op_dMod (pe_op op_dAdd (pe_op op_dDiv (pv 0) pe_int) (pe_op op_dMul pe_int (pv 7))) pe_int) (fun _ _ => rfl)) (pg_sub (pv 8) (pv 5) set_list))
  (pss_cons (ps_if (pt_cmpR (op_dEq hr) (pe_op op_dMod (pv 0) pe_int) pe_int (nomark _)) (pss_one (ps_set (i := 8) sc_law_names.nd rfl (by first | exact Or.inl rfl | exact Or.inr rfl) (pe_slice sl_any (pv 4) po_none (po_some (pe_op op_dAdd pe_int (pe_op op_dMod (pe_op op_dAdd (pv 7) (pe_op op_dDiv (pv 0) pe_int)) pe_int)))))) pss_nil)
  (pss_cons (ps_if (pt_cmpR (op_dEq hr) (pe_op op_dMod (pv 0) pe_int) pe_int (nomark _)) (pss_cons (ps_set (i := 9) sc_law_names.nd rfl (by first | exact Or.inl rfl | exact Or.inr rfl) (pe_op op_dAdd pe_int (pe_op op_dMod (pe_own G_law_mixed (hr.mono (by decide)) rfl tk (pa_cons (pv 0) (pa_cons (pe_op op_dAdd pe_int (pv 7)) pa_nil))) pe_int)))
  (pss_cons (ps_setLc (i := 8) (own := [("_law_j", 3)]) rfl sc_law_names.nd rfl rfl (sw_true rfl rfl rfl (by decide +kernel)) (pi_range1 rfl T.b_range (pa_cons (pv 9) pa_nil)) (blkOk_by (own := [("_law_j", 3)]) (by kernel_rfl)) (fun _ _ _ _ _ => (pg_name (i := 3) sc_law_names.nd rfl (by first | exact Or.inl rfl | exact Or.inr rfl))) (fun _ _ _ _ _ => pts_nil) (fun _ _ _ _ _ => (pe_op op_dMod (pe_own G_law_mixed (hr.mono (by decide)) rfl takes0 (pa_cons (pv 0) (pa_cons (pe_op op_dAdd (pe_op op_dMul pe_int (pv 7)) (pv 3)) pa_nil))) pe_int)))
  (pss_one (ps_setLc (i := 8) (own := [("_law_j", 3)]) rfl sc_law_names.nd rfl rfl (sw_true rfl rfl rfl (by decide +kernel)) (pi_list (pv 8)) (blkOk_by (own := [("_law_j", 3)]) (by kernel_rfl)) (fun _ _ _ _ _ => (pg_name (i := 3) sc_law_names.nd rfl (by first | exact Or.inl rfl | exact Or.inr rfl))) (fun _ _ _ _ _ => pts_nil) (fun _ _ _ _ _ => (pe_ix ix_seq (pv 1) (pv 3) (fun _ _ => rfl))))))) pss_nil)
  (pss_one (ps_expr (pe_bm PySem.F.plainAttrs_list PySem.F.slot_list_append PySem.F.type_list_append mt_append (pv 6) (pa_cons (pe_join pe_str (pv 8)) pa_nil)))))))))
  (pss_one (ps_ret (pe_ifExp (pt_cmpR (op_dEq hr) (pe_lenS rfl (by rfl) T.b_len (by rfl) T.b_set (pv 6)) pe_int (nomark _)) (pv 6) (pe_lst (pa_cons pe_str (pa_cons pe_str (pa_cons pe_str (pa_cons pe_str (pa_cons pe_str (pa_cons pe_str (pa_cons pe_str (pa_cons pe_str pa_nil))))))))))))))))))
theorem sc_law_due : FnScope ["_law_first", "_law_up", "_law_fails", "_law_turns", "_law_turn"] ["_law_first", "_law_up", "_law_fails"] (defScope s_law_due) := ⟨rfl, rfl, rfl, by decide +kernel, rfl, by decide +kernel, by decide +kernel⟩
def t_law_due (K : PySem.W.Frag) (a : Ad) (W : WX) : TS :=
  (tSeq (tAsg (tVar 0) (gName 3))
  (tSeq (tFor (iRng2 (tCons (tC (.int 1)) (tCons (tVar 2) tNil))) (gName 4) (tAsg (tOp dMul (tVar 3) (tVar 1)) (gName 3)))
  (tRet (tCB cMin2 (tCons (tVar 3) (tCons (tC (.int 100000)) tNil))))))
theorem dv_law_due {P : Program} {w : World} {K : PySem.W.Frag} {mg : Str → Option Value} {base : Heap} {a : Ad} (T : Txt K mg a) 
    {f : Addr} {cdv : Value} {A : Around} {outer : List Env} {s : Shared} {H : Hp} {E : XK} (hr : Room 0 (A.deeper (PyProof.Rows.envOfC "_law_due" (defScope s_law_due) s.heap.objs.size f cdv))) :
    PSs (cxOf (L2.CX P w) P w K mg base ["_law_first", "_law_up", "_law_fails", "_law_turns", "_law_turn"] "_law_due" (defScope s_law_due) f cdv A outer s H E) (defBody s_law_due) (t_law_due K a fun c d _ H => E c d H) := by
  have tk : Takes (cxOf (L2.CX P w) P w K mg base ["_law_first", "_law_up", "_law_fails", "_law_turns", "_law_turn"] "_law_due" (defScope s_law_due) f cdv A outer s H E) (fun c d _ H => E c d H) := takes_of rfl rfl rfl rfl
  have po : PassesOwn (model P w) (A.deeper (PyProof.Rows.envOfC "_law_due" (defScope s_law_due) s.heap.objs.size f cdv)) (PyProof.Rows.envOfC "_law_due" (defScope s_law_due) s.heap.objs.size f cdv) (cxOf (L2.CX P w) P w K mg base ["_law_first", "_law_up", "_law_fails", "_law_turns", "_law_turn"] "_law_due" (defScope s_law_due) f cdv A outer s H E).xe := passes_of (X := cxOf (L2.CX P w) P w K mg base ["_law_first", "_law_up", "_law_fails", "_law_turns", "_law_turn"] "_law_due" (defScope s_law_due) f cdv A outer s H E) rfl
  exact (pss_cons (ps_set (i := 3) sc_law_due.nd rfl (by first | exact Or.inl rfl | exact Or.inr rfl) (pv 0))
  (pss_cons (ps_for po rfl (pi_range2 rfl T.b_range (pa_cons pe_int (pa_cons (pv 2) pa_nil))) (pg_name (i := 4) sc_law_due.nd rfl (by first | exact Or.inl rfl | exact Or.inr rfl)) (pss_one (ps_set (i := 3) sc_law_due.nd rfl (by first | exact Or.inl rfl | exact Or.inr rfl) (pe_op op_dMul (pv 3) (pv 1)))))
  (pss_one (ps_ret (pe_callB (call_cMin2 rfl) (by rfl) T.b_min (by decide +kernel) (pa_cons (pv 3) (pa_cons pe_int pa_nil)))))))
theorem sc_law_asked : FnScope ["_law_job", "_law_first", "_law_up", "_law_often", "_law_fails", "_law_found", "_law_k", "_law_due_here"] ["_law_job", "_law_first", "_law_up", "_law_often", "_law_fails"] (defScope s_law_asked) := ⟨rfl, rfl, rfl, by decide +kernel, rfl, by decide +kernel, by decide +kernel⟩
def t_law_asked (K : PySem.W.Frag) (a : Ad) (W : WX) : TS :=
  (tSeq (tIfS (tTest (tOp (dEq K) (tVar 4) (tC (.int 0)))) (tSeq (tAsg (tCal (lift (S_rest_sum K a)) W (tCons (tVar 0) tNil)) (gName 5))
  (tAsg (tCB (rSum K) (tCons (tLc (iRng2 (tCons (tC (.int 1)) (tCons (tVar 3) tNil))) (gName 6) tYes (tCal (lift (S_law_due K a)) (fun _ _ _ _ => False) (tCons (tVar 1) (tCons (tVar 2) (tCons (tVar 6) tNil)))) [6]) tNil)) (gName 7))) (tSeq (tAsg (tCal (lift (S_wait_after K a)) W (tCons (tVar 0) (tCons (tVar 4) tNil))) (gName 5))
  (tAsg (tCal (lift (S_law_due K a)) W (tCons (tVar 1) (tCons (tVar 2) (tCons (tVar 4) tNil)))) (gName 7))))
  (tRet (tAndV (tCal (lift (S_law_whole K a)) W (tCons (tVar 5) tNil)) (tOp (dEq K) (tVar 5) (tVar 7)))))
theorem dv_law_asked {P : Program} {w : World} {K : PySem.W.Frag} {mg : Str → Option Value} {base : Heap} {a : Ad} (T : Txt K mg a) (G_law_due : DefR P w K mg base 1 "_law_due" (lift (S_law_due K a))) (G_law_whole : DefR P w K mg base 1 "_law_whole" (lift (S_law_whole K a))) (G_rest_sum : DefR P w K mg base 2 "rest_sum" (lift (S_rest_sum K a))) (G_wait_after : DefR P w K mg base 1 "wait_after" (lift (S_wait_after K a)))
    {f : Addr} {cdv : Value} {A : Around} {outer : List Env} {s : Shared} {H : Hp} {E : XK} (hr : Room 2 (A.deeper (PyProof.Rows.envOfC "_law_asked" (defScope s_law_asked) s.heap.objs.size f cdv))) :
    PSs (cxOf (L2.CX P w) P w K mg base ["_law_job", "_law_first", "_law_up", "_law_often", "_law_fails", "_law_found", "_law_k", "_law_due_here"] "_law_asked" (defScope s_law_asked) f cdv A outer s H E) (defBody s_law_asked) (t_law_asked K a fun c d _ H => E c d H) := by
  have tk : Takes (cxOf (L2.CX P w) P w K mg base ["_law_job", "_law_first", "_law_up", "_law_often", "_law_fails", "_law_found", "_law_k", "_law_due_here"] "_law_asked" (defScope s_law_asked) f cdv A outer s H E) (fun c d _ H => E c d H) := takes_of rfl rfl rfl rfl
  have po : PassesOwn (model P w) (A.deeper (PyProof.Rows.envOfC "_law_asked" (defScope s_law_asked) s.heap.objs.size f cdv)) (PyProof.Rows.envOfC "_law_asked" (defScope s_law_asked) s.heap.objs.size f cdv) (cxOf (L2.CX P w) P w K mg base ["_law_job", "_law_first", "_law_up", "_law_often", "_law_fails", "_law_found", "_law_k", "_law_due_here"] "_law_asked" (defScope s_law_asked) f cdv A outer s H E).xe := passes_of (X := cxOf (L2.CX P w) P w K mg base ["_law_job", "_law_first", "_law_up", "_law_often", "_law_fails", "_law_found", "_law_k", "_law_due_here"] "_law_asked" (defScope s_law_asked) f cdv A outer s H E) rfl
  exact (pss_cons (ps_if (pt_cmpR (op_dEq hr) (pv 4) pe_int (nomark _)) (pss_cons (ps_set (i := 5) sc_law_asked.nd rfl (by first | exact Or.inl rfl | exact Or.inr rfl) (pe_own G_rest_sum (hr.mono (by decide)) rfl tk (pa_cons (pv 0) pa_nil)))
  (pss_one (ps_set (i := 7) sc_law_asked.nd rfl (by first | exact Or.inl rfl | exact Or.inr rfl) (pe_callB (cr_sum rfl) (by rfl) T.b_sum (by decide +kernel) (pa_cons (pe_lc (own := [("_law_k", 6)]) rfl sc_law_asked.nd (pi_range2 rfl T.b_range (pa_cons pe_int (pa_cons (pv 3) pa_nil))) (blkOk_by (own := [("_law_k", 6)]) (by kernel_rfl)) (fun _ _ _ _ _ => (pg_name (i := 6) sc_law_asked.nd rfl (by first | exact Or.inl rfl | exact Or.inr rfl))) (fun _ _ _ _ _ => pts_nil) (fun _ _ _ _ _ => (pe_own G_law_due (hr.mono (by decide)) rfl takes0 (pa_cons (pv 1) (pa_cons (pv 2) (pa_cons (pv 6) pa_nil)))))) pa_nil))))) (pss_cons (ps_set (i := 5) sc_law_asked.nd rfl (by first | exact Or.inl rfl | exact Or.inr rfl) (pe_own G_wait_after (hr.mono (by decide)) rfl tk (pa_cons (pv 0) (pa_cons (pv 4) pa_nil))))
  (pss_one (ps_set (i := 7) sc_law_asked.nd rfl (by first | exact Or.inl rfl | exact Or.inr rfl) (pe_own G_law_due (hr.mono (by decide)) rfl tk (pa_cons (pv 1) (pa_cons (pv 2) (pa_cons (pv 4) pa_nil))))))))
  (pss_one (ps_ret (pe_and (pe_own G_law_whole (hr.mono (by decide)) rfl tk (pa_cons (pv 5) pa_nil)) (pe_one (pe_cmpR (op_dEq hr) (pv 5) (pv 7) (nomark _)))))))
theorem sc_law_job_good : FnScope ["_law_called", "_law_cell", "_law_first", "_law_up", "_law_often", "_law_job", "_law_order", "_law_at", "_law_fails"] ["_law_called", "_law_cell"] (defScope s_law_job_good) := ⟨rfl, rfl, rfl, by decide +kernel, rfl, by decide +kernel, by decide +kernel⟩
def t_law_job_good (K : PySem.W.Frag) (a : Ad) (W : WX) : TS :=
  (tSeq (tAsg (tOp (rIx K) (tLst (tCons (tOp dMod (tOp dDiv (tVar 1) (tC (.int 7))) (tC (.int 4))) (tCons (tOp dMod (tOp dDiv (tVar 1) (tC (.int 7))) (tC (.int 30))) (tCons (tOp dMod (tOp dDiv (tVar 1) (tC (.int 7))) (tC (.int 1001))) tNil)))) (tOp dMod (tVar 1) (tC (.int 3)))) (gName 2))
  (tSeq (tAsg (tOp (dAdd K) (tC (.int 1)) (tOp dMod (tOp dDiv (tVar 1) (tC (.int 7007))) (tC (.int 4)))) (gName 3))
  (tSeq (tAsg (tOp (dAdd K) (tC (.int 1)) (tOp dMod (tOp dDiv (tVar 1) (tC (.int 28028))) (tC (.int 20)))) (gName 4))
  (tMid (tIfS (tTest (tOp (dEq K) (tOp dMod (tOp dDiv (tVar 1) (tC (.int 560560))) (tC (.int 4))) (tC (.int 1)))) (tPar 5 2 (tCons (tMakK a.cJob (lift (S_Job_init K a)) W 1 2 (fun vs zs => vs ++ ((([.non, .int (0), .int (1), .int (1), .int (0), .int (1)] : List V).drop 0).take 3) ++ ((zs.drop 0).take 1) ++ ((([.non, .int (0), .int (1), .int (1), .int (0), .int (1)] : List V).drop 4).take 1) ++ ((zs.drop 1).take 1)) (tCons (tVar 0) tNil) (tCons (tVar 4) (tCons (tVar 3) tNil))) (tCons (tC (.int 0)) tNil))) (tIfS (tTest (tOp (dEq K) (tOp dMod (tOp dDiv (tVar 1) (tC (.int 560560))) (tC (.int 4))) (tC (.int 2)))) (tPar 5 3 (tCons (tMakK a.cJob (lift (S_Job_init K a)) W 6 0 (fun vs zs => vs ++ ((([.non, .int (0), .int (1), .int (1), .int (0), .int (1)] : List V).drop 5).take 1)) (tCons (tVar 0) (tCons (tLst tNil) (tCons (tC (.int 0)) (tCons (tC (.int 1)) (tCons (tVar 4) (tCons (tVar 2) tNil)))))) tNil) (tCons (tC (.int 1)) tNil))) (tIfS (tTest (tOp (dEq K) (tOp dMod (tOp dDiv (tVar 1) (tC (.int 560560))) (tC (.int 4))) (tC (.int 3)))) (tPar 5 4 (tCons (tMakK a.cJob (lift (S_Job_init K a)) W 1 2 (fun vs zs => vs ++ ((([.non, .int (0), .int (1), .int (1), .int (0), .int (1)] : List V).drop 0).take 4) ++ ((zs.drop 0).take 2)) (tCons (tVar 0) tNil) (tCons (tVar 2) (tCons (tVar 3) tNil))) (tCons (tC (.int 1)) tNil))) (tAsg (tMak a.cJob (lift (S_Job_init K a)) W (tCons (tVar 0) (tCons (tLst tNil) (tCons (tC (.int 0)) (tCons (tC (.int 1)) (tCons (tVar 4) (tCons (tVar 2) (tCons (tVar 3) tNil)))))))) (gName 5)))))
  (tSeq (tAsg (tRow K (tLstRg (tRg1 (tC (.int 31)))) (tOp dSub (tC (.int 1)) (tOp dMul (tC (.int 2)) (tOp dMod (tOp dDiv (tVar 1) (tC (.int 2242240))) (tC (.int 2)))))) (gName 6))
  (tSeq (tAsg (tOp dMod (tOp dDiv (tVar 1) (tC (.int 4484480))) (tC (.int 31))) (gName 7))
  (tSeq (tFor (iList K (tOp (dAdd K) (tSl (rSl K) (tVar 6) (tPart (tVar 7)) tNoPart) (tSl (rSl K) (tVar 6) tNoPart (tPart (tVar 7))))) (gName 8) (tIfS (tNot (tB (tCal (lift (S_law_asked K a)) W (tCons (tVar 5) (tCons (tVar 2) (tCons (tVar 3) (tCons (tVar 4) (tCons (tVar 8) tNil)))))))) (tRet (tC (.bl false))) tNext))
  (tRet (tOp (dEq K) (tLst (tCons (tFld K (tVar 5) "wait") (tCons (tFld K (tVar 5) "grow") (tCons (tFld K (tVar 5) "tries") tNil)))) (tLst (tCons (tVar 2) (tCons (tVar 3) (tCons (tVar 4) tNil)))))))))))))
theorem dv_law_job_good {P : Program} {w : World} {K : PySem.W.Frag} {mg : Str → Option Value} {base : Heap} {a : Ad} (T : Txt K mg a) (G_Job_init : MakR P w K mg base 4 "Job" a.cJob (lift (S_Job_init K a))) (G_law_asked : DefR P w K mg base 3 "_law_asked" (lift (S_law_asked K a))) (GK_Job_init_1_tries_grow : MakRK P w K mg base 4 "Job" a.cJob 1 ["tries", "grow"] (fun vs zs => vs ++ ((([.non, .int (0), .int (1), .int (1), .int (0), .int (1)] : List V).drop 0).take 3) ++ ((zs.drop 0).take 1) ++ ((([.non, .int (0), .int (1), .int (1), .int (0), .int (1)] : List V).drop 4).take 1) ++ ((zs.drop 1).take 1)) (lift (S_Job_init K a))) (GK_Job_init_1_wait_grow : MakRK P w K mg base 4 "Job" a.cJob 1 ["wait", "grow"] (fun vs zs => vs ++ ((([.non, .int (0), .int (1), .int (1), .int (0), .int (1)] : List V).drop 0).take 4) ++ ((zs.drop 0).take 2)) (lift (S_Job_init K a))) (GK_Job_init_6 : MakRK P w K mg base 4 "Job" a.cJob 6 [] (fun vs zs => vs ++ ((([.non, .int (0), .int (1), .int (1), .int (0), .int (1)] : List V).drop 5).take 1)) (lift (S_Job_init K a)))
    {f : Addr} {cdv : Value} {A : Around} {outer : List Env} {s : Shared} {H : Hp} {E : XK} (hr : Room 5 (A.deeper (PyProof.Rows.envOfC "_law_job_good" (defScope s_law_job_good) s.heap.objs.size f cdv))) :
    PSs (cxOf (L2.CX P w) P w K mg base ["_law_called", "_law_cell", "_law_first", "_law_up", "_law_often", "_law_job", "_law_order", "_law_at", "_law_fails"] "_law_job_good" (defScope s_law_job_good) f cdv A outer s H E) (defBody s_law_job_good) (t_law_job_good K a fun c d _ H => E c d H) := by
  have tk : Takes (cxOf (L2.CX P w) P w K mg base ["_law_called", "_law_cell", "_law_first", "_law_up", "_law_often", "_law_job", "_law_order", "_law_at", "_law_fails"] "_law_job_good" (defScope s_law_job_good) f cdv A outer s H E) (fun c d _ H => E c d H) := takes_of rfl rfl rfl rfl
  have po : PassesOwn (model P w) (A.deeper (PyProof.Rows.envOfC "_law_job_good" (defScope s_law_job_good) s.heap.objs.size f cdv)) (PyProof.Rows.envOfC "_law_job_good" (defScope s_law_job_good) s.heap.objs.size f cdv) (cxOf (L2.CX P w) P w K mg base ["_law_called", "_law_cell", "_law_first", "_law_up", "_law_often", "_law_job", "_law_order", "_law_at", "_law_fails"] "_law_job_good" (defScope s_law_job_good) f cdv A outer s H E).xe := passes_of (X := cxOf (L2.CX P w) P w K mg base ["_law_called", "_law_cell", "_law_first", "_law_up", "_law_often", "_law_job", "_law_order", "_law_at", "_law_fails"] "_law_job_good" (defScope s_law_job_good) f cdv A outer s H E) rfl
  exact (pss_cons (ps_set (i := 2) sc_law_job_good.nd rfl (by first | exact Or.inl rfl | exact Or.inr rfl) (pe_ix ix_seq (pe_lst (pa_cons (pe_op op_dMod (pe_op op_dDiv (pv 1) pe_int) pe_int) (pa_cons (pe_op op_dMod (pe_op op_dDiv (pv 1) pe_int) pe_int) (pa_cons (pe_op op_dMod (pe_op op_dDiv (pv 1) pe_int) pe_int) pa_nil)))) (pe_op op_dMod (pv 1) pe_int) (fun _ _ => rfl)))
  (pss_cons (ps_set (i := 3) sc_law_job_good.nd rfl (by first | exact Or.inl rfl | exact Or.inr rfl) (pe_op op_dAdd pe_int (pe_op op_dMod (pe_op op_dDiv (pv 1) pe_int) pe_int)))
  (pss_cons (ps_set (i := 4) sc_law_job_good.nd rfl (by first | exact Or.inl rfl | exact Or.inr rfl) (pe_op op_dAdd pe_int (pe_op op_dMod (pe_op op_dDiv (pv 1) pe_int) pe_int)))
  (pss_cons (ps_if (pt_cmpR (op_dEq hr) (pe_op op_dMod (pe_op op_dDiv (pv 1) pe_int) pe_int) pe_int (nomark _)) (pss_one (ps_par (by rfl) sc_law_job_good.nd rfl rfl (by decide) rfl rfl (pa_cons (pe_makK GK_Job_init_1_tries_grow (hr.mono (by decide)) (by rfl) tk (pa_cons (pv 0) pa_nil) (pk_cons (pv 4) (pk_cons (pv 3) pk_nil))) (pa_cons pe_int pa_nil)) (by rfl))) (pss_one (ps_if (pt_cmpR (op_dEq hr) (pe_op op_dMod (pe_op op_dDiv (pv 1) pe_int) pe_int) pe_int (nomark _)) (pss_one (ps_par (by rfl) sc_law_job_good.nd rfl rfl (by decide) rfl rfl (pa_cons (pe_makK GK_Job_init_6 (hr.mono (by decide)) (by rfl) tk (pa_cons (pv 0) (pa_cons (pe_lst pa_nil) (pa_cons pe_int (pa_cons pe_int (pa_cons (pv 4) (pa_cons (pv 2) pa_nil)))))) pk_nil) (pa_cons pe_int pa_nil)) (by rfl))) (pss_one (ps_if (pt_cmpR (op_dEq hr) (pe_op op_dMod (pe_op op_dDiv (pv 1) pe_int) pe_int) pe_int (nomark _)) (pss_one (ps_par (by rfl) sc_law_job_good.nd rfl rfl (by decide) rfl rfl (pa_cons (pe_makK GK_Job_init_1_wait_grow (hr.mono (by decide)) (by rfl) tk (pa_cons (pv 0) pa_nil) (pk_cons (pv 2) (pk_cons (pv 3) pk_nil))) (pa_cons pe_int pa_nil)) (by rfl))) (pss_one (ps_set (i := 5) sc_law_job_good.nd rfl (by first | exact Or.inl rfl | exact Or.inr rfl) (pe_mak G_Job_init (hr.mono (by decide)) rfl tk (pa_cons (pv 0) (pa_cons (pe_lst pa_nil) (pa_cons pe_int (pa_cons pe_int (pa_cons (pv 4) (pa_cons (pv 2) (pa_cons (pv 3) pa_nil)))))))))))))))
  (pss_cons (ps_set (i := 6) sc_law_job_good.nd rfl (by first | exact Or.inl rfl | exact Or.inr rfl) (pe_row (pe_listRg rfl rfl T.b_list (prg_1 rfl T.b_range pe_int)) (pe_op op_dSub pe_int (pe_op op_dMul pe_int (pe_op op_dMod (pe_op op_dDiv (pv 1) pe_int) pe_int)))))
  (pss_cons (ps_set (i := 7) sc_law_job_good.nd rfl (by first | exact Or.inl rfl | exact Or.inr rfl) (pe_op op_dMod (pe_op op_dDiv (pv 1) pe_int) pe_int))
  (pss_cons (ps_for po rfl (pi_list (pe_op op_dAdd (pe_slice sl_any (pv 6) (po_some (pv 7)) po_none) (pe_slice sl_any (pv 6) po_none (po_some (pv 7))))) (pg_name (i := 8) sc_law_job_good.nd rfl (by first | exact Or.inl rfl | exact Or.inr rfl)) (pss_one (ps_if (pt_not (pt_val (pe_own G_law_asked (hr.mono (by decide)) rfl tk (pa_cons (pv 5) (pa_cons (pv 2) (pa_cons (pv 3) (pa_cons (pv 4) (pa_cons (pv 8) pa_nil)))))))) (pss_one (ps_ret pe_bl)) pss_nil)))
  (pss_one (ps_ret (pe_cmpR (op_dEq hr) (pe_lst (pa_cons (pe_fld (pv 5) rfl) (pa_cons (pe_fld (pv 5) rfl) (pa_cons (pe_fld (pv 5) rfl) pa_nil)))) (pe_lst (pa_cons (pv 2) (pa_cons (pv 3) (pa_cons (pv 4) pa_nil)))) (nomark _)))))))))))
theorem sc_law : FnScope ["_law_script", "_law_some", "_law_k"] ["_law_script"] (defScope s_law) := ⟨rfl, rfl, rfl, by decide +kernel, rfl, by decide +kernel, by decide +kernel⟩
def t_law (K : PySem.W.Frag) (a : Ad) (W : WX) : TS :=
  (tSeq (tAsg (tCal (lift (S_law_names K a)) W (tCons (tCal (lift (S_law_cell_at K a)) W (tCons (tVar 0) (tCons (tC (.int 0)) tNil))) tNil)) (gName 1))
  (tSeq (tIfS (tOr (tNot (tB (tCal (lift (S_law_whole K a)) W (tCons (tC (.int (100000))) tNil)))) (tTest (tOp (dNe K) (tC (.int (100000))) (tC (.int 100000))))) (tRet (tC (.bl false))) tNext)
  (tSeq (tFor (iRng2 (tCons (tC (.int 2)) (tCons (tCB cMax2 (tCons (tC (.int 3)) (tCons (tCB cMin2 (tCons (tCB (cLen K) (tCons (tVar 0) tNil)) (tCons (tC (.int 14)) tNil))) tNil))) tNil))) (gName 2) (tIfS (tNot (tB (tCal (lift (S_law_job_good K a)) W (tCons (tOp (rIx K) (tVar 1) (tOp dMod (tVar 2) (tC (.int 8)))) (tCons (tCal (lift (S_law_mixed K a)) W (tCons (tCal (lift (S_law_cell_at K a)) W (tCons (tVar 0) (tCons (tVar 2) tNil))) (tCons (tVar 2) tNil))) tNil))))) (tRet (tC (.bl false))) tNext))
  (tRet (tC (.bl true))))))
theorem dv_law {P : Program} {w : World} {K : PySem.W.Frag} {mg : Str → Option Value} {base : Heap} {a : Ad} (T : Txt K mg a) (G_law_cell_at : DefR P w K mg base 1 "_law_cell_at" (lift (S_law_cell_at K a))) (G_law_job_good : DefR P w K mg base 6 "_law_job_good" (lift (S_law_job_good K a))) (G_law_mixed : DefR P w K mg base 1 "_law_mixed" (lift (S_law_mixed K a))) (G_law_names : DefR P w K mg base 2 "_law_names" (lift (S_law_names K a))) (G_law_whole : DefR P w K mg base 1 "_law_whole" (lift (S_law_whole K a)))
    {f : Addr} {cdv : Value} {A : Around} {outer : List Env} {s : Shared} {H : Hp} {E : XK} (hr : Room 6 (A.deeper (PyProof.Rows.envOfC "law" (defScope s_law) s.heap.objs.size f cdv))) :
    PSs (cxOf (L2.CX P w) P w K mg base ["_law_script", "_law_some", "_law_k"] "law" (defScope s_law) f cdv A outer s H E) (defBody s_law) (t_law K a fun c d _ H => E c d H) := by
  have tk : Takes (cxOf (L2.CX P w) P w K mg base ["_law_script", "_law_some", "_law_k"] "law" (defScope s_law) f cdv A outer s H E) (fun c d _ H => E c d H) := takes_of rfl rfl rfl rfl
  have po : PassesOwn (model P w) (A.deeper (PyProof.Rows.envOfC "law" (defScope s_law) s.heap.objs.size f cdv)) (PyProof.Rows.envOfC "law" (defScope s_law) s.heap.objs.size f cdv) (cxOf (L2.CX P w) P w K mg base ["_law_script", "_law_some", "_law_k"] "law" (defScope s_law) f cdv A outer s H E).xe := passes_of (X := cxOf (L2.CX P w) P w K mg base ["_law_script", "_law_some", "_law_k"] "law" (defScope s_law) f cdv A outer s H E) rfl
  exact (pss_cons (ps_set (i := 1) sc_law.nd rfl (by first | exact Or.inl rfl | exact Or.inr rfl) (pe_own G_law_names (hr.mono (by decide)) rfl tk (pa_cons (pe_own G_law_cell_at (hr.mono (by decide)) rfl tk (pa_cons (pv 0) (pa_cons pe_int pa_nil))) pa_nil)))
  (pss_cons (ps_if (PW.pt (pw_or (pt_not (pt_val (pe_own G_law_whole (hr.mono (by decide)) rfl tk (pa_cons (pe_gl (v := .int (100000)) T.g_MOST_WAIT) pa_nil)))) (pw_or1 (pt_cmpR (op_dNe hr) (pe_gl (v := .int (100000)) T.g_MOST_WAIT) pe_int (nomark _))))) (pss_one (ps_ret pe_bl)) pss_nil)
  (pss_cons (ps_for po rfl (pi_range2 rfl T.b_range (pa_cons pe_int (pa_cons (pe_callB (call_cMax2 rfl) (by rfl) T.b_max (by decide +kernel) (pa_cons pe_int (pa_cons (pe_callB (call_cMin2 rfl) (by rfl) T.b_min (by decide +kernel) (pa_cons (pe_callB call_cLen (by rfl) T.b_len (by decide +kernel) (pa_cons (pv 0) pa_nil)) (pa_cons pe_int pa_nil))) pa_nil))) pa_nil))) (pg_name (i := 2) sc_law.nd rfl (by first | exact Or.inl rfl | exact Or.inr rfl)) (pss_one (ps_if (pt_not (pt_val (pe_own G_law_job_good (hr.mono (by decide)) rfl tk (pa_cons (pe_ix ix_seq (pv 1) (pe_op op_dMod (pv 2) pe_int) (fun _ _ => rfl)) (pa_cons (pe_own G_law_mixed (hr.mono (by decide)) rfl tk (pa_cons (pe_own G_law_cell_at (hr.mono (by decide)) rfl tk (pa_cons (pv 0) (pa_cons (pv 2) pa_nil))) (pa_cons (pv 2) pa_nil))) pa_nil))))) (pss_one (ps_ret pe_bl)) pss_nil)))
  (pss_one (ps_ret pe_bl)))))
end S

namespace S
open PySem L2
local macro_rules | `(tactic| walk_at "slot") => `(tactic| (with_reducible first | exact gx0 | exact gx1 | exact gx2 | exact gx3 | exact gx4 | exact gx5 | exact gx6 | exact gx7 | exact gx8 | exact gx9 | exact gx10 | exact gx11 | exact gx12 | exact gx13 | exact gx14 | exact gx15 | exact gx16 | exact gx17 | exact gx18 | exact gx19 | exact gx20 | exact gx21 | exact gx22 | exact gx23 | exact gx24 | exact gx25 | exact gx26 | exact gx27 | exact gx28 | exact gx29))
local macro_rules | `(tactic| walk_at "set") => `(tactic| (with_reducible first | exact sx0 | exact sx1 | exact sx2 | exact sx3 | exact sx4 | exact sx5 | exact sx6 | exact sx7 | exact sx8 | exact sx9 | exact sx10 | exact sx11 | exact sx12 | exact sx13 | exact sx14 | exact sx15 | exact sx16 | exact sx17 | exact sx18 | exact sx19 | exact sx20 | exact sx21 | exact sx22 | exact sx23 | exact sx24 | exact sx25 | exact sx26 | exact sx27 | exact sx28 | exact sx29))
local macro_rules | `(tactic| walk_at "wi") => `(tactic| first | exact wi0 | (refine' wi1 ?hw ?hs; (case hw => walk_at "wi"); (case hs => walk_at "set")))
local macro_rules | `(tactic| walk_at "ro") => `(tactic| with_reducible first | exact RO.head | assumption | (apply RO.tail; walk_at "ro") | (apply RO.app; walk_at "ro") | (refine' RO.le (by assumption) ?_; with_reducible assumption))
local macro_rules | `(tactic| walk_at "rl") => `(tactic| with_reducible first | exact RL.head | assumption | (apply RL.tail; walk_at "rl") | (apply RL.app; walk_at "rl") | (refine' RL.le (by assumption) ?_; with_reducible assumption) | (apply RL.ro; walk_at "ro"))
local macro_rules | `(tactic| walk_at "rt") => `(tactic| with_reducible first | exact RT.head | assumption | (apply RT.tail; walk_at "rt") | (apply RT.app; walk_at "rt") | (refine' RT.le (by assumption) ?_; with_reducible assumption) | (apply RT.ro; walk_at "ro"))
local macro_rules | `(tactic| walk_at "rd") => `(tactic| with_reducible first | exact RD.head | assumption | (apply RD.tail; walk_at "rd") | (apply RD.app; walk_at "rd") | (apply RD.ro; walk_at "ro"))
local macro_rules | `(tactic| walk_at "pull") => `(tactic| with_reducible first | exact Pull.head | assumption | (apply Pull.tail; walk_at "pull") | (apply Pull.app; walk_at "pull"))
local macro_rules | `(tactic| walk_at "sl") => `(tactic| with_reducible first | exact Sl.refl | exact Sl.nil | exact Sl.app | (refine' Sl.pull ?hp ?hs; (case hp => walk_at "pull"); (case hs => walk_at "sl")) | (apply Sl.drop; walk_at "sl") | (apply Sl.app'; walk_at "sl"))
local macro_rules | `(tactic| walk_at "le") => `(tactic| first | with_reducible assumption | (with_reducible exact Le.refl) | (apply Sl.le; walk_at "sl") | (with_reducible exact Le.pre) | (with_reducible apply Le.drop; walk_at "le") | (with_reducible apply Le.app'; walk_at "le"))
local macro_rules | `(tactic| walk_at "kv") => `(tactic| with_reducible first | exact kv_int | exact kv_str | assumption)
local macro_rules | `(tactic| walk_at "il") => `(tactic| (with_reducible repeat (first | exact il_nil | exact il_map | apply il_cons)))
local macro_rules | `(tactic| walk_at "om") => `(tactic| first | omega | (simp only [List.length_cons, List.length_nil, List.length_map, List.length_append, List.length_range, List.length_take, List.length_drop, len1]; omega) | decide)
local macro_rules | `(tactic| walk_at "tya") => `(tactic| with_reducible first | exact ty_str | (apply ty_list; walk_at "rl") | (apply ty_dict; walk_at "ro"))
local macro_rules | `(tactic| walk_at "tyg") => `(tactic| with_reducible first | exact ty_non | exact ty_bl | exact ty_int | exact ty_strT | (apply ty_lst; walk_at "ro") | (apply ty_tup; walk_at "ro") | (apply ty_dK; walk_at "ro") | (refine' ty_ins ?_ ?hr; (case hr => walk_at "ro"); (walk_at "ins")))
local macro_rules | `(tactic| walk_at "cls") => `(tactic| first | exact ClsV.ty _ | exact ClsV.own _)
local macro_rules | `(tactic| walk_at "kit") => `(tactic| with_reducible first | exact kit_self | assumption | exact kt_NoneType_int | exact kt_NoneType_bool | exact kt_NoneType_str | exact kt_NoneType_list | exact kt_NoneType_tuple | exact kt_NoneType_dict | exact kt_bool_int | exact kt_bool_bool | exact kt_bool_str | exact kt_bool_list | exact kt_bool_tuple | exact kt_bool_dict | exact kt_int_int | exact kt_int_bool | exact kt_int_str | exact kt_int_list | exact kt_int_tuple | exact kt_int_dict | exact kt_str_int | exact kt_str_bool | exact kt_str_str | exact kt_str_list | exact kt_str_tuple | exact kt_str_dict | exact kt_list_int | exact kt_list_bool | exact kt_list_str | exact kt_list_list | exact kt_list_tuple | exact kt_list_dict | exact kt_tuple_int | exact kt_tuple_bool | exact kt_tuple_str | exact kt_tuple_list | exact kt_tuple_tuple | exact kt_tuple_dict | exact kt_dict_int | exact kt_dict_bool | exact kt_dict_str | exact kt_dict_list | exact kt_dict_tuple | exact kt_dict_dict)
local macro_rules | `(tactic| walk_at "fo") => `(tactic| assumption)
local macro_rules | `(tactic| walk_at "ins") => `(tactic| assumption)
local macro_rules | `(tactic| walk_at "lk") => `(tactic| rfl)
local macro_rules | `(tactic| walk_at "mt") => `(tactic| constructor)
local macro_rules | `(tactic| walk_at "br") => `(tactic| first
  | with_reducible refine' br_t ?_ | with_reducible refine' br_f ?_ | with_reducible refine' br_nt ?_ | with_reducible refine' br_nf ?_
  | (with_reducible refine' br_yes (p := _) ?hp ?_; (case hp => first | omega | assumption | rfl | decide))
  | (with_reducible refine' br_no (p := _) ?hp ?_; (case hp => first | omega | assumption | rfl | decide))
  | (with_reducible refine' br_nyes (p := _) ?hp ?_; (case hp => first | omega | assumption | rfl | decide))
  | (with_reducible refine' br_nno (p := _) ?hp ?_; (case hp => first | omega | assumption | rfl | decide))
  | with_reducible refine' br_dec (fun _ => ?_) (fun _ => ?_)
  | with_reducible refine' br_ndec (fun _ => ?_) (fun _ => ?_)
  | with_reducible refine' br_not ?_
  | with_reducible refine' br_b (fun _ => ?_) (fun _ => ?_))
local macro_rules | `(tactic| walk_at "ge") => `(tactic| with_reducible first
  | (refine' ge_var ?h1 ?_; (case h1 => walk_at "slot")) | refine' ge_c ?_ | refine' ge_op ?_ | refine' ge_un ?_ | refine' ge_fld' ?_ | refine' ge_cb ?_ | refine' ga_nil ?_ | refine' ga_cons ?_
  | refine' ge_tup' ?_ | refine' ge_lst' ?_ | (refine' ge_dnew ?_; intro _) | refine' ge_if ?_ | refine' ge_andV' ?_ | refine' ge_orV' ?_ | refine' ge_notV' ?_ | refine' ge_chain' ?_
  | refine' gt_test' ?_ | refine' gt_B' ?_ | refine' gt_and ?_ | refine' gt_or ?_ | refine' gt_not ?_ | refine' nb ?_ | refine' gt_yes ?_
  | refine' ge_dget' ?_ | refine' ge_din' ?_ | refine' ge_dnotin' ?_ | refine' ge_sl ?_ | refine' go_no ?_ | refine' go_some' ?_ | refine' npart ?_ | refine' ge_bm' ?_ | refine' ge_bm0' ?_ | refine' ge_lc ?_ | refine' ge_lenS' ?_ | refine' ge_row' ?_ | refine' ge_join' ?_ | refine' ge_lstRg1' ?_ | refine' nj1 ?_)
local macro_rules | `(tactic| walk_at "gr") => `(tactic| with_reducible first
  | refine' gr_addI ?_ | refine' gr_subI ?_ | refine' gr_ltI ?_ | refine' gr_leI ?_ | refine' gr_gtI ?_ | refine' gr_geI ?_ | refine' gr_eqI ?_ | refine' gr_neI ?_ | refine' gr_eqS ?_ | refine' gr_neS ?_ | refine' gr_eqB ?_
  | refine' is_non ?_ | refine' isn_non ?_ | refine' is_int ?_ | refine' isn_int ?_ | refine' is_ref ?_ | refine' isn_ref ?_ | refine' is_str ?_ | refine' isn_str ?_ | refine' is_bl ?_ | refine' gr_inS0 ?_ | refine' gr_inS1 ?_ | refine' gr_ipI ?_
  | (refine' gr_modI ?h1 ?_; (case h1 => walk_at "om"))
  | (refine' gr_divI ?h1 ?_; (case h1 => exact cdiv (by walk_at "om") (by walk_at "om")))
  | (refine' gr_mulI ?h1 ?_; (case h1 => first | exact cmulR (by walk_at "om") (by walk_at "om") | exact cmulL (by walk_at "om") (by walk_at "om")))
  | (refine' gr_ixT ?h1 ?h2 ?_; (case h1 => walk_at "rt"); (case h2 => with_unfolding_all rfl))
  | (refine' gr_ixI ?h1 ?h2 ?h3 ?h4 ?_; (case h1 => walk_at "rl"); (case h2 => walk_at "il"); (case h3 => walk_at "om"); (case h4 => walk_at "om"))
  | (refine' gr_ixSD ?h1 ?h2 ?h3 ?_; (case h1 => first | omega | (with_unfolding_all decide +kernel)); (case h2 => walk_at "om"); (case h3 => walk_at "om"))
  | (refine' gr_addS ?h1 ?_; (case h1 => exact sz2 (by walk_at "om")))
  | (refine' gr_addL ?h1 ?h2 ?h3 ?_; (case h1 => walk_at "ro"); (case h2 => walk_at "ro"); (case h3 => exact sz2 (by walk_at "om")); intro _))
local macro_rules | `(tactic| walk_at "gc") => `(tactic| with_reducible first
  | refine' gc_min2 ?_ | refine' gc_max2 ?_
  | (refine' gc_lenM ?h1 ?_; (case h1 => walk_at "rl")) | (refine' gc_lenL ?h1 ?_; (case h1 => walk_at "rl")) | (refine' gc_lenT ?h1 ?_; (case h1 => walk_at "rt")) | (refine' gc_lenS ?h1 ?_; (case h1 => exact sz2 (by walk_at "om"))) | (refine' gc_lenD ?h1 ?_; (case h1 => walk_at "ro"))
  | (refine' gc_listL ?h1 ?_; (case h1 => walk_at "rl"); intro _) | (refine' gc_listT ?h1 ?_; (case h1 => walk_at "rt"); intro _) | (refine' gc_listD ?h1 ?_; (case h1 => walk_at "rd"); intro _)
  | (refine' gc_isi ?h1 ?h2 ?h3 ?_; (case h1 => walk_at "cls"); (case h2 => walk_at "tyg"); (case h3 => walk_at "kit"))
  | (refine' gc_isi2t ?h0 ?h1 ?h2 ?h3 ?h4 ?_; (case h0 => walk_at "ro"); (case h1 => walk_at "cls"); (case h2 => walk_at "cls"); (case h3 => walk_at "tyg"); (case h4 => walk_at "kit"))
  | (refine' gc_isi2f ?h0 ?h1 ?h2 ?h3 ?h4 ?h5 ?_; (case h0 => walk_at "ro"); (case h1 => walk_at "cls"); (case h2 => walk_at "cls"); (case h3 => walk_at "tyg"); (case h4 => walk_at "kit"); (case h5 => walk_at "kit")))
local macro_rules | `(tactic| walk_at "nn") => `(tactic| with_reducible first
  | (refine' nnew ?h1 ?_; (case h1 => walk_at "om"); intro _)
  | (refine' nfld ?h1 ?h2 ?h3 ?_; (case h1 => walk_at "ro"); (case h2 => walk_at "fo"); (case h3 => walk_at "lk"))
  | (refine' nfst ?h1 ?h2 ?h3 ?h4 ?_; (case h1 => walk_at "pull"); (case h2 => walk_at "fo"); (case h4 => walk_at "pf"); (case h3 => walk_at "fl"))
  | (refine' nlist ?h1 ?_; (case h1 => walk_at "rl")) | (refine' ntup ?h1 ?_; (case h1 => walk_at "rt")) | refine' nstr ?_
  | (refine' nrng1 ?h1 ?h2 ?_; (case h1 => walk_at "om"); (case h2 => walk_at "om"))
  | (refine' nrng2 ?h1 ?_; (case h1 => refine' ⟨?_, ?_, ?_, ?_⟩ <;> walk_at "om"))
  | (refine' nenum ?h1 ?_; (case h1 => walk_at "rl"))
  | (refine' nbm ?h1 ?_; (case h1 => walk_at "tya")) | (refine' nbm0 ?h1 ?_; (case h1 => walk_at "tya"))
  | (refine' nmet ?h1 ?h2 ?h3 ?_; (case h1 => walk_at "ro"); (case h2 => walk_at "mt"); (case h3 => walk_at "lk"))
  | (refine' ndin0 ?h1 ?h2 ?_; (case h1 => walk_at "rd"); (case h2 => walk_at "kv")) | (refine' ndin1 ?h1 ?h2 ?_; (case h1 => walk_at "rd"); (case h2 => walk_at "kv"))
  | (refine' ndput ?h1 ?h2 ?h3 ?_; (case h1 => walk_at "pull"); (case h2 => walk_at "kv"); (case h3 => walk_at "om"))
  | (refine' gsl_to ?h1 ?h2 ?_; (case h1 => walk_at "rl"); (case h2 => walk_at "om"); intro _)
  | (refine' gsl_from ?h1 ?h2 ?_; (case h1 => walk_at "rl"); (case h2 => walk_at "om"); intro _)
  | (refine' nlr1 ?h1 ?h2 ?_; (case h1 => walk_at "om"); (case h2 => walk_at "om"); intro _)
  | (refine' nset ?h1 ?h2 ?h3 ?_; (case h1 => walk_at "pull"); (case h2 => walk_at "om"); (case h3 => walk_at "om"))
  | (refine' npar ?h1 ?h2 ?_; (case h1 => walk_at "set"); (case h2 => walk_at "set"))
  | (refine' gm_append ?h1 ?h2 ?_; (case h1 => walk_at "pull"); (case h2 => exact sz1 (by walk_at "om"))))
local macro_rules | `(tactic| walk_at "gs") => `(tactic| with_reducible first
  | refine' gs_seq ?_ | refine' gs_next ?_ | refine' gs_asg ?_ | (refine' gg_name ?h1 ?_; (case h1 => walk_at "set")) | refine' gs_if ?_ | refine' gs_ret ?_ | refine' gs_retN ?_ | refine' gs_drop ?_ | refine' gs_fld' ?_ | refine' gs_dput' ?_
  | refine' gs_for ?_ | refine' gi_list' ?_ | refine' gi_tup' ?_ | refine' gi_str' ?_ | refine' gi_rng1' ?_ | refine' gi_rng2' ?_ | refine' gi_enum' ?_
  | (refine' gg_tup ?h1 ?h2 ?_; (case h1 => walk_at "rt"); (case h2 => with_unfolding_all rfl)) | refine' ggs_cons ?_ | refine' ggs_nil ?_
  | (refine' gs_aug ?h1 ?_; (case h1 => walk_at "slot")) | refine' gs_break ?_ | refine' gs_cont ?_ | refine' gg_sub' ?_ | refine' gs_par' ?_)
local macro_rules | `(tactic| walk_at "st") => `(tactic| first | walk_at "ge" | walk_at "gs" | walk_at "gr" | walk_at "gc" | walk_at "nn" | walk_at "br")
local macro_rules | `(tactic| walk_at "go") => `(tactic| (repeat' walk_at "st"))
local macro_rules | `(tactic| walk_at "cl") => `(tactic| refine Cl.of ?_)
local macro_rules | `(tactic| walk_at "fo") => `(tactic| with_reducible first | exact fo_Job_name (by assumption) | exact fo_Job_needs (by assumption) | exact fo_Job_rank (by assumption) | exact fo_Job_span (by assumption) | exact fo_Job_tries (by assumption) | exact fo_Job_wait (by assumption) | exact fo_Job_grow (by assumption))
local macro_rules | `(tactic| walk_at "lk") => `(tactic| with_reducible first | exact fJob_name | exact fJob_needs | exact fJob_rank | exact fJob_span | exact fJob_tries | exact fJob_wait | exact fJob_grow | exact lk_put | (apply lk_ne (by decide +kernel); walk_at "lk") | exact lk_nil | (apply lk_no (by decide +kernel); walk_at "lk"))
local macro_rules | `(tactic| walk_at "pf") => `(tactic| with_reducible first | exact fJob_put_name | exact fJob_all | exact fJob_put_needs | exact fJob_put_rank | exact fJob_put_span | exact fJob_put_tries | exact fJob_put_wait | exact fJob_put_grow | exact rfl)
local macro_rules | `(tactic| walk_at "ins") => `(tactic| with_reducible first | exact Txt.i_Job (by assumption))
local macro_rules | `(tactic| walk_at "fl") => `(tactic| first | (rw [fJob_len]; decide) | exact fl_of (by repeat (first | exact fl0 | apply fl1)) (by decide))

theorem take_more {α : Type} : ∀ {l : List α} {i : Nat} {x : α}, l[i]? = some x → l.take (i + 1) = l.take i ++ [x] := by
  intro l i x h
  rw [List.take_add_one, h]
  rfl
theorem restF_b {w g : Int} (h0 : 0 ≤ w) (h1 : w ≤ 100000) (h2 : 0 ≤ g) : ∀ n, 0 ≤ restF w g n ∧ restF w g n ≤ 100000
  | 0 => ⟨h0, h1⟩
  | n + 1 => by
    have ih := restF_b h0 h1 h2 n
    show 0 ≤ min (restF w g n * g) 100000 ∧ min (restF w g n * g) 100000 ≤ 100000
    have := Int.mul_nonneg ih.1 h2
    omega
section
variable {K : PySem.W.Frag} {mg : Str → Option Value} {a : Ad} {A : SH} {vs : List V} {Φ : V → SH → Prop} {Ψ : Value → Option Addr → SH → Prop} {Ψ' : Value → Option Addr → L2.St → SH → Prop} {W : WX}
theorem cpwM {c k : Int} (h : Cell c) (h0 : 0 ≤ k) (h1 : k < 1000) : CPw (c + 7919 * k + 1) 3 := by
  have e : c + 7919 * k + 1 = c + (7919 * k + 1) := by omega
  rw [e]
  exact cpw3 h (by omega) (by omega)
theorem w_law_mixed (T : Txt K mg a) (h : S_law_mixed K a vs A Φ Ψ) (hx : WPost Ψ' W) : GS (t_law_mixed K a W) (AEf Φ) (L2.start ["_law_cell", "_law_k"] vs) A := by
  obtain ⟨c, k, rfl, hc, h0, h1, q⟩ := h
  show GS _ _ [some (.int c), some (.int k)] A
  unfold t_law_mixed
  walk_at "go"
  refine gr_pow (cpwM hc h0 h1) ?_
  walk_at "go"
  exact Cl.of q
theorem w_law_cell_at (T : Txt K mg a) (h : S_law_cell_at K a vs A Φ Ψ) (hx : WPost Ψ' W) : GS (t_law_cell_at K a W) (AEf Φ) (L2.start ["_law_script", "_law_k"] vs) A := by
  obtain ⟨p, ns, k, rfl, hr, hn, h0, h1, q⟩ := h
  show GS _ _ [some (.ref p), some (.int k)] A
  unfold t_law_cell_at
  walk_at "go"
  · exact Cl.of q
  · refine Cl.of ?_
    rw [List.getD_eq_getElem?_getD, List.getElem?_eq_none (by omega)] at q
    exact q
theorem w_wait_after (T : Txt K mg a) (h : S_wait_after K a vs A Φ Ψ) (hx : WPost Ψ' W) : GS (t_wait_after K a W) (AEf Φ) (L2.start ["job", "fails", "turns", "turn"] vs) A := by
  obtain ⟨p, j, fails, rfl, ⟨dx, nd, hj, hn⟩, ok, h0, h1, q⟩ := h
  obtain ⟨_, _, _, _, _, _, _, o1, o2, o3, o4⟩ := ok
  show GS _ _ [some (.ref p), some (.int fails), none, none] A
  unfold t_wait_after
  walk_at "go"
  refine gf_range (fun i σ A' => ∃ v, σ = [some (.ref p), some (.int fails), some (.int (restF j.wait j.grow i)), v] ∧ Le A A') ?_ ?_ ?_
  · exact Cl.of ⟨none, rfl, Le.refl⟩
  · rintro i σ A' hi ⟨v, rfl, hle⟩
    have hb := restF_b o1 (by omega) (by omega) i
    walk_at "go"
    walk_at "cl"
    exact ⟨_, rfl, hle⟩
  · rintro σ A' ⟨v, rfl, hle⟩
    walk_at "go"
    exact Cl.le hle q
theorem w_is_whole (T : Txt K mg a) (h : S_is_whole K a vs A Φ Ψ) (hx : WPost Ψ' W) : GS (t_is_whole K a W) (AEf Φ) (L2.start ["thing"] vs) A := by
  obtain ⟨i, rfl, q⟩ := h
  show GS _ _ [some (.int i)] A
  unfold t_is_whole
  walk_at "go"
  exact Cl.of q
theorem w_law_whole (T : Txt K mg a) (h : S_law_whole K a vs A Φ Ψ) (hx : WPost Ψ' W) : GS (t_law_whole K a W) (AEf Φ) (L2.start ["_law_found"] vs) A := by
  obtain ⟨i, rfl, q⟩ := h
  show GS _ _ [some (.int i)] A
  unfold t_law_whole
  walk_at "go"
  exact Cl.of q
theorem w_is_made_of (T : Txt K mg a) (h : S_is_made_of K a vs A Φ Ψ) (hx : WPost Ψ' W) : GS (t_is_made_of K a W) (AEf Φ) (L2.start ["thing", "signs", "most", "sign"] vs) A := by
  obtain ⟨z, s, m, rfl, hz, q⟩ := h
  show GS _ _ [some (.str z), some (.str s), some (.int m), none] A
  unfold t_is_made_of
  walk_at "go"
  · rename_i c1 c2
    have e : madeOf z s m = false := by simp [madeOf, c1, c2]
    rw [e] at q
    exact Cl.of q
  · rename_i c1 c2
    refine gf_str (fun i σ A' => ∃ v, σ = [some (.str z), some (.str s), some (.int m), v] ∧ Le A A' ∧ (z.cps.toList.take i).all (fun c => decide (c ∈ s.cps.toList)) = true) (Cl.of ⟨none, rfl, Le.refl, rfl⟩) ?_ ?_
    · rintro i c σ A' hc ⟨v, rfl, hle, hall⟩
      have hc' : z.cps.toList[i]? = some c := by simpa using hc
      walk_at "go"
      · rename_i c3
        have e : madeOf z s m = false := by
          have : z.cps.toList.all (fun c => decide (c ∈ s.cps.toList)) = false := by
            rw [List.all_eq_false]
            exact ⟨c, List.mem_of_getElem? hc', by simpa using c3⟩
          simp only [madeOf, this, Bool.and_false]
        rw [e] at q
        exact Cl.le hle q
      · rename_i c3
        walk_at "cl"
        refine ⟨_, rfl, hle, ?_⟩
        rw [take_more hc', List.all_append, hall]
        simpa using c3
    · rintro σ A' ⟨v, rfl, hle, hall⟩
      walk_at "go"
      have e : madeOf z s m = true := by
        have h3 : z.cps.toList.take z.cps.size = z.cps.toList := List.take_of_length_le (by simp)
        rw [h3] at hall
        simp only [madeOf, hall, c1, c2, decide_true, Bool.and_true]
      rw [e] at q
      exact Cl.le hle q
  · rename_i c1
    have e : madeOf z s m = false := by simp [madeOf, c1]
    rw [e] at q
    exact Cl.of q
theorem w_is_among (T : Txt K mg a) (h : S_is_among K a vs A Φ Ψ) (hx : WPost Ψ' W) : GS (t_is_among K a W) (AEf Φ) (L2.start ["thing", "least", "most"] vs) A := by
  obtain ⟨i, l, m, rfl, q1, q2⟩ := h
  show GS _ _ [some (.int i), some (.int l), some (.int m)] A
  unfold t_is_among
  walk_at "go"
  refine ge_cal hx ?_
  walk_at "go"
  refine ⟨_, rfl, ?_⟩
  walk_at "go"
  · rename_i c
    by_cases c2 : i ≤ m
    · rw [decide_eq_true c2]
      exact Cl.of (q1 ⟨c, c2⟩)
    · rw [decide_eq_false c2]
      exact Cl.of (q2 fun z => c2 z.2)
  · rename_i c
    exact Cl.of (q2 fun z => c z.1)
theorem w_is_name (T : Txt K mg a) (h : S_is_name K a vs A Φ Ψ) (hx : WPost Ψ' W) : GS (t_is_name K a W) (AEf Φ) (L2.start ["thing"] vs) A := by
  obtain ⟨z, rfl, hz, q⟩ := h
  show GS _ _ [some (.str z)] A
  unfold t_is_name
  walk_at "go"
  refine ge_cal hx ?_
  walk_at "go"
  exact ⟨_, _, _, rfl, hz, Cl.of q⟩
theorem restS_b {w g : Int} (h0 : 0 ≤ w) (h1 : w ≤ 100000) (h2 : 0 ≤ g) : ∀ n, 0 ≤ restS w g n ∧ restS w g n ≤ 100000 * n
  | 0 => ⟨Int.le_refl _, Int.le_refl _⟩
  | n + 1 => by
    have ih := restS_b h0 h1 h2 n
    have r := restF_b h0 h1 h2 n
    show 0 ≤ restS w g n + restF w g n ∧ restS w g n + restF w g n ≤ 100000 * ((n + 1 : Nat) : Int)
    omega
theorem w_rest_sum (T : Txt K mg a) (h : S_rest_sum K a vs A Φ Ψ) (hx : WPost Ψ' W) : GS (t_rest_sum K a W) (AEf Φ) (L2.start ["job", "turns", "fails"] vs) A := by
  obtain ⟨p, j, rfl, hj, ok, q⟩ := h
  obtain ⟨dx, nd, hj1, hj2⟩ := id hj
  obtain ⟨_, _, _, _, _, t1, t2, _, _, _, _⟩ := id ok
  show GS _ _ [some (.ref p), none, none] A
  unfold t_rest_sum
  walk_at "go"
  refine gf_range (fun i σ A' => ∃ v, σ = [some (.ref p), some (.int (restS j.wait j.grow i)), v] ∧ Le A A') (Cl.of ⟨none, rfl, Le.refl⟩) ?_ ?_
  · rintro i σ A' hi ⟨v, rfl, hle⟩
    walk_at "go"
    refine ge_cal hx ?_
    walk_at "go"
    refine ⟨p, j, _, rfl, ⟨dx, nd, RO.le hle hj1, RO.le hle hj2⟩, ok, by omega, by omega, ?_⟩
    walk_at "go"
    walk_at "cl"
    have e : ((1 : Int) + i - 1).toNat = i := by omega
    rw [e]
    exact ⟨_, rfl, hle⟩
  · rintro σ A' ⟨v, rfl, hle⟩
    walk_at "go"
    exact Cl.le hle q
theorem w_need_numbers (T : Txt K mg a) (h : S_need_numbers K a vs A Φ Ψ) (hx : WPost Ψ' W) : GS (t_need_numbers K a W) (AEf Φ) (L2.start ["numbers", "k", "number"] vs) A := by
  obtain ⟨l, r, s, t, w, g, rfl, hl, b⟩ := h
  obtain ⟨b1, b2, b3, b4, b5, b6, b7, b8, b9, b10, q⟩ := b
  show GS _ _ [some (.ref l), none, none] A
  unfold t_need_numbers
  walk_at "go"
  refine gf_enum (xs := [.int r, .int s, .int t, .int w, .int g]) (fun i σ A' => ∃ u v, σ = [some (.ref l), u, v] ∧ Le A A') (Cl.of ⟨none, none, rfl, Le.refl⟩) (fun i σ A' _ ⟨_, _, _, hle⟩ => RL.le hle (RL.ro hl)) ?_ ?_
  · rintro i x σ A' p hi ⟨u, v, rfl, hle⟩
    have kL : ∀ A, RT K A a.gLEAST [.int 0, .int 1, .int 1, .int 0, .int 1] := fun A => RT.k T.k_LEAST
    have kM : ∀ A, RT K A a.gMOST [.int 99, .int 1000, .int 20, .int 1000, .int 4] := fun A => RT.k T.k_MOST
    have h5 : i < 5 := (List.getElem?_eq_some_iff.mp hi).1
    obtain rfl | rfl | rfl | rfl | rfl : i = 0 ∨ i = 1 ∨ i = 2 ∨ i = 3 ∨ i = 4 := by omega
    all_goals cases hi
    all_goals
      walk_at "go"
      refine ge_cal hx ?_
      walk_at "go"
      refine gr_ixT (kL _) (by with_unfolding_all rfl) ?_
      walk_at "go"
      refine gr_ixT (kM _) (by with_unfolding_all rfl) ?_
      walk_at "go"
      refine ⟨_, _, _, rfl, fun _ => ?_, fun c => absurd (by omega) c⟩
      walk_at "go"
      walk_at "cl"
      exact ⟨_, _, rfl, hle.drop⟩
  · rintro σ A' ⟨u, v, rfl, hle⟩
    exact Cl.le hle q
theorem w_own_needs (T : Txt K mg a) (h : S_own_needs K a vs A Φ Ψ) (hx : WPost Ψ' W) : GS (t_own_needs K a W) (AEf Φ) (L2.start ["name", "needs", "found", "need"] vs) A := by
  obtain ⟨z, x, rfl, hl, q⟩ := h
  show GS _ _ [some (.str z), some x, none, none] A
  unfold t_own_needs
  rcases hl with rfl | ⟨l, rfl, hl⟩
  · walk_at "go"
    exact Cl.of (q _)
  · walk_at "go"
    rename_i p1 p2
    refine gf_list (xs := []) (fun i σ A' => A' = sg p2 (HO.lst []) :: sg p1 (HO.tup [V.ty "list", V.ty "tuple"]) :: A ∧ σ = [some (.str z), some (.ref l), some (.ref p2), none]) (Cl.of ⟨rfl, rfl⟩) (fun i σ A' _ ⟨h, _⟩ => by rw [h]; exact (RL.ro hl).tail.tail) ?_ ?_
    · rintro i x σ A' hi _
      cases hi
    · rintro σ A' ⟨rfl, rfl⟩
      walk_at "go"
      exact Cl.le (by walk_at "le") (q p2)
theorem NoNeeds.tail {B : SH} {h : Hp} {x : V} (n : NoNeeds B x) : NoNeeds (h :: B) x := n.elim .inl fun ⟨l, e, r⟩ => .inr ⟨l, e, r.tail⟩
theorem w_Job_init (T : Txt K mg a) (h : S_Job_init K a vs A Φ Ψ) (hx : WPost Ψ' W) : GS (t_Job_init K a W) (AEf Φ) (L2.start ["self", "name", "needs", "rank", "span", "tries", "wait", "grow"] vs) A := by
  obtain ⟨p, dx, x, j, B, rfl, hp, hl, hn, ok, q⟩ := h
  obtain ⟨o1, o2, o3, o4, o5, o6, o7, o8, o9, o10, o11⟩ := id ok
  show GS _ _ [some (.ref p), some (.str j.name), some x, some (.int j.rank), some (.int j.span), some (.int j.tries), some (.int j.wait), some (.int j.grow)] A
  refine gs_as fun H h => ⟨_, hp.has h, ?_⟩
  unfold t_Job_init
  walk_at "go"
  refine ge_cal hx ?_
  walk_at "go"
  refine ⟨_, rfl, hn, ?_⟩
  rw [o1]
  walk_at "go"
  refine ge_cal hx ?_
  walk_at "go"
  refine ⟨_, _, rfl, hl.tail, fun nd => ?_⟩
  walk_at "go"
  refine ge_cal hx ?_
  walk_at "go"
  refine ⟨_, _, _, _, _, _, rfl, .head, o2, o3, o4, o5, o6, o7, o8, o9, o10, o11, ?_⟩
  walk_at "go"
  exact Cl.le (by walk_at "le") (q nd)
end

abbrev AZ : Str := "abcdefghijklmnopqrstuvwxyz"
/-- one letter -/
def ltr (i : Nat) : Str := ⟨#[AZ.cps.toList.getD i 0]⟩
def Ltrs (ws : List Str) : Prop := ∀ x ∈ ws, ∃ i, i < 26 ∧ x = ltr i
theorem Ltrs.app {xs ys : List Str} (h : Ltrs xs) (k : Ltrs ys) : Ltrs (xs ++ ys) := fun x hx => (List.mem_append.mp hx).elim (h x) (k x)
theorem Ltrs.one {i : Nat} (h : i < 26) : Ltrs [ltr i] := fun x hx => ⟨i, h, List.mem_singleton.mp hx⟩
theorem Ltrs.sub {xs ys : List Str} (h : Ltrs xs) (k : ∀ y ∈ ys, y ∈ xs) : Ltrs ys := fun y hy => h y (k y hy)
theorem Ltrs.set {xs : List Str} {i j : Nat} (h : Ltrs xs) (hj : j < 26) : Ltrs (xs.set i (ltr j)) := fun y hy => (List.mem_or_eq_of_mem_set hy).elim (h y) fun e => ⟨j, hj, e⟩
theorem az_len : AZ.length = 26 := by decide +kernel
theorem az_in {i : Nat} (h : i < 26) : AZ.cps.toList.getD i 0 ∈ AZ.cps.toList := by
  have e : AZ.cps.toList.length = 26 := by decide +kernel
  rw [List.getD_eq_getElem?_getD, List.getElem?_eq_getElem (by omega)]
  exact List.getElem_mem _
theorem joinL_flat : ∀ l : List (List Nat), TL.joinL [] l = l.flatten
  | [] => rfl
  | [p] => by simp [TL.joinL]
  | p :: q :: r => by
    show p ++ ([] ++ TL.joinL [] (q :: r)) = _
    rw [joinL_flat (q :: r)]
    rfl
theorem join_cps (ws : List Str) : (Txt.join ("" : Str) ws).cps.toList = (ws.map fun x => x.cps.toList).flatten := by
  have e : ws = (ws.map fun x => x.cps.toList).map SX.S := by
    rw [List.map_map]
    exact (List.map_id ws).symm.trans (List.map_congr_left fun x _ => by cases x; rfl)
  have h := SX.join_S [] (ws.map fun x => x.cps.toList)
  rw [← e] at h
  have e0 : ("" : Str) = SX.S [] := by rfl
  rw [e0, h, joinL_flat]
theorem flat_one (ws : List Str) (h : Ltrs ws) : (ws.map fun x => x.cps.toList).flatten.length = ws.length ∧ ∀ c ∈ (ws.map fun x => x.cps.toList).flatten, c ∈ AZ.cps.toList := by
  induction ws with
  | nil => exact ⟨rfl, fun c hc => (nomatch hc)⟩
  | cons x r ih =>
    obtain ⟨i, hi, rfl⟩ := h x (.head _)
    have k := ih fun y hy => h y (.tail _ hy)
    constructor
    · rw [List.map_cons, List.flatten_cons, List.length_append, k.1]
      show 1 + r.length = r.length + 1
      omega
    · intro c hc
      rw [List.map_cons, List.flatten_cons] at hc
      rcases List.mem_append.mp hc with m | m
      · have m2 : c ∈ [AZ.cps.toList.getD i 0] := m
        rw [List.mem_singleton.mp m2]
        exact az_in hi
      · exact k.2 c m
theorem join_name {ws : List Str} (h : Ltrs ws) (h0 : 1 ≤ ws.length) (h1 : ws.length ≤ 12) : isName (Txt.join ("" : Str) ws) = true ∧ (Txt.join ("" : Str) ws).length ≤ 12 := by
  obtain ⟨k1, k2⟩ := flat_one ws h
  have e := join_cps ws
  have el : (Txt.join ("" : Str) ws).length = ws.length := by
    rw [← k1, ← e]
    simp [Str.length]
  refine ⟨?_, by rw [el]; exact h1⟩
  unfold isName madeOf
  rw [el, e, decide_eq_true (by omega), decide_eq_true (by omega), Bool.true_and, Bool.true_and, List.all_eq_true]
  intro c hc
  exact decide_eq_true (k2 c hc)
theorem Ltrs.lens {ws : List Str} (h : Ltrs ws) : (ws.map (·.length)).sum = ws.length := by
  induction ws with
  | nil => rfl
  | cons x r ih =>
    obtain ⟨i, hi, rfl⟩ := h x (.head _)
    rw [List.map_cons, List.sum_cons, ih fun y hy => h y (.tail _ hy), List.length_cons]
    show 1 + r.length = _
    omega
theorem go_join {K : PySem.W.Frag} {A : SH} {p : Addr} {Φ : V → SH → Prop} {ws : List Str} (h : Ltrs ws) (h1 : ws.length ≤ 12) (r : RL K A p (ws.map V.str)) (k : Φ (.str (Txt.join ("" : Str) ws)) A) : NJoin K Φ (.str "") (.ref p) A :=
  njoin r (by
    have e : ("" : Str).length = 0 := rfl
    rw [h.lens, e]
    omega) k
def Nice (ys : List Str) : Prop := ∀ y ∈ ys, isName y = true ∧ y.length ≤ 12
theorem Nice.app {ys : List Str} {ws : List Str} (h : Nice ys) (k : Ltrs ws) (h0 : 1 ≤ ws.length) (h1 : ws.length ≤ 12) : Nice (ys ++ [Txt.join ("" : Str) ws]) := fun y hy => (List.mem_append.mp hy).elim (h y) fun m => by
  rw [List.mem_singleton.mp m]
  exact join_name k h0 h1
theorem names8 : Nice ["a", "ab", "abc", "b", "ba", "bb", "c", "cab"] := by
  intro y hy
  have h : (["a", "ab", "abc", "b", "ba", "bb", "c", "cab"] : List Str).all (fun y => isName y && decide (y.length ≤ 12)) = true := by decide +kernel
  have := List.all_eq_true.mp h y hy
  simpa using this
theorem wx0 : WPost (fun _ _ _ _ => False) (fun _ _ _ _ => False) := fun _ _ _ _ _ _ z => z
section
variable {K : PySem.W.Frag} {mg : Str → Option Value} {a : Ad} {A : SH} {vs : List V} {Φ : V → SH → Prop} {Ψ : Value → Option Addr → SH → Prop} {Ψ' : Value → Option Addr → L2.St → SH → Prop} {W : WX}
theorem mixF_b (c k : Int) : 0 ≤ mixF c k ∧ mixF c k < 2147483647 := ⟨Int.emod_nonneg _ (by decide), Int.emod_lt_of_pos _ (by decide)⟩
theorem w_law_names (T : Txt K mg a) (h : S_law_names K a vs A Φ Ψ) (hx : WPost Ψ' W) : GS (t_law_names K a W) (AEf Φ) (L2.start ["_law_cell", "_law_letters", "_law_size", "_law_j", "_law_row", "_law_at", "_law_found", "_law_k", "_law_word", "_law_long"] vs) A := by
  obtain ⟨c, rfl, hc, q⟩ := h
  have l26 : ("abcdefghijklmnopqrstuvwxyz" : Str).length = 26 := by decide +kernel
  show GS _ _ [some (.int c), none, none, none, none, none, none, none, none, none] A
  unfold t_law_names
  walk_at "go"
  refine glc_range (σw := [some (.int c), some (.str "abcdefghijklmnopqrstuvwxyz"), some (.int (1 + c / 3 % 12)), none, none, none, none, none, none, none]) (fun i acc A' => ∃ ws : List Str, acc = ws.map V.str ∧ ws.length = i ∧ Ltrs ws ∧ A = A') rfl ⟨[], rfl, rfl, fun x h => (nomatch h), rfl⟩ (sz1 (by omega)) ?_ ?_
  · rintro i acc A' D hi hacc ⟨ws, rfl, hl, hw, rfl⟩
    unfold Turn1
    walk_at "go"
    refine ⟨rfl, ?_⟩
    walk_at "go"
    refine ge_cal wx0 ?_
    walk_at "go"
    refine ⟨c, _, rfl, hc, by omega, by omega, ?_⟩
    walk_at "go"
    refine CT.pull (by walk_at "pull") ⟨ws ++ [ltr ((mixF c (40 + (0 + (i : Int)))) % 26).toNat], by rw [List.map_append]; rfl, by simp [hl], hw.app (Ltrs.one (by omega)), rfl⟩
  · rintro acc A' D _ ⟨row, rfl, hl, hw, rfl⟩
    have hs : 1 ≤ 1 + c / 3 % 12 ∧ 1 + c / 3 % 12 ≤ 12 := by omega
    generalize 1 + c / 3 % 12 = s at hs
    walk_at "go"
    rename_i f
    have ht : 0 ≤ c / 36 % s ∧ c / 36 % s < s := ⟨Int.emod_nonneg _ (by omega), Int.emod_lt_of_pos _ (by omega)⟩
    generalize c / 36 % s = t at ht
    have hrow : (row.map V.str).length = 12 := by rw [List.length_map]; omega
    refine gf_range (fun i σ A' => ∃ ys G v7 v8 v9, A' = sg f (.lst (ys.map V.str)) :: (G ++ sg D (.lst (row.map V.str)) :: A) ∧ ys.length = i ∧ Nice ys ∧ σ = [some (.int c), some (.str "abcdefghijklmnopqrstuvwxyz"), some (.int s), none, some (.ref D), some (.int t), some (.ref f), v7, v8, v9])
      (Cl.of ⟨[], [], none, none, none, rfl, rfl, fun y h => (nomatch h), rfl⟩) ?_ ?_
    · rintro i σ A' hi ⟨ys, G, v7, v8, v9, rfl, hy, hn, rfl⟩
      walk_at "go"
      · rename_i w0 _ w1
        have e : ((row.take (1 + (0 + (i : Int) + c / 36) % 12).toNat).map V.str) = (row.map V.str).take (1 + (0 + (i : Int) + c / 36) % 12).toNat := List.map_take
        have lw : (row.take (1 + (0 + (i : Int) + c / 36) % 12).toNat).length = (1 + (0 + (i : Int) + c / 36) % 12).toNat := by
          rw [List.length_take]
          omega
        refine go_join (ws := row.take (1 + (0 + (i : Int) + c / 36) % 12).toNat) (hw.sub fun y hy => List.mem_of_mem_take hy) (by omega) (e ▸ RL.head) ?_
        walk_at "go"
        walk_at "cl"
        exact ⟨ys ++ [_], sg w1 _ :: sg w0 _ :: G, _, _, _, by rw [List.map_append]; rfl, by simp [hy], hn.app (hw.sub fun y hy => List.mem_of_mem_take hy) (by omega) (by omega), rfl⟩
      · rename_i w0 _ _
        refine ge_cal hx ?_
        walk_at "go"
        refine ⟨c, _, rfl, hc, by omega, by omega, ?_⟩
        walk_at "go"
        have hm := mixF_b c (99 + (0 + (i : Int)))
        have hlg : 1 ≤ 1 + mixF c (99 + (0 + (i : Int))) % 12 ∧ 1 + mixF c (99 + (0 + (i : Int))) % 12 ≤ 12 := by omega
        generalize 1 + mixF c (99 + (0 + (i : Int))) % 12 = lg at hlg
        generalize hB : sg w0 _ :: sg f (HO.lst (List.map V.str ys)) :: (G ++ sg D (HO.lst (List.map V.str row)) :: A) = B
        refine glc_range (σw := [some (V.int c), some (V.str "abcdefghijklmnopqrstuvwxyz"), some (V.int s), none, some (V.ref D), some (V.int t), some (V.ref f), some (V.int (0 + (i : Int))), some (V.ref w0), some (V.int lg)])
          (fun m acc A' => ∃ js : List Int, acc = js.map V.int ∧ js.length = m ∧ (∀ j ∈ js, 0 ≤ j ∧ j < 26) ∧ B = A') rfl ⟨[], rfl, rfl, fun x h => (nomatch h), rfl⟩ (sz1 (by omega)) ?_ ?_
        · rintro m acc A' D1 hm1 hacc ⟨js, rfl, hl1, hj, rfl⟩
          unfold Turn1
          walk_at "go"
          refine ⟨rfl, ?_⟩
          walk_at "go"
          refine ge_cal wx0 ?_
          walk_at "go"
          refine ⟨c, _, rfl, hc, by omega, by omega, ?_⟩
          walk_at "go"
          refine CT.pull (by walk_at "pull") ⟨js ++ [_], by rw [List.map_append]; rfl, by simp [hl1], fun j hj1 => ?_, rfl⟩
          rcases List.mem_append.mp hj1 with h | h
          · exact hj j h
          · rw [List.mem_singleton.mp h]
            omega
        · rintro acc A' D1 _ ⟨js, rfl, hl1, hj, rfl⟩
          walk_at "go"
          refine glc_list (xs := js.map V.int) (σw := [some (V.int c), some (V.str "abcdefghijklmnopqrstuvwxyz"), some (V.int s), none, some (V.ref D), some (V.int t), some (V.ref f), some (V.int (0 + (i : Int))), some (V.ref D1), some (V.int lg)])
            (fun m acc A' => ∃ ws : List Str, acc = ws.map V.str ∧ ws.length = m ∧ Ltrs ws ∧ sg D1 (.lst (js.map V.int)) :: B = A') rfl ⟨[], rfl, rfl, fun x h => (nomatch h), rfl⟩ (sz1 (by rw [List.length_map]; omega)) ?_ ?_ ?_
          · rintro m acc A' _ ⟨ws, _, _, _, rfl⟩
            exact RL.head
          · rintro m x acc A' D2 hx1 hacc ⟨ws, rfl, hl2, hw2, rfl⟩
            obtain ⟨y, hy1, rfl⟩ : ∃ y, js[m]? = some y ∧ x = .int y := by
              rw [List.getElem?_map] at hx1
              cases e : js[m]? with
              | none => rw [e] at hx1; cases hx1
              | some a => rw [e] at hx1; exact ⟨a, rfl, (Option.some.inj hx1).symm⟩
            have hb := hj y (List.mem_of_getElem? hy1)
            unfold Turn1
            walk_at "go"
            refine ⟨rfl, ?_⟩
            walk_at "go"
            exact CT.pull (by walk_at "pull") ⟨ws ++ [ltr y.toNat], by rw [List.map_append]; rfl, by simp [hl2], hw2.app (Ltrs.one (by omega)), rfl⟩
          · rintro acc A' D2 _ ⟨ws, rfl, hl2, hw2, rfl⟩
            rw [List.length_map] at hl2
            subst hB
            walk_at "go"
            refine go_join (ws := ws) hw2 (by omega) RL.head ?_
            walk_at "go"
            walk_at "cl"
            exact ⟨ys ++ [_], sg D2 _ :: sg D1 _ :: sg w0 _ :: G, _, _, _, by rw [List.map_append]; rfl, by simp [hy], hn.app hw2 (by omega) (by omega), rfl⟩
      · rename_i w0 _ _
        have hl3 : 0 ≤ (c / 432 + 3 * (0 + (i : Int))) % 26 ∧ (c / 432 + 3 * (0 + (i : Int))) % 26 < 26 := by omega
        have lw : ((row.take s.toNat).set t.toNat (ltr ((c / 432 + 3 * (0 + (i : Int))) % 26).toNat)).length = s.toNat := by
          rw [List.length_set, List.length_take]
          omega
        have lt := (hw.sub (ys := row.take s.toNat) fun y hy => List.mem_of_mem_take hy).set (i := t.toNat) (j := ((c / 432 + 3 * (0 + (i : Int))) % 26).toNat) (by omega)
        have e : ((row.take s.toNat).set t.toNat (ltr ((c / 432 + 3 * (0 + (i : Int))) % 26).toNat)).map V.str = ((row.map V.str).take s.toNat).set t.toNat (V.str (ltr ((c / 432 + 3 * (0 + (i : Int))) % 26).toNat)) := by rw [List.map_set, List.map_take]
        refine go_join (ws := (row.take s.toNat).set t.toNat (ltr ((c / 432 + 3 * (0 + (i : Int))) % 26).toNat)) lt (by omega) (e ▸ RL.head) ?_
        walk_at "go"
        walk_at "cl"
        exact ⟨ys ++ [_], sg w0 _ :: G, _, _, _, by rw [List.map_append]; rfl, by simp [hy], hn.app lt (by omega) (by omega), rfl⟩
    · rintro σ A' ⟨ys, G, v7, v8, v9, rfl, hy, hn, rfl⟩
      walk_at "go"
      refine nlenS RL.head (by omega) ?_
      walk_at "go"
      · exact Cl.le (by walk_at "le") (q f ys ⟨hy, hn⟩)
      · rename_i d
        exact Cl.le (B := sg d (.lst [.str "a", .str "ab", .str "abc", .str "b", .str "ba", .str "bb", .str "c", .str "cab"]) :: A) (by walk_at "le") (q d ["a", "ab", "abc", "b", "ba", "bb", "c", "cab"] ⟨rfl, names8⟩)
end

theorem get3 {x y z : Int} {P : Int → Prop} (i : Int) (h : 0 ≤ i) (h3 : i < 3) (hx : P x) (hy : P y) (hz : P z) : P ([x, y, z].getD i.toNat 0) := by
  obtain rfl | rfl | rfl : i = 0 ∨ i = 1 ∨ i = 2 := by omega
  · exact hx
  · exact hy
  · exact hz
theorem restF_due {f u : Int} (h0 : 0 ≤ f) (h1 : f ≤ 100000) (h2 : 1 ≤ u) : ∀ n, 0 ≤ f * u ^ n ∧ restF f u n = min (f * u ^ n) 100000
  | 0 => by
    rw [Int.pow_zero, Int.mul_one]
    exact ⟨h0, by show f = _; omega⟩
  | n + 1 => by
    obtain ⟨p, ih⟩ := restF_due h0 h1 h2 n
    show 0 ≤ f * u ^ (n + 1) ∧ min (restF f u n * u) 100000 = _
    have e : f * u ^ (n + 1) = f * u ^ n * u := by rw [Int.pow_succ, Int.mul_assoc]
    rw [e, ih]
    generalize f * u ^ n = x at p
    have m := Int.mul_le_mul_of_nonneg_left h2 p
    rw [Int.mul_one] at m
    refine ⟨Int.le_trans p m, ?_⟩
    by_cases c : x ≤ 100000
    · have e2 : min x 100000 = x := by omega
      rw [e2]
    · have e2 : min x 100000 = 100000 := by omega
      rw [e2]
      omega
theorem due_rest {f u : Int} (h0 : 0 ≤ f) (h1 : f ≤ 100000) (h2 : 1 ≤ u) (n : Int) : dueF f u n = restF f u (n - 1).toNat := ((restF_due h0 h1 h2 _).2).symm
theorem sum_rest {f u : Int} (h0 : 0 ≤ f) (h1 : f ≤ 100000) (h2 : 1 ≤ u) : ∀ n : Nat, ((List.range n).map fun k : Nat => dueF f u (1 + k)).sum = restS f u n
  | 0 => rfl
  | n + 1 => by
    rw [List.range_succ, List.map_append, List.sum_append, sum_rest h0 h1 h2 n]
    show _ + (dueF f u (1 + (n : Nat)) + 0) = restS f u n + restF f u n
    rw [due_rest h0 h1 h2, Int.add_zero]
    have e : (1 + (n : Int) - 1).toNat = n := by omega
    rw [e]
section
variable {K : PySem.W.Frag} {mg : Str → Option Value} {a : Ad} {A : SH} {vs : List V} {Φ : V → SH → Prop} {Ψ : Value → Option Addr → SH → Prop} {Ψ' : Value → Option Addr → L2.St → SH → Prop} {W : WX}
theorem w_law_due (T : Txt K mg a) (h : S_law_due K a vs A Φ Ψ) (hx : WPost Ψ' W) : GS (t_law_due K a W) (AEf Φ) (L2.start ["_law_first", "_law_up", "_law_fails", "_law_turns", "_law_turn"] vs) A := by
  obtain ⟨f, u, n, rfl, f0, f1, u0, u1, n0, n1, q⟩ := h
  show GS _ _ [some (.int f), some (.int u), some (.int n), none, none] A
  unfold t_law_due
  walk_at "go"
  refine gf_range (fun i σ A' => ∃ v, σ = [some (.int f), some (.int u), some (.int n), some (.int (f * u ^ i)), v] ∧ A = A') (Cl.of ⟨none, by rw [Int.pow_zero, Int.mul_one], rfl⟩) ?_ ?_
  · rintro i σ A' hi ⟨v, rfl, rfl⟩
    walk_at "go"
    walk_at "cl"
    exact ⟨_, by rw [Int.pow_succ, Int.mul_assoc], rfl⟩
  · rintro σ A' ⟨v, rfl, rfl⟩
    walk_at "go"
    exact Cl.of q
theorem w_law_asked (T : Txt K mg a) (h : S_law_asked K a vs A Φ Ψ) (hx : WPost Ψ' W) : GS (t_law_asked K a W) (AEf Φ) (L2.start ["_law_job", "_law_first", "_law_up", "_law_often", "_law_fails", "_law_found", "_law_k", "_law_due_here"] vs) A := by
  obtain ⟨p, j, n, rfl, hj, ok, n0, n1, q⟩ := h
  obtain ⟨_, _, _, _, _, t0, t1, w0, w1, g0, g1⟩ := id ok
  show GS _ _ [some (.ref p), some (.int j.wait), some (.int j.grow), some (.int j.tries), some (.int n), none, none, none] A
  unfold t_law_asked
  walk_at "go"
  · refine ge_cal hx ?_
    walk_at "go"
    refine ⟨p, j, rfl, hj, ok, ?_⟩
    walk_at "go"
    refine glc_range (σw := [some (.ref p), some (.int j.wait), some (.int j.grow), some (.int j.tries), some (.int n), some (.int (restS j.wait j.grow (j.tries - 1).toNat)), none, none])
      (fun m acc A' => acc = ((List.range m).map fun k : Nat => dueF j.wait j.grow (1 + k)).map V.int ∧ A = A') rfl ⟨rfl, rfl⟩ (sz1 (by omega)) ?_ ?_
    · rintro m acc A' D hm _ ⟨rfl, rfl⟩
      unfold Turn1
      walk_at "go"
      refine ⟨rfl, ?_⟩
      walk_at "go"
      refine ge_cal wx0 ?_
      walk_at "go"
      refine ⟨_, _, _, rfl, w0, w1, g0, g1, by omega, by omega, ?_⟩
      refine CT.pull (by walk_at "pull") ⟨?_, rfl⟩
      rw [List.range_succ, List.map_append, List.map_append]
      rfl
    · rintro acc A' D _ ⟨rfl, rfl⟩
      walk_at "go"
      refine gc_sum RL.head ?_
      rw [sum_rest w0 (by omega) g0]
      walk_at "go"
      refine ge_cal hx ?_
      walk_at "go"
      refine ⟨_, rfl, ?_⟩
      walk_at "go"
      rw [decide_eq_true rfl]
      exact Cl.le (by walk_at "le") q
  · refine ge_cal hx ?_
    walk_at "go"
    refine ⟨p, j, n, rfl, hj, ok, by omega, by omega, ?_⟩
    walk_at "go"
    refine ge_cal hx ?_
    walk_at "go"
    refine ⟨_, _, _, rfl, w0, w1, g0, g1, by omega, by omega, ?_⟩
    rw [due_rest w0 (by omega) g0]
    walk_at "go"
    refine ge_cal hx ?_
    walk_at "go"
    refine ⟨_, rfl, ?_⟩
    walk_at "go"
    rw [decide_eq_true rfl]
    exact Cl.of q
end

theorem JobAt.le {A B : SH} {a : Ad} {p : Addr} {j : Jb} (l : Le A B) (h : JobAt A a p j) : JobAt B a p j := by
  obtain ⟨dx, nd, h1, h2⟩ := h
  exact ⟨dx, nd, RO.le l h1, RO.le l h2⟩
theorem jb_ok {z : Str} {w t g : Int} (hz : isName z = true) (w0 : 0 ≤ w) (w1 : w ≤ 1000) (t0 : 1 ≤ t) (t1 : t ≤ 20) (g0 : 1 ≤ g) (g1 : g ≤ 4) : jobOk ⟨z, 0, 1, t, w, g⟩ := ⟨hz, Int.le_refl 0, (by decide : (0 : Int) ≤ 99), (by decide : (1 : Int) ≤ 1), (by decide : (1 : Int) ≤ 1000), t0, t1, w0, w1, g0, g1⟩
theorem order_in (s : Int) {X : List V} (h : X = if s = 1 then (List.range (Int.toNat 31)).map fun i : Nat => V.int i else ((List.range (Int.toNat 31)).map fun i : Nat => V.int i).reverse) : X.length = 31 ∧ ∀ v ∈ X, ∃ i : Int, v = .int i ∧ 0 ≤ i ∧ i ≤ 31 := by
  have h1 : ∀ v ∈ X, v ∈ (List.range (Int.toNat 31)).map fun i : Nat => V.int i := fun v hv => by
    rw [h] at hv
    split at hv
    · exact hv
    · exact List.mem_reverse.mp hv
  refine ⟨?_, fun v hv => ?_⟩
  · rw [h]
    split
    · rfl
    · rw [List.length_reverse]
      rfl
  · obtain ⟨i, hi, rfl⟩ := List.mem_map.mp (h1 v hv)
    have : i < 31 := List.mem_range.mp hi
    exact ⟨i, rfl, by omega, by omega⟩
section
variable {K : PySem.W.Frag} {mg : Str → Option Value} {a : Ad} {A : SH} {vs : List V} {Φ : V → SH → Prop} {Ψ : Value → Option Addr → SH → Prop} {Ψ' : Value → Option Addr → L2.St → SH → Prop} {W : WX}
theorem w_law_job_good (T : Txt K mg a) (h : S_law_job_good K a vs A Φ Ψ) (hx : WPost Ψ' W) : GS (t_law_job_good K a W) (AEf Φ) (L2.start ["_law_called", "_law_cell", "_law_first", "_law_up", "_law_often", "_law_job", "_law_order", "_law_at", "_law_fails"] vs) A := by
  obtain ⟨z, c, rfl, hz, hl, c0, c1, q⟩ := h
  show GS _ _ [some (.str z), some (.int c), none, none, none, none, none, none, none] A
  unfold t_law_job_good
  walk_at "go"
  have hf : 0 ≤ [c / 7 % 4, c / 7 % 30, c / 7 % 1001].getD (c % 3).toNat 0 ∧ [c / 7 % 4, c / 7 % 30, c / 7 % 1001].getD (c % 3).toNat 0 ≤ 1000 := get3 (P := fun x => 0 ≤ x ∧ x ≤ 1000) _ (by omega) (by omega) (by omega) (by omega) (by omega)
  generalize [c / 7 % 4, c / 7 % 30, c / 7 % 1001].getD (c % 3).toNat 0 = f at hf
  have hu : 1 ≤ 1 + c / 7007 % 4 ∧ 1 + c / 7007 % 4 ≤ 4 := by omega
  generalize 1 + c / 7007 % 4 = u at hu
  have ho : 1 ≤ 1 + c / 28028 % 20 ∧ 1 + c / 28028 % 20 ≤ 20 := by omega
  generalize 1 + c / 28028 % 20 = o at ho
  refine gs_mid (fun σ B => ∃ (x : Addr) (w g t : Int), σ = [some (.str z), some (.int c), some (.int w), some (.int g), some (.int t), some (.ref x), none, none, none] ∧ jobOk ⟨z, 0, 1, t, w, g⟩ ∧ JobAt B a x ⟨z, 0, 1, t, w, g⟩ ∧ Le A B) ?_ ?_
  · walk_at "go"
    · refine ge_makK' hx ?_
      walk_at "go"
      refine ⟨rfl, rfl, fun x dx => ⟨x, dx, .non, ⟨z, 0, 1, o, 0, u⟩, _, rfl, .head, .inl rfl, show z.length ≤ 1000 by omega, jb_ok hz (by omega) (by omega) ho.1 ho.2 hu.1 hu.2, fun nd => ⟨rfl, ?_⟩⟩⟩
      walk_at "go"
      exact Cl.of ⟨x, 0, u, o, rfl, jb_ok hz (by omega) (by omega) ho.1 ho.2 hu.1 hu.2, ⟨dx, nd, by walk_at "ro", by walk_at "ro"⟩, by walk_at "le"⟩
    · refine ge_makK' hx ?_
      walk_at "go"
      rename_i l
      refine ⟨rfl, rfl, fun x dx => ⟨x, dx, .ref l, ⟨z, 0, 1, o, f, 1⟩, _, rfl, .head, .inr ⟨l, rfl, by walk_at "ro"⟩, show z.length ≤ 1000 by omega, jb_ok hz hf.1 hf.2 ho.1 ho.2 (by omega) (by omega), fun nd => ⟨rfl, ?_⟩⟩⟩
      walk_at "go"
      exact Cl.of ⟨x, f, 1, o, rfl, jb_ok hz hf.1 hf.2 ho.1 ho.2 (by omega) (by omega), ⟨dx, nd, by walk_at "ro", by walk_at "ro"⟩, by walk_at "le"⟩
    · refine ge_makK' hx ?_
      walk_at "go"
      refine ⟨rfl, rfl, fun x dx => ⟨x, dx, .non, ⟨z, 0, 1, 1, f, u⟩, _, rfl, .head, .inl rfl, show z.length ≤ 1000 by omega, jb_ok hz hf.1 hf.2 (by omega) (by omega) hu.1 hu.2, fun nd => ⟨rfl, ?_⟩⟩⟩
      walk_at "go"
      exact Cl.of ⟨x, f, u, 1, rfl, jb_ok hz hf.1 hf.2 (by omega) (by omega) hu.1 hu.2, ⟨dx, nd, by walk_at "ro", by walk_at "ro"⟩, by walk_at "le"⟩
    · refine ge_mak' hx ?_
      walk_at "go"
      rename_i l
      refine fun x dx => ⟨x, dx, .ref l, ⟨z, 0, 1, o, f, u⟩, _, rfl, .head, .inr ⟨l, rfl, by walk_at "ro"⟩, show z.length ≤ 1000 by omega, jb_ok hz hf.1 hf.2 ho.1 ho.2 hu.1 hu.2, fun nd => ⟨rfl, ?_⟩⟩
      walk_at "go"
      exact Cl.of ⟨x, f, u, o, rfl, jb_ok hz hf.1 hf.2 ho.1 ho.2 hu.1 hu.2, ⟨dx, nd, by walk_at "ro", by walk_at "ro"⟩, by walk_at "le"⟩
  · rintro σ B ⟨x, w, g, t, rfl, ok, hj, hle⟩
    walk_at "go"
    refine nrow RL.head (by omega) ?_
    intro q2
    generalize hX : (if 1 - 2 * (c / 2242240 % 2) = 1 then (List.range (Int.toNat 31)).map fun i : Nat => V.int i else ((List.range (Int.toNat 31)).map fun i : Nat => V.int i).reverse) = X
    obtain ⟨lX, iX⟩ := order_in _ hX.symm
    obtain ⟨dx, nd, j1, j2⟩ := id hj
    walk_at "go"
    rename_i q0 q3 q4 q5
    generalize hC : sg q5 _ :: _ = C
    have lC : Le B C := by rw [← hC]; walk_at "le"
    have hl : RL K C q5 (X.drop (c / 4484480 % 31).toNat ++ X.take (c / 4484480 % 31).toNat) := by rw [← hC]; exact RL.head
    refine gf_list (xs := X.drop (c / 4484480 % 31).toNat ++ X.take (c / 4484480 % 31).toNat) (fun i σ A' => ∃ v, σ = [some (.str z), some (.int c), some (.int w), some (.int g), some (.int t), some (.ref x), some (.ref q2), some (.int (c / 4484480 % 31)), v] ∧ C = A') (Cl.of ⟨none, rfl, rfl⟩) ?_ ?_ ?_
    · rintro i σ A' _ ⟨v, _, rfl⟩
      exact hl
    · rintro i y σ A' hi ⟨v, rfl, rfl⟩
      obtain ⟨n, rfl, n0, n1⟩ := iX y ((List.mem_append.mp (List.mem_of_getElem? hi)).elim List.mem_of_mem_drop List.mem_of_mem_take)
      walk_at "go"
      refine ge_cal hx ?_
      walk_at "go"
      refine ⟨x, _, n, rfl, hj.le lC, ok, n0, n1, ?_⟩
      walk_at "go"
      exact Cl.of ⟨_, rfl, rfl⟩
    · rintro σ A' ⟨v, rfl, rfl⟩
      have j3 := j1.le lC
      walk_at "go"
      refine gr_eqLI (ns := [w, g, t]) (ms := [w, g, t]) (by walk_at "rl") (by walk_at "rl") (by exact rfl) (by exact rfl) ?_
      rw [decide_eq_true rfl]
      exact Cl.le (hle.trans (lC.trans (by walk_at "le"))) q
theorem w_law_cell (T : Txt K mg a) {p : Addr} {ns : List Int} (hc : ∀ z ∈ ns, Cell z) (k : Nat) : Cell (ns.getD k 0) := by
  rw [List.getD_eq_getElem?_getD]
  cases e : ns[k]? with
  | none => exact big_le (by decide) 
  | some z => exact hc z (List.mem_of_getElem? e)
theorem w_law (T : Txt K mg a) (h : S_law K a vs A Φ Ψ) (hx : WPost Ψ' W) : GS (t_law K a W) (AEf Φ) (L2.start ["_law_script", "_law_some", "_law_k"] vs) A := by
  obtain ⟨p, ns, rfl, hr, hn, hc, q⟩ := h
  show GS _ _ [some (.ref p), none, none] A
  unfold t_law
  walk_at "go"
  refine ge_cal hx ?_
  walk_at "go"
  refine ge_cal hx ?_
  walk_at "go"
  refine ⟨p, ns, 0, rfl, hr, hn, by omega, by omega, ?_⟩
  walk_at "go"
  refine ⟨_, rfl, w_law_cell T (p := p) hc _, fun q1 ys hy => ?_⟩
  walk_at "go"
  refine ge_cal hx ?_
  walk_at "go"
  refine ⟨_, rfl, ?_⟩
  walk_at "go"
  refine gf_range (fun i σ A' => ∃ v, σ = [some (.ref p), some (.ref q1), v] ∧ sg q1 (.lst (ys.map V.str)) :: A = A') (Cl.of ⟨none, rfl, rfl⟩) ?_ ?_
  · rintro i σ A' hi ⟨v, rfl, rfl⟩
    have hlen := hy.1
    walk_at "go"
    refine ge_cal hx ?_
    walk_at "go"
    have e : (2 + (i : Int)) % 8 = (((2 + i) % 8 : Nat) : Int) := by omega
    rw [e]
    have hm : (2 + i) % 8 < ys.length := by omega
    refine gr_ixN (v := V.str (ys[(2 + i) % 8])) (by walk_at "rl") (by rw [List.getElem?_map, List.getElem?_eq_getElem hm]; rfl) ?_
    have hn8 := hy.2 _ (List.getElem_mem hm)
    generalize ys[(2 + i) % 8] = y at hn8
    walk_at "go"
    refine ge_cal hx ?_
    walk_at "go"
    refine ge_cal hx ?_
    walk_at "go"
    refine ⟨p, ns, _, rfl, by walk_at "rl", hn, by omega, by omega, ?_⟩
    walk_at "go"
    refine ⟨_, _, rfl, w_law_cell T (p := p) hc _, by omega, by omega, ?_⟩
    walk_at "go"
    have hb := mixF_b (ns.getD (2 + (i : Int)).toNat 0) (2 + (i : Int))
    refine ⟨y, _, rfl, hn8.1, hn8.2, hb.1, hb.2, ?_⟩
    walk_at "go"
    exact Cl.of ⟨_, rfl, rfl⟩
  · rintro σ A' ⟨v, rfl, rfl⟩
    walk_at "go"
    exact Cl.le (by walk_at "le") q
end

theorem len_ex {α : Sort _} {p : α → Prop} {q : Prop} (h : ∀ x, p x → q) : (∃ x, p x) → q := fun ⟨x, z⟩ => h x z
theorem len_or {p r q : Prop} (h : p → q) (k : r → q) : (p ∨ r) → q := fun z => z.elim h k
local macro_rules | `(tactic| walk_at "len") => `(tactic| first | exact False.elim | (rintro ⟨e, _⟩; subst e; rfl) | (intro e; subst e; rfl) | (refine len_ex ?_; intro _; walk_at "len") | (refine len_or ?_ ?_ <;> walk_at "len"))
theorem all_mk' {l : PySem.W.OpenLaw} {w : World} {K : PySem.W.Frag} {h : Heap} {mg : Str → Option Value} {fa : Addr} {a : Ad} {tk_MOST_WAIT : Tok} {tk_LETTERS : Tok} {tk_MOST_LETTERS : Tok} {tk_MOST_NEEDS : Tok} {tk_LEAST_0 : Tok} {tk_LEAST_1 : Tok} {tk_LEAST_2 : Tok} {tk_LEAST_3 : Tok} {tk_LEAST_4 : Tok} {od_LEAST : Option Addr} {sz_LEAST : Nat} {sl_LEAST : Array (Option Value)} {tk_MOST_0 : Tok} {tk_MOST_1 : Tok} {tk_MOST_2 : Tok} {tk_MOST_3 : Tok} {tk_MOST_4 : Tok} {od_MOST : Option Addr} {sz_MOST : Nat} {sl_MOST : Array (Option Value)} {oc_wait_after : Value} {od_wait_after : Option Addr} {kV_wait_after : Value} {dc_wait_after : Value} {pm_wait_after : Value} {an_wait_after : Option Addr} {cd_wait_after : Value} {ct_wait_after : Value} {sl_wait_after : Array (Option Value)} {f_wait_after : Addr} {oc_rest_sum : Value} {od_rest_sum : Option Addr} {kV_rest_sum : Value} {dc_rest_sum : Value} {pm_rest_sum : Value} {an_rest_sum : Option Addr} {cd_rest_sum : Value} {ct_rest_sum : Value} {sl_rest_sum : Array (Option Value)} {f_rest_sum : Addr} {oc_is_whole : Value} {od_is_whole : Option Addr} {kV_is_whole : Value} {dc_is_whole : Value} {pm_is_whole : Value} {an_is_whole : Option Addr} {cd_is_whole : Value} {ct_is_whole : Value} {sl_is_whole : Array (Option Value)} {f_is_whole : Addr} {oc_is_among : Value} {od_is_among : Option Addr} {kV_is_among : Value} {dc_is_among : Value} {pm_is_among : Value} {an_is_among : Option Addr} {cd_is_among : Value} {ct_is_among : Value} {sl_is_among : Array (Option Value)} {f_is_among : Addr} {oc_is_made_of : Value} {od_is_made_of : Option Addr} {kV_is_made_of : Value} {dc_is_made_of : Value} {pm_is_made_of : Value} {an_is_made_of : Option Addr} {cd_is_made_of : Value} {ct_is_made_of : Value} {sl_is_made_of : Array (Option Value)} {f_is_made_of : Addr} {oc_is_name : Value} {od_is_name : Option Addr} {kV_is_name : Value} {dc_is_name : Value} {pm_is_name : Value} {an_is_name : Option Addr} {cd_is_name : Value} {ct_is_name : Value} {sl_is_name : Array (Option Value)} {f_is_name : Addr} {oc_own_needs : Value} {od_own_needs : Option Addr} {kV_own_needs : Value} {dc_own_needs : Value} {pm_own_needs : Value} {an_own_needs : Option Addr} {cd_own_needs : Value} {ct_own_needs : Value} {sl_own_needs : Array (Option Value)} {f_own_needs : Addr} {oc_need_numbers : Value} {od_need_numbers : Option Addr} {kV_need_numbers : Value} {dc_need_numbers : Value} {pm_need_numbers : Value} {an_need_numbers : Option Addr} {cd_need_numbers : Value} {ct_need_numbers : Value} {sl_need_numbers : Array (Option Value)} {f_need_numbers : Addr} {D_Job_init : Addr} {oc_Job_init : Value} {od_Job_init : Option Addr} {kV_Job_init : Value} {dc_Job_init : Value} {pm_Job_init : Value} {an_Job_init : Option Addr} {cd_Job_init : Value} {ct_Job_init : Value} {sl_Job_init : Array (Option Value)} {f_Job_init : Addr} {dt_Job_init_1 : Tok} {dt_Job_init_2 : Tok} {dt_Job_init_3 : Tok} {dt_Job_init_4 : Tok} {dt_Job_init_5 : Tok} {doc_Job_init : Value} {dod_Job_init : Option Addr} {dn_Job_init : Nat} {dsl_Job_init : Array (Option Value)} {oc_law_cell_at : Value} {od_law_cell_at : Option Addr} {kV_law_cell_at : Value} {dc_law_cell_at : Value} {pm_law_cell_at : Value} {an_law_cell_at : Option Addr} {cd_law_cell_at : Value} {ct_law_cell_at : Value} {sl_law_cell_at : Array (Option Value)} {f_law_cell_at : Addr} {oc_law_mixed : Value} {od_law_mixed : Option Addr} {kV_law_mixed : Value} {dc_law_mixed : Value} {pm_law_mixed : Value} {an_law_mixed : Option Addr} {cd_law_mixed : Value} {ct_law_mixed : Value} {sl_law_mixed : Array (Option Value)} {f_law_mixed : Addr} {oc_law_whole : Value} {od_law_whole : Option Addr} {kV_law_whole : Value} {dc_law_whole : Value} {pm_law_whole : Value} {an_law_whole : Option Addr} {cd_law_whole : Value} {ct_law_whole : Value} {sl_law_whole : Array (Option Value)} {f_law_whole : Addr} {oc_law_names : Value} {od_law_names : Option Addr} {kV_law_names : Value} {dc_law_names : Value} {pm_law_names : Value} {an_law_names : Option Addr} {cd_law_names : Value} {ct_law_names : Value} {sl_law_names : Array (Option Value)} {f_law_names : Addr} {oc_law_due : Value} {od_law_due : Option Addr} {kV_law_due : Value} {dc_law_due : Value} {pm_law_due : Value} {an_law_due : Option Addr} {cd_law_due : Value} {ct_law_due : Value} {sl_law_due : Array (Option Value)} {f_law_due : Addr} {oc_law_asked : Value} {od_law_asked : Option Addr} {kV_law_asked : Value} {dc_law_asked : Value} {pm_law_asked : Value} {an_law_asked : Option Addr} {cd_law_asked : Value} {ct_law_asked : Value} {sl_law_asked : Array (Option Value)} {f_law_asked : Addr} {oc_law_job_good : Value} {od_law_job_good : Option Addr} {kV_law_job_good : Value} {dc_law_job_good : Value} {pm_law_job_good : Value} {an_law_job_good : Option Addr} {cd_law_job_good : Value} {ct_law_job_good : Value} {sl_law_job_good : Array (Option Value)} {f_law_job_good : Addr} {oc_law : Value} {od_law : Option Addr} {kV_law : Value} {dc_law : Value} {pm_law : Value} {an_law : Option Addr} {cd_law : Value} {ct_law : Value} {sl_law : Array (Option Value)} {f_law : Addr} (X : K.In h) (G : h.Ns mainGlobals mg) (hfa : mg "law" = some (.ref fa))
    (g_MOST_WAIT : PySem.W.nsIn K mainGlobals "MOST_WAIT" = some (some (.int (100000) tk_MOST_WAIT)))
    (g_LETTERS : PySem.W.nsIn K mainGlobals "LETTERS" = some (some (.str "abcdefghijklmnopqrstuvwxyz" tk_LETTERS)))
    (g_MOST_LETTERS : PySem.W.nsIn K mainGlobals "MOST_LETTERS" = some (some (.int (12) tk_MOST_LETTERS)))
    (g_MOST_NEEDS : PySem.W.nsIn K mainGlobals "MOST_NEEDS" = some (some (.int (8) tk_MOST_NEEDS)))
    (g_LEAST : PySem.W.nsIn K mainGlobals "LEAST" = some (some (.ref a.gLEAST)))
    (k_LEAST : K.lookup a.gLEAST = some ⟨.type "tuple", od_LEAST, .seq (List.toArray [.int (0) tk_LEAST_0, .int (1) tk_LEAST_1, .int (1) tk_LEAST_2, .int (0) tk_LEAST_3, .int (1) tk_LEAST_4]) sz_LEAST, sl_LEAST⟩)
    (g_MOST : PySem.W.nsIn K mainGlobals "MOST" = some (some (.ref a.gMOST)))
    (k_MOST : K.lookup a.gMOST = some ⟨.type "tuple", od_MOST, .seq (List.toArray [.int (99) tk_MOST_0, .int (1000) tk_MOST_1, .int (20) tk_MOST_2, .int (1000) tk_MOST_3, .int (4) tk_MOST_4]) sz_MOST, sl_MOST⟩)
    (b_bool : PySem.W.nsIn K mainGlobals "bool" = some none)
    (b_enumerate : PySem.W.nsIn K mainGlobals "enumerate" = some none)
    (b_int : PySem.W.nsIn K mainGlobals "int" = some none)
    (b_isinstance : PySem.W.nsIn K mainGlobals "isinstance" = some none)
    (b_len : PySem.W.nsIn K mainGlobals "len" = some none)
    (b_list : PySem.W.nsIn K mainGlobals "list" = some none)
    (b_max : PySem.W.nsIn K mainGlobals "max" = some none)
    (b_min : PySem.W.nsIn K mainGlobals "min" = some none)
    (b_range : PySem.W.nsIn K mainGlobals "range" = some none)
    (b_set : PySem.W.nsIn K mainGlobals "set" = some none)
    (b_str : PySem.W.nsIn K mainGlobals "str" = some none)
    (b_sum : PySem.W.nsIn K mainGlobals "sum" = some none)
    (b_tuple : PySem.W.nsIn K mainGlobals "tuple" = some none)
    (m_Job : PySem.W.nsIn K mainGlobals "Job" = some (some (.ref a.cJob)))
    (pg_Job : PySem.W.plainGet K a.cJob Str.empty = true)
    (hd_Job : PySem.W.hasDictIn K a.cJob = true)
    (po_Job : PySem.W.plainOver K a.cJob = true)
    (sa_Job : PySem.W.findIn K (.ref a.cJob) "__setattr__" = some (some (.builtin "object.__setattr__")))
    (mk_Job : PySem.W.makesIn K a.cJob = true)
    (kc_Job : PySem.W.keepIn K (.ref a.cJob) = true)
    (ia_Job : PySem.W.findIn K (.ref a.cJob) "__class__" = some (some (.builtin "object.__class__")))
    (im_Job : PySem.W.mroIn K a.cJob (.type "object") = some true)
    (n_Job_name : PySem.W.findIn K (.ref a.cJob) "name" = some none)
    (n_Job_needs : PySem.W.findIn K (.ref a.cJob) "needs" = some none)
    (n_Job_rank : PySem.W.findIn K (.ref a.cJob) "rank" = some none)
    (n_Job_span : PySem.W.findIn K (.ref a.cJob) "span" = some none)
    (n_Job_tries : PySem.W.findIn K (.ref a.cJob) "tries" = some none)
    (n_Job_wait : PySem.W.findIn K (.ref a.cJob) "wait" = some none)
    (n_Job_grow : PySem.W.findIn K (.ref a.cJob) "grow" = some none)
    (zz_n : PySem.W.specialIn K (.builtin "object.__class__") "__get__" = some (some (.builtin "getset_descriptor.__get__")))
    (zz_t : PySem.W.takesIn K (.builtin "object.__class__") = some true)
    (a_wait_after : PySem.W.nsIn K mainGlobals "wait_after" = some (some (.ref f_wait_after)))
    (l_wait_after : K.lookup f_wait_after = some ⟨oc_wait_after, od_wait_after, .func (PySem.W.fnOf "wait_after" "wait_after" (defArgs s_wait_after) (defBody s_wait_after) (defScope s_wait_after) .none kV_wait_after dc_wait_after pm_wait_after an_wait_after cd_wait_after ct_wait_after), sl_wait_after⟩)
    (c_wait_after : PySem.W.codeIn K cd_wait_after "wait_after" = true)
    (k_wait_after : PySem.W.keepIn K (.ref f_wait_after) = true)
    (a_rest_sum : PySem.W.nsIn K mainGlobals "rest_sum" = some (some (.ref f_rest_sum)))
    (l_rest_sum : K.lookup f_rest_sum = some ⟨oc_rest_sum, od_rest_sum, .func (PySem.W.fnOf "rest_sum" "rest_sum" (defArgs s_rest_sum) (defBody s_rest_sum) (defScope s_rest_sum) .none kV_rest_sum dc_rest_sum pm_rest_sum an_rest_sum cd_rest_sum ct_rest_sum), sl_rest_sum⟩)
    (c_rest_sum : PySem.W.codeIn K cd_rest_sum "rest_sum" = true)
    (k_rest_sum : PySem.W.keepIn K (.ref f_rest_sum) = true)
    (a_is_whole : PySem.W.nsIn K mainGlobals "is_whole" = some (some (.ref f_is_whole)))
    (l_is_whole : K.lookup f_is_whole = some ⟨oc_is_whole, od_is_whole, .func (PySem.W.fnOf "is_whole" "is_whole" (defArgs s_is_whole) (defBody s_is_whole) (defScope s_is_whole) .none kV_is_whole dc_is_whole pm_is_whole an_is_whole cd_is_whole ct_is_whole), sl_is_whole⟩)
    (c_is_whole : PySem.W.codeIn K cd_is_whole "is_whole" = true)
    (k_is_whole : PySem.W.keepIn K (.ref f_is_whole) = true)
    (a_is_among : PySem.W.nsIn K mainGlobals "is_among" = some (some (.ref f_is_among)))
    (l_is_among : K.lookup f_is_among = some ⟨oc_is_among, od_is_among, .func (PySem.W.fnOf "is_among" "is_among" (defArgs s_is_among) (defBody s_is_among) (defScope s_is_among) .none kV_is_among dc_is_among pm_is_among an_is_among cd_is_among ct_is_among), sl_is_among⟩)
    (c_is_among : PySem.W.codeIn K cd_is_among "is_among" = true)
    (k_is_among : PySem.W.keepIn K (.ref f_is_among) = true)
    (a_is_made_of : PySem.W.nsIn K mainGlobals "is_made_of" = some (some (.ref f_is_made_of)))
    (l_is_made_of : K.lookup f_is_made_of = some ⟨oc_is_made_of, od_is_made_of, .func (PySem.W.fnOf "is_made_of" "is_made_of" (defArgs s_is_made_of) (defBody s_is_made_of) (defScope s_is_made_of) .none kV_is_made_of dc_is_made_of pm_is_made_of an_is_made_of cd_is_made_of ct_is_made_of), sl_is_made_of⟩)
    (c_is_made_of : PySem.W.codeIn K cd_is_made_of "is_made_of" = true)
    (k_is_made_of : PySem.W.keepIn K (.ref f_is_made_of) = true)
    (a_is_name : PySem.W.nsIn K mainGlobals "is_name" = some (some (.ref f_is_name)))
    (l_is_name : K.lookup f_is_name = some ⟨oc_is_name, od_is_name, .func (PySem.W.fnOf "is_name" "is_name" (defArgs s_is_name) (defBody s_is_name) (defScope s_is_name) .none kV_is_name dc_is_name pm_is_name an_is_name cd_is_name ct_is_name), sl_is_name⟩)
    (c_is_name : PySem.W.codeIn K cd_is_name "is_name" = true)
    (k_is_name : PySem.W.keepIn K (.ref f_is_name) = true)
    (a_own_needs : PySem.W.nsIn K mainGlobals "own_needs" = some (some (.ref f_own_needs)))
    (l_own_needs : K.lookup f_own_needs = some ⟨oc_own_needs, od_own_needs, .func (PySem.W.fnOf "own_needs" "own_needs" (defArgs s_own_needs) (defBody s_own_needs) (defScope s_own_needs) .none kV_own_needs dc_own_needs pm_own_needs an_own_needs cd_own_needs ct_own_needs), sl_own_needs⟩)
    (c_own_needs : PySem.W.codeIn K cd_own_needs "own_needs" = true)
    (k_own_needs : PySem.W.keepIn K (.ref f_own_needs) = true)
    (a_need_numbers : PySem.W.nsIn K mainGlobals "need_numbers" = some (some (.ref f_need_numbers)))
    (l_need_numbers : K.lookup f_need_numbers = some ⟨oc_need_numbers, od_need_numbers, .func (PySem.W.fnOf "need_numbers" "need_numbers" (defArgs s_need_numbers) (defBody s_need_numbers) (defScope s_need_numbers) .none kV_need_numbers dc_need_numbers pm_need_numbers an_need_numbers cd_need_numbers ct_need_numbers), sl_need_numbers⟩)
    (c_need_numbers : PySem.W.codeIn K cd_need_numbers "need_numbers" = true)
    (k_need_numbers : PySem.W.keepIn K (.ref f_need_numbers) = true)
    (a_Job_init : PySem.W.findIn K (.ref a.cJob) "__init__" = some (some (.ref f_Job_init)))
    (i_Job_init : PySem.W.isFn K (.ref f_Job_init) = true)
    (l_Job_init : K.lookup f_Job_init = some ⟨oc_Job_init, od_Job_init, .func (PySem.W.fnOf "__init__" "Job.__init__" (defArgs s_Job_init) (defBody s_Job_init) (defScope s_Job_init) (.ref D_Job_init) kV_Job_init dc_Job_init pm_Job_init an_Job_init cd_Job_init ct_Job_init), sl_Job_init⟩)
    (c_Job_init : PySem.W.codeIn K cd_Job_init "Job.__init__" = true)
    (k_Job_init : PySem.W.keepIn K (.ref f_Job_init) = true)
    (dl_Job_init : K.lookup D_Job_init = some ⟨doc_Job_init, dod_Job_init, .seq (List.toArray [.none, .int (0) dt_Job_init_1, .int (1) dt_Job_init_2, .int (1) dt_Job_init_3, .int (0) dt_Job_init_4, .int (1) dt_Job_init_5]) dn_Job_init, dsl_Job_init⟩)
    (a_law_cell_at : PySem.W.nsIn K mainGlobals "_law_cell_at" = some (some (.ref f_law_cell_at)))
    (l_law_cell_at : K.lookup f_law_cell_at = some ⟨oc_law_cell_at, od_law_cell_at, .func (PySem.W.fnOf "_law_cell_at" "_law_cell_at" (defArgs s_law_cell_at) (defBody s_law_cell_at) (defScope s_law_cell_at) .none kV_law_cell_at dc_law_cell_at pm_law_cell_at an_law_cell_at cd_law_cell_at ct_law_cell_at), sl_law_cell_at⟩)
    (c_law_cell_at : PySem.W.codeIn K cd_law_cell_at "_law_cell_at" = true)
    (k_law_cell_at : PySem.W.keepIn K (.ref f_law_cell_at) = true)
    (a_law_mixed : PySem.W.nsIn K mainGlobals "_law_mixed" = some (some (.ref f_law_mixed)))
    (l_law_mixed : K.lookup f_law_mixed = some ⟨oc_law_mixed, od_law_mixed, .func (PySem.W.fnOf "_law_mixed" "_law_mixed" (defArgs s_law_mixed) (defBody s_law_mixed) (defScope s_law_mixed) .none kV_law_mixed dc_law_mixed pm_law_mixed an_law_mixed cd_law_mixed ct_law_mixed), sl_law_mixed⟩)
    (c_law_mixed : PySem.W.codeIn K cd_law_mixed "_law_mixed" = true)
    (k_law_mixed : PySem.W.keepIn K (.ref f_law_mixed) = true)
    (a_law_whole : PySem.W.nsIn K mainGlobals "_law_whole" = some (some (.ref f_law_whole)))
    (l_law_whole : K.lookup f_law_whole = some ⟨oc_law_whole, od_law_whole, .func (PySem.W.fnOf "_law_whole" "_law_whole" (defArgs s_law_whole) (defBody s_law_whole) (defScope s_law_whole) .none kV_law_whole dc_law_whole pm_law_whole an_law_whole cd_law_whole ct_law_whole), sl_law_whole⟩)
    (c_law_whole : PySem.W.codeIn K cd_law_whole "_law_whole" = true)
    (k_law_whole : PySem.W.keepIn K (.ref f_law_whole) = true)
    (a_law_names : PySem.W.nsIn K mainGlobals "_law_names" = some (some (.ref f_law_names)))
    (l_law_names : K.lookup f_law_names = some ⟨oc_law_names, od_law_names, .func (PySem.W.fnOf "_law_names" "_law_names" (defArgs s_law_names) (defBody s_law_names) (defScope s_law_names) .none kV_law_names dc_law_names pm_law_names an_law_names cd_law_names ct_law_names), sl_law_names⟩)
    (c_law_names : PySem.W.codeIn K cd_law_names "_law_names" = true)
    (k_law_names : PySem.W.keepIn K (.ref f_law_names) = true)
    (a_law_due : PySem.W.nsIn K mainGlobals "_law_due" = some (some (.ref f_law_due)))
    (l_law_due : K.lookup f_law_due = some ⟨oc_law_due, od_law_due, .func (PySem.W.fnOf "_law_due" "_law_due" (defArgs s_law_due) (defBody s_law_due) (defScope s_law_due) .none kV_law_due dc_law_due pm_law_due an_law_due cd_law_due ct_law_due), sl_law_due⟩)
    (c_law_due : PySem.W.codeIn K cd_law_due "_law_due" = true)
    (k_law_due : PySem.W.keepIn K (.ref f_law_due) = true)
    (a_law_asked : PySem.W.nsIn K mainGlobals "_law_asked" = some (some (.ref f_law_asked)))
    (l_law_asked : K.lookup f_law_asked = some ⟨oc_law_asked, od_law_asked, .func (PySem.W.fnOf "_law_asked" "_law_asked" (defArgs s_law_asked) (defBody s_law_asked) (defScope s_law_asked) .none kV_law_asked dc_law_asked pm_law_asked an_law_asked cd_law_asked ct_law_asked), sl_law_asked⟩)
    (c_law_asked : PySem.W.codeIn K cd_law_asked "_law_asked" = true)
    (k_law_asked : PySem.W.keepIn K (.ref f_law_asked) = true)
    (a_law_job_good : PySem.W.nsIn K mainGlobals "_law_job_good" = some (some (.ref f_law_job_good)))
    (l_law_job_good : K.lookup f_law_job_good = some ⟨oc_law_job_good, od_law_job_good, .func (PySem.W.fnOf "_law_job_good" "_law_job_good" (defArgs s_law_job_good) (defBody s_law_job_good) (defScope s_law_job_good) .none kV_law_job_good dc_law_job_good pm_law_job_good an_law_job_good cd_law_job_good ct_law_job_good), sl_law_job_good⟩)
    (c_law_job_good : PySem.W.codeIn K cd_law_job_good "_law_job_good" = true)
    (k_law_job_good : PySem.W.keepIn K (.ref f_law_job_good) = true)
    (a_law : PySem.W.nsIn K mainGlobals "law" = some (some (.ref f_law)))
    (l_law : K.lookup f_law = some ⟨oc_law, od_law, .func (PySem.W.fnOf "law" "law" (defArgs s_law) (defBody s_law) (defScope s_law) .none kV_law dc_law pm_law an_law cd_law ct_law), sl_law⟩)
    (c_law : PySem.W.codeIn K cd_law "law" = true)
    (k_law : PySem.W.keepIn K (.ref f_law) = true) :
    ∃ fd : FuncData, (∀ (s : Shared) (v : Value), BindsTo s fd ⟨[v], []⟩ [("_law_script", v)]) ∧ ∀ base : Heap, K.In base → base.Ns mainGlobals mg → FnOk l.prog w K mg base (L2.CX l.prog w) 7 fa fd ["_law_script"] (lift (S_law K a)) := by
  have e := hfa.symm.trans (PySem.W.mg_of X G a_law)
  cases e
  have T : Txt K mg a := {
    b_bool := PySem.W.mg_none_of X G b_bool
    b_enumerate := PySem.W.mg_none_of X G b_enumerate
    b_int := PySem.W.mg_none_of X G b_int
    b_isinstance := PySem.W.mg_none_of X G b_isinstance
    b_len := PySem.W.mg_none_of X G b_len
    b_list := PySem.W.mg_none_of X G b_list
    b_max := PySem.W.mg_none_of X G b_max
    b_min := PySem.W.mg_none_of X G b_min
    b_range := PySem.W.mg_none_of X G b_range
    b_set := PySem.W.mg_none_of X G b_set
    b_str := PySem.W.mg_none_of X G b_str
    b_sum := PySem.W.mg_none_of X G b_sum
    b_tuple := PySem.W.mg_none_of X G b_tuple
    g_MOST_WAIT := ⟨_, PySem.W.mg_of X G g_MOST_WAIT, ⟨_, rfl⟩⟩
    g_LETTERS := ⟨_, PySem.W.mg_of X G g_LETTERS, ⟨_, rfl⟩⟩
    g_MOST_LETTERS := ⟨_, PySem.W.mg_of X G g_MOST_LETTERS, ⟨_, rfl⟩⟩
    g_MOST_NEEDS := ⟨_, PySem.W.mg_of X G g_MOST_NEEDS, ⟨_, rfl⟩⟩
    g_LEAST := ⟨_, PySem.W.mg_of X G g_LEAST, rfl⟩
    k_LEAST := sqT_k k_LEAST (Nat.le_of_ble_eq_true rfl) (.cons ⟨_, rfl⟩ (.cons ⟨_, rfl⟩ (.cons ⟨_, rfl⟩ (.cons ⟨_, rfl⟩ (.cons ⟨_, rfl⟩ (.nil))))))
    g_MOST := ⟨_, PySem.W.mg_of X G g_MOST, rfl⟩
    k_MOST := sqT_k k_MOST (Nat.le_of_ble_eq_true rfl) (.cons ⟨_, rfl⟩ (.cons ⟨_, rfl⟩ (.cons ⟨_, rfl⟩ (.cons ⟨_, rfl⟩ (.cons ⟨_, rfl⟩ (.nil))))))
    m_Job := PySem.W.mg_of X G m_Job
    i_Job := ⟨⟨pg_Job, hd_Job, po_Job, sa_Job⟩, ia_Job, zz_n, zz_t, im_Job⟩
    n_Job_name := n_Job_name
    n_Job_needs := n_Job_needs
    n_Job_rank := n_Job_rank
    n_Job_span := n_Job_span
    n_Job_tries := n_Job_tries
    n_Job_wait := n_Job_wait
    n_Job_grow := n_Job_grow }
  have F_wait_after := funD_mk (st := s_wait_after) l_wait_after c_wait_after k_wait_after
  have B_wait_after := F_wait_after.bindsN (ps := ["job", "fails"]) fun _ _ _ _ _ _ us hl => match us, hl with | [_, _], _ => rfl
  have F_rest_sum := funD_mk (st := s_rest_sum) l_rest_sum c_rest_sum k_rest_sum
  have B_rest_sum := F_rest_sum.bindsN (ps := ["job"]) fun _ _ _ _ _ _ us hl => match us, hl with | [_], _ => rfl
  have F_is_whole := funD_mk (st := s_is_whole) l_is_whole c_is_whole k_is_whole
  have B_is_whole := F_is_whole.bindsN (ps := ["thing"]) fun _ _ _ _ _ _ us hl => match us, hl with | [_], _ => rfl
  have F_is_among := funD_mk (st := s_is_among) l_is_among c_is_among k_is_among
  have B_is_among := F_is_among.bindsN (ps := ["thing", "least", "most"]) fun _ _ _ _ _ _ us hl => match us, hl with | [_, _, _], _ => rfl
  have F_is_made_of := funD_mk (st := s_is_made_of) l_is_made_of c_is_made_of k_is_made_of
  have B_is_made_of := F_is_made_of.bindsN (ps := ["thing", "signs", "most"]) fun _ _ _ _ _ _ us hl => match us, hl with | [_, _, _], _ => rfl
  have F_is_name := funD_mk (st := s_is_name) l_is_name c_is_name k_is_name
  have B_is_name := F_is_name.bindsN (ps := ["thing"]) fun _ _ _ _ _ _ us hl => match us, hl with | [_], _ => rfl
  have F_own_needs := funD_mk (st := s_own_needs) l_own_needs c_own_needs k_own_needs
  have B_own_needs := F_own_needs.bindsN (ps := ["name", "needs"]) fun _ _ _ _ _ _ us hl => match us, hl with | [_, _], _ => rfl
  have F_need_numbers := funD_mk (st := s_need_numbers) l_need_numbers c_need_numbers k_need_numbers
  have B_need_numbers := F_need_numbers.bindsN (ps := ["numbers"]) fun _ _ _ _ _ _ us hl => match us, hl with | [_], _ => rfl
  have F_Job_init := funD_mkD (st := s_Job_init) (dvs := [.non, .int (0), .int (1), .int (1), .int (0), .int (1)]) l_Job_init c_Job_init k_Job_init dl_Job_init rfl (.cons rfl (.cons ⟨_, rfl⟩ (.cons ⟨_, rfl⟩ (.cons ⟨_, rfl⟩ (.cons ⟨_, rfl⟩ (.cons ⟨_, rfl⟩ (.nil))))))) (by decide)
  have B_Job_init := binds_all (ps := ["self", "name", "needs", "rank", "span", "tries", "wait", "grow"]) F_Job_init (by decide) fun _ _ _ _ _ _ _ us its hl hi => match us, its, hl, hi with | [_, _, _, _, _, _, _, _], [_, _, _, _, _, _], _, _ => ⟨_, rfl, rfl⟩
  have F_law_cell_at := funD_mk (st := s_law_cell_at) l_law_cell_at c_law_cell_at k_law_cell_at
  have B_law_cell_at := F_law_cell_at.bindsN (ps := ["_law_script", "_law_k"]) fun _ _ _ _ _ _ us hl => match us, hl with | [_, _], _ => rfl
  have F_law_mixed := funD_mk (st := s_law_mixed) l_law_mixed c_law_mixed k_law_mixed
  have B_law_mixed := F_law_mixed.bindsN (ps := ["_law_cell", "_law_k"]) fun _ _ _ _ _ _ us hl => match us, hl with | [_, _], _ => rfl
  have F_law_whole := funD_mk (st := s_law_whole) l_law_whole c_law_whole k_law_whole
  have B_law_whole := F_law_whole.bindsN (ps := ["_law_found"]) fun _ _ _ _ _ _ us hl => match us, hl with | [_], _ => rfl
  have F_law_names := funD_mk (st := s_law_names) l_law_names c_law_names k_law_names
  have B_law_names := F_law_names.bindsN (ps := ["_law_cell"]) fun _ _ _ _ _ _ us hl => match us, hl with | [_], _ => rfl
  have F_law_due := funD_mk (st := s_law_due) l_law_due c_law_due k_law_due
  have B_law_due := F_law_due.bindsN (ps := ["_law_first", "_law_up", "_law_fails"]) fun _ _ _ _ _ _ us hl => match us, hl with | [_, _, _], _ => rfl
  have F_law_asked := funD_mk (st := s_law_asked) l_law_asked c_law_asked k_law_asked
  have B_law_asked := F_law_asked.bindsN (ps := ["_law_job", "_law_first", "_law_up", "_law_often", "_law_fails"]) fun _ _ _ _ _ _ us hl => match us, hl with | [_, _, _, _, _], _ => rfl
  have F_law_job_good := funD_mk (st := s_law_job_good) l_law_job_good c_law_job_good k_law_job_good
  have B_law_job_good := F_law_job_good.bindsN (ps := ["_law_called", "_law_cell"]) fun _ _ _ _ _ _ us hl => match us, hl with | [_, _], _ => rfl
  have F_law := funD_mk (st := s_law) l_law c_law k_law
  have B_law := F_law.bindsN (ps := ["_law_script"]) fun _ _ _ _ _ _ us hl => match us, hl with | [_], _ => rfl
  refine ⟨PySem.W.fnOf "law" "law" (defArgs s_law) (defBody s_law) (defScope s_law) .none kV_law dc_law pm_law an_law cd_law ct_law, fun s v => .of_eq rfl, fun base hb hn => ?_⟩
  have O_wait_after := mk_fn (σ0 := fun _ => []) (P := l.prog) (w := w) (mg := mg) (base := base) (k := 0) (sp := S_wait_after K a) F_wait_after sc_wait_after (by intro vs A Φ Ψ; unfold S_wait_after; walk_at "len") (fun cdv A outer s H E hr => dv_wait_after T  hr) (fun vs A Φ Ψ E hx h => w_wait_after T h hx)
  have G_wait_after := defR_of F_wait_after (PySem.W.mg_of X G a_wait_after) B_wait_after O_wait_after
  have O_is_whole := mk_fn (σ0 := fun _ => []) (P := l.prog) (w := w) (mg := mg) (base := base) (k := 0) (sp := S_is_whole K a) F_is_whole sc_is_whole (by intro vs A Φ Ψ; unfold S_is_whole; walk_at "len") (fun cdv A outer s H E hr => dv_is_whole T  hr) (fun vs A Φ Ψ E hx h => w_is_whole T h hx)
  have G_is_whole := defR_of F_is_whole (PySem.W.mg_of X G a_is_whole) B_is_whole O_is_whole
  have O_is_made_of := mk_fn (σ0 := fun _ => []) (P := l.prog) (w := w) (mg := mg) (base := base) (k := 0) (sp := S_is_made_of K a) F_is_made_of sc_is_made_of (by intro vs A Φ Ψ; unfold S_is_made_of; walk_at "len") (fun cdv A outer s H E hr => dv_is_made_of T  hr) (fun vs A Φ Ψ E hx h => w_is_made_of T h hx)
  have G_is_made_of := defR_of F_is_made_of (PySem.W.mg_of X G a_is_made_of) B_is_made_of O_is_made_of
  have O_law_cell_at := mk_fn (σ0 := fun _ => []) (P := l.prog) (w := w) (mg := mg) (base := base) (k := 0) (sp := S_law_cell_at K a) F_law_cell_at sc_law_cell_at (by intro vs A Φ Ψ; unfold S_law_cell_at; walk_at "len") (fun cdv A outer s H E hr => dv_law_cell_at T  hr) (fun vs A Φ Ψ E hx h => w_law_cell_at T h hx)
  have G_law_cell_at := defR_of F_law_cell_at (PySem.W.mg_of X G a_law_cell_at) B_law_cell_at O_law_cell_at
  have O_law_mixed := mk_fn (σ0 := fun _ => []) (P := l.prog) (w := w) (mg := mg) (base := base) (k := 0) (sp := S_law_mixed K a) F_law_mixed sc_law_mixed (by intro vs A Φ Ψ; unfold S_law_mixed; walk_at "len") (fun cdv A outer s H E hr => dv_law_mixed T  hr) (fun vs A Φ Ψ E hx h => w_law_mixed T h hx)
  have G_law_mixed := defR_of F_law_mixed (PySem.W.mg_of X G a_law_mixed) B_law_mixed O_law_mixed
  have O_law_whole := mk_fn (σ0 := fun _ => []) (P := l.prog) (w := w) (mg := mg) (base := base) (k := 0) (sp := S_law_whole K a) F_law_whole sc_law_whole (by intro vs A Φ Ψ; unfold S_law_whole; walk_at "len") (fun cdv A outer s H E hr => dv_law_whole T  hr) (fun vs A Φ Ψ E hx h => w_law_whole T h hx)
  have G_law_whole := defR_of F_law_whole (PySem.W.mg_of X G a_law_whole) B_law_whole O_law_whole
  have O_law_due := mk_fn (σ0 := fun _ => []) (P := l.prog) (w := w) (mg := mg) (base := base) (k := 0) (sp := S_law_due K a) F_law_due sc_law_due (by intro vs A Φ Ψ; unfold S_law_due; walk_at "len") (fun cdv A outer s H E hr => dv_law_due T  hr) (fun vs A Φ Ψ E hx h => w_law_due T h hx)
  have G_law_due := defR_of F_law_due (PySem.W.mg_of X G a_law_due) B_law_due O_law_due
  have O_rest_sum := mk_fn (σ0 := fun _ => []) (P := l.prog) (w := w) (mg := mg) (base := base) (k := 1) (sp := S_rest_sum K a) F_rest_sum sc_rest_sum (by intro vs A Φ Ψ; unfold S_rest_sum; walk_at "len") (fun cdv A outer s H E hr => dv_rest_sum T G_wait_after hr) (fun vs A Φ Ψ E hx h => w_rest_sum T h hx)
  have G_rest_sum := defR_of F_rest_sum (PySem.W.mg_of X G a_rest_sum) B_rest_sum O_rest_sum
  have O_is_among := mk_fn (σ0 := fun _ => []) (P := l.prog) (w := w) (mg := mg) (base := base) (k := 1) (sp := S_is_among K a) F_is_among sc_is_among (by intro vs A Φ Ψ; unfold S_is_among; walk_at "len") (fun cdv A outer s H E hr => dv_is_among T G_is_whole hr) (fun vs A Φ Ψ E hx h => w_is_among T h hx)
  have G_is_among := defR_of F_is_among (PySem.W.mg_of X G a_is_among) B_is_among O_is_among
  have O_is_name := mk_fn (σ0 := fun _ => []) (P := l.prog) (w := w) (mg := mg) (base := base) (k := 1) (sp := S_is_name K a) F_is_name sc_is_name (by intro vs A Φ Ψ; unfold S_is_name; walk_at "len") (fun cdv A outer s H E hr => dv_is_name T G_is_made_of hr) (fun vs A Φ Ψ E hx h => w_is_name T h hx)
  have G_is_name := defR_of F_is_name (PySem.W.mg_of X G a_is_name) B_is_name O_is_name
  have O_law_names := mk_fn (σ0 := fun _ => []) (P := l.prog) (w := w) (mg := mg) (base := base) (k := 1) (sp := S_law_names K a) F_law_names sc_law_names (by intro vs A Φ Ψ; unfold S_law_names; walk_at "len") (fun cdv A outer s H E hr => dv_law_names T G_law_mixed hr) (fun vs A Φ Ψ E hx h => w_law_names T h hx)
  have G_law_names := defR_of F_law_names (PySem.W.mg_of X G a_law_names) B_law_names O_law_names
  have O_own_needs := mk_fn (σ0 := fun _ => []) (P := l.prog) (w := w) (mg := mg) (base := base) (k := 2) (sp := S_own_needs K a) F_own_needs sc_own_needs (by intro vs A Φ Ψ; unfold S_own_needs; walk_at "len") (fun cdv A outer s H E hr => dv_own_needs T G_is_name hr) (fun vs A Φ Ψ E hx h => w_own_needs T h hx)
  have G_own_needs := defR_of F_own_needs (PySem.W.mg_of X G a_own_needs) B_own_needs O_own_needs
  have O_need_numbers := mk_fn (σ0 := fun _ => []) (P := l.prog) (w := w) (mg := mg) (base := base) (k := 2) (sp := S_need_numbers K a) F_need_numbers sc_need_numbers (by intro vs A Φ Ψ; unfold S_need_numbers; walk_at "len") (fun cdv A outer s H E hr => dv_need_numbers T G_is_among hr) (fun vs A Φ Ψ E hx h => w_need_numbers T h hx)
  have G_need_numbers := defR_of F_need_numbers (PySem.W.mg_of X G a_need_numbers) B_need_numbers O_need_numbers
  have O_law_asked := mk_fn (σ0 := fun _ => []) (P := l.prog) (w := w) (mg := mg) (base := base) (k := 2) (sp := S_law_asked K a) F_law_asked sc_law_asked (by intro vs A Φ Ψ; unfold S_law_asked; walk_at "len") (fun cdv A outer s H E hr => dv_law_asked T G_law_due G_law_whole G_rest_sum G_wait_after hr) (fun vs A Φ Ψ E hx h => w_law_asked T h hx)
  have G_law_asked := defR_of F_law_asked (PySem.W.mg_of X G a_law_asked) B_law_asked O_law_asked
  have O_Job_init := mk_fn (σ0 := fun _ => []) (P := l.prog) (w := w) (mg := mg) (base := base) (k := 3) (sp := S_Job_init K a) F_Job_init sc_Job_init (by intro vs A Φ Ψ; unfold S_Job_init; walk_at "len") (fun cdv A outer s H E hr => dv_Job_init T G_is_name G_need_numbers G_own_needs hr) (fun vs A Φ Ψ E hx h => w_Job_init T h hx)
  have G_Job_init := makR_of ⟨mk_Job, a_Job_init, i_Job_init, kc_Job⟩ T.m_Job B_Job_init O_Job_init
  obtain ⟨g_GK_Job_init_1_tries_grow, KB_GK_Job_init_1_tries_grow⟩ := kbn_of (ps := ["self", "name", "needs", "rank", "span", "tries", "wait", "grow"]) F_Job_init 2 ["tries", "grow"] (fun us its ws => us ++ ((its.drop 0).take 3) ++ ((ws.drop 0).take 1) ++ ((its.drop 4).take 1) ++ ((ws.drop 1).take 1)) (by decide) (fun r1 r2 r3 => (Vals.append (Vals.append (Vals.append (Vals.append r1 (Vals.take 3 (Vals.drop 0 r2))) (Vals.take 1 (Vals.drop 0 r3))) (Vals.take 1 (Vals.drop 4 r2))) (Vals.take 1 (Vals.drop 1 r3)))) (fun _ _ _ _ _ _ _ us its ws h1 h2 h3 => match us, its, ws, h1, h2, h3 with | [_, _], [_, _, _, _, _, _], [_, _], _, _, _ => ⟨_, rfl, rfl⟩)
  have GK_Job_init_1_tries_grow : MakRK l.prog w K mg base 4 "Job" a.cJob 1 ["tries", "grow"] (fun vs zs => vs ++ ((([.non, .int (0), .int (1), .int (1), .int (0), .int (1)] : List V).drop 0).take 3) ++ ((zs.drop 0).take 1) ++ ((([.non, .int (0), .int (1), .int (1), .int (0), .int (1)] : List V).drop 4).take 1) ++ ((zs.drop 1).take 1)) (lift (S_Job_init K a)) := makRK_of ⟨mk_Job, a_Job_init, i_Job_init, kc_Job⟩ T.m_Job KB_GK_Job_init_1_tries_grow O_Job_init
  obtain ⟨g_GK_Job_init_1_wait_grow, KB_GK_Job_init_1_wait_grow⟩ := kbn_of (ps := ["self", "name", "needs", "rank", "span", "tries", "wait", "grow"]) F_Job_init 2 ["wait", "grow"] (fun us its ws => us ++ ((its.drop 0).take 4) ++ ((ws.drop 0).take 2)) (by decide) (fun r1 r2 r3 => (Vals.append (Vals.append r1 (Vals.take 4 (Vals.drop 0 r2))) (Vals.take 2 (Vals.drop 0 r3)))) (fun _ _ _ _ _ _ _ us its ws h1 h2 h3 => match us, its, ws, h1, h2, h3 with | [_, _], [_, _, _, _, _, _], [_, _], _, _, _ => ⟨_, rfl, rfl⟩)
  have GK_Job_init_1_wait_grow : MakRK l.prog w K mg base 4 "Job" a.cJob 1 ["wait", "grow"] (fun vs zs => vs ++ ((([.non, .int (0), .int (1), .int (1), .int (0), .int (1)] : List V).drop 0).take 4) ++ ((zs.drop 0).take 2)) (lift (S_Job_init K a)) := makRK_of ⟨mk_Job, a_Job_init, i_Job_init, kc_Job⟩ T.m_Job KB_GK_Job_init_1_wait_grow O_Job_init
  obtain ⟨g_GK_Job_init_6, KB_GK_Job_init_6⟩ := kbn_of (ps := ["self", "name", "needs", "rank", "span", "tries", "wait", "grow"]) F_Job_init 7 [] (fun us its ws => us ++ ((its.drop 5).take 1)) (by decide) (fun r1 r2 r3 => (Vals.append r1 (Vals.take 1 (Vals.drop 5 r2)))) (fun _ _ _ _ _ _ _ us its ws h1 h2 h3 => match us, its, ws, h1, h2, h3 with | [_, _, _, _, _, _, _], [_, _, _, _, _, _], [], _, _, _ => ⟨_, rfl, rfl⟩)
  have GK_Job_init_6 : MakRK l.prog w K mg base 4 "Job" a.cJob 6 [] (fun vs zs => vs ++ ((([.non, .int (0), .int (1), .int (1), .int (0), .int (1)] : List V).drop 5).take 1)) (lift (S_Job_init K a)) := makRK_of ⟨mk_Job, a_Job_init, i_Job_init, kc_Job⟩ T.m_Job KB_GK_Job_init_6 O_Job_init
  have O_law_job_good := mk_fn (σ0 := fun _ => []) (P := l.prog) (w := w) (mg := mg) (base := base) (k := 5) (sp := S_law_job_good K a) F_law_job_good sc_law_job_good (by intro vs A Φ Ψ; unfold S_law_job_good; walk_at "len") (fun cdv A outer s H E hr => dv_law_job_good T G_Job_init G_law_asked GK_Job_init_1_tries_grow GK_Job_init_1_wait_grow GK_Job_init_6 hr) (fun vs A Φ Ψ E hx h => w_law_job_good T h hx)
  have G_law_job_good := defR_of F_law_job_good (PySem.W.mg_of X G a_law_job_good) B_law_job_good O_law_job_good
  have O_law := mk_fn (σ0 := fun _ => []) (P := l.prog) (w := w) (mg := mg) (base := base) (k := 6) (sp := S_law K a) F_law sc_law (by intro vs A Φ Ψ; unfold S_law; walk_at "len") (fun cdv A outer s H E hr => dv_law T G_law_cell_at G_law_job_good G_law_mixed G_law_names G_law_whole hr) (fun vs A Φ Ψ E hx h => w_law T h hx)
  exact O_law
theorem all_mk {l : PySem.W.OpenLaw} {w : World} {K : PySem.W.Frag} {h : Heap} {mg : Str → Option Value} {fa : Addr} {cJob : Addr} {gLEAST : Addr} {gMOST : Addr}  {tk_MOST_WAIT : Tok} {tk_LETTERS : Tok} {tk_MOST_LETTERS : Tok} {tk_MOST_NEEDS : Tok} {tk_LEAST_0 : Tok} {tk_LEAST_1 : Tok} {tk_LEAST_2 : Tok} {tk_LEAST_3 : Tok} {tk_LEAST_4 : Tok} {od_LEAST : Option Addr} {sz_LEAST : Nat} {sl_LEAST : Array (Option Value)} {tk_MOST_0 : Tok} {tk_MOST_1 : Tok} {tk_MOST_2 : Tok} {tk_MOST_3 : Tok} {tk_MOST_4 : Tok} {od_MOST : Option Addr} {sz_MOST : Nat} {sl_MOST : Array (Option Value)} {oc_wait_after : Value} {od_wait_after : Option Addr} {kV_wait_after : Value} {dc_wait_after : Value} {pm_wait_after : Value} {an_wait_after : Option Addr} {cd_wait_after : Value} {ct_wait_after : Value} {sl_wait_after : Array (Option Value)} {f_wait_after : Addr} {oc_rest_sum : Value} {od_rest_sum : Option Addr} {kV_rest_sum : Value} {dc_rest_sum : Value} {pm_rest_sum : Value} {an_rest_sum : Option Addr} {cd_rest_sum : Value} {ct_rest_sum : Value} {sl_rest_sum : Array (Option Value)} {f_rest_sum : Addr} {oc_is_whole : Value} {od_is_whole : Option Addr} {kV_is_whole : Value} {dc_is_whole : Value} {pm_is_whole : Value} {an_is_whole : Option Addr} {cd_is_whole : Value} {ct_is_whole : Value} {sl_is_whole : Array (Option Value)} {f_is_whole : Addr} {oc_is_among : Value} {od_is_among : Option Addr} {kV_is_among : Value} {dc_is_among : Value} {pm_is_among : Value} {an_is_among : Option Addr} {cd_is_among : Value} {ct_is_among : Value} {sl_is_among : Array (Option Value)} {f_is_among : Addr} {oc_is_made_of : Value} {od_is_made_of : Option Addr} {kV_is_made_of : Value} {dc_is_made_of : Value} {pm_is_made_of : Value} {an_is_made_of : Option Addr} {cd_is_made_of : Value} {ct_is_made_of : Value} {sl_is_made_of : Array (Option Value)} {f_is_made_of : Addr} {oc_is_name : Value} {od_is_name : Option Addr} {kV_is_name : Value} {dc_is_name : Value} {pm_is_name : Value} {an_is_name : Option Addr} {cd_is_name : Value} {ct_is_name : Value} {sl_is_name : Array (Option Value)} {f_is_name : Addr} {oc_own_needs : Value} {od_own_needs : Option Addr} {kV_own_needs : Value} {dc_own_needs : Value} {pm_own_needs : Value} {an_own_needs : Option Addr} {cd_own_needs : Value} {ct_own_needs : Value} {sl_own_needs : Array (Option Value)} {f_own_needs : Addr} {oc_need_numbers : Value} {od_need_numbers : Option Addr} {kV_need_numbers : Value} {dc_need_numbers : Value} {pm_need_numbers : Value} {an_need_numbers : Option Addr} {cd_need_numbers : Value} {ct_need_numbers : Value} {sl_need_numbers : Array (Option Value)} {f_need_numbers : Addr} {D_Job_init : Addr} {oc_Job_init : Value} {od_Job_init : Option Addr} {kV_Job_init : Value} {dc_Job_init : Value} {pm_Job_init : Value} {an_Job_init : Option Addr} {cd_Job_init : Value} {ct_Job_init : Value} {sl_Job_init : Array (Option Value)} {f_Job_init : Addr} {dt_Job_init_1 : Tok} {dt_Job_init_2 : Tok} {dt_Job_init_3 : Tok} {dt_Job_init_4 : Tok} {dt_Job_init_5 : Tok} {doc_Job_init : Value} {dod_Job_init : Option Addr} {dn_Job_init : Nat} {dsl_Job_init : Array (Option Value)} {oc_law_cell_at : Value} {od_law_cell_at : Option Addr} {kV_law_cell_at : Value} {dc_law_cell_at : Value} {pm_law_cell_at : Value} {an_law_cell_at : Option Addr} {cd_law_cell_at : Value} {ct_law_cell_at : Value} {sl_law_cell_at : Array (Option Value)} {f_law_cell_at : Addr} {oc_law_mixed : Value} {od_law_mixed : Option Addr} {kV_law_mixed : Value} {dc_law_mixed : Value} {pm_law_mixed : Value} {an_law_mixed : Option Addr} {cd_law_mixed : Value} {ct_law_mixed : Value} {sl_law_mixed : Array (Option Value)} {f_law_mixed : Addr} {oc_law_whole : Value} {od_law_whole : Option Addr} {kV_law_whole : Value} {dc_law_whole : Value} {pm_law_whole : Value} {an_law_whole : Option Addr} {cd_law_whole : Value} {ct_law_whole : Value} {sl_law_whole : Array (Option Value)} {f_law_whole : Addr} {oc_law_names : Value} {od_law_names : Option Addr} {kV_law_names : Value} {dc_law_names : Value} {pm_law_names : Value} {an_law_names : Option Addr} {cd_law_names : Value} {ct_law_names : Value} {sl_law_names : Array (Option Value)} {f_law_names : Addr} {oc_law_due : Value} {od_law_due : Option Addr} {kV_law_due : Value} {dc_law_due : Value} {pm_law_due : Value} {an_law_due : Option Addr} {cd_law_due : Value} {ct_law_due : Value} {sl_law_due : Array (Option Value)} {f_law_due : Addr} {oc_law_asked : Value} {od_law_asked : Option Addr} {kV_law_asked : Value} {dc_law_asked : Value} {pm_law_asked : Value} {an_law_asked : Option Addr} {cd_law_asked : Value} {ct_law_asked : Value} {sl_law_asked : Array (Option Value)} {f_law_asked : Addr} {oc_law_job_good : Value} {od_law_job_good : Option Addr} {kV_law_job_good : Value} {dc_law_job_good : Value} {pm_law_job_good : Value} {an_law_job_good : Option Addr} {cd_law_job_good : Value} {ct_law_job_good : Value} {sl_law_job_good : Array (Option Value)} {f_law_job_good : Addr} {oc_law : Value} {od_law : Option Addr} {kV_law : Value} {dc_law : Value} {pm_law : Value} {an_law : Option Addr} {cd_law : Value} {ct_law : Value} {sl_law : Array (Option Value)} {f_law : Addr} (X : K.In h) (G : h.Ns mainGlobals mg) (hfa : mg "law" = some (.ref fa))
    (g_MOST_WAIT : PySem.W.nsIn K mainGlobals "MOST_WAIT" = some (some (.int (100000) tk_MOST_WAIT)))
    (g_LETTERS : PySem.W.nsIn K mainGlobals "LETTERS" = some (some (.str "abcdefghijklmnopqrstuvwxyz" tk_LETTERS)))
    (g_MOST_LETTERS : PySem.W.nsIn K mainGlobals "MOST_LETTERS" = some (some (.int (12) tk_MOST_LETTERS)))
    (g_MOST_NEEDS : PySem.W.nsIn K mainGlobals "MOST_NEEDS" = some (some (.int (8) tk_MOST_NEEDS)))
    (g_LEAST : PySem.W.nsIn K mainGlobals "LEAST" = some (some (.ref gLEAST)))
    (k_LEAST : K.lookup gLEAST = some ⟨.type "tuple", od_LEAST, .seq (List.toArray [.int (0) tk_LEAST_0, .int (1) tk_LEAST_1, .int (1) tk_LEAST_2, .int (0) tk_LEAST_3, .int (1) tk_LEAST_4]) sz_LEAST, sl_LEAST⟩)
    (g_MOST : PySem.W.nsIn K mainGlobals "MOST" = some (some (.ref gMOST)))
    (k_MOST : K.lookup gMOST = some ⟨.type "tuple", od_MOST, .seq (List.toArray [.int (99) tk_MOST_0, .int (1000) tk_MOST_1, .int (20) tk_MOST_2, .int (1000) tk_MOST_3, .int (4) tk_MOST_4]) sz_MOST, sl_MOST⟩)
    (b_bool : PySem.W.nsIn K mainGlobals "bool" = some none)
    (b_enumerate : PySem.W.nsIn K mainGlobals "enumerate" = some none)
    (b_int : PySem.W.nsIn K mainGlobals "int" = some none)
    (b_isinstance : PySem.W.nsIn K mainGlobals "isinstance" = some none)
    (b_len : PySem.W.nsIn K mainGlobals "len" = some none)
    (b_list : PySem.W.nsIn K mainGlobals "list" = some none)
    (b_max : PySem.W.nsIn K mainGlobals "max" = some none)
    (b_min : PySem.W.nsIn K mainGlobals "min" = some none)
    (b_range : PySem.W.nsIn K mainGlobals "range" = some none)
    (b_set : PySem.W.nsIn K mainGlobals "set" = some none)
    (b_str : PySem.W.nsIn K mainGlobals "str" = some none)
    (b_sum : PySem.W.nsIn K mainGlobals "sum" = some none)
    (b_tuple : PySem.W.nsIn K mainGlobals "tuple" = some none)
    (m_Job : PySem.W.nsIn K mainGlobals "Job" = some (some (.ref cJob)))
    (pg_Job : PySem.W.plainGet K cJob Str.empty = true)
    (hd_Job : PySem.W.hasDictIn K cJob = true)
    (po_Job : PySem.W.plainOver K cJob = true)
    (sa_Job : PySem.W.findIn K (.ref cJob) "__setattr__" = some (some (.builtin "object.__setattr__")))
    (mk_Job : PySem.W.makesIn K cJob = true)
    (kc_Job : PySem.W.keepIn K (.ref cJob) = true)
    (ia_Job : PySem.W.findIn K (.ref cJob) "__class__" = some (some (.builtin "object.__class__")))
    (im_Job : PySem.W.mroIn K cJob (.type "object") = some true)
    (n_Job_name : PySem.W.findIn K (.ref cJob) "name" = some none)
    (n_Job_needs : PySem.W.findIn K (.ref cJob) "needs" = some none)
    (n_Job_rank : PySem.W.findIn K (.ref cJob) "rank" = some none)
    (n_Job_span : PySem.W.findIn K (.ref cJob) "span" = some none)
    (n_Job_tries : PySem.W.findIn K (.ref cJob) "tries" = some none)
    (n_Job_wait : PySem.W.findIn K (.ref cJob) "wait" = some none)
    (n_Job_grow : PySem.W.findIn K (.ref cJob) "grow" = some none)
    (zz_n : PySem.W.specialIn K (.builtin "object.__class__") "__get__" = some (some (.builtin "getset_descriptor.__get__")))
    (zz_t : PySem.W.takesIn K (.builtin "object.__class__") = some true)
    (a_wait_after : PySem.W.nsIn K mainGlobals "wait_after" = some (some (.ref f_wait_after)))
    (l_wait_after : K.lookup f_wait_after = some ⟨oc_wait_after, od_wait_after, .func (PySem.W.fnOf "wait_after" "wait_after" (defArgs s_wait_after) (defBody s_wait_after) (defScope s_wait_after) .none kV_wait_after dc_wait_after pm_wait_after an_wait_after cd_wait_after ct_wait_after), sl_wait_after⟩)
    (c_wait_after : PySem.W.codeIn K cd_wait_after "wait_after" = true)
    (k_wait_after : PySem.W.keepIn K (.ref f_wait_after) = true)
    (a_rest_sum : PySem.W.nsIn K mainGlobals "rest_sum" = some (some (.ref f_rest_sum)))
    (l_rest_sum : K.lookup f_rest_sum = some ⟨oc_rest_sum, od_rest_sum, .func (PySem.W.fnOf "rest_sum" "rest_sum" (defArgs s_rest_sum) (defBody s_rest_sum) (defScope s_rest_sum) .none kV_rest_sum dc_rest_sum pm_rest_sum an_rest_sum cd_rest_sum ct_rest_sum), sl_rest_sum⟩)
    (c_rest_sum : PySem.W.codeIn K cd_rest_sum "rest_sum" = true)
    (k_rest_sum : PySem.W.keepIn K (.ref f_rest_sum) = true)
    (a_is_whole : PySem.W.nsIn K mainGlobals "is_whole" = some (some (.ref f_is_whole)))
    (l_is_whole : K.lookup f_is_whole = some ⟨oc_is_whole, od_is_whole, .func (PySem.W.fnOf "is_whole" "is_whole" (defArgs s_is_whole) (defBody s_is_whole) (defScope s_is_whole) .none kV_is_whole dc_is_whole pm_is_whole an_is_whole cd_is_whole ct_is_whole), sl_is_whole⟩)
    (c_is_whole : PySem.W.codeIn K cd_is_whole "is_whole" = true)
    (k_is_whole : PySem.W.keepIn K (.ref f_is_whole) = true)
    (a_is_among : PySem.W.nsIn K mainGlobals "is_among" = some (some (.ref f_is_among)))
    (l_is_among : K.lookup f_is_among = some ⟨oc_is_among, od_is_among, .func (PySem.W.fnOf "is_among" "is_among" (defArgs s_is_among) (defBody s_is_among) (defScope s_is_among) .none kV_is_among dc_is_among pm_is_among an_is_among cd_is_among ct_is_among), sl_is_among⟩)
    (c_is_among : PySem.W.codeIn K cd_is_among "is_among" = true)
    (k_is_among : PySem.W.keepIn K (.ref f_is_among) = true)
    (a_is_made_of : PySem.W.nsIn K mainGlobals "is_made_of" = some (some (.ref f_is_made_of)))
    (l_is_made_of : K.lookup f_is_made_of = some ⟨oc_is_made_of, od_is_made_of, .func (PySem.W.fnOf "is_made_of" "is_made_of" (defArgs s_is_made_of) (defBody s_is_made_of) (defScope s_is_made_of) .none kV_is_made_of dc_is_made_of pm_is_made_of an_is_made_of cd_is_made_of ct_is_made_of), sl_is_made_of⟩)
    (c_is_made_of : PySem.W.codeIn K cd_is_made_of "is_made_of" = true)
    (k_is_made_of : PySem.W.keepIn K (.ref f_is_made_of) = true)
    (a_is_name : PySem.W.nsIn K mainGlobals "is_name" = some (some (.ref f_is_name)))
    (l_is_name : K.lookup f_is_name = some ⟨oc_is_name, od_is_name, .func (PySem.W.fnOf "is_name" "is_name" (defArgs s_is_name) (defBody s_is_name) (defScope s_is_name) .none kV_is_name dc_is_name pm_is_name an_is_name cd_is_name ct_is_name), sl_is_name⟩)
    (c_is_name : PySem.W.codeIn K cd_is_name "is_name" = true)
    (k_is_name : PySem.W.keepIn K (.ref f_is_name) = true)
    (a_own_needs : PySem.W.nsIn K mainGlobals "own_needs" = some (some (.ref f_own_needs)))
    (l_own_needs : K.lookup f_own_needs = some ⟨oc_own_needs, od_own_needs, .func (PySem.W.fnOf "own_needs" "own_needs" (defArgs s_own_needs) (defBody s_own_needs) (defScope s_own_needs) .none kV_own_needs dc_own_needs pm_own_needs an_own_needs cd_own_needs ct_own_needs), sl_own_needs⟩)
    (c_own_needs : PySem.W.codeIn K cd_own_needs "own_needs" = true)
    (k_own_needs : PySem.W.keepIn K (.ref f_own_needs) = true)
    (a_need_numbers : PySem.W.nsIn K mainGlobals "need_numbers" = some (some (.ref f_need_numbers)))
    (l_need_numbers : K.lookup f_need_numbers = some ⟨oc_need_numbers, od_need_numbers, .func (PySem.W.fnOf "need_numbers" "need_numbers" (defArgs s_need_numbers) (defBody s_need_numbers) (defScope s_need_numbers) .none kV_need_numbers dc_need_numbers pm_need_numbers an_need_numbers cd_need_numbers ct_need_numbers), sl_need_numbers⟩)
    (c_need_numbers : PySem.W.codeIn K cd_need_numbers "need_numbers" = true)
    (k_need_numbers : PySem.W.keepIn K (.ref f_need_numbers) = true)
    (a_Job_init : PySem.W.findIn K (.ref cJob) "__init__" = some (some (.ref f_Job_init)))
    (i_Job_init : PySem.W.isFn K (.ref f_Job_init) = true)
    (l_Job_init : K.lookup f_Job_init = some ⟨oc_Job_init, od_Job_init, .func (PySem.W.fnOf "__init__" "Job.__init__" (defArgs s_Job_init) (defBody s_Job_init) (defScope s_Job_init) (.ref D_Job_init) kV_Job_init dc_Job_init pm_Job_init an_Job_init cd_Job_init ct_Job_init), sl_Job_init⟩)
    (c_Job_init : PySem.W.codeIn K cd_Job_init "Job.__init__" = true)
    (k_Job_init : PySem.W.keepIn K (.ref f_Job_init) = true)
    (dl_Job_init : K.lookup D_Job_init = some ⟨doc_Job_init, dod_Job_init, .seq (List.toArray [.none, .int (0) dt_Job_init_1, .int (1) dt_Job_init_2, .int (1) dt_Job_init_3, .int (0) dt_Job_init_4, .int (1) dt_Job_init_5]) dn_Job_init, dsl_Job_init⟩)
    (a_law_cell_at : PySem.W.nsIn K mainGlobals "_law_cell_at" = some (some (.ref f_law_cell_at)))
    (l_law_cell_at : K.lookup f_law_cell_at = some ⟨oc_law_cell_at, od_law_cell_at, .func (PySem.W.fnOf "_law_cell_at" "_law_cell_at" (defArgs s_law_cell_at) (defBody s_law_cell_at) (defScope s_law_cell_at) .none kV_law_cell_at dc_law_cell_at pm_law_cell_at an_law_cell_at cd_law_cell_at ct_law_cell_at), sl_law_cell_at⟩)
    (c_law_cell_at : PySem.W.codeIn K cd_law_cell_at "_law_cell_at" = true)
    (k_law_cell_at : PySem.W.keepIn K (.ref f_law_cell_at) = true)
    (a_law_mixed : PySem.W.nsIn K mainGlobals "_law_mixed" = some (some (.ref f_law_mixed)))
    (l_law_mixed : K.lookup f_law_mixed = some ⟨oc_law_mixed, od_law_mixed, .func (PySem.W.fnOf "_law_mixed" "_law_mixed" (defArgs s_law_mixed) (defBody s_law_mixed) (defScope s_law_mixed) .none kV_law_mixed dc_law_mixed pm_law_mixed an_law_mixed cd_law_mixed ct_law_mixed), sl_law_mixed⟩)
    (c_law_mixed : PySem.W.codeIn K cd_law_mixed "_law_mixed" = true)
    (k_law_mixed : PySem.W.keepIn K (.ref f_law_mixed) = true)
    (a_law_whole : PySem.W.nsIn K mainGlobals "_law_whole" = some (some (.ref f_law_whole)))
    (l_law_whole : K.lookup f_law_whole = some ⟨oc_law_whole, od_law_whole, .func (PySem.W.fnOf "_law_whole" "_law_whole" (defArgs s_law_whole) (defBody s_law_whole) (defScope s_law_whole) .none kV_law_whole dc_law_whole pm_law_whole an_law_whole cd_law_whole ct_law_whole), sl_law_whole⟩)
    (c_law_whole : PySem.W.codeIn K cd_law_whole "_law_whole" = true)
    (k_law_whole : PySem.W.keepIn K (.ref f_law_whole) = true)
    (a_law_names : PySem.W.nsIn K mainGlobals "_law_names" = some (some (.ref f_law_names)))
    (l_law_names : K.lookup f_law_names = some ⟨oc_law_names, od_law_names, .func (PySem.W.fnOf "_law_names" "_law_names" (defArgs s_law_names) (defBody s_law_names) (defScope s_law_names) .none kV_law_names dc_law_names pm_law_names an_law_names cd_law_names ct_law_names), sl_law_names⟩)
    (c_law_names : PySem.W.codeIn K cd_law_names "_law_names" = true)
    (k_law_names : PySem.W.keepIn K (.ref f_law_names) = true)
    (a_law_due : PySem.W.nsIn K mainGlobals "_law_due" = some (some (.ref f_law_due)))
    (l_law_due : K.lookup f_law_due = some ⟨oc_law_due, od_law_due, .func (PySem.W.fnOf "_law_due" "_law_due" (defArgs s_law_due) (defBody s_law_due) (defScope s_law_due) .none kV_law_due dc_law_due pm_law_due an_law_due cd_law_due ct_law_due), sl_law_due⟩)
    (c_law_due : PySem.W.codeIn K cd_law_due "_law_due" = true)
    (k_law_due : PySem.W.keepIn K (.ref f_law_due) = true)
    (a_law_asked : PySem.W.nsIn K mainGlobals "_law_asked" = some (some (.ref f_law_asked)))
    (l_law_asked : K.lookup f_law_asked = some ⟨oc_law_asked, od_law_asked, .func (PySem.W.fnOf "_law_asked" "_law_asked" (defArgs s_law_asked) (defBody s_law_asked) (defScope s_law_asked) .none kV_law_asked dc_law_asked pm_law_asked an_law_asked cd_law_asked ct_law_asked), sl_law_asked⟩)
    (c_law_asked : PySem.W.codeIn K cd_law_asked "_law_asked" = true)
    (k_law_asked : PySem.W.keepIn K (.ref f_law_asked) = true)
    (a_law_job_good : PySem.W.nsIn K mainGlobals "_law_job_good" = some (some (.ref f_law_job_good)))
    (l_law_job_good : K.lookup f_law_job_good = some ⟨oc_law_job_good, od_law_job_good, .func (PySem.W.fnOf "_law_job_good" "_law_job_good" (defArgs s_law_job_good) (defBody s_law_job_good) (defScope s_law_job_good) .none kV_law_job_good dc_law_job_good pm_law_job_good an_law_job_good cd_law_job_good ct_law_job_good), sl_law_job_good⟩)
    (c_law_job_good : PySem.W.codeIn K cd_law_job_good "_law_job_good" = true)
    (k_law_job_good : PySem.W.keepIn K (.ref f_law_job_good) = true)
    (a_law : PySem.W.nsIn K mainGlobals "law" = some (some (.ref f_law)))
    (l_law : K.lookup f_law = some ⟨oc_law, od_law, .func (PySem.W.fnOf "law" "law" (defArgs s_law) (defBody s_law) (defScope s_law) .none kV_law dc_law pm_law an_law cd_law ct_law), sl_law⟩)
    (c_law : PySem.W.codeIn K cd_law "law" = true)
    (k_law : PySem.W.keepIn K (.ref f_law) = true) :
    ∃ fd : FuncData, (∀ (s : Shared) (v : Value), BindsTo s fd ⟨[v], []⟩ [("_law_script", v)]) ∧ ∀ base : Heap, K.In base → base.Ns mainGlobals mg → FnOk l.prog w K mg base (L2.CX l.prog w) 7 fa fd ["_law_script"] (lift (S_law K ⟨0, 0, 0, 0, 0, 0, 0⟩)) := by
  exact all_mk' (a := ⟨0, 0, 0, 0, cJob, gLEAST, gMOST⟩) X G hfa g_MOST_WAIT g_LETTERS g_MOST_LETTERS g_MOST_NEEDS g_LEAST k_LEAST g_MOST k_MOST b_bool b_enumerate b_int b_isinstance b_len b_list b_max b_min b_range b_set b_str b_sum b_tuple m_Job pg_Job hd_Job po_Job sa_Job mk_Job kc_Job ia_Job im_Job n_Job_name n_Job_needs n_Job_rank n_Job_span n_Job_tries n_Job_wait n_Job_grow zz_n zz_t a_wait_after l_wait_after c_wait_after k_wait_after a_rest_sum l_rest_sum c_rest_sum k_rest_sum a_is_whole l_is_whole c_is_whole k_is_whole a_is_among l_is_among c_is_among k_is_among a_is_made_of l_is_made_of c_is_made_of k_is_made_of a_is_name l_is_name c_is_name k_is_name a_own_needs l_own_needs c_own_needs k_own_needs a_need_numbers l_need_numbers c_need_numbers k_need_numbers a_Job_init i_Job_init l_Job_init c_Job_init k_Job_init dl_Job_init a_law_cell_at l_law_cell_at c_law_cell_at k_law_cell_at a_law_mixed l_law_mixed c_law_mixed k_law_mixed a_law_whole l_law_whole c_law_whole k_law_whole a_law_names l_law_names c_law_names k_law_names a_law_due l_law_due c_law_due k_law_due a_law_asked l_law_asked c_law_asked k_law_asked a_law_job_good l_law_job_good c_law_job_good k_law_job_good a_law l_law c_law k_law
theorem walk {l : PySem.W.OpenLaw} {q : Program} {loose : List Str} {XP : (Str → Option Value) → Heap → Prop} {YP : World → Heap → Prop} {d : DefRec} {K : Params → PySem.W.Frag} (hn : l.most = some 63) (hdf : d.params.defaults = [])
    (hY : ∀ (w : World) (h : Heap), YP w h → (K w.params).In h)
    (F : ∀ (w : World) (mg : Str → Option Value) (fa : Addr) (h : Heap), (K w.params).In h → h.Ns mainGlobals mg → mg d.name = some (.ref fa) →
      ∃ fd : FuncData, (∀ (s : Shared) (u : Value), BindsTo s fd ⟨[u], []⟩ [("_law_script", u)]) ∧ ∀ base : Heap, (K w.params).In base → base.Ns mainGlobals mg → FnOk l.prog w (K w.params) mg base (L2.CX l.prog w) 7 fa fd ["_law_script"] (lift (S_law (K w.params) ⟨0, 0, 0, 0, 0, 0, 0⟩))) :
    PySem.W.WalkO q loose XP YP l.row.toRowW d [] (fun f vs => PySem.call f vs) :=
  L2.walk_ofB (n := 63) (k := 7) (x := "_law_script") (CX := fun w => L2.CX l.prog w) (sp := fun w => lift (S_law (K w.params) ⟨0, 0, 0, 0, 0, 0, 0⟩)) hn (by decide) hdf ⟨rfl, by decide, by decide⟩ hY F (fun w H a ns hl hb _ hS => law_in hS fun A hA => ⟨a, ns, rfl, hA, hl, fun z hz => cell_bits (hb z hz), rfl⟩) fun w H s e s' z => cx_no z

end S
open PySem PySem.W PyProof.Rows in
set_option maxRecDepth 100000 in
set_option maxHeartbeats 0 in
theorem PySem.Challenge.cw_buildhall_k07_rests_behind_failings_holds : PySem.Challenge.rw_buildhall_k07_rests_behind_failings.Holds := by
  w_on; o_law; k_head; (case hw => w_witness2)
  k_fill
  refine S.walk (l := PySem.Challenge.rw_buildhall_k07_rests_behind_failings) rfl rfl (fun w h Y => PySem.W.kIn_of Y) ?F
  case F =>
    intro w mg fa h KX G hmg0
    have hmg : mg (PySem.Str.ofString "law") = some (.ref fa) := hmg0
    clear hmg0
    refine' S.all_mk KX G hmg ?g_MOST_WAIT ?g_LETTERS ?g_MOST_LETTERS ?g_MOST_NEEDS ?g_LEAST ?k_LEAST ?g_MOST ?k_MOST ?b_bool ?b_enumerate ?b_int ?b_isinstance ?b_len ?b_list ?b_max ?b_min ?b_range ?b_set ?b_str ?b_sum ?b_tuple ?m_Job ?pg_Job ?hd_Job ?po_Job ?sa_Job ?mk_Job ?kc_Job ?ia_Job ?im_Job ?n_Job_name ?n_Job_needs ?n_Job_rank ?n_Job_span ?n_Job_tries ?n_Job_wait ?n_Job_grow ?zz_n ?zz_t ?a_wait_after ?l_wait_after ?c_wait_after ?k_wait_after ?a_rest_sum ?l_rest_sum ?c_rest_sum ?k_rest_sum ?a_is_whole ?l_is_whole ?c_is_whole ?k_is_whole ?a_is_among ?l_is_among ?c_is_among ?k_is_among ?a_is_made_of ?l_is_made_of ?c_is_made_of ?k_is_made_of ?a_is_name ?l_is_name ?c_is_name ?k_is_name ?a_own_needs ?l_own_needs ?c_own_needs ?k_own_needs ?a_need_numbers ?l_need_numbers ?c_need_numbers ?k_need_numbers ?a_Job_init ?i_Job_init ?l_Job_init ?c_Job_init ?k_Job_init ?dl_Job_init ?a_law_cell_at ?l_law_cell_at ?c_law_cell_at ?k_law_cell_at ?a_law_mixed ?l_law_mixed ?c_law_mixed ?k_law_mixed ?a_law_whole ?l_law_whole ?c_law_whole ?k_law_whole ?a_law_names ?l_law_names ?c_law_names ?k_law_names ?a_law_due ?l_law_due ?c_law_due ?k_law_due ?a_law_asked ?l_law_asked ?c_law_asked ?k_law_asked ?a_law_job_good ?l_law_job_good ?c_law_job_good ?k_law_job_good ?a_law ?l_law ?c_law ?k_law
    (case g_MOST_WAIT => k_is)
    (case g_LETTERS => k_is)
    (case g_MOST_LETTERS => k_is)
    (case g_MOST_NEEDS => k_is)
    (case g_LEAST => k_is)
    (case k_LEAST => k_is)
    (case g_MOST => k_is)
    (case k_MOST => k_is)
    (case b_bool => k_is)
    (case b_enumerate => k_is)
    (case b_int => k_is)
    (case b_isinstance => k_is)
    (case b_len => k_is)
    (case b_list => k_is)
    (case b_max => k_is)
    (case b_min => k_is)
    (case b_range => k_is)
    (case b_set => k_is)
    (case b_str => k_is)
    (case b_sum => k_is)
    (case b_tuple => k_is)
    (case m_Job => k_is)
    (case pg_Job => k_is)
    (case hd_Job => k_is)
    (case po_Job => k_is)
    (case sa_Job => k_is)
    (case mk_Job => k_is)
    (case kc_Job => k_is)
    (case ia_Job => k_is)
    (case im_Job => k_is)
    (case n_Job_name => k_is)
    (case n_Job_needs => k_is)
    (case n_Job_rank => k_is)
    (case n_Job_span => k_is)
    (case n_Job_tries => k_is)
    (case n_Job_wait => k_is)
    (case n_Job_grow => k_is)
    (case zz_n => k_is)
    (case zz_t => k_is)
    (case a_wait_after => k_is)
    (case l_wait_after => k_is)
    (case c_wait_after => k_is)
    (case k_wait_after => k_is)
    (case a_rest_sum => k_is)
    (case l_rest_sum => k_is)
    (case c_rest_sum => k_is)
    (case k_rest_sum => k_is)
    (case a_is_whole => k_is)
    (case l_is_whole => k_is)
    (case c_is_whole => k_is)
    (case k_is_whole => k_is)
    (case a_is_among => k_is)
    (case l_is_among => k_is)
    (case c_is_among => k_is)
    (case k_is_among => k_is)
    (case a_is_made_of => k_is)
    (case l_is_made_of => k_is)
    (case c_is_made_of => k_is)
    (case k_is_made_of => k_is)
    (case a_is_name => k_is)
    (case l_is_name => k_is)
    (case c_is_name => k_is)
    (case k_is_name => k_is)
    (case a_own_needs => k_is)
    (case l_own_needs => k_is)
    (case c_own_needs => k_is)
    (case k_own_needs => k_is)
    (case a_need_numbers => k_is)
    (case l_need_numbers => k_is)
    (case c_need_numbers => k_is)
    (case k_need_numbers => k_is)
    (case a_Job_init => k_is)
    (case i_Job_init => k_is)
    (case l_Job_init => k_is)
    (case c_Job_init => k_is)
    (case k_Job_init => k_is)
    (case dl_Job_init => k_is)
    (case a_law_cell_at => k_is)
    (case l_law_cell_at => k_is)
    (case c_law_cell_at => k_is)
    (case k_law_cell_at => k_is)
    (case a_law_mixed => k_is)
    (case l_law_mixed => k_is)
    (case c_law_mixed => k_is)
    (case k_law_mixed => k_is)
    (case a_law_whole => k_is)
    (case l_law_whole => k_is)
    (case c_law_whole => k_is)
    (case k_law_whole => k_is)
    (case a_law_names => k_is)
    (case l_law_names => k_is)
    (case c_law_names => k_is)
    (case k_law_names => k_is)
    (case a_law_due => k_is)
    (case l_law_due => k_is)
    (case c_law_due => k_is)
    (case k_law_due => k_is)
    (case a_law_asked => k_is)
    (case l_law_asked => k_is)
    (case c_law_asked => k_is)
    (case k_law_asked => k_is)
    (case a_law_job_good => k_is)
    (case l_law_job_good => k_is)
    (case c_law_job_good => k_is)
    (case k_law_job_good => k_is)
    (case a_law => k_is)
    (case l_law => k_is)
    (case c_law => k_is)
    (case k_law => k_is)
