import PyProof.Rows.All
import Wide.All
import OpenK.AllK
import Wide.FinOn
import HandS.ForMost
import HandS.ForExc
import HandS.IsInst
import HandS.Defaults
import HandS.CallSlots
import HandS.Star
import HandS.Wide
import HandS.TupLe
import HandS.SortInts
import HandS.EndBits
import HandS.MakeKw
import HandS.Style
import HandS.Conv
import HandS.Codes
import HandS.Zip
import PySem.Challenge.RW_buildhall_k05_rings_and_orders
set_option Elab.async false
set_option linter.all false
set_option maxRecDepth 100000
set_option maxHeartbeats 4000000
namespace S
open PySem L2

/-! ### symbolic heaps: a list of parts that stand apart -/
abbrev SH := List Hp
def Sub (h H : Hp) : Prop := ∀ a o, h a = some o → H a = some o
def Dj (h g : Hp) : Prop := ∀ a o u, h a = some o → g a = some u → False
def Has (H : Hp) (A : SH) : Prop := (∀ h ∈ A, Sub h H) ∧ A.Pairwise Dj
def sg (p : Addr) (o : HO) : Hp := fun a => if a = p then some o else none
def emp : Hp := fun _ => none
/-- what stands in A' stands in A, too -/
def Le (A A' : SH) : Prop := ∀ H, Has H A' → Has H A
inductive Pull : SH → Hp → SH → Prop
  | head {h : Hp} {A : SH} : Pull (h :: A) h A
  | tail {h g : Hp} {A B : SH} : Pull A h B → Pull (g :: A) h (g :: B)

theorem sg_same {p : Addr} {o : HO} : sg p o p = some o := by unfold sg; rw [if_pos rfl]
theorem sg_some {p a : Addr} {o u : HO} (h : sg p o a = some u) : a = p ∧ u = o := by
  unfold sg at h
  by_cases e : a = p
  · rw [if_pos e] at h
    exact ⟨e, (Option.some.inj h).symm⟩
  · rw [if_neg e] at h
    cases h
theorem Dj.symm {h g : Hp} (d : Dj h g) : Dj g h := fun a o u x y => d a u o y x
theorem Has.nil {H : Hp} : Has H [] := ⟨fun _ h => (nomatch h), .nil⟩
theorem Has.tail {H h : Hp} {A : SH} (x : Has H (h :: A)) : Has H A := ⟨fun g hg => x.1 g (List.mem_cons_of_mem _ hg), (List.pairwise_cons.mp x.2).2⟩
theorem Has.head {H h : Hp} {A : SH} (x : Has H (h :: A)) : Sub h H := x.1 h List.mem_cons_self
theorem Has.dj {H h g : Hp} {A : SH} (x : Has H (h :: A)) (hg : g ∈ A) : Dj h g := (List.pairwise_cons.mp x.2).1 g hg
theorem Has.cons {H h : Hp} {A : SH} (x : Has H A) (s : Sub h H) (d : ∀ g ∈ A, Dj h g) : Has H (h :: A) :=
  ⟨fun g hg => by
    rcases List.mem_cons.mp hg with e | hg
    · rw [e]; exact s
    · exact x.1 g hg, List.pairwise_cons.mpr ⟨d, x.2⟩⟩
theorem Pull.mem {A B : SH} {h : Hp} (p : Pull A h B) : h ∈ A := by
  induction p with
  | head => exact List.mem_cons_self
  | tail _ ih => exact List.mem_cons_of_mem _ ih
theorem Pull.sub {A B : SH} {h : Hp} (p : Pull A h B) : ∀ g ∈ B, g ∈ A := by
  induction p with
  | head => exact fun g hg => List.mem_cons_of_mem _ hg
  | tail _ ih =>
    intro g hg
    rcases List.mem_cons.mp hg with e | hg
    · rw [e]; exact List.mem_cons_self
    · exact List.mem_cons_of_mem _ (ih g hg)
theorem Pull.has {A B : SH} {h : Hp} (p : Pull A h B) : ∀ {H : Hp}, Has H A → Has H (h :: B) := by
  induction p with
  | head => exact fun x => x
  | @tail h g A B p ih =>
    intro H x
    have y := ih x.tail
    refine (Has.cons (Has.cons y.tail x.head fun u hu => x.dj (p.sub u hu)) y.head fun u hu => ?_)
    rcases List.mem_cons.mp hu with e | hu
    · rw [e]; exact (x.dj p.mem).symm
    · exact y.dj hu
theorem Le.refl {A : SH} : Le A A := fun _ h => h
theorem Le.trans {A B C : SH} (a : Le A B) (b : Le B C) : Le A C := fun H h => a H (b H h)
theorem Le.drop {A A' : SH} {g : Hp} (a : Le A A') : Le A (g :: A') := fun H h => a H h.tail
theorem Le.nil {A : SH} : Le [] A := fun _ _ => Has.nil
theorem Le.keep {A B : SH} {g : Hp} (a : Le A B) (d : ∀ H, Has H (g :: B) → ∀ u ∈ A, Dj g u) : Le (g :: A) (g :: B) := fun H h => Has.cons (a H h.tail) h.head (d H h)
/-- A is B with some left out, in any order -/
inductive Sl : SH → SH → Prop
  | refl {A : SH} : Sl A A
  | nil {A : SH} : Sl [] A
  | drop {A B : SH} {g : Hp} : Sl A B → Sl A (g :: B)
  | pull {A B C : SH} {g : Hp} : Pull B g C → Sl A C → Sl (g :: A) B
theorem Sl.mem {A B : SH} (s : Sl A B) : ∀ g ∈ A, g ∈ B := by
  induction s with
  | refl => exact fun _ h => h
  | nil => exact fun _ h => nomatch h
  | drop _ ih => exact fun g h => List.mem_cons_of_mem _ (ih g h)
  | pull p _ ih =>
    intro g h
    rcases List.mem_cons.mp h with e | h
    · rw [e]; exact p.mem
    · exact p.sub g (ih g h)
theorem Sl.le {A B : SH} (s : Sl A B) : Le A B := by
  induction s with
  | refl => exact Le.refl
  | nil => exact Le.nil
  | drop _ ih => exact Le.drop ih
  | @pull A B C g p s ih =>
    intro H h
    have y := p.has h
    exact Has.cons (ih H y.tail) y.head fun u hu => y.dj (s.mem u hu)
theorem Has.new {H : Hp} {A : SH} {p : Addr} {o : HO} (x : Has H A) (hp : H p = none) : Has (upd H p o) (sg p o :: A) := by
  refine Has.cons ⟨fun h hh a u e => ?_, x.2⟩ (fun a u e => ?_) fun g hg a u v e e' => ?_
  · rw [upd_ne (ne_of_none (x.1 h hh a u e) hp)]
    exact x.1 h hh a u e
  · obtain ⟨rfl, rfl⟩ := sg_some e
    exact upd_same
  · obtain ⟨rfl, rfl⟩ := sg_some e
    have := x.1 g hg a v e'
    rw [hp] at this
    cases this
theorem Has.at {H : Hp} {A : SH} {p : Addr} {o : HO} (x : Has H (sg p o :: A)) : H p = some o := x.head p o sg_same
theorem Has.set {H : Hp} {A : SH} {p : Addr} {o u : HO} (x : Has H (sg p o :: A)) : Has (upd H p u) (sg p u :: A) := by
  have far : ∀ g ∈ A, ∀ a v, g a = some v → a ≠ p := fun g hg a v e z => by
    subst z
    exact x.dj hg a o v sg_same e
  refine Has.cons ⟨fun h hh a v e => ?_, x.tail.2⟩ (fun a v e => ?_) fun g hg a v v' e e' => ?_
  · rw [upd_ne (far h hh a v e)]
    exact x.tail.1 h hh a v e
  · obtain ⟨rfl, rfl⟩ := sg_some e
    exact upd_same
  · exact far g hg a v' e' (sg_some e).1

/-! ### what is wanted behind -/
def Post (Φ : V → SH → Prop) (Q : VK) : Prop := ∀ v A H, Has H A → Φ v A → Q v H
def XPost (Ψ : Value → Option Addr → SH → Prop) (E : XK) : Prop := ∀ c d A H, Has H A → Ψ c d A → E c d H
def WPost (Ψ : Value → Option Addr → St → SH → Prop) (W : WX) : Prop := ∀ c d σ A H, Has H A → Ψ c d σ A → W c d σ H
/-- P holds of a part that the state leads to -/
def Cl {α : Type} (P : α → SH → Prop) : α → SH → Prop := fun x A => ∀ H, Has H A → ∃ B, Has H B ∧ P x B
theorem Cl.le {α : Type} {P : α → SH → Prop} {x : α} {A B : SH} (l : Le B A) (p : P x B) : Cl P x A := fun H h => ⟨B, l H h, p⟩
theorem Cl.of {α : Type} {P : α → SH → Prop} {x : α} {A : SH} (p : P x A) : Cl P x A := fun H h => ⟨A, h, p⟩
theorem Post.cl {Φ : V → SH → Prop} {Q : VK} (h : Post Φ Q) : Post (Cl Φ) Q := fun v A H x q => by
  obtain ⟨B, y, q⟩ := q H x
  exact h v B H y q
structure AE where
  nx : St → SH → Prop
  rt : V → SH → Prop
  bk : St → SH → Prop := fun _ _ => False
  ct : St → SH → Prop := fun _ _ => False
structure EIm (D : AE) (E : Ends) : Prop where
  nx : ∀ σ A H, Has H A → D.nx σ A → E.nx σ H
  rt : Post D.rt E.rt
  bk : ∀ σ A H, Has H A → D.bk σ A → E.bk σ H
  ct : ∀ σ A H, Has H A → D.ct σ A → E.ct σ H

/-! ### the goals -/
def GE (t : TE) (σ : St) (A : SH) (Φ : V → SH → Prop) : Prop := ∀ H Q, Has H A → Post Φ Q → t σ H Q
def GT (t : TT) (σ : St) (A : SH) (Φ : Bool → SH → Prop) : Prop := ∀ H (Q : Bool → Hp → Prop), Has H A → (∀ b A' H', Has H' A' → Φ b A' → Q b H') → t σ H Q
def GA (t : TA) (σ : St) (A : SH) (Φ : List V → SH → Prop) : Prop := ∀ H (Q : List V → Hp → Prop), Has H A → (∀ b A' H', Has H' A' → Φ b A' → Q b H') → t σ H Q
def GS (t : TS) (D : AE) (σ : St) (A : SH) : Prop := ∀ H E, Has H A → EIm D E → t E σ H
def GG (t : TG) (v : V) (σ : St) (A : SH) (Φ : St → SH → Prop) : Prop := ∀ H (Q : St → Hp → Prop), Has H A → (∀ σ' A' H', Has H' A' → Φ σ' A' → Q σ' H') → t v σ H Q
def GI (t : TI) (σ : St) (A : SH) (Φ : It → SH → Prop) : Prop := ∀ H (Q : It → Hp → Prop), Has H A → (∀ J A' H', Has H' A' → Φ J A' → Q J H') → t σ H Q
def GR (r : R2) (x y : V) (A : SH) (Φ : V → SH → Prop) : Prop := ∀ H Q, Has H A → Post Φ Q → r x y H Q
def GU (r : V → Hp → VK → Prop) (x : V) (A : SH) (Φ : V → SH → Prop) : Prop := ∀ H Q, Has H A → Post Φ Q → r x H Q
def GC (r : List V → Hp → VK → Prop) (vs : List V) (A : SH) (Φ : V → SH → Prop) : Prop := ∀ H Q, Has H A → Post Φ Q → r vs H Q
def GM (r : V → List V → Hp → VK → Prop) (x : V) (vs : List V) (A : SH) (Φ : V → SH → Prop) : Prop := ∀ H Q, Has H A → Post Φ Q → r x vs H Q
def GF (J : It) (g : TG) (tb : TS) (D : AE) (σ : St) (A : SH) : Prop := ∀ H E, Has H A → EIm D E → ∃ W : Nat → Nat → St → Hp → Prop, (∃ m, W 0 m σ H) ∧ ∀ i m σ H, W i m σ H →
  (J.stop i H ∧ E.nx σ H) ∨ (J.go i H ∧ ∃ N : St → Hp → Prop, (∀ σ' H', N σ' H' → ∃ m', m' < m ∧ W (i + 1) m' σ' H') ∧ ∀ x H', J.yld i H x H' → g x σ H' fun σ2 H2 => tb { E with nx := N, ct := N, bk := E.nx } σ2 H2)

/-! ### reading -/
def RL (K : PySem.W.Frag) (A : SH) (a : Addr) (xs : List V) : Prop := ∀ H, Has H A → SqL K H a xs
def RT (K : PySem.W.Frag) (A : SH) (a : Addr) (xs : List V) : Prop := ∀ H, Has H A → SqT K H a xs
/-- an object that stands -/
def RO (A : SH) (a : Addr) (o : HO) : Prop := ∀ H, Has H A → H a = some o
theorem RL.tail {K : PySem.W.Frag} {A : SH} {g : Hp} {a : Addr} {xs : List V} (h : RL K A a xs) : RL K (g :: A) a xs := fun H x => h H x.tail
theorem RT.tail {K : PySem.W.Frag} {A : SH} {g : Hp} {a : Addr} {xs : List V} (h : RT K A a xs) : RT K (g :: A) a xs := fun H x => h H x.tail
theorem RO.tail {A : SH} {g : Hp} {a : Addr} {o : HO} (h : RO A a o) : RO (g :: A) a o := fun H x => h H x.tail
theorem RO.head {A : SH} {a : Addr} {o : HO} : RO (sg a o :: A) a o := fun _ x => x.at
theorem RO.blk {A : SH} {g : Hp} {a : Addr} {o : HO} (h : g a = some o) : RO (g :: A) a o := fun _ x => x.head a o h
theorem RO.mem {A : SH} {g : Hp} {a : Addr} {o : HO} (hg : g ∈ A) (h : g a = some o) : RO A a o := fun _ x => x.1 g hg a o h
theorem RO.pull {A B : SH} {a : Addr} {o : HO} (p : Pull A (sg a o) B) : RO A a o := fun _ x => (p.has x).at
theorem RO.le {A B : SH} {a : Addr} {o : HO} (l : Le A B) (h : RO A a o) : RO B a o := fun H x => h H (l H x)
theorem RL.le {K : PySem.W.Frag} {A B : SH} {a : Addr} {xs : List V} (l : Le A B) (h : RL K A a xs) : RL K B a xs := fun H x => h H (l H x)
theorem RT.le {K : PySem.W.Frag} {A B : SH} {a : Addr} {xs : List V} (l : Le A B) (h : RT K A a xs) : RT K B a xs := fun H x => h H (l H x)
theorem RL.ro {K : PySem.W.Frag} {A : SH} {a : Addr} {xs : List V} (h : RO A a (.lst xs)) : RL K A a xs := fun H x => .inl (.inl (h H x))
theorem RT.ro {K : PySem.W.Frag} {A : SH} {a : Addr} {xs : List V} (h : RO A a (.tup xs)) : RT K A a xs := fun H x => .inl (.inl (h H x))
theorem RL.head {K : PySem.W.Frag} {A : SH} {a : Addr} {xs : List V} : RL K (sg a (.lst xs) :: A) a xs := .ro .head
theorem RT.head {K : PySem.W.Frag} {A : SH} {a : Addr} {xs : List V} : RT K (sg a (.tup xs) :: A) a xs := .ro .head
theorem RL.blk {K : PySem.W.Frag} {A : SH} {g : Hp} {a : Addr} {xs : List V} (h : g a = some (.lst xs)) : RL K (g :: A) a xs := .ro (.blk h)
theorem RT.blk {K : PySem.W.Frag} {A : SH} {g : Hp} {a : Addr} {xs : List V} (h : g a = some (.tup xs)) : RT K (g :: A) a xs := .ro (.blk h)

/-! ### slots -/
def Set1 (σ : St) (i : Nat) (o : Option V) (σ' : St) : Prop := σ.set i o = σ'
def Get1 (σ : St) (i : Nat) (v : V) : Prop := σ[i]? = some (some v)
theorem set0 {x o : Option V} {r : St} : Set1 (x :: r) 0 o (o :: r) := rfl
theorem setS {x o : Option V} {r r' : St} {n : Nat} (h : Set1 r n o r') : Set1 (x :: r) (n + 1) o (x :: r') := by
  show (x :: r).set (n + 1) o = x :: r'
  rw [List.set_cons_succ, h]
theorem get0 {v : V} {r : St} : Get1 (some v :: r) 0 v := rfl
theorem getS {x : Option V} {v : V} {r : St} {n : Nat} (h : Get1 r n v) : Get1 (x :: r) (n + 1) v := by
  show (x :: r)[n + 1]? = some (some v)
  rw [List.getElem?_cons_succ]; exact h
def Wi (σ : St) (vs : List Nat) (σ' : St) : Prop := wipe σ vs = σ'
theorem wi0 {σ : St} : Wi σ [] σ := rfl
theorem wi1 {σ σ1 σ2 : St} {v : Nat} {vs : List Nat} (h : Wi σ vs σ1) (s : Set1 σ1 v none σ2) : Wi σ (v :: vs) σ2 := by
  show (wipe σ vs).set v none = σ2
  rw [h]; exact s

section
variable {K : PySem.W.Frag} {σ σ' : St} {A B : SH} {Φ : V → SH → Prop} {v x y : V} {ta tb te tc : TE} {t u : TT} {r : R2} {i j : Int}
/-! ### expressions -/
theorem ge_var {n : Nat} (h : Get1 σ n v) (k : Φ v A) : GE (tVar n) σ A Φ := fun H Q a p => ⟨v, h, p v A H a k⟩
theorem ge_c (k : Φ v A) : GE (tC v) σ A Φ := fun H Q a p => p v A H a k
theorem ge_op (h : GE ta σ A fun x A1 => GE tb σ A1 fun y A2 => GR r x y A2 Φ) : GE (tOp r ta tb) σ A Φ := fun H Q a p =>
  h H _ a fun x A1 H1 a1 h1 => h1 H1 _ a1 fun y A2 H2 a2 h2 => h2 H2 Q a2 p
theorem ge_un {r : V → Hp → VK → Prop} (h : GE ta σ A fun x A1 => GU r x A1 Φ) : GE (tUn r ta) σ A Φ := fun H Q a p => h H _ a fun x A1 H1 a1 h1 => h1 H1 Q a1 p
/-- either reading -/
def tAlt (t u : TE) : TE := fun σ H Q => t σ H Q ∨ u σ H Q
theorem ge_altL (h : GE ta σ A Φ) : GE (tAlt ta tb) σ A Φ := fun H Q a p => .inl (h H Q a p)
theorem ge_altR (h : GE tb σ A Φ) : GE (tAlt ta tb) σ A Φ := fun H Q a p => .inr (h H Q a p)
theorem pe_alt {X : Cx} {e : Expr} (h1 : PE X e ta) (h2 : PE X e tb) : PE X e (tAlt ta tb) := ⟨fun pins s σ H Q I h => by
  rcases h with h | h
  · exact h1.run pins s σ H Q I h
  · exact h2.run pins s σ H Q I h⟩
theorem ga_nil {Φ : List V → SH → Prop} (k : Φ [] A) : GA tNil σ A Φ := fun H Q a p => p [] A H a k
theorem ga_cons {Φ : List V → SH → Prop} {tr : TA} (h : GE ta σ A fun x A1 => GA tr σ A1 fun xs A2 => Φ (x :: xs) A2) : GA (tCons ta tr) σ A Φ := fun H Q a p =>
  h H _ a fun x A1 H1 a1 h1 => h1 H1 _ a1 fun xs A2 H2 a2 h2 => p _ A2 H2 a2 h2
theorem ge_tup {tr : TA} (h : GA tr σ A fun xs A1 => xs.length ≤ sizeLine ∧ ∀ p, Φ (.ref p) (sg p (.tup xs) :: A1)) : GE (tTup tr) σ A Φ := fun H Q a p =>
  h H _ a fun xs A1 H1 a1 h1 => ⟨h1.1, fun q hq => p _ _ _ (a1.new hq) (h1.2 q)⟩
theorem ge_lst {tr : TA} (h : GA tr σ A fun xs A1 => xs.length ≤ sizeLine ∧ ∀ p, Φ (.ref p) (sg p (.lst xs) :: A1)) : GE (tLst tr) σ A Φ := fun H Q a p =>
  h H _ a fun xs A1 H1 a1 h1 => ⟨h1.1, fun q hq => p _ _ _ (a1.new hq) (h1.2 q)⟩
theorem ge_dnew (h : ∀ p, Φ (.ref p) (sg p (.dK []) :: A)) : GE tDNewK σ A Φ := fun H Q a p q hq => p _ _ _ (a.new hq) (h q)
theorem ge_if (h : GT t σ A fun c A1 => (c = true → GE ta σ A1 Φ) ∧ (c = false → GE tb σ A1 Φ)) : GE (tIf t ta tb) σ A Φ := fun H Q a p =>
  h H _ a fun c A1 H1 a1 h1 => by
    cases c with
    | true => rw [if_pos rfl]; exact h1.1 rfl H1 Q a1 p
    | false => rw [if_neg Bool.false_ne_true]; exact h1.2 rfl H1 Q a1 p
theorem ge_andV (h : GE ta σ A fun x A1 => ∃ c, x = .bl c ∧ (c = true → GE tb σ A1 Φ) ∧ (c = false → Φ (.bl false) A1)) : GE (tAndV ta tb) σ A Φ := fun H Q a p =>
  h H _ a fun x A1 H1 a1 ⟨c, e, h1, h2⟩ => ⟨c, e, by
    cases c with
    | true => rw [if_pos rfl]; exact h1 rfl H1 Q a1 p
    | false => rw [if_neg Bool.false_ne_true]; exact p _ _ _ a1 (h2 rfl)⟩
theorem ge_orV (h : GE ta σ A fun x A1 => ∃ c, x = .bl c ∧ (c = true → Φ (.bl true) A1) ∧ (c = false → GE tb σ A1 Φ)) : GE (tOrV ta tb) σ A Φ := fun H Q a p =>
  h H _ a fun x A1 H1 a1 ⟨c, e, h1, h2⟩ => ⟨c, e, by
    cases c with
    | true => rw [if_pos rfl]; exact p _ _ _ a1 (h1 rfl)
    | false => rw [if_neg Bool.false_ne_true]; exact h2 rfl H1 Q a1 p⟩
theorem ge_notV (h : GE ta σ A fun x A1 => ∃ c, x = .bl c ∧ Φ (.bl (!c)) A1) : GE (tNotV ta) σ A Φ := fun H Q a p =>
  h H _ a fun x A1 H1 a1 ⟨c, e, h1⟩ => ⟨c, e, p _ _ _ a1 h1⟩
theorem ge_chain {r' : R2} (h : GE ta σ A fun x A1 => GE tb σ A1 fun y A2 => GR r x y A2 fun z A3 => ∃ c, z = .bl c ∧ (c = true → GE tc σ A3 fun w A4 => GR r' y w A4 Φ) ∧ (c = false → Φ (.bl false) A3)) : GE (tChain r r' ta tb tc) σ A Φ := fun H Q a p =>
  h H _ a fun x A1 H1 a1 h1 => h1 H1 _ a1 fun y A2 H2 a2 h2 => h2 H2 _ a2 fun z A3 H3 a3 ⟨c, e, h3, h4⟩ => ⟨c, e, by
    cases c with
    | true => rw [if_pos rfl]; exact h3 rfl H3 _ a3 fun w A4 H4 a4 h5 => h5 H4 Q a4 p
    | false => rw [if_neg Bool.false_ne_true]; exact p _ _ _ a3 (h4 rfl)⟩
/-! ### tests -/
section
variable {Ψ : Bool → SH → Prop}
theorem gt_test (h : GE te σ A fun x A' => ∃ k, x = .bl k ∧ Ψ k A') : GT (tTest te) σ A Ψ := fun H Q a p => h H _ a fun x A1 H1 a1 ⟨k, e, h1⟩ => ⟨k, e, p k A1 H1 a1 h1⟩
theorem gt_B (h : GE te σ A fun x A' => ∃ k, x = .bl k ∧ Ψ k A') : GT (tB te) σ A Ψ := fun H Q a p => h H _ a fun x A1 H1 a1 ⟨k, e, h1⟩ => ⟨k, e, p k A1 H1 a1 h1⟩
theorem gt_and (h : GT t σ A fun c A1 => (c = true → GT u σ A1 Ψ) ∧ (c = false → Ψ false A1)) : GT (tAnd t u) σ A Ψ := fun H Q a p =>
  h H _ a fun c A1 H1 a1 h1 => by
    cases c with
    | true => rw [if_pos rfl]; exact h1.1 rfl H1 Q a1 p
    | false => rw [if_neg Bool.false_ne_true]; exact p _ _ _ a1 (h1.2 rfl)
theorem gt_or (h : GT t σ A fun c A1 => (c = true → Ψ true A1) ∧ (c = false → GT u σ A1 Ψ)) : GT (tOr t u) σ A Ψ := fun H Q a p =>
  h H _ a fun c A1 H1 a1 h1 => by
    cases c with
    | true => rw [if_pos rfl]; exact p _ _ _ a1 (h1.1 rfl)
    | false => rw [if_neg Bool.false_ne_true]; exact h1.2 rfl H1 Q a1 p
theorem gt_not (h : GT t σ A fun c A1 => Ψ (!c) A1) : GT (tNot t) σ A Ψ := fun H Q a p => h H _ a fun c A1 H1 a1 h1 => p _ A1 H1 a1 h1
end
/-- a test's outcome -/
theorem br_dec {p P Q : Prop} [Decidable p] (h1 : p → P) (h2 : ¬ p → Q) : (decide p = true → P) ∧ (decide p = false → Q) := ⟨fun h => h1 (of_decide_eq_true h), fun h => h2 (of_decide_eq_false h)⟩
theorem br_ndec {p P Q : Prop} [Decidable p] (h1 : ¬ p → P) (h2 : p → Q) : ((!decide p) = true → P) ∧ ((!decide p) = false → Q) :=
  ⟨fun h => h1 (by simpa using h), fun h => h2 (by simpa using h)⟩
theorem br_t {P Q : Prop} (h : P) : (true = true → P) ∧ (true = false → Q) := ⟨fun _ => h, fun z => nomatch z⟩
theorem br_f {P Q : Prop} (h : Q) : (false = true → P) ∧ (false = false → Q) := ⟨fun z => (nomatch z), fun _ => h⟩
theorem br_nt {P Q : Prop} (h : Q) : ((!true) = true → P) ∧ ((!true) = false → Q) := ⟨fun z => (nomatch z), fun _ => h⟩
theorem br_nf {P Q : Prop} (h : P) : ((!false) = true → P) ∧ ((!false) = false → Q) := ⟨fun _ => h, fun z => nomatch z⟩
theorem br_not {b : Bool} {P Q : Prop} (h : (b = true → Q) ∧ (b = false → P)) : ((!b) = true → P) ∧ ((!b) = false → Q) := ⟨fun z => h.2 (by simpa using z), fun z => h.1 (by simpa using z)⟩
theorem br_b {b : Bool} {P Q : Prop} (h1 : b = true → P) (h2 : b = false → Q) : (b = true → P) ∧ (b = false → Q) := ⟨h1, h2⟩
/-- a test whose outcome the facts tell -/
theorem br_yes {p P Q : Prop} [Decidable p] (hp : p) (h1 : P) : (decide p = true → P) ∧ (decide p = false → Q) := ⟨fun _ => h1, fun h => absurd hp (of_decide_eq_false h)⟩
theorem br_no {p P Q : Prop} [Decidable p] (hp : ¬ p) (h1 : Q) : (decide p = true → P) ∧ (decide p = false → Q) := ⟨fun h => absurd (of_decide_eq_true h) hp, fun _ => h1⟩
theorem br_nyes {p P Q : Prop} [Decidable p] (hp : ¬ p) (h1 : P) : ((!decide p) = true → P) ∧ ((!decide p) = false → Q) := br_not (br_no hp h1)
theorem br_nno {p P Q : Prop} [Decidable p] (hp : p) (h1 : Q) : ((!decide p) = true → P) ∧ ((!decide p) = false → Q) := br_not (br_yes hp h1)

/-! ### operators by values -/
theorem gr_I0 {g : Int → Int → V} (k : Φ (g i j) A) : GR (rI0 g) (.int i) (.int j) A Φ := fun H Q a p => ⟨i, j, rfl, rfl, p _ A H a k⟩
theorem gr_I {C : Int → Int → Prop} {g : Int → Int → V} (c : C i j) (k : Φ (g i j) A) : GR (rI C g) (.int i) (.int j) A Φ := fun H Q a p => ⟨i, j, rfl, rfl, c, p _ A H a k⟩
end

/-! ### statements -/
section
variable {K : PySem.W.Frag} {σ σ' : St} {A B : SH} {nx : St → SH → Prop} {rt : V → SH → Prop} {bk ct : St → SH → Prop} {t u : TS} {c : TT} {te : TE} {v : V}
theorem gs_seq (h : GS t ⟨fun σ A => GS u ⟨nx, rt, bk, ct⟩ σ A, rt, bk, ct⟩ σ A) : GS (tSeq t u) ⟨nx, rt, bk, ct⟩ σ A := fun H E a im =>
  h H { E with nx := u E } a ⟨fun σ A H a k => k H E a im, im.rt, im.bk, im.ct⟩
theorem gs_next (h : nx σ A) : GS tNext ⟨nx, rt, bk, ct⟩ σ A := fun H E a im => im.nx σ A H a h
theorem gs_break (h : bk σ A) : GS tBreak ⟨nx, rt, bk, ct⟩ σ A := fun H E a im => im.bk σ A H a h
theorem gs_cont (h : ct σ A) : GS tCont ⟨nx, rt, bk, ct⟩ σ A := fun H E a im => im.ct σ A H a h
theorem gs_asg {g : TG} (h : GE te σ A fun v A' => GG g v σ A' nx) : GS (tAsg te g) ⟨nx, rt, bk, ct⟩ σ A := fun H E a im => h H _ a fun v A' H' a' h' => h' H' _ a' im.nx
theorem gs_drop (h : GE te σ A fun _ A' => nx σ A') : GS (tDrop te) ⟨nx, rt, bk, ct⟩ σ A := fun H E a im => h H _ a fun _ A' H' a' h' => im.nx σ A' H' a' h'
theorem gs_ret (h : GE te σ A rt) : GS (tRet te) ⟨nx, rt, bk, ct⟩ σ A := fun H E a im => h H _ a im.rt
theorem gs_retN (h : rt .non A) : GS tRetN ⟨nx, rt, bk, ct⟩ σ A := fun H E a im => im.rt .non A H a h
theorem gs_if (h : GT c σ A fun b A' => (b = true → GS t ⟨nx, rt, bk, ct⟩ σ A') ∧ (b = false → GS u ⟨nx, rt, bk, ct⟩ σ A')) : GS (tIfS c t u) ⟨nx, rt, bk, ct⟩ σ A := fun H E a im =>
  h H _ a fun b A' H' a' h' => by
    cases b with
    | true => rw [if_pos rfl]; exact h'.1 rfl H' E a' im
    | false => rw [if_neg Bool.false_ne_true]; exact h'.2 rfl H' E a' im
theorem gg_name {n : Nat} {Φ : St → SH → Prop} (s : Set1 σ n (some v) σ') (k : Φ σ' A) : GG (gName n) v σ A Φ := fun H Q a p => by
  have e : σ.set n (some v) = σ' := s
  show Q (σ.set n (some v)) H
  rw [e]
  exact p σ' A H a k
theorem gg_nil {Φ : St → SH → Prop} (k : Φ σ A) : ∀ H (Q : St → Hp → Prop), Has H A → (∀ σ' A' H', Has H' A' → Φ σ' A' → Q σ' H') → gNil [] σ H Q := fun H Q a p => ⟨rfl, p σ A H a k⟩
def GGs (t : TGs) (vs : List V) (σ : St) (A : SH) (Φ : St → SH → Prop) : Prop := ∀ H (Q : St → Hp → Prop), Has H A → (∀ σ' A' H', Has H' A' → Φ σ' A' → Q σ' H') → t vs σ H Q
theorem ggs_nil {Φ : St → SH → Prop} (k : Φ σ A) : GGs gNil [] σ A Φ := fun H Q a p => ⟨rfl, p σ A H a k⟩
theorem ggs_cons {Φ : St → SH → Prop} {g : TG} {gs : TGs} {vs : List V} (h : GG g v σ A fun σ1 A1 => GGs gs vs σ1 A1 Φ) : GGs (gCons g gs) (v :: vs) σ A Φ := fun H Q a p =>
  ⟨v, vs, rfl, h H _ a fun σ1 A1 H1 a1 h1 => h1 H1 Q a1 p⟩
theorem gg_tup {Φ : St → SH → Prop} {n : Nat} {gs : TGs} {a : Addr} {xs : List V} (rd : RT K A a xs) (hl : xs.length = n) (h : GGs gs xs σ A Φ) : GG (gTup K n gs) (.ref a) σ A Φ := fun H Q x p =>
  ⟨a, xs, rfl, rd H x, hl, h H Q x p⟩
theorem gs_for {wi : TI} {g : TG} (h : GI wi σ A fun J A1 => GF J g t ⟨nx, rt, bk, ct⟩ σ A1) : GS (tFor wi g t) ⟨nx, rt, bk, ct⟩ σ A := fun H E a im => h H _ a fun J A1 H1 a1 h1 => h1 H1 E a1 im
theorem gf_list {a : Addr} {xs : List V} {g : TG} (Pv : Nat → St → SH → Prop) (h0 : Cl (Pv 0) σ A) (hl : ∀ i σ A, i ≤ xs.length → Pv i σ A → RL K A a xs)
    (hs : ∀ i x σ A, xs[i]? = some x → Pv i σ A → GG g x σ A fun σ' A' => GS t ⟨Cl (Pv (i + 1)), rt, nx, Cl (Pv (i + 1))⟩ σ' A')
    (hd : ∀ σ A, Pv xs.length σ A → nx σ A) : GF (Itl K a) g t ⟨nx, rt, bk, ct⟩ σ A := fun H E x im =>
  for_list (K := K) (a := a) (xs := xs) (D := E) (fun i σ H => ∃ A, Has H A ∧ Pv i σ A) (h0 H x) (fun i σ H hi ⟨A, x, p⟩ => hl i σ A hi p H x)
    (fun i y σ H hy ⟨A, x, p⟩ => hs i y σ A hy p H _ x fun σ' A' H' x' k => k H' _ x' ⟨fun σ A H x p => p H x, im.rt, im.nx, fun σ A H x p => p H x⟩)
    fun σ H ⟨A, x, p⟩ => im.nx σ A H x (hd σ A p)
theorem gf_tup {a : Addr} {xs : List V} {g : TG} (Pv : Nat → St → SH → Prop) (h0 : Cl (Pv 0) σ A) (hl : ∀ i σ A, i ≤ xs.length → Pv i σ A → RT K A a xs)
    (hs : ∀ i x σ A, xs[i]? = some x → Pv i σ A → GG g x σ A fun σ' A' => GS t ⟨Cl (Pv (i + 1)), rt, nx, Cl (Pv (i + 1))⟩ σ' A')
    (hd : ∀ σ A, Pv xs.length σ A → nx σ A) : GF (Itt K a) g t ⟨nx, rt, bk, ct⟩ σ A := fun H E x im =>
  for_tup (K := K) (a := a) (xs := xs) (D := E) (fun i σ H => ∃ A, Has H A ∧ Pv i σ A) (h0 H x) (fun i σ H hi ⟨A, x, p⟩ => hl i σ A hi p H x)
    (fun i y σ H hy ⟨A, x, p⟩ => hs i y σ A hy p H _ x fun σ' A' H' x' k => k H' _ x' ⟨fun σ A H x p => p H x, im.rt, im.nx, fun σ A H x p => p H x⟩)
    fun σ H ⟨A, x, p⟩ => im.nx σ A H x (hd σ A p)
theorem gf_range {lo : Int} {n : Nat} {g : TG} (Pv : Nat → St → SH → Prop) (h0 : Cl (Pv 0) σ A)
    (hs : ∀ i σ A, i < n → Pv i σ A → GG g (.int (lo + i)) σ A fun σ' A' => GS t ⟨Cl (Pv (i + 1)), rt, nx, Cl (Pv (i + 1))⟩ σ' A')
    (hd : ∀ σ A, Pv n σ A → nx σ A) : GF (Itr lo n) g t ⟨nx, rt, bk, ct⟩ σ A := fun H E x im =>
  for_range (lo := lo) (n := n) (D := E) (fun i σ H => ∃ A, Has H A ∧ Pv i σ A) (h0 H x)
    (fun i σ H hi ⟨A, x, p⟩ => hs i σ A hi p H _ x fun σ' A' H' x' k => k H' _ x' ⟨fun σ A H x p => p H x, im.rt, im.nx, fun σ A H x p => p H x⟩)
    fun σ H ⟨A, x, p⟩ => im.nx σ A H x (hd σ A p)
theorem gi_list {Φ : It → SH → Prop} (h : GE te σ A fun x A' => ∃ a xs, x = .ref a ∧ RL K A' a xs ∧ Φ (Itl K a) A') : GI (iList K te) σ A Φ := fun H Q x p =>
  h H _ x fun v A' H' x' ⟨a, xs, e, r, k⟩ => ⟨a, e, ⟨xs, r H' x'⟩, p _ A' H' x' k⟩
theorem gi_tup {Φ : It → SH → Prop} (h : GE te σ A fun x A' => ∃ a xs, x = .ref a ∧ RT K A' a xs ∧ Φ (Itt K a) A') : GI (iTup K te) σ A Φ := fun H Q x p =>
  h H _ x fun v A' H' x' ⟨a, xs, e, r, k⟩ => ⟨a, e, ⟨xs, r H' x'⟩, p _ A' H' x' k⟩
theorem gi_rng1 {Φ : It → SH → Prop} {ta : TA} (h : GA ta σ A fun vs A' => ∃ j : Int, vs = [.int j] ∧ -(2 ^ 62) ≤ j ∧ j < 2 ^ 62 ∧ Φ (Itr 0 j.toNat) A') : GI (iRng1 ta) σ A Φ := fun H Q x p =>
  h H _ x fun vs A' H' x' ⟨j, e, h1, h2, k⟩ => ⟨j, e, h1, h2, p _ A' H' x' k⟩
theorem gi_rng2 {Φ : It → SH → Prop} {ta : TA} (h : GA ta σ A fun vs A' => ∃ i j : Int, vs = [.int i, .int j] ∧ (-(2 ^ 62) ≤ i ∧ i < 2 ^ 62 ∧ -(2 ^ 62) ≤ j ∧ j < 2 ^ 62) ∧ Φ (Itr i (j - i).toNat) A') : GI (iRng2 ta) σ A Φ := fun H Q x p =>
  h H _ x fun vs A' H' x' ⟨i, j, e, h1, k⟩ => ⟨i, j, e, h1, p _ A' H' x' k⟩
theorem gi_enum {Φ : It → SH → Prop} {ta : TA} (h : GA ta σ A fun vs A' => ∃ a xs, vs = [.ref a] ∧ RL K A' a xs ∧ Φ (Ite K a) A') : GI (iEnum K ta) σ A Φ := fun H Q x p =>
  h H _ x fun vs A' H' x' ⟨a, xs, e, r, k⟩ => ⟨a, xs, e, r H' x', p _ A' H' x' k⟩
def iAlt (w u : TI) : TI := fun σ H R => w σ H R ∨ u σ H R
theorem pi_alt {X : Cx} {tg iter : Expr} {w u : TI} (h1 : PI X tg iter w) (h2 : PI X tg iter u) : PI X tg iter (iAlt w u) := ⟨fun pins s σ H R I h => by
  rcases h with h | h
  · exact h1.run pins s σ H R I h
  · exact h2.run pins s σ H R I h⟩
theorem gi_altL {w u : TI} {Φ : It → SH → Prop} (h : GI w σ A Φ) : GI (iAlt w u) σ A Φ := fun H Q a p => .inl (h H Q a p)
theorem gi_altR {w u : TI} {Φ : It → SH → Prop} (h : GI u σ A Φ) : GI (iAlt w u) σ A Φ := fun H Q a p => .inr (h H Q a p)
/-- for i, x in enumerate(xs): the pair is a new tuple -/
theorem gf_enum {a : Addr} {xs : List V} {g : TG} (Pv : Nat → St → SH → Prop) (h0 : Cl (Pv 0) σ A) (hl : ∀ i σ A, i ≤ xs.length → Pv i σ A → RL K A a xs)
    (hs : ∀ i x σ A p, xs[i]? = some x → Pv i σ A → GG g (.ref p) σ (sg p (.tup [.int (i : Nat), x]) :: A) fun σ' A' => GS t ⟨Cl (Pv (i + 1)), rt, nx, Cl (Pv (i + 1))⟩ σ' A')
    (hd : ∀ σ A, Pv xs.length σ A → nx σ A) : GF (Ite K a) g t ⟨nx, rt, bk, ct⟩ σ A := fun H E x im => by
  refine ⟨fun i m σ H => m = xs.length - i ∧ i ≤ xs.length ∧ ∃ A, Has H A ∧ Pv i σ A, ⟨xs.length, by simp, Nat.zero_le _, h0 H x⟩, ?_⟩
  rintro i m σ H ⟨rfl, hi, A, x, p⟩
  have q := hl i σ A hi p H x
  by_cases hlt : i < xs.length
  · refine .inr ⟨⟨xs, xs[i], q, by simp [hlt]⟩, fun σ' H' => ∃ A, Has H' A ∧ Pv (i + 1) σ' A, fun σ' H' p' => ⟨xs.length - (i + 1), by omega, rfl, hlt, p'⟩, fun y H' yl => ?_⟩
    obtain ⟨T, z, rfl, hT, rfl, hz⟩ := yl
    exact hs i z σ A T (hz xs q) p _ _ (x.new hT) fun σ' A' H' x' k => k H' _ x' ⟨fun σ A H x p => p H x, im.rt, im.nx, fun σ A H x p => p H x⟩
  · have e : i = xs.length := by omega
    subst e
    exact .inl ⟨⟨xs, q, Nat.le_refl _⟩, im.nx σ A H x (hd σ A p)⟩
/-- while: an invariant and what falls -/
theorem gs_while (Pv : Nat → St → SH → Prop) (m : Nat) (h0 : Cl (Pv m) σ A)
    (hs : ∀ m σ A, Pv m σ A → GT c σ A fun b A' => (b = true → GS t ⟨fun σ A => ∃ m', m' < m ∧ Cl (Pv m') σ A, rt, nx, fun σ A => ∃ m', m' < m ∧ Cl (Pv m') σ A⟩ σ A') ∧ (b = false → nx σ A')) : GS (tWhile c t) ⟨nx, rt, bk, ct⟩ σ A := fun H E x im =>
  ⟨fun m σ H => ∃ A, Has H A ∧ Pv m σ A, ⟨m, h0 H x⟩, fun m σ H ⟨A, x, p⟩ => hs m σ A p H _ x fun b A' H' x' k => by
    cases b with
    | true =>
      rw [if_pos rfl]
      refine ⟨fun σ H => ∃ m', m' < m ∧ ∃ A, Has H A ∧ Pv m' σ A, fun σ' H' h => h, k.1 rfl H' _ x' ⟨?_, im.rt, im.nx, ?_⟩⟩
      · exact fun σ A H x ⟨m', l, p⟩ => ⟨m', l, p H x⟩
      · exact fun σ A H x ⟨m', l, p⟩ => ⟨m', l, p H x⟩
    | false =>
      rw [if_neg Bool.false_ne_true]
      exact im.nx σ A' H' x' (k.2 rfl)⟩
end
/-! ### parts joined -/
/-- several parts become one -/
theorem blk {H : Hp} {A : SH} : ∀ {xs : SH}, Has H (xs ++ A) → ∃ h, Has H (h :: A) ∧ (∀ x ∈ xs, Sub x h) ∧ ∀ a o, h a = some o → ∃ x ∈ xs, x a = some o
  | [], x => ⟨emp, Has.cons x (fun a o e => nomatch e) fun g _ a o u e _ => (nomatch e), fun x h => (nomatch h), fun a o e => nomatch e⟩
  | y :: xs, x => by
    obtain ⟨h, hh, hs, hb⟩ := blk (xs := xs) (x : Has H (y :: (xs ++ A))).tail
    have x : Has H (y :: (xs ++ A)) := x
    have dj : Dj y h := fun a o u e1 e2 => by
      obtain ⟨z, hz, e3⟩ := hb a u e2
      exact x.dj (List.mem_append_left _ hz) a o u e1 e3
    refine ⟨fun a => (y a).or (h a), Has.cons hh.tail (fun a o e => ?_) (fun g hg a o u e1 e2 => ?_), fun z hz a o e => ?_, fun a o e => ?_⟩
    all_goals try (have e : (y a).or (h a) = some o := e)
    all_goals try (have e1 : (y a).or (h a) = some o := e1)
    · cases e1 : y a with
      | some v =>
        rw [e1] at e
        exact e ▸ x.head a v e1
      | none =>
        rw [e1] at e
        exact hh.head a o e
    · cases e3 : y a with
      | some v => exact x.dj (List.mem_append_right _ hg) a v u e3 e2
      | none =>
        rw [e3] at e1
        exact hh.dj hg a o u e1 e2
    · rcases List.mem_cons.mp hz with q | hz
      · subst q
        show (z a).or (h a) = some o
        rw [e]; rfl
      · have e2 := hs z hz a o e
        show (y a).or (h a) = some o
        cases e3 : y a with
        | some v => exact (dj a v o e3 e2).elim
        | none => exact e2
    · cases e1 : y a with
      | some v =>
        rw [e1] at e
        exact ⟨y, List.mem_cons_self, e1.trans e⟩
      | none =>
        rw [e1] at e
        obtain ⟨z, hz, e2⟩ := hb a o e
        exact ⟨z, List.mem_cons_of_mem _ hz, e2⟩
/-- the parts xs of the state become one, the parts ys stay -/
theorem Cl.blk {α : Type} {P : α → SH → Prop} {x : α} {A B xs : SH} (l : Le (xs ++ A) B) (p : ∀ h, (∀ y ∈ xs, Sub y h) → P x (h :: A)) : Cl P x B := fun H hB => by
  obtain ⟨h, a, s, _⟩ := S.blk (l H hB)
  exact ⟨_, a, p h s⟩
theorem RO.sub {A : SH} {g h : Hp} {a : Addr} {o : HO} (s : Sub g h) (e : g a = some o) : RO (h :: A) a o := .blk (s a o e)
/-- the state seen otherwise -/
theorem ge_as {t : TE} {σ : St} {A : SH} {Φ : V → SH → Prop} (h : Cl (fun σ A => GE t σ A Φ) σ A) : GE t σ A Φ := fun H Q x p => by
  obtain ⟨B, y, k⟩ := h H x
  exact k H Q y p
theorem gs_as {t : TS} {D : AE} {σ : St} {A : SH} (h : Cl (fun σ A => GS t D σ A) σ A) : GS t D σ A := fun H E x im => by
  obtain ⟨B, y, k⟩ := h H x
  exact k H E y im
end S

namespace S
open PySem L2

/-! ### calls -/
abbrev Spec := List V → SH → (V → SH → Prop) → (Value → Option Addr → SH → Prop) → Prop
def lift (sp : Spec) : Sp := fun vs H Q E => ∃ A Φ Ψ, Has H A ∧ Post Φ Q ∧ XPost Ψ E ∧ sp vs A Φ Ψ
/-- the def of that name keeps its promise -/
def DefR (P : Program) (w : World) (K : PySem.W.Frag) (mg : Str → Option Value) (base : Heap) (k : Nat) (x : Str) (sp : Sp) : Prop :=
  ∃ f, FnR P w K mg base (L2.CX P w) k f sp ∧ mg x = some (.ref f) ∧ PySem.W.keepIn K (.ref f) = true
def MethR (P : Program) (w : World) (K : PySem.W.Frag) (mg : Str → Option Value) (base : Heap) (k : Nat) (C : Addr) (m : Str) (sp : Sp) : Prop :=
  Cls K C ∧ ∃ f, Meth K C m f ∧ FnR P w K mg base (L2.CX P w) k f sp
def MakR (P : Program) (w : World) (K : PySem.W.Frag) (mg : Str → Option Value) (base : Heap) (k : Nat) (x : Str) (C : Addr) (sp : Sp) : Prop :=
  ∃ f, Mk K C f ∧ FnR P w K mg base (L2.CX P w) k f sp ∧ mg x = some (.ref C)
def tCal (sp : Sp) (W : WX) (t : TA) : TE := fun σ H Q => t σ H fun vs H1 => sp vs H1 Q (WE W σ)
def tMet (MT : Addr → Spec → Prop) (m : Str) (W : WX) (ta : TE) (t : TA) : TE := fun σ H Q => ta σ H fun x H1 => ∃ a C dx fs sp, x = .ref a ∧ H1 a = some (.ins C dx fs) ∧ MT C sp ∧ fs.lookup m = none ∧
  t σ H1 fun vs H2 => lift sp (x :: vs) H2 Q (WE W σ)
def tMak (C : Addr) (sp : Sp) (W : WX) (t : TA) : TE := fun σ H Q => t σ H fun vs H1 => ∀ x dx, H1 x = Option.none → H1 dx = Option.none → dx ≠ x →
  sp (V.ref x :: vs) (upd (upd H1 dx (.own x)) x (.ins C dx [])) (fun v H2 => v = .non ∧ Q (.ref x) H2) (WE W σ)
section
variable {X : Cx} {k : Nat} {f C : Addr} {sp : Sp} {W : WX} {x m : Str} {p pos apos : Pos} {e o : Expr} {es : List Expr} {ta : TE} {t : TA} {σ : L2.St}
theorem run_at {E : XK} {pins : List (Addr × Obj)} {H : Hp} {s : Shared} {Q : VK} {us : List Value} {vs : List V} (F : FnR X.prog X.w X.K X.mg X.base (L2.CX X.prog X.w) k f sp) (hr : Room k X.A) (hx : PassesAt (L2.CX X.prog X.w) X σ E)
    (I : Inv X pins σ H s) (r : Vals vs us) (h : sp vs H Q E) : wpAny (model X.prog X.w) X.A (call (.ref f) us) (EP X pins σ Q) X.xe s := by
  refine wpAny_call (codeAny_mono (F X.A X.stack s H us vs Q E hr I.env0 r h) ?_)
  intro res s' got
  match res, got with
  | .error e, got => exact hx pins H s e s' I got
  | .ok (.ret u), got => exact I.after got
  | .ok .next, got => exact False.elim got
  | .ok .brk, got => exact False.elim got
  | .ok .cont, got => exact False.elim got
theorem pe_own (G : DefR X.prog X.w X.K X.mg X.base k x sp) (hr : Room k X.A) (hg : Gl X x) (tk : Takes X W) (ha : PA X (e :: es) t) (hdb : (x == ("__debug__" : Str)) = false := by decide)
    (he : starEach (e :: es) X.env = (false, eval e X.env) :: starEach es X.env := by rfl) (hpl : (backTo pos (starEach es X.env)).any (·.1) = false := by rfl) : PE X (.Call (.Name x p) (e :: es) [] pos) (tCal sp W t) := by
  obtain ⟨f, F, hm, hk⟩ := G
  constructor
  intro pins s σ H Q I h
  refine wpAny_Call_Name_kw (ld_glob I hg hm ?_ hdb)
  refine PySem.W.callWith_K (h₀ := X.base) I.ok.mod.kin hk (thn (ha.run pos pins s σ H _ I h) ?_) he hpl
  rintro us s1 ⟨vs, H1, I1, r, q⟩
  exact ⟨I1.kIn, run_at F hr (passAt tk σ) I1 r q⟩
theorem pe_own0 (G : DefR X.prog X.w X.K X.mg X.base k x sp) (hr : Room k X.A) (hg : Gl X x) (tk : Takes X W) (hdb : (x == ("__debug__" : Str)) = false := by decide) : PE X (.Call (.Name x p) [] [] pos) (tCal sp W tNil) := by
  obtain ⟨f, F, hm, hk⟩ := G
  constructor
  intro pins s σ H Q I h
  refine wpAny_Call_Name_kw (ld_glob I hg hm ?_ hdb)
  exact PySem.W.callWith_K0 I.kIn hk (run_at F hr (passAt tk σ) I .nil h)
theorem pe_met {pl : Sem Bool} {MT : Addr → Spec → Prop} (he : PE X o ta) (G : ∀ C sp, MT C sp → MethR X.prog X.w X.K X.mg X.base k C m (lift sp)) (hr : Room k X.A) (tk : Takes X W) (ha : PA X (e :: es) t)
    (hst : starEach (e :: es) X.env = (false, eval e X.env) :: starEach es X.env := by rfl) (hpl : (backTo pos (starEach es X.env)).any (·.1) = false := by rfl)
    (ht : eval (.Call (.Attribute o m apos) (e :: es) [] pos) X.env = (do let ov ← eval o X.env; standAt apos.atName; let (f, first) ← holding [ov] (getMethod ov m pl); callWith pos f first (backTo pos (starEach (e :: es) X.env)) (backToKw pos (keywordEach [] X.env))) := by rfl) :
    PE X (.Call (.Attribute o m apos) (e :: es) [] pos) (tMet MT m W ta t) := by
  constructor
  intro pins s σ H Q I h
  refine PySem.W.methodCall_KW (pl := pl) (thn (he.run pins s σ H _ I h) ?_) ht
  rintro u s1 ⟨x, H1, I1, rx, a, C, dx, fs, sp, rfl, ea, mt, l, q⟩
  obtain ⟨c, f, hm, F⟩ := G C sp mt
  cases (show u = Value.ref a from rx)
  refine getmeth_ok I1 ea c hm l ?_
  refine PySem.W.callWith_K (first := [.ref a]) (h₀ := X.base) I.ok.mod.kin hm.kp (thn (ha.run pos pins s1 σ H1 _ I1 q) ?_) hst hpl
  rintro us s2 ⟨vs, H2, I2, r, q2⟩
  exact ⟨I2.kIn, run_at (us := .ref a :: us) (vs := .ref a :: vs) F hr (passAt tk σ) I2 (.cons rfl r) q2⟩
theorem pe_met0 {pl : Sem Bool} {MT : Addr → Spec → Prop} (he : PE X o ta) (G : ∀ C sp, MT C sp → MethR X.prog X.w X.K X.mg X.base k C m (lift sp)) (hr : Room k X.A) (tk : Takes X W)
    (ht : eval (.Call (.Attribute o m apos) [] [] pos) X.env = (do let ov ← eval o X.env; standAt apos.atName; let (f, first) ← holding [ov] (getMethod ov m pl); callWith pos f first (backTo pos (starEach [] X.env)) (backToKw pos (keywordEach [] X.env))) := by rfl) :
    PE X (.Call (.Attribute o m apos) [] [] pos) (tMet MT m W ta tNil) := by
  constructor
  intro pins s σ H Q I h
  refine PySem.W.methodCall_KW (pl := pl) (thn (he.run pins s σ H _ I h) ?_) ht
  rintro u s1 ⟨x, H1, I1, rx, a, C, dx, fs, sp, rfl, ea, mt, l, q⟩
  obtain ⟨c, f, hm, F⟩ := G C sp mt
  cases (show u = Value.ref a from rx)
  refine getmeth_ok I1 ea c hm l ?_
  exact PySem.W.callWith_K0 (first := [.ref a]) I1.kIn hm.kp (run_at (us := [.ref a]) (vs := [.ref a]) F hr (passAt tk σ) I1 (.cons rfl .nil) q)
theorem run_mak {E : XK} {pins : List (Addr × Obj)} {H : Hp} {s : Shared} {Q : VK} {us : List Value} {vs : List V} (M : Mk X.K C f) (F : FnR X.prog X.w X.K X.mg X.base (L2.CX X.prog X.w) k f sp) (hr : Room (k + 1) X.A) (hx : PassesAt (L2.CX X.prog X.w) X σ E)
    (I : Inv X pins σ H s) (r : Vals vs us)
    (h : ∀ x dx, H x = Option.none → H dx = Option.none → dx ≠ x → sp (V.ref x :: vs) (upd (upd H dx (.own x)) x (.ins C dx [])) (fun v H2 => v = .non ∧ Q (.ref x) H2) E) :
    wpAny (model X.prog X.w) X.A (call (.ref C) us) (EP X pins σ Q) X.xe s := by
  have hq := h (s.heap.objs.size + 1) s.heap.objs.size (I.hok.fresh (Nat.le_succ _)) (I.hok.fresh (Nat.le_refl _)) (Nat.ne_of_lt (Nat.lt_succ_self _))
  have J := Inv.made (C := C) I
  have rr : Vals (V.ref (s.heap.objs.size + 1) :: vs) (Value.ref (s.heap.objs.size + 1) :: us) := .cons rfl r
  refine wpAny_call (make_map (f := f) I.kIn M.makes M.init (beq_iff_eq.mp M.fn) (codeAny_mono (F _ X.stack _ _ (Value.ref (s.heap.objs.size + 1) :: us) _ _ E (hr.make C us []) (J.env0.make C us []) rr hq) ?_))
  intro res s' got
  match res, got with
  | .error e, got => exact hx pins _ _ e s' J got
  | .ok (.ret u), got =>
    obtain ⟨v, H', I3, rv, ev, q3⟩ := J.after got
    subst ev
    exact ⟨rv, ⟨V.ref (s.heap.objs.size + 1), H', I3, rfl, q3⟩⟩
  | .ok .next, got => exact False.elim got
  | .ok .brk, got => exact False.elim got
  | .ok .cont, got => exact False.elim got
theorem pe_mak (G : MakR X.prog X.w X.K X.mg X.base k x C sp) (hr : Room (k + 1) X.A) (hg : Gl X x) (tk : Takes X W) (ha : PA X (e :: es) t) (hdb : (x == ("__debug__" : Str)) = false := by decide)
    (he : starEach (e :: es) X.env = (false, eval e X.env) :: starEach es X.env := by rfl) (hpl : (backTo pos (starEach es X.env)).any (·.1) = false := by rfl) : PE X (.Call (.Name x p) (e :: es) [] pos) (tMak C sp W t) := by
  obtain ⟨f, M, F, hm⟩ := G
  constructor
  intro pins s σ H Q I h
  refine wpAny_Call_Name_kw (ld_glob I hg hm ?_ hdb)
  refine PySem.W.callWith_K (h₀ := X.base) I.ok.mod.kin M.kp (thn (ha.run pos pins s σ H _ I h) ?_) he hpl
  rintro us s1 ⟨vs, H1, I1, r, q⟩
  exact ⟨I1.kIn, run_mak M F hr (passAt tk σ) I1 r q⟩
theorem pe_mak0 (G : MakR X.prog X.w X.K X.mg X.base k x C sp) (hr : Room (k + 1) X.A) (hg : Gl X x) (tk : Takes X W) (hdb : (x == ("__debug__" : Str)) = false := by decide) : PE X (.Call (.Name x p) [] [] pos) (tMak C sp W tNil) := by
  obtain ⟨f, M, F, hm⟩ := G
  constructor
  intro pins s σ H Q I h
  refine wpAny_Call_Name_kw (ld_glob I hg hm ?_ hdb)
  exact PySem.W.callWith_K0 I.kIn M.kp (run_mak M F hr (passAt tk σ) I .nil h)
end
section
variable {σ : L2.St} {A B : SH} {Φ : V → SH → Prop} {Ψ : Value → Option Addr → L2.St → SH → Prop} {W : WX} {ta : TE} {t : TA} {sp : Spec} {m : Str} {C : Addr}
theorem ge_cal (hx : WPost Ψ W) (h : GA t σ A fun vs A1 => sp vs A1 Φ fun c d A2 => Ψ c d σ A2) : GE (tCal (lift sp) W t) σ A Φ := fun H Q a p =>
  h H _ a fun vs A1 H1 a1 h1 => ⟨A1, Φ, _, a1, p, fun c d A2 H2 a2 k => hx c d σ A2 H2 a2 k, h1⟩
theorem ge_met {MT : Addr → Spec → Prop} (hx : WPost Ψ W)
    (h : GE ta σ A fun x A1 => ∃ a C dx fs sp, x = .ref a ∧ RO A1 a (.ins C dx fs) ∧ MT C sp ∧ fs.lookup m = none ∧ GA t σ A1 fun vs A2 => sp (x :: vs) A2 Φ fun c d A3 => Ψ c d σ A3) : GE (tMet MT m W ta t) σ A Φ := fun H Q a p =>
  h H _ a fun x A1 H1 a1 ⟨b, C, dx, fs, sp, e, ro, mt, l, h1⟩ => ⟨b, C, dx, fs, sp, e, ro H1 a1, mt, l, h1 H1 _ a1 fun vs A2 H2 a2 h2 => ⟨A2, Φ, _, a2, p, fun c d A3 H3 a3 k => hx c d σ A3 H3 a3 k, h2⟩⟩
theorem ge_mak (hx : WPost Ψ W) (h : GA t σ A fun vs A1 => ∀ x dx, sp (V.ref x :: vs) (sg x (.ins C dx []) :: A1) (fun v A2 => v = .non ∧ Φ (.ref x) A2) fun c d A2 => Ψ c d σ A2) : GE (tMak C (lift sp) W t) σ A Φ := fun H Q a p =>
  h H _ a fun vs A1 H1 a1 h1 x dx nx nd ne => ⟨_, _, _, (a1.new nd).tail.new (by rw [upd_ne (Ne.symm ne)]; exact nx), fun v A2 H2 a2 ⟨e, k⟩ => ⟨e, p _ A2 H2 a2 k⟩, fun c d A2 H2 a2 k => hx c d σ A2 H2 a2 k, h1 x dx⟩
end
/-- where a def's body leads -/
abbrev AEf (Φ : V → SH → Prop) : AE := ⟨fun _ A => Cl Φ .non A, Cl Φ, fun _ _ => False, fun _ _ => False⟩
/-- a def keeps its promise: its body, and the goal of it -/
theorem mk_fn {P : Program} {w : World} {K : PySem.W.Frag} {mg : Str → Option Value} {base : Heap} {x qual : Str} {params : Arguments} {body : List Stmt} {scope : Scope} {dvs : List V} {kws : List (Str × V)} {f : Addr} {fd : FuncData} {N ps : List Str} {k : Nat} {sp : Spec} {t : XK → TS} {σ0 : List V → L2.St}
    (F : FunD K x qual params body scope dvs kws f fd) (sc : FnScope N ps scope) (len : ∀ vs A Φ Ψ, sp vs A Φ Ψ → vs.length = ps.length)
    (dv : ∀ (cdv : Value) (A : Around) (outer : List Env) (s : Shared) (H : Hp) (E : XK), Room k (A.deeper (PyProof.Rows.envOfC qual scope s.heap.objs.size f cdv)) → PSs (cxOf (L2.CX P w) P w K mg base N qual scope f cdv A outer s H E) body (t E))
    (hs : ∀ vs A Φ Ψ E, WPost (fun c d _ A => Cl (fun (_ : Unit) A => Ψ c d A) () A) (fun c d _ H => E c d H) → sp vs A Φ Ψ → GS (t E) (AEf Φ) (L2.start N vs) A) :
    FnOk P w K mg base (L2.CX P w) (k + 1) f fd ps (lift sp) := by
  refine FunD.ok F sc (fun vs H Q E ⟨A, Φ, Ψ, _, _, _, h⟩ => len vs A Φ Ψ h) ?_
  rintro cdv A outer s H vs Q E hr ⟨B, Φ, Ψ, hB, hq, hx, h⟩
  refine ⟨t E, dv cdv A outer s H E hr, hs vs B Φ Ψ E ?_ h H _ hB ⟨?_, ?_, fun _ _ _ _ z => z, fun _ _ _ _ z => z⟩⟩
  · intro c d σ A H a q
    obtain ⟨B, b, q⟩ := q H a
    exact hx c d B H b q
  · intro σ A H a q
    exact hq.cl .non A H a q
  · exact hq.cl

end S

namespace S
open PySem L2

/-! ### operators that ask what they are given -/
def rAddS : R2 := fun x y H Q => ∃ i j, x = V.str i ∧ y = V.str j ∧ i.length + j.length ≤ sizeLine ∧ Q (V.str (i ++ j)) H
def dAdd (K : PySem.W.Frag) : R2 := fun x y H Q => rI0 (fun i j => .int (i + j)) x y H Q ∨ rAddS x y H Q ∨ rCat x y H Q ∨ rCatT K x y H Q
theorem op_dAdd {X : Cx} : OpR X (binaryOp .Add) (dAdd X.K) := OpR.or op_add (OpR.or op_add_str (OpR.or op_cat op_catT))
def dSub : R2 := rI0 fun i j => .int (i - j)
theorem op_dSub {X : Cx} : OpR X (binaryOp .Sub) dSub := op_sub
def dMul : R2 := rI CMul fun i j => .int (i * j)
theorem op_dMul {X : Cx} : OpR X (binaryOp .Mult) dMul := op_mul
def dMod : R2 := rI (fun _ j => 0 < j) fun i j => .int (i % j)
theorem op_dMod {X : Cx} : OpR X (binaryOp .Mod) dMod := op_mod
def dDiv : R2 := rI CDiv fun i j => .int (i / j)
theorem op_dDiv {X : Cx} : OpR X (binaryOp .FloorDiv) dDiv := op_fdiv
def dEq (K : PySem.W.Frag) : R2 := fun x y H Q => rEq x y H Q ∨ rEqD K x y H Q
theorem op_dEq {X : Cx} {k : Nat} (hr : Room k X.A) : OpR X (compareOp .Eq) (dEq X.K) := OpR.or op_eq (op_eqD hr.units)
def dNe (K : PySem.W.Frag) : R2 := fun x y H Q => rNe x y H Q ∨ rNeD K x y H Q
theorem op_dNe {X : Cx} {k : Nat} (hr : Room k X.A) : OpR X (compareOp .NotEq) (dNe X.K) := OpR.or op_ne (op_neD hr.units)
def rLtI : R2 := rI0 fun i j => .bl (decide (i < j))
def dLt (K : PySem.W.Frag) : R2 := fun x y H Q => rLtI x y H Q ∨ rLtT K x y H Q
theorem op_dLt {X : Cx} {k : Nat} (hr : Room k X.A) : OpR X (compareOp .Lt) (dLt X.K) := OpR.or op_lt (op_ltT hr.units0)
def dLe : R2 := rI0 fun i j => .bl (decide (i ≤ j))
theorem op_dLe {X : Cx} : OpR X (compareOp .LtE) dLe := op_le
def dGt : R2 := rI0 fun i j => .bl (decide (j < i))
theorem op_dGt {X : Cx} : OpR X (compareOp .Gt) dGt := op_gt
def dGe : R2 := rI0 fun i j => .bl (decide (j ≤ i))
theorem op_dGe {X : Cx} : OpR X (compareOp .GtE) dGe := op_ge
def rSgn (neg : Bool) : R2 := fun x y H Q => ∃ (c : Nat) (z : Str), x = .str ⟨#[c]⟩ ∧ y = .str z ∧ Q (.bl (if neg then !decide (c ∈ z.cps.toList) else decide (c ∈ z.cps.toList))) H
def dIn (K : PySem.W.Frag) (neg : Bool) : R2 := fun x y H Q => rIn K neg x y H Q ∨ rSgn neg x y H Q
theorem op_dIn {X : Cx} : OpR X (compareOp .In) (dIn X.K false) := OpR.or op_in_seq fun pins s σ H x y v u Q I rx ry ⟨c, z, e1, e2, q⟩ => op_in_sign pins s σ H x y v u Q I rx ry ⟨c, z, e1, e2, q⟩
theorem op_dNotIn {X : Cx} : OpR X (compareOp .NotIn) (dIn X.K true) := OpR.or op_notIn_seq fun pins s σ H x y v u Q I rx ry ⟨c, z, e1, e2, q⟩ => op_notIn_sign pins s σ H x y v u Q I rx ry ⟨c, z, e1, e2, q⟩
def dIs (neg : Bool) : R2 := fun x y H Q => y = V.non ∧ Q (V.bl (if neg then !decide (x = V.non) else decide (x = V.non))) H
theorem op_dIs {X : Cx} : OpR X (compareOp .Is) (dIs false) := op_isN
theorem op_dIsNot {X : Cx} : OpR X (compareOp .IsNot) (dIs true) := op_notN

section
variable {K : PySem.W.Frag} {σ σ' : L2.St} {A B C : SH} {Φ : V → SH → Prop} {v x y : V} {i j : Int} {p q : Addr} {xs ys : List V}
theorem gr_addI (k : Φ (.int (i + j)) A) : GR (dAdd K) (.int i) (.int j) A Φ := fun H Q a p => .inl (gr_I0 (A := A) k H Q a p)
theorem gr_addS {z w : Str} (h : z.length + w.length ≤ sizeLine) (k : Φ (.str (z ++ w)) A) : GR (dAdd K) (.str z) (.str w) A Φ := fun H Q a p => .inr (.inl ⟨z, w, rfl, rfl, h, p _ A H a k⟩)
theorem gr_addL (h1 : RO A p (.lst xs)) (h2 : RO A q (.lst ys)) (h : xs.length + ys.length ≤ sizeLine) (k : ∀ r, Φ (.ref r) (sg r (.lst (xs ++ ys)) :: A)) : GR (dAdd K) (.ref p) (.ref q) A Φ := fun H Q a ps =>
  .inr (.inr (.inl ⟨p, q, xs, ys, rfl, rfl, h1 H a, h2 H a, h, fun r hr => ps _ _ _ (a.new hr) (k r)⟩))
theorem gr_subI (k : Φ (.int (i - j)) A) : GR dSub (.int i) (.int j) A Φ := gr_I0 k
theorem gr_mulI (c : CMul i j) (k : Φ (.int (i * j)) A) : GR dMul (.int i) (.int j) A Φ := gr_I c k
theorem gr_modI (c : 0 < j) (k : Φ (.int (i % j)) A) : GR dMod (.int i) (.int j) A Φ := gr_I c k
theorem gr_divI (c : CDiv i j) (k : Φ (.int (i / j)) A) : GR dDiv (.int i) (.int j) A Φ := gr_I c k
theorem gr_ltI (k : Φ (.bl (decide (i < j))) A) : GR (dLt K) (.int i) (.int j) A Φ := fun H Q a p => .inl (gr_I0 (g := fun i j => .bl (decide (i < j))) k H Q a p)
theorem gr_ltT {ns ms : List Int} (h1 : RT K A p (ns.map V.int)) (h2 : RT K A q (ms.map V.int)) (k : Φ (.bl (HT.lexLt ns ms)) A) : GR (dLt K) (.ref p) (.ref q) A Φ := fun H Q a ps =>
  .inr ⟨p, q, ns, ms, rfl, rfl, h1 H a, h2 H a, ps _ A H a k⟩
theorem gr_leI (k : Φ (.bl (decide (i ≤ j))) A) : GR dLe (.int i) (.int j) A Φ := gr_I0 (g := fun i j => .bl (decide (i ≤ j))) k
theorem gr_gtI (k : Φ (.bl (decide (j < i))) A) : GR dGt (.int i) (.int j) A Φ := gr_I0 (g := fun i j => .bl (decide (j < i))) k
theorem gr_geI (k : Φ (.bl (decide (j ≤ i))) A) : GR dGe (.int i) (.int j) A Φ := gr_I0 (g := fun i j => .bl (decide (j ≤ i))) k
theorem dec_int (i j : Int) : decide (V.int i = V.int j) = decide (i = j) := by
  by_cases h : i = j
  · subst h; simp
  · rw [decide_eq_false h, decide_eq_false fun e => h (V.int.inj e)]
theorem dec_str (i j : Str) : decide (V.str i = V.str j) = decide (i = j) := by
  by_cases h : i = j
  · subst h; simp
  · rw [decide_eq_false h, decide_eq_false fun e => h (V.str.inj e)]
theorem dec_bl (i j : Bool) : decide (V.bl i = V.bl j) = decide (i = j) := by
  by_cases h : i = j
  · subst h; simp
  · rw [decide_eq_false h, decide_eq_false fun e => h (V.bl.inj e)]
theorem gr_eqI (k : Φ (.bl (decide (i = j))) A) : GR (dEq K) (.int i) (.int j) A Φ := fun H Q a p => .inl ⟨rfl, by rw [dec_int]; exact p _ A H a k⟩
theorem gr_eqS {z w : Str} (k : Φ (.bl (decide (z = w))) A) : GR (dEq K) (.str z) (.str w) A Φ := fun H Q a p => .inl ⟨rfl, by rw [dec_str]; exact p _ A H a k⟩
theorem gr_eqB {b c : Bool} (k : Φ (.bl (decide (b = c))) A) : GR (dEq K) (.bl b) (.bl c) A Φ := fun H Q a p => .inl ⟨rfl, by rw [dec_bl]; exact p _ A H a k⟩
theorem gr_eq_scal (hs : scal x y = true) (k : Φ (.bl (decide (x = y))) A) : GR (dEq K) x y A Φ := fun H Q a p => .inl ⟨hs, p _ A H a k⟩
theorem gr_neI (k : Φ (.bl (!decide (i = j))) A) : GR (dNe K) (.int i) (.int j) A Φ := fun H Q a p => .inl ⟨rfl, by rw [dec_int]; exact p _ A H a k⟩
theorem gr_neS {z w : Str} (k : Φ (.bl (!decide (z = w))) A) : GR (dNe K) (.str z) (.str w) A Φ := fun H Q a p => .inl ⟨rfl, by rw [dec_str]; exact p _ A H a k⟩
theorem gr_ne_scal (hs : scal x y = true) (k : Φ (.bl (!decide (x = y))) A) : GR (dNe K) x y A Φ := fun H Q a p => .inl ⟨hs, p _ A H a k⟩
/-- data at any depth -/
def DP (K : PySem.W.Frag) (A : SH) (v : V) (d : PyData) : Prop := ∀ H, Has H A → Dp K H v d
def DPs (K : PySem.W.Frag) (A : SH) (v : List V) (d : List PyData) : Prop := ∀ H, Has H A → DpAll K H v d
theorem DP.le {d : PyData} (l : Le A B) (h : DP K A v d) : DP K B v d := fun H x => h H (l H x)
theorem DP.tail {g : Hp} {d : PyData} (h : DP K A v d) : DP K (g :: A) v d := fun H x => h H x.tail
theorem DPs.tail {g : Hp} {vs : List V} {ds : List PyData} (h : DPs K A vs ds) : DPs K (g :: A) vs ds := fun H x => h H x.tail
theorem dp_non : DP K A .non .none := fun _ _ => .non
theorem dp_bl {b : Bool} : DP K A (.bl b) (.bool b) := fun _ _ => .bl b
theorem dp_int : DP K A (.int i) (.int i) := fun _ _ => .int i
theorem dp_str {z : Str} : DP K A (.str z) (.str z) := fun _ _ => .str z
theorem dp_lst {ds : List PyData} (r : RL K A p xs) (h : DPs K A xs ds) : DP K A (.ref p) (.list ds) := fun H x => .lst (r H x) (h H x)
theorem dp_tup {ds : List PyData} (r : RT K A p xs) (h : DPs K A xs ds) : DP K A (.ref p) (.tuple ds) := fun H x => .tup (r H x) (h H x)
theorem dps_nil : DPs K A [] [] := fun _ _ => .nil
theorem dps_cons {vs : List V} {d : PyData} {ds : List PyData} (h : DP K A v d) (t : DPs K A vs ds) : DPs K A (v :: vs) (d :: ds) := fun H x => .cons (h H x) (t H x)
theorem dps_map {α : Type} {f : α → V} {g : α → PyData} : ∀ {l : List α}, (∀ a ∈ l, DP K A (f a) (g a)) → DPs K A (l.map f) (l.map g)
  | [], _ => dps_nil
  | a :: l, h => dps_cons (h a List.mem_cons_self) (dps_map fun b hb => h b (List.mem_cons_of_mem _ hb))
theorem dps_ints {l : List Int} : DPs K A (l.map V.int) (l.map PyData.int) := dps_map fun _ _ => dp_int
theorem dps_strs {l : List Str} : DPs K A (l.map V.str) (l.map PyData.str) := dps_map fun _ _ => dp_str
theorem gr_eqD {d e : PyData} (h1 : DP K A x d) (h2 : DP K A y e) (s1 : SeqAt.shaped d = true) (s2 : SeqAt.shaped e = true) (k : Φ (.bl (PyData.eqv d e)) A) : GR (dEq K) x y A Φ := fun H Q a p =>
  .inr ⟨d, e, h1 H a, h2 H a, s1, s2, p _ A H a k⟩
theorem gr_neD {d e : PyData} (h1 : DP K A x d) (h2 : DP K A y e) (s1 : SeqAt.shaped d = true) (s2 : SeqAt.shaped e = true) (k : Φ (.bl (!PyData.eqv d e)) A) : GR (dNe K) x y A Φ := fun H Q a p =>
  .inr ⟨d, e, h1 H a, h2 H a, s1, s2, p _ A H a k⟩
theorem gr_inL {neg : Bool} (r : RL K A p xs) (f : flatV x = true) (fs : xs.all flatV = true) (k : Φ (.bl (if neg then !inV x xs else inV x xs)) A) : GR (dIn K neg) x (.ref p) A Φ := fun H Q a ps =>
  .inl ⟨p, xs, rfl, .inl (r H a), f, fs, ps _ A H a k⟩
theorem gr_inT {neg : Bool} (r : RT K A p xs) (f : flatV x = true) (fs : xs.all flatV = true) (k : Φ (.bl (if neg then !inV x xs else inV x xs)) A) : GR (dIn K neg) x (.ref p) A Φ := fun H Q a ps =>
  .inl ⟨p, xs, rfl, .inr (r H a), f, fs, ps _ A H a k⟩
theorem gr_inS {neg : Bool} {c : Nat} {z : Str} (k : Φ (.bl (if neg then !decide (c ∈ z.cps.toList) else decide (c ∈ z.cps.toList))) A) : GR (dIn K neg) (.str ⟨#[c]⟩) (.str z) A Φ := fun H Q a ps =>
  .inr ⟨c, z, rfl, rfl, ps _ A H a k⟩
theorem gr_isN {neg : Bool} (k : Φ (.bl (if neg then !decide (x = V.non) else decide (x = V.non))) A) : GR (dIs neg) x .non A Φ := fun H Q a p => ⟨rfl, p _ A H a k⟩
/-! ### subscripts, slices -/
theorem gr_ixL (r : RL K A p xs) (h : atI xs i = some v) (k : Φ v A) : GR (rIx K) (.ref p) (.int i) A Φ := fun H Q a ps => .inl ⟨p, xs, i, v, rfl, rfl, r H a, h, ps _ A H a k⟩
theorem gr_ixT (r : RT K A p xs) (h : atI xs i = some v) (k : Φ v A) : GR (rIx K) (.ref p) (.int i) A Φ := fun H Q a ps => .inr (.inl ⟨p, xs, i, v, rfl, rfl, r H a, h, ps _ A H a k⟩)
theorem gr_ixS {z : Str} {c : Nat} (l : z.length ≤ sizeLine) (h : atI z.cps.toList i = some c) (k : Φ (.str ⟨#[c]⟩) A) : GR (rIx K) (.str z) (.int i) A Φ := fun H Q a ps => .inr (.inr ⟨z, i, c, rfl, rfl, l, h, ps _ A H a k⟩)
theorem atI_lt {α : Type} {l : List α} {i : Int} (h0 : 0 ≤ i) (h1 : i < l.length) : atI l i = some (l[i.toNat]'(by omega)) := by
  unfold atI ixN
  rw [if_pos h0, if_pos h1]
  simp
def GO (t : TO) (σ : L2.St) (A : SH) (Φ : Option Int → SH → Prop) : Prop := ∀ H (Q : Option Int → Hp → Prop), Has H A → (∀ b A' H', Has H' A' → Φ b A' → Q b H') → t σ H Q
theorem go_no {Φ : Option Int → SH → Prop} (k : Φ none A) : GO tNoPart σ A Φ := fun H Q a p => p _ A H a k
theorem go_some {Φ : Option Int → SH → Prop} {te : TE} (h : GE te σ A fun x A' => ∃ i, x = .int i ∧ Φ (some i) A') : GO (tPart te) σ A Φ := fun H Q a p => h H _ a fun x A1 H1 a1 ⟨i, e, k⟩ => ⟨i, e, p _ A1 H1 a1 k⟩
def rSl (K : PySem.W.Frag) : V → Option Int → Option Int → Hp → VK → Prop := fun x lo hi H Q => rSlL K x lo hi H Q ∨ rSlS x lo hi H Q ∨ rSlT K x lo hi H Q
theorem sl_any {X : Cx} : SlR X (rSl X.K) := by
  intro pins s σ H x v vl vu lo hi sl Q I rx hs pl pu h
  rcases h with h | h | h
  · exact sl_list pins s σ H x v vl vu lo hi sl Q I rx hs pl pu h
  · exact sl_str pins s σ H x v vl vu lo hi sl Q I rx hs pl pu h
  · exact sl_tup pins s σ H x v vl vu lo hi sl Q I rx hs pl pu h
def GSl (r : V → Option Int → Option Int → Hp → VK → Prop) (x : V) (lo hi : Option Int) (A : SH) (Φ : V → SH → Prop) : Prop := ∀ H Q, Has H A → Post Φ Q → r x lo hi H Q
theorem ge_sl {r : V → Option Int → Option Int → Hp → VK → Prop} {te : TE} {tl th : TO} (h : GE te σ A fun x A1 => GO tl σ A1 fun l A2 => GO th σ A2 fun u A3 => GSl r x l u A3 Φ) : GE (tSl r te tl th) σ A Φ := fun H Q a p =>
  h H _ a fun x A1 H1 a1 h1 => h1 H1 _ a1 fun l A2 H2 a2 h2 => h2 H2 _ a2 fun u A3 H3 a3 h3 => h3 H3 Q a3 p
theorem gsl_list {lo hi : Option Int} (r : RL K A p xs) (k : ∀ q, Φ (.ref q) (sg q (.lst (cutV xs lo hi)) :: A)) : GSl (rSl K) (.ref p) lo hi A Φ := fun H Q a ps => .inl ⟨p, xs, rfl, r H a, fun q hq => ps _ _ _ (a.new hq) (k q)⟩
theorem gsl_str {z : Str} {lo hi : Option Int} (l : z.length ≤ sizeLine) (k : Φ (.str (cutS z lo hi)) A) : GSl (rSl K) (.str z) lo hi A Φ := fun H Q a ps => .inr (.inl ⟨z, rfl, l, ps _ A H a k⟩)

/-! ### dicts -/
def RD (A : SH) (a : Addr) (kvs : List (L2.Key × V)) : Prop := ∀ H, Has H A → Rd H a (.dK kvs)
theorem RD.tail {g : Hp} {a : Addr} {kvs : List (L2.Key × V)} (h : RD A a kvs) : RD (g :: A) a kvs := fun H x => h H x.tail
theorem RD.ro {a : Addr} {kvs : List (L2.Key × V)} (h : RO A a (.dK kvs)) : RD A a kvs := fun H x => .inl (h H x)
theorem RD.head {a : Addr} {kvs : List (L2.Key × V)} : RD (sg a (.dK kvs) :: A) a kvs := .ro .head
def KV1 (y : V) (k : L2.Key) : Prop := y = kV k
theorem kv_int : KV1 (.int i) (.inl i) := rfl
theorem kv_str {z : Str} : KV1 (.str z) (.inr z) := rfl
section
variable {td ty tv : TE} {a : Addr} {kvs : List (L2.Key × V)} {k : L2.Key} {nx : L2.St → SH → Prop} {rt : V → SH → Prop} {bk ct : L2.St → SH → Prop}
theorem ge_dget (h : GE td σ A fun x A1 => GE ty σ A1 fun y A2 => ∃ a kvs k v, x = .ref a ∧ RD A2 a kvs ∧ KV1 y k ∧ valV kvs k = some v ∧ Φ v A2) : GE (tDGet td ty) σ A Φ := fun H Q a p =>
  h H _ a fun x A1 H1 a1 h1 => h1 H1 _ a1 fun y A2 H2 a2 ⟨d, kvs, k, v, e, r, ky, hv, c⟩ => ⟨d, v, e, .inl ⟨kvs, k, r H2 a2, ky, hv.symm⟩, p _ A2 H2 a2 c⟩
theorem ge_din (h : GE ty σ A fun y A1 => GE td σ A1 fun x A2 => ∃ a kvs k, x = .ref a ∧ RD A2 a kvs ∧ KV1 y k ∧ Φ (.bl (valV kvs k).isSome) A2) : GE (tDIn ty td) σ A Φ := fun H Q a p =>
  h H _ a fun y A1 H1 a1 h1 => h1 H1 _ a1 fun x A2 H2 a2 ⟨d, kvs, k, e, r, ky, c⟩ => ⟨d, _, e, .inl ⟨kvs, k, r H2 a2, ky, rfl⟩, p _ A2 H2 a2 c⟩
theorem ge_dnotin (h : GE ty σ A fun y A1 => GE td σ A1 fun x A2 => ∃ a kvs k, x = .ref a ∧ RD A2 a kvs ∧ KV1 y k ∧ Φ (.bl (!(valV kvs k).isSome)) A2) : GE (tDNotIn ty td) σ A Φ := fun H Q a p =>
  h H _ a fun y A1 H1 a1 h1 => h1 H1 _ a1 fun x A2 H2 a2 ⟨d, kvs, k, e, r, ky, c⟩ => ⟨d, _, e, .inl ⟨kvs, k, r H2 a2, ky, rfl⟩, p _ A2 H2 a2 c⟩
theorem gs_dput (h : GE tv σ A fun v A1 => GE td σ A1 fun x A2 => GE ty σ A2 fun y A3 => ∃ a kvs k B, x = .ref a ∧ Pull A3 (sg a (.dK kvs)) B ∧ KV1 y k ∧ kvs.length < sizeLine ∧ nx σ (sg a (.dK (putK kvs k v)) :: B)) : GS (sDPut td ty tv) ⟨nx, rt, bk, ct⟩ σ A := fun H E a im =>
  h H _ a fun v A1 H1 a1 h1 => h1 H1 _ a1 fun x A2 H2 a2 h2 => h2 H2 _ a2 fun y A3 H3 a3 ⟨d, kvs, k, B, e, pl, ky, hl, c⟩ =>
    ⟨d, upd H3 d (.dK (putK kvs k v)), e, .inl ⟨kvs, k, (pl.has a3).at, ky, hl, rfl⟩, im.nx _ _ _ (pl.has a3).set c⟩
theorem ge_dpop1 (h : GE td σ A fun x A1 => ∃ a kvs, x = .ref a ∧ RO A1 a (.dK kvs) ∧ GE ty σ A1 fun y A2 => ∃ kvs k v B, Pull A2 (sg a (.dK kvs)) B ∧ KV1 y k ∧ valV kvs k = some v ∧ Φ v (sg a (.dK (dropK kvs k)) :: B)) : GE (tDPop1 td ty) σ A Φ := fun H Q a p =>
  h H _ a fun x A1 H1 a1 ⟨d, kv0, e, ro, h1⟩ => ⟨d, e, .inl ⟨kv0, .inl (ro H1 a1)⟩, h1 H1 _ a1 fun y A2 H2 a2 ⟨kvs, k, v, B, pl, ky, hv, c⟩ => ⟨kvs, k, v, (pl.has a2).at, ky, hv, p _ _ _ (pl.has a2).set c⟩⟩
end

/-! ### methods of lists -/
section
variable {to : TE} {t : TA} {r : V → List V → Hp → VK → Prop} {T : String}
def TyA (K : PySem.W.Frag) (T : String) (x : V) (A : SH) : Prop := ∀ H, Has H A → tyV K T x H
theorem ty_list (h : RL K A p xs) : TyA K "list" (.ref p) A := fun H a => .inl ⟨rfl, xs, h H a⟩
theorem ty_str {z : Str} : TyA K "str" (.str z) A := fun H a => rfl
theorem ty_dict {kvs : List (L2.Key × V)} (h : RO A p (.dK kvs)) : TyA K "dict" (.ref p) A := fun H a => .inr (.inr (.inl ⟨rfl, .inl ⟨kvs, h H a⟩⟩))
theorem ge_bm (h : GE to σ A fun x A1 => TyA K T x A1 ∧ GA t σ A1 fun vs A2 => GM r x vs A2 Φ) : GE (tBM K T r to t) σ A Φ := fun H Q a p =>
  h H _ a fun x A1 H1 a1 ⟨ty, h1⟩ => ⟨ty H1 a1, h1 H1 _ a1 fun vs A2 H2 a2 h2 => h2 H2 Q a2 p⟩
theorem ge_bm0 (h : GE to σ A fun x A1 => TyA K T x A1 ∧ GM r x [] A1 Φ) : GE (tBM0 K T r to) σ A Φ := fun H Q a p =>
  h H _ a fun x A1 H1 a1 ⟨ty, h1⟩ => ⟨ty H1 a1, h1 H1 Q a1 p⟩
theorem gm_append (pl : Pull A (sg p (.lst xs)) B) (hl : xs.length < sizeLine) (k : Φ .non (sg p (.lst (xs ++ [y])) :: B)) : GM rAppend (.ref p) [y] A Φ := fun H Q a ps =>
  ⟨p, xs, y, rfl, rfl, (pl.has a).at, hl, ps _ _ _ (pl.has a).set k⟩
theorem gm_pop (pl : Pull A (sg p (.lst xs)) B) (hy : xs[xs.length - 1]? = some y) (k : Φ y (sg p (.lst xs.dropLast) :: B)) : GM rPop (.ref p) [] A Φ := fun H Q a ps =>
  ⟨p, xs, y, rfl, rfl, (pl.has a).at, hy, ps _ _ _ (pl.has a).set k⟩
theorem gm_popAt {n : Nat} (pl : Pull A (sg p (.lst xs)) B) (h1 : -(2 ^ 63) ≤ i) (h2 : i < 2 ^ 63) (hi : seqIndex? i xs.length = some n) (hy : xs[n]? = some y) (k : Φ y (sg p (.lst (xs.eraseIdx n)) :: B)) : GM rPopAt (.ref p) [.int i] A Φ := fun H Q a ps =>
  ⟨p, xs, i, n, y, rfl, rfl, (pl.has a).at, h1, h2, hi, hy, ps _ _ _ (pl.has a).set k⟩
theorem gm_clear (pl : Pull A (sg p (.lst xs)) B) (k : Φ .non (sg p (.lst []) :: B)) : GM rClear (.ref p) [] A Φ := fun H Q a ps => ⟨p, xs, rfl, rfl, (pl.has a).at, ps _ _ _ (pl.has a).set k⟩
theorem gm_reverse (pl : Pull A (sg p (.lst xs)) B) (k : Φ .non (sg p (.lst xs.reverse) :: B)) : GM rReverse (.ref p) [] A Φ := fun H Q a ps => ⟨p, xs, rfl, rfl, (pl.has a).at, ps _ _ _ (pl.has a).set k⟩
theorem gm_extend (pl : Pull A (sg p (.lst xs)) B) (r : RO A q (.lst ys)) (hl : xs.length + ys.length ≤ sizeLine) (k : Φ .non (sg p (.lst (xs ++ ys)) :: B)) : GM rExtend (.ref p) [.ref q] A Φ := fun H Q a ps =>
  ⟨p, q, xs, ys, rfl, rfl, (pl.has a).at, r H a, hl, ps _ _ _ (pl.has a).set k⟩
theorem gm_index {n : Nat} {z : V} (r : RL K A p ys) (f : flatV y = true) (fs : ys.all flatV = true) (hz : ys[n]? = some z) (he : eqV z y = true) (hn : ∀ (m : Nat) (z' : V), m < n → ys[m]? = some z' → eqV z' y = false) (k : Φ (.int (n : Nat)) A) : GM (rIndex K) (.ref p) [y] A Φ := fun H Q a ps =>
  ⟨p, ys, y, n, z, rfl, rfl, r H a, f, fs, hz, he, hn, ps _ A H a k⟩
def rInsert : V → List V → Hp → VK → Prop := fun x vs H Q => ∃ (l : Addr) (xs : List V) (i : Int) (y : V), x = .ref l ∧ vs = [.int i, y] ∧ H l = some (.lst xs) ∧ xs.length < sizeLine ∧ 0 ≤ i ∧ i < 2 ^ 63 ∧ Q .non (upd H l (.lst (xs.take i.toNat ++ [y] ++ xs.drop i.toNat)))
theorem gm_insert (pl : Pull A (sg p (.lst xs)) B) (hl : xs.length < sizeLine) (h0 : 0 ≤ i) (h1 : i < 2 ^ 63) (k : Φ .non (sg p (.lst (xs.take i.toNat ++ [y] ++ xs.drop i.toNat)) :: B)) : GM rInsert (.ref p) [.int i, y] A Φ := fun H Q a ps =>
  ⟨p, xs, i, y, rfl, rfl, (pl.has a).at, hl, h0, h1, ps _ _ _ (pl.has a).set k⟩
end

/-! ### built-in functions -/
theorem ge_cb {r : List V → Hp → VK → Prop} {t : TA} (h : GA t σ A fun vs A1 => GC r vs A1 Φ) : GE (tCB r t) σ A Φ := fun H Q a p => h H _ a fun vs A1 H1 a1 h1 => h1 H1 Q a1 p
def cLen (K : PySem.W.Frag) : List V → Hp → VK → Prop := fun xs H Q => (∃ x n, xs = [x] ∧ LenV K x H n ∧ Q (.int n) H) ∨ ∃ a kvs, xs = [V.ref a] ∧ H a = some (.dK kvs) ∧ Q (.int kvs.length) H
theorem call_cLen {X : Cx} : CallR X (.builtin "len") (cLen X.K) := CallR.or call_len call_lenD
theorem gc_lenL (r : RL K A p xs) (k : Φ (.int (xs.length : Nat)) A) : GC (cLen K) [.ref p] A Φ := fun H Q a ps => .inl ⟨_, _, rfl, .inl ⟨xs, r H a, rfl⟩, ps _ A H a k⟩
theorem gc_lenT (r : RT K A p xs) (k : Φ (.int (xs.length : Nat)) A) : GC (cLen K) [.ref p] A Φ := fun H Q a ps => .inl ⟨_, _, rfl, .inr ⟨xs, r H a, rfl⟩, ps _ A H a k⟩
theorem gc_lenS {z : Str} (l : z.length ≤ sizeLine) (k : Φ (.int (z.length : Nat)) A) : GC (cLen K) [.str z] A Φ := fun H Q a ps => .inl ⟨_, _, rfl, ⟨l, rfl⟩, ps _ A H a k⟩
theorem gc_lenD {kvs : List (L2.Key × V)} (r : RO A p (.dK kvs)) (k : Φ (.int (kvs.length : Nat)) A) : GC (cLen K) [.ref p] A Φ := fun H Q a ps => .inr ⟨p, kvs, rfl, r H a, ps _ A H a k⟩
def cMin2 : List V → Hp → VK → Prop := fun xs H Q => ∃ i j, xs = [.int i, .int j] ∧ Q (.int (if j < i then j else i)) H
def cMax2 : List V → Hp → VK → Prop := fun xs H Q => ∃ i j, xs = [.int i, .int j] ∧ Q (.int (if j > i then j else i)) H
theorem call_cMin2 {X : Cx} (hc : X.calm = true) : CallR X (.builtin "min") cMin2 := call_min2 hc
theorem call_cMax2 {X : Cx} (hc : X.calm = true) : CallR X (.builtin "max") cMax2 := call_max2 hc
theorem gc_min2 (k : Φ (.int (min i j)) A) : GC cMin2 [.int i, .int j] A Φ := fun H Q a ps => ⟨i, j, rfl, by
  have e : (if j < i then j else i) = min i j := by omega
  rw [e]; exact ps _ A H a k⟩
theorem gc_max2 (k : Φ (.int (max i j)) A) : GC cMax2 [.int i, .int j] A Φ := fun H Q a ps => ⟨i, j, rfl, by
  have e : (if j > i then j else i) = max i j := by omega
  rw [e]; exact ps _ A H a k⟩
def cList (K : PySem.W.Frag) : List V → Hp → VK → Prop := fun xs H Q => (∃ p ys, xs = [.ref p] ∧ (SqL K H p ys ∨ SqT K H p ys) ∧ ∀ l, H l = none → Q (.ref l) (upd H l (.lst ys))) ∨
  ∃ (a : Addr) (kvs : List (L2.Key × V)), xs = [.ref a] ∧ Rd H a (.dK kvs) ∧ ∀ p, H p = none → Q (.ref p) (upd H p (.lst (kvs.map fun kv => kV kv.1)))
theorem call_cList {X : Cx} (hc : X.calm = true) : CallR X (.type "list") (cList X.K) := CallR.or call_list_of (call_listD hc)
theorem gc_listL (r : RL K A p xs) (k : ∀ q, Φ (.ref q) (sg q (.lst xs) :: A)) : GC (cList K) [.ref p] A Φ := fun H Q a ps => .inl ⟨p, xs, rfl, .inl (r H a), fun l hl => ps _ _ _ (a.new hl) (k l)⟩
theorem gc_listT (r : RT K A p xs) (k : ∀ q, Φ (.ref q) (sg q (.lst xs) :: A)) : GC (cList K) [.ref p] A Φ := fun H Q a ps => .inl ⟨p, xs, rfl, .inr (r H a), fun l hl => ps _ _ _ (a.new hl) (k l)⟩
theorem gc_listD {kvs : List (L2.Key × V)} (r : RD A p kvs) (k : ∀ q, Φ (.ref q) (sg q (.lst (kvs.map fun kv => kV kv.1)) :: A)) : GC (cList K) [.ref p] A Φ := fun H Q a ps => .inr ⟨p, kvs, rfl, r H a, fun l hl => ps _ _ _ (a.new hl) (k l)⟩
theorem gc_sum {ns : List Int} (r : RL K A p (ns.map V.int)) (k : Φ (.int ns.sum) A) : GC (rSum K) [.ref p] A Φ := fun H Q a ps => ⟨p, ns, rfl, r H a, ps _ A H a k⟩
theorem gc_all {bs : List Bool} (r : RL K A p (bs.map V.bl)) (k : Φ (.bl (bs.all id)) A) : GC (rAll K) [.ref p] A Φ := fun H Q a ps => ⟨p, bs, rfl, r H a, ps _ A H a k⟩
/-! ### isinstance -/
def TyG (K : PySem.W.Frag) (A : SH) (x : V) (t : Value) : Prop := ∀ H, Has H A → TyX K H x t
theorem gc_isi {c : V} {t u : Value} {b : Bool} (hc : ClsV c u) (ty : TyG K A x t) (e : PySem.W.kitOne K t u = some b) (k : Φ (.bl b) A) : GC (rIsi K) [x, c] A Φ := fun H Q a ps => ⟨x, c, t, u, b, rfl, hc, ty H a, e, ps _ A H a k⟩
theorem gc_isiT {tp : Addr} {cs : List V} {t : Value} {us : List Value} {b : Bool} (r : RO A tp (.tup cs)) (hc : Paired ClsV cs us) (ty : TyG K A x t) (e : PySem.W.kitAny K t us = some b) (k : Φ (.bl b) A) : GC (rIsiT K) [x, .ref tp] A Φ := fun H Q a ps =>
  ⟨x, tp, cs, t, us, b, rfl, r H a, hc, ty H a, e, ps _ A H a k⟩
theorem ty_non : TyG K A .non (.type "NoneType") := fun _ _ => .base .non
theorem ty_bl {b : Bool} : TyG K A (.bl b) (.type "bool") := fun _ _ => .base (.bl b)
theorem ty_int : TyG K A (.int i) (.type "int") := fun _ _ => .base (.int i)
theorem ty_strT {z : Str} : TyG K A (.str z) (.type "str") := fun _ _ => .base (.str z)
theorem ty_lst (r : RO A p (.lst xs)) : TyG K A (.ref p) (.type "list") := fun H a => .base (.lst (r H a))
theorem ty_tup (r : RO A p (.tup xs)) : TyG K A (.ref p) (.type "tuple") := fun H a => .base (.tup (r H a))
theorem ty_dK {kvs : List (L2.Key × V)} (r : RO A p (.dK kvs)) : TyG K A (.ref p) (.type "dict") := fun H a => .base (.dK (r H a))
/-- what isinstance asks of an own class -/
structure InsO (K : PySem.W.Frag) (C : Addr) : Prop where
  c : Cls K C
  a : PySem.W.findIn K (Value.ref C) (Str.ofString "__class__") = some (some (Value.builtin "object.__class__"))
  n : PySem.W.specialIn K (Value.builtin "object.__class__") (Str.ofString "__get__") = some (some (Value.builtin "getset_descriptor.__get__"))
  t : PySem.W.takesIn K (Value.builtin "object.__class__") = some true
  m : PySem.W.mroIn K C (Value.type "object") = some true
theorem ty_ins {C dx : Addr} {fs : List (Str × V)} (o : InsO K C) (r : RO A p (.ins C dx fs)) : TyG K A (.ref p) (.ref C) := fun H a => .base (.ins (r H a) o.c o.a o.n o.t o.m)
/-! ### fields -/
def FOk (K : PySem.W.Frag) (C : Addr) (f : Str) : Prop := Cls K C ∧ NoAttr K C f
theorem ge_fld {te : TE} {f : Str} (h : GE te σ A fun x A1 => ∃ a C dx fs v, x = .ref a ∧ RO A1 a (.ins C dx fs) ∧ FOk K C f ∧ fs.lookup f = some v ∧ Φ v A1) : GE (tFld K te f) σ A Φ := fun H Q a p =>
  h H _ a fun x A1 H1 a1 ⟨b, C, dx, fs, v, e, r, c, l, k⟩ => ⟨b, C, dx, fs, v, e, r H1 a1, c.1, c.2, l, p _ A1 H1 a1 k⟩
theorem gs_fld {ta tv : TE} {f : Str} {nx : L2.St → SH → Prop} {rt : V → SH → Prop} {bk ct : L2.St → SH → Prop} (h : GE tv σ A fun y A1 => GE ta σ A1 fun x A2 => ∃ a C dx fs B, x = .ref a ∧ Pull A2 (sg a (.ins C dx fs)) B ∧ FOk K C f ∧ fs.length < 1000 ∧ nx σ (sg a (.ins C dx (putF f y fs)) :: B)) : GS (sFld K ta tv f) ⟨nx, rt, bk, ct⟩ σ A := fun H E a im =>
  h H _ a fun y A1 H1 a1 h1 => h1 H1 _ a1 fun x A2 H2 a2 ⟨b, C, dx, fs, B, e, pl, c, l, k⟩ => ⟨b, C, dx, fs, e, (pl.has a2).at, c.1, c.2, l, im.nx _ _ _ (pl.has a2).set k⟩
theorem gs_fldaug {ta tv : TE} {f : Str} {nx : L2.St → SH → Prop} {rt : V → SH → Prop} {bk ct : L2.St → SH → Prop} {rd : V → V → Hp → VK → Prop} (h : GE ta σ A fun x A1 => ∃ a C dx fs v, x = .ref a ∧ RO A1 a (.ins C dx fs) ∧ FOk K C f ∧ fs.lookup f = some v ∧ GE tv σ A1 fun y A2 => GR rd v y A2 fun z A3 =>
    ∃ dx fs B, Pull A3 (sg a (.ins C dx fs)) B ∧ fs.length < 1000 ∧ nx σ (sg a (.ins C dx (putF f z fs)) :: B)) : GS (sFldAug K ta tv rd f) ⟨nx, rt, bk, ct⟩ σ A := fun H E a im =>
  h H _ a fun x A1 H1 a1 ⟨b, C, dx, fs, v, e, r, c, l, h1⟩ => ⟨b, C, dx, fs, v, e, r H1 a1, c.1, c.2, l, h1 H1 _ a1 fun y A2 H2 a2 h2 => h2 H2 _ a2 fun z A3 H3 a3 ⟨dx', fs', B, pl, l', k⟩ =>
    ⟨dx', fs', (pl.has a3).at, l', im.nx _ _ _ (pl.has a3).set k⟩⟩
theorem gs_aug {nx : L2.St → SH → Prop} {rt : V → SH → Prop} {bk ct : L2.St → SH → Prop} {n : Nat} {te : TE} {ti : TIp} (hg : Get1 σ n x) (h : GE te σ A fun y A1 => GR ti x y A1 fun z A2 => GG (gName n) z σ A2 nx) : GS (tAug n te ti) ⟨nx, rt, bk, ct⟩ σ A := fun H E a im =>
  ⟨x, hg, h H _ a fun y A1 H1 a1 h1 => h1 H1 _ a1 fun z A2 H2 a2 h2 => h2 H2 _ a2 im.nx⟩
theorem gr_ipI {f : Int → Int → Int} (k : Φ (.int (f i j)) A) : GR (ipI f) (.int i) (.int j) A Φ := fun H Q a p => ⟨i, j, rfl, rfl, p _ A H a k⟩
/-- the truth of a value as a test -/
def tTru (K : PySem.W.Frag) (ta : TE) : TT := fun σ H Q => ta σ H fun x H' => ∃ k, TruV K x H' k ∧ Q k H'
theorem gs_never {nx : L2.St → SH → Prop} {rt : V → SH → Prop} {bk ct : L2.St → SH → Prop} (h : False) : GS tNever ⟨nx, rt, bk, ct⟩ σ A := h.elim

/-! ### comprehensions -/
def GLC (J : It) (g : TG) (tt : TT) (te : TE) (vs : List Nat) (σ : L2.St) (A : SH) (Φ : V → SH → Prop) : Prop := ∀ H1 Q, Has H1 A → Post Φ Q → ∀ D, H1 D = none → ∃ W : Nat → Nat → Hp → Prop, (∃ m, W 0 m (upd H1 D (.lst []))) ∧ ∀ i m H, W i m H →
  (J.stop i H ∧ Q (.ref D) H) ∨ (J.go i H ∧ ∃ Nx : Hp → Prop, (∀ H', Nx H' → ∃ m', m' < m ∧ W (i + 1) m' H') ∧ ∀ x H', J.yld i H x H' → g x (wipe σ vs) H' fun σ2 H2 => wipe σ2 vs = wipe σ vs ∧ tt σ2 H2 fun b H3 =>
    if b = true then te σ2 H3 fun y H4 => ∃ acc, H4 D = some (.lst acc) ∧ acc.length < sizeLine ∧ Nx (upd H4 D (.lst (acc ++ [y]))) else Nx H3)
theorem ge_lc {wi : TI} {g : TG} {tt : TT} {te : TE} {vs : List Nat} (h : GI wi σ A fun J A1 => GLC J g tt te vs σ A1 Φ) : GE (tLc wi g tt te vs) σ A Φ := fun H Q a p => h H _ a fun J A1 H1 a1 h1 => h1 H1 Q a1 p
theorem gt_yes {Ψ : Bool → SH → Prop} (k : Ψ true A) : GT tYes σ A Ψ := fun H Q a p => p true A H a k
/-- behind a turn: the new list still holds acc, the rest is as wanted for acc' -/
def CT (N : List V → SH → Prop) (D : Addr) (acc acc' : List V) : SH → Prop := fun A => ∀ H, Has H A → ∃ B, Has H (sg D (.lst acc) :: B) ∧ N acc' B
theorem CT.pull {N : List V → SH → Prop} {D : Addr} {acc acc' : List V} (p : Pull A (sg D (.lst acc)) B) (n : N acc' B) : CT N D acc acc' A := fun H h => ⟨B, p.has h, n⟩
theorem CT.le {N : List V → SH → Prop} {D : Addr} {acc acc' : List V} (l : Le (sg D (.lst acc) :: B) A) (n : N acc' B) : CT N D acc acc' A := fun H h => ⟨B, l H h, n⟩
theorem CT.blk {N : List V → SH → Prop} {D : Addr} {acc acc' : List V} {xs : SH} (l : Le (xs ++ sg D (.lst acc) :: B) A) (n : ∀ h, (∀ y ∈ xs, Sub y h) → N acc' (h :: B)) : CT N D acc acc' A := fun H hA => by
  obtain ⟨h, a, s, _⟩ := S.blk (l H hA)
  exact ⟨h :: B, Pull.has (.tail .head) a, n h s⟩
/-- one turn -/
def Turn1 (g : TG) (tt : TT) (te : TE) (vs : List Nat) (σw : L2.St) (D : Addr) (acc : List V) (x : V) (A : SH) (N : List V → SH → Prop) : Prop :=
  GG g x σw (sg D (.lst acc) :: A) fun σ2 A2 => Wi σ2 vs σw ∧ GT tt σ2 A2 fun b A3 => (b = true → GE te σ2 A3 fun y => CT N D acc (acc ++ [y])) ∧ (b = false → CT N D acc acc A3)
theorem turn1_run {g : TG} {tt : TT} {te : TE} {vs : List Nat} {σw : L2.St} {D : Addr} {acc : List V} {x : V} {N : List V → SH → Prop} {Nx : Hp → Prop} {H : Hp} (hz : acc.length < sizeLine) (h : Turn1 g tt te vs σw D acc x A N) (a : Has H (sg D (.lst acc) :: A))
    (hN : ∀ acc' A' H', acc'.length ≤ acc.length + 1 → Has H' (sg D (.lst acc') :: A') → N acc' A' → Nx H') : g x σw H fun σ2 H2 => wipe σ2 vs = σw ∧ tt σ2 H2 fun b H3 =>
      if b = true then te σ2 H3 fun y H4 => ∃ acc, H4 D = some (.lst acc) ∧ acc.length < sizeLine ∧ Nx (upd H4 D (.lst (acc ++ [y]))) else Nx H3 := by
  refine h H _ a fun σ2 A2 H2 a2 ⟨hw, h2⟩ => ⟨hw, h2 H2 _ a2 fun b A3 H3 a3 h3 => ?_⟩
  cases b with
  | true =>
    rw [if_pos rfl]
    exact h3.1 rfl H3 _ a3 fun y A4 H4 a4 c => by
      obtain ⟨A5, b, n⟩ := c H4 a4
      exact ⟨acc, b.at, hz, hN _ A5 _ (by simp) b.set n⟩
  | false =>
    rw [if_neg Bool.false_ne_true]
    obtain ⟨A5, b, n⟩ := h3.2 rfl H3 a3
    exact hN _ A5 H3 (Nat.le_succ _) b n
theorem glc_list {g : TG} {tt : TT} {te : TE} {vs : List Nat} {σw : L2.St} (Pv : Nat → List V → SH → Prop) (hw : Wi σ vs σw) (h0 : Pv 0 [] A) (hz : xs.length < sizeLine) (hl : ∀ i acc A, i ≤ xs.length → Pv i acc A → RL K A p xs)
    (hs : ∀ i x acc A D, xs[i]? = some x → acc.length ≤ i → Pv i acc A → Turn1 g tt te vs σw D acc x A (Pv (i + 1))) (hd : ∀ acc A D, acc.length ≤ xs.length → Pv xs.length acc A → Φ (.ref D) (sg D (.lst acc) :: A)) : GLC (Itl K p) g tt te vs σ A Φ := by
  intro H1 Q a ps D hD
  have e : wipe σ vs = σw := hw
  refine lc_list (K := K) (a := p) (xs := xs) (Qd := fun H => Q (.ref D) H) (fun i H => ∃ acc A, Has H (sg D (.lst acc) :: A) ∧ acc.length ≤ i ∧ Pv i acc A) ⟨[], A, a.new hD, Nat.le_refl _, h0⟩ (fun i H hi ⟨acc, A, x, _, q⟩ => hl i acc A hi q H x.tail) ?_ ?_
  · rintro i x H hx ⟨acc, A, hA, hk, q⟩
    have hi := (List.getElem?_eq_some_iff.mp hx).1
    rw [e]
    exact turn1_run (by omega) (hs i x acc A D hx hk q) hA fun acc' A' H' hk' a' n => ⟨acc', A', a', by omega, n⟩
  · rintro H ⟨acc, A, hA, hk, q⟩
    exact ps _ _ _ hA (hd acc A D hk q)
theorem glc_tup {g : TG} {tt : TT} {te : TE} {vs : List Nat} {σw : L2.St} (Pv : Nat → List V → SH → Prop) (hw : Wi σ vs σw) (h0 : Pv 0 [] A) (hz : xs.length < sizeLine) (hl : ∀ i acc A, i ≤ xs.length → Pv i acc A → RT K A p xs)
    (hs : ∀ i x acc A D, xs[i]? = some x → acc.length ≤ i → Pv i acc A → Turn1 g tt te vs σw D acc x A (Pv (i + 1))) (hd : ∀ acc A D, acc.length ≤ xs.length → Pv xs.length acc A → Φ (.ref D) (sg D (.lst acc) :: A)) : GLC (Itt K p) g tt te vs σ A Φ := by
  intro H1 Q a ps D hD
  have e : wipe σ vs = σw := hw
  refine lc_tup (K := K) (a := p) (xs := xs) (Qd := fun H => Q (.ref D) H) (fun i H => ∃ acc A, Has H (sg D (.lst acc) :: A) ∧ acc.length ≤ i ∧ Pv i acc A) ⟨[], A, a.new hD, Nat.le_refl _, h0⟩ (fun i H hi ⟨acc, A, x, _, q⟩ => hl i acc A hi q H x.tail) ?_ ?_
  · rintro i x H hx ⟨acc, A, hA, hk, q⟩
    have hi := (List.getElem?_eq_some_iff.mp hx).1
    rw [e]
    exact turn1_run (by omega) (hs i x acc A D hx hk q) hA fun acc' A' H' hk' a' n => ⟨acc', A', a', by omega, n⟩
  · rintro H ⟨acc, A, hA, hk, q⟩
    exact ps _ _ _ hA (hd acc A D hk q)
theorem glc_range {lo : Int} {n : Nat} {g : TG} {tt : TT} {te : TE} {vs : List Nat} {σw : L2.St} (Pv : Nat → List V → SH → Prop) (hw : Wi σ vs σw) (h0 : Pv 0 [] A) (hz : n < sizeLine)
    (hs : ∀ i acc A D, i < n → acc.length ≤ i → Pv i acc A → Turn1 g tt te vs σw D acc (.int (lo + i)) A (Pv (i + 1))) (hd : ∀ acc A D, acc.length ≤ n → Pv n acc A → Φ (.ref D) (sg D (.lst acc) :: A)) : GLC (Itr lo n) g tt te vs σ A Φ := by
  intro H1 Q a ps D hD
  have e : wipe σ vs = σw := hw
  refine lc_range (lo := lo) (n := n) (Qd := fun H => Q (.ref D) H) (fun i H => ∃ acc A, Has H (sg D (.lst acc) :: A) ∧ acc.length ≤ i ∧ Pv i acc A) ⟨[], A, a.new hD, Nat.le_refl _, h0⟩ ?_ ?_
  · rintro i H hi ⟨acc, A, hA, hk, q⟩
    rw [e]
    exact turn1_run (by omega) (hs i acc A D hi hk q) hA fun acc' A' H' hk' a' n => ⟨acc', A', a', by omega, n⟩
  · rintro H ⟨acc, A, hA, hk, q⟩
    exact ps _ _ _ hA (hd acc A D hk q)
end
end S

namespace S
open PySem L2
section
variable {X : Cx}
/-- a constant of the module -/
theorem pe_gl {x : Str} {v : V} {pos : Pos} (h : ∃ u, X.mg x = some u ∧ RelV v u) (hg : Gl X x := by rfl) (hd : (x == ("__debug__" : Str)) = false := by decide) : PE X (.Name x pos) (tC v) := by
  obtain ⟨u, h1, h2⟩ := h
  exact pe_glob hg h1 h2 hd
/-- what the top has written of an own exception class without an __init__ -/
structure XOk (K : PySem.W.Frag) (mg : Str → Option Value) (x : Str) (C : Addr) : Prop where
  g : mg x = some (.ref C)
  x : PySem.W.excIn K C [.type "ValueError", .type "Exception", .type "BaseException", .type "object"] "ValueError.__new__" = true
  k : PySem.W.keepIn K (.ref C) = true
  b : PySem.W.subIn K (.ref C) (.type "BaseException") = some true
  t : PySem.W.typeIn K (.ref C) = some (.type "type")
def tRais (C : Addr) (W : WX) : TS := fun _ σ H => W (.ref C) none σ H
theorem ps_rais {C : Addr} {W : WX} {x m : Str} {j : Nat} {p p2 pos pos2 : Pos} (hc : X.calm = true) (tk : Takes X W) (x0 : XOk X.K X.mg x C) (hg : Gl X x) (hd : (x == ("__debug__" : Str)) = false := by decide) :
    PS X (.Raise (some (.Call (.Name x p) [.Constant (.str m) j p2] [] pos)) none pos2) (tRais C W) :=
  ps_raise hc tk (pmk_own PySem.F.excBase_ValueError x0.x x0.g x0.k (raises_own x0.b x0.t) hg hd)
end
theorem gs_rais {C : Addr} {W : WX} {Ψ : Value → Option Addr → L2.St → SH → Prop} {nx : L2.St → SH → Prop} {rt : V → SH → Prop} {bk ct : L2.St → SH → Prop} {σ : L2.St} {A : SH} (hx : WPost Ψ W) (k : Ψ (.ref C) none σ A) : GS (tRais C W) ⟨nx, rt, bk, ct⟩ σ A := fun H E a im => hx _ _ σ A H a k
/-! ### for over a text -/
theorem gi_str {σ : L2.St} {A : SH} {te : TE} {Φ : It → SH → Prop} (h : GE te σ A fun v A' => ∃ x, v = .str x ∧ Φ (Its x) A') : GI (iStr te) σ A Φ := fun H Q x p =>
  h H _ x fun v A' H' x' ⟨z, e, k⟩ => ⟨z, e, p _ A' H' x' k⟩
theorem gf_str {z : Str} {g : TG} {t : TS} {nx : L2.St → SH → Prop} {rt : V → SH → Prop} {bk ct : L2.St → SH → Prop} {σ : L2.St} {A : SH} (Pv : Nat → L2.St → SH → Prop) (h0 : Cl (Pv 0) σ A)
    (hs : ∀ i c σ A, z.cps[i]? = some c → Pv i σ A → GG g (.str ⟨#[c]⟩) σ A fun σ' A' => GS t ⟨Cl (Pv (i + 1)), rt, nx, Cl (Pv (i + 1))⟩ σ' A')
    (hd : ∀ σ A, Pv z.cps.size σ A → nx σ A) : GF (Its z) g t ⟨nx, rt, bk, ct⟩ σ A := fun H E x im => by
  refine ⟨fun i m σ H => m = z.cps.size - i ∧ i ≤ z.cps.size ∧ ∃ A, Has H A ∧ Pv i σ A, ⟨z.cps.size, by simp, Nat.zero_le _, h0 H x⟩, ?_⟩
  rintro i m σ H ⟨rfl, hi, A, x, p⟩
  by_cases hlt : i < z.cps.size
  · refine .inr ⟨hlt, fun σ' H' => ∃ A, Has H' A ∧ Pv (i + 1) σ' A, fun σ' H' p' => ⟨z.cps.size - (i + 1), by omega, rfl, hlt, p'⟩, fun y H' yl => ?_⟩
    obtain ⟨rfl, c, hc, rfl⟩ := yl
    exact hs i c σ A hc p _ _ x fun σ' A' H' x' k => k H' _ x' ⟨fun σ A H x p => p H x, im.rt, im.nx, fun σ A H x p => p H x⟩
  · have e : i = z.cps.size := by omega
    subst e
    exact .inl ⟨Nat.le_refl _, im.nx σ A H x (hd σ A p)⟩
end S

namespace S
open PySem L2
/-! ### slots by their numbers -/
theorem gx0 {v : V} {r : L2.St} : Get1 (some v :: r) 0 v := rfl
theorem sx0 {x o : Option V} {r : L2.St} : Set1 (x :: r) 0 o (o :: r) := rfl
theorem gx1 {x0 : Option V} {v : V} {r : L2.St} : Get1 (x0 :: some v :: r) 1 v := rfl
theorem sx1 {x0 : Option V} {x o : Option V} {r : L2.St} : Set1 (x0 :: x :: r) 1 o (x0 :: o :: r) := rfl
theorem gx2 {x0 x1 : Option V} {v : V} {r : L2.St} : Get1 (x0 :: x1 :: some v :: r) 2 v := rfl
theorem sx2 {x0 x1 : Option V} {x o : Option V} {r : L2.St} : Set1 (x0 :: x1 :: x :: r) 2 o (x0 :: x1 :: o :: r) := rfl
theorem gx3 {x0 x1 x2 : Option V} {v : V} {r : L2.St} : Get1 (x0 :: x1 :: x2 :: some v :: r) 3 v := rfl
theorem sx3 {x0 x1 x2 : Option V} {x o : Option V} {r : L2.St} : Set1 (x0 :: x1 :: x2 :: x :: r) 3 o (x0 :: x1 :: x2 :: o :: r) := rfl
theorem gx4 {x0 x1 x2 x3 : Option V} {v : V} {r : L2.St} : Get1 (x0 :: x1 :: x2 :: x3 :: some v :: r) 4 v := rfl
theorem sx4 {x0 x1 x2 x3 : Option V} {x o : Option V} {r : L2.St} : Set1 (x0 :: x1 :: x2 :: x3 :: x :: r) 4 o (x0 :: x1 :: x2 :: x3 :: o :: r) := rfl
theorem gx5 {x0 x1 x2 x3 x4 : Option V} {v : V} {r : L2.St} : Get1 (x0 :: x1 :: x2 :: x3 :: x4 :: some v :: r) 5 v := rfl
theorem sx5 {x0 x1 x2 x3 x4 : Option V} {x o : Option V} {r : L2.St} : Set1 (x0 :: x1 :: x2 :: x3 :: x4 :: x :: r) 5 o (x0 :: x1 :: x2 :: x3 :: x4 :: o :: r) := rfl
theorem gx6 {x0 x1 x2 x3 x4 x5 : Option V} {v : V} {r : L2.St} : Get1 (x0 :: x1 :: x2 :: x3 :: x4 :: x5 :: some v :: r) 6 v := rfl
theorem sx6 {x0 x1 x2 x3 x4 x5 : Option V} {x o : Option V} {r : L2.St} : Set1 (x0 :: x1 :: x2 :: x3 :: x4 :: x5 :: x :: r) 6 o (x0 :: x1 :: x2 :: x3 :: x4 :: x5 :: o :: r) := rfl
theorem gx7 {x0 x1 x2 x3 x4 x5 x6 : Option V} {v : V} {r : L2.St} : Get1 (x0 :: x1 :: x2 :: x3 :: x4 :: x5 :: x6 :: some v :: r) 7 v := rfl
theorem sx7 {x0 x1 x2 x3 x4 x5 x6 : Option V} {x o : Option V} {r : L2.St} : Set1 (x0 :: x1 :: x2 :: x3 :: x4 :: x5 :: x6 :: x :: r) 7 o (x0 :: x1 :: x2 :: x3 :: x4 :: x5 :: x6 :: o :: r) := rfl
theorem gx8 {x0 x1 x2 x3 x4 x5 x6 x7 : Option V} {v : V} {r : L2.St} : Get1 (x0 :: x1 :: x2 :: x3 :: x4 :: x5 :: x6 :: x7 :: some v :: r) 8 v := rfl
theorem sx8 {x0 x1 x2 x3 x4 x5 x6 x7 : Option V} {x o : Option V} {r : L2.St} : Set1 (x0 :: x1 :: x2 :: x3 :: x4 :: x5 :: x6 :: x7 :: x :: r) 8 o (x0 :: x1 :: x2 :: x3 :: x4 :: x5 :: x6 :: x7 :: o :: r) := rfl
theorem gx9 {x0 x1 x2 x3 x4 x5 x6 x7 x8 : Option V} {v : V} {r : L2.St} : Get1 (x0 :: x1 :: x2 :: x3 :: x4 :: x5 :: x6 :: x7 :: x8 :: some v :: r) 9 v := rfl
theorem sx9 {x0 x1 x2 x3 x4 x5 x6 x7 x8 : Option V} {x o : Option V} {r : L2.St} : Set1 (x0 :: x1 :: x2 :: x3 :: x4 :: x5 :: x6 :: x7 :: x8 :: x :: r) 9 o (x0 :: x1 :: x2 :: x3 :: x4 :: x5 :: x6 :: x7 :: x8 :: o :: r) := rfl
theorem gx10 {x0 x1 x2 x3 x4 x5 x6 x7 x8 x9 : Option V} {v : V} {r : L2.St} : Get1 (x0 :: x1 :: x2 :: x3 :: x4 :: x5 :: x6 :: x7 :: x8 :: x9 :: some v :: r) 10 v := rfl
theorem sx10 {x0 x1 x2 x3 x4 x5 x6 x7 x8 x9 : Option V} {x o : Option V} {r : L2.St} : Set1 (x0 :: x1 :: x2 :: x3 :: x4 :: x5 :: x6 :: x7 :: x8 :: x9 :: x :: r) 10 o (x0 :: x1 :: x2 :: x3 :: x4 :: x5 :: x6 :: x7 :: x8 :: x9 :: o :: r) := rfl
theorem gx11 {x0 x1 x2 x3 x4 x5 x6 x7 x8 x9 x10 : Option V} {v : V} {r : L2.St} : Get1 (x0 :: x1 :: x2 :: x3 :: x4 :: x5 :: x6 :: x7 :: x8 :: x9 :: x10 :: some v :: r) 11 v := rfl
theorem sx11 {x0 x1 x2 x3 x4 x5 x6 x7 x8 x9 x10 : Option V} {x o : Option V} {r : L2.St} : Set1 (x0 :: x1 :: x2 :: x3 :: x4 :: x5 :: x6 :: x7 :: x8 :: x9 :: x10 :: x :: r) 11 o (x0 :: x1 :: x2 :: x3 :: x4 :: x5 :: x6 :: x7 :: x8 :: x9 :: x10 :: o :: r) := rfl
theorem gx12 {x0 x1 x2 x3 x4 x5 x6 x7 x8 x9 x10 x11 : Option V} {v : V} {r : L2.St} : Get1 (x0 :: x1 :: x2 :: x3 :: x4 :: x5 :: x6 :: x7 :: x8 :: x9 :: x10 :: x11 :: some v :: r) 12 v := rfl
theorem sx12 {x0 x1 x2 x3 x4 x5 x6 x7 x8 x9 x10 x11 : Option V} {x o : Option V} {r : L2.St} : Set1 (x0 :: x1 :: x2 :: x3 :: x4 :: x5 :: x6 :: x7 :: x8 :: x9 :: x10 :: x11 :: x :: r) 12 o (x0 :: x1 :: x2 :: x3 :: x4 :: x5 :: x6 :: x7 :: x8 :: x9 :: x10 :: x11 :: o :: r) := rfl
theorem gx13 {x0 x1 x2 x3 x4 x5 x6 x7 x8 x9 x10 x11 x12 : Option V} {v : V} {r : L2.St} : Get1 (x0 :: x1 :: x2 :: x3 :: x4 :: x5 :: x6 :: x7 :: x8 :: x9 :: x10 :: x11 :: x12 :: some v :: r) 13 v := rfl
theorem sx13 {x0 x1 x2 x3 x4 x5 x6 x7 x8 x9 x10 x11 x12 : Option V} {x o : Option V} {r : L2.St} : Set1 (x0 :: x1 :: x2 :: x3 :: x4 :: x5 :: x6 :: x7 :: x8 :: x9 :: x10 :: x11 :: x12 :: x :: r) 13 o (x0 :: x1 :: x2 :: x3 :: x4 :: x5 :: x6 :: x7 :: x8 :: x9 :: x10 :: x11 :: x12 :: o :: r) := rfl
theorem gx14 {x0 x1 x2 x3 x4 x5 x6 x7 x8 x9 x10 x11 x12 x13 : Option V} {v : V} {r : L2.St} : Get1 (x0 :: x1 :: x2 :: x3 :: x4 :: x5 :: x6 :: x7 :: x8 :: x9 :: x10 :: x11 :: x12 :: x13 :: some v :: r) 14 v := rfl
theorem sx14 {x0 x1 x2 x3 x4 x5 x6 x7 x8 x9 x10 x11 x12 x13 : Option V} {x o : Option V} {r : L2.St} : Set1 (x0 :: x1 :: x2 :: x3 :: x4 :: x5 :: x6 :: x7 :: x8 :: x9 :: x10 :: x11 :: x12 :: x13 :: x :: r) 14 o (x0 :: x1 :: x2 :: x3 :: x4 :: x5 :: x6 :: x7 :: x8 :: x9 :: x10 :: x11 :: x12 :: x13 :: o :: r) := rfl
theorem gx15 {x0 x1 x2 x3 x4 x5 x6 x7 x8 x9 x10 x11 x12 x13 x14 : Option V} {v : V} {r : L2.St} : Get1 (x0 :: x1 :: x2 :: x3 :: x4 :: x5 :: x6 :: x7 :: x8 :: x9 :: x10 :: x11 :: x12 :: x13 :: x14 :: some v :: r) 15 v := rfl
theorem sx15 {x0 x1 x2 x3 x4 x5 x6 x7 x8 x9 x10 x11 x12 x13 x14 : Option V} {x o : Option V} {r : L2.St} : Set1 (x0 :: x1 :: x2 :: x3 :: x4 :: x5 :: x6 :: x7 :: x8 :: x9 :: x10 :: x11 :: x12 :: x13 :: x14 :: x :: r) 15 o (x0 :: x1 :: x2 :: x3 :: x4 :: x5 :: x6 :: x7 :: x8 :: x9 :: x10 :: x11 :: x12 :: x13 :: x14 :: o :: r) := rfl
theorem gx16 {x0 x1 x2 x3 x4 x5 x6 x7 x8 x9 x10 x11 x12 x13 x14 x15 : Option V} {v : V} {r : L2.St} : Get1 (x0 :: x1 :: x2 :: x3 :: x4 :: x5 :: x6 :: x7 :: x8 :: x9 :: x10 :: x11 :: x12 :: x13 :: x14 :: x15 :: some v :: r) 16 v := rfl
theorem sx16 {x0 x1 x2 x3 x4 x5 x6 x7 x8 x9 x10 x11 x12 x13 x14 x15 : Option V} {x o : Option V} {r : L2.St} : Set1 (x0 :: x1 :: x2 :: x3 :: x4 :: x5 :: x6 :: x7 :: x8 :: x9 :: x10 :: x11 :: x12 :: x13 :: x14 :: x15 :: x :: r) 16 o (x0 :: x1 :: x2 :: x3 :: x4 :: x5 :: x6 :: x7 :: x8 :: x9 :: x10 :: x11 :: x12 :: x13 :: x14 :: x15 :: o :: r) := rfl
theorem gx17 {x0 x1 x2 x3 x4 x5 x6 x7 x8 x9 x10 x11 x12 x13 x14 x15 x16 : Option V} {v : V} {r : L2.St} : Get1 (x0 :: x1 :: x2 :: x3 :: x4 :: x5 :: x6 :: x7 :: x8 :: x9 :: x10 :: x11 :: x12 :: x13 :: x14 :: x15 :: x16 :: some v :: r) 17 v := rfl
theorem sx17 {x0 x1 x2 x3 x4 x5 x6 x7 x8 x9 x10 x11 x12 x13 x14 x15 x16 : Option V} {x o : Option V} {r : L2.St} : Set1 (x0 :: x1 :: x2 :: x3 :: x4 :: x5 :: x6 :: x7 :: x8 :: x9 :: x10 :: x11 :: x12 :: x13 :: x14 :: x15 :: x16 :: x :: r) 17 o (x0 :: x1 :: x2 :: x3 :: x4 :: x5 :: x6 :: x7 :: x8 :: x9 :: x10 :: x11 :: x12 :: x13 :: x14 :: x15 :: x16 :: o :: r) := rfl
theorem gx18 {x0 x1 x2 x3 x4 x5 x6 x7 x8 x9 x10 x11 x12 x13 x14 x15 x16 x17 : Option V} {v : V} {r : L2.St} : Get1 (x0 :: x1 :: x2 :: x3 :: x4 :: x5 :: x6 :: x7 :: x8 :: x9 :: x10 :: x11 :: x12 :: x13 :: x14 :: x15 :: x16 :: x17 :: some v :: r) 18 v := rfl
theorem sx18 {x0 x1 x2 x3 x4 x5 x6 x7 x8 x9 x10 x11 x12 x13 x14 x15 x16 x17 : Option V} {x o : Option V} {r : L2.St} : Set1 (x0 :: x1 :: x2 :: x3 :: x4 :: x5 :: x6 :: x7 :: x8 :: x9 :: x10 :: x11 :: x12 :: x13 :: x14 :: x15 :: x16 :: x17 :: x :: r) 18 o (x0 :: x1 :: x2 :: x3 :: x4 :: x5 :: x6 :: x7 :: x8 :: x9 :: x10 :: x11 :: x12 :: x13 :: x14 :: x15 :: x16 :: x17 :: o :: r) := rfl
theorem gx19 {x0 x1 x2 x3 x4 x5 x6 x7 x8 x9 x10 x11 x12 x13 x14 x15 x16 x17 x18 : Option V} {v : V} {r : L2.St} : Get1 (x0 :: x1 :: x2 :: x3 :: x4 :: x5 :: x6 :: x7 :: x8 :: x9 :: x10 :: x11 :: x12 :: x13 :: x14 :: x15 :: x16 :: x17 :: x18 :: some v :: r) 19 v := rfl
theorem sx19 {x0 x1 x2 x3 x4 x5 x6 x7 x8 x9 x10 x11 x12 x13 x14 x15 x16 x17 x18 : Option V} {x o : Option V} {r : L2.St} : Set1 (x0 :: x1 :: x2 :: x3 :: x4 :: x5 :: x6 :: x7 :: x8 :: x9 :: x10 :: x11 :: x12 :: x13 :: x14 :: x15 :: x16 :: x17 :: x18 :: x :: r) 19 o (x0 :: x1 :: x2 :: x3 :: x4 :: x5 :: x6 :: x7 :: x8 :: x9 :: x10 :: x11 :: x12 :: x13 :: x14 :: x15 :: x16 :: x17 :: x18 :: o :: r) := rfl
theorem gx20 {x0 x1 x2 x3 x4 x5 x6 x7 x8 x9 x10 x11 x12 x13 x14 x15 x16 x17 x18 x19 : Option V} {v : V} {r : L2.St} : Get1 (x0 :: x1 :: x2 :: x3 :: x4 :: x5 :: x6 :: x7 :: x8 :: x9 :: x10 :: x11 :: x12 :: x13 :: x14 :: x15 :: x16 :: x17 :: x18 :: x19 :: some v :: r) 20 v := rfl
theorem sx20 {x0 x1 x2 x3 x4 x5 x6 x7 x8 x9 x10 x11 x12 x13 x14 x15 x16 x17 x18 x19 : Option V} {x o : Option V} {r : L2.St} : Set1 (x0 :: x1 :: x2 :: x3 :: x4 :: x5 :: x6 :: x7 :: x8 :: x9 :: x10 :: x11 :: x12 :: x13 :: x14 :: x15 :: x16 :: x17 :: x18 :: x19 :: x :: r) 20 o (x0 :: x1 :: x2 :: x3 :: x4 :: x5 :: x6 :: x7 :: x8 :: x9 :: x10 :: x11 :: x12 :: x13 :: x14 :: x15 :: x16 :: x17 :: x18 :: x19 :: o :: r) := rfl
theorem gx21 {x0 x1 x2 x3 x4 x5 x6 x7 x8 x9 x10 x11 x12 x13 x14 x15 x16 x17 x18 x19 x20 : Option V} {v : V} {r : L2.St} : Get1 (x0 :: x1 :: x2 :: x3 :: x4 :: x5 :: x6 :: x7 :: x8 :: x9 :: x10 :: x11 :: x12 :: x13 :: x14 :: x15 :: x16 :: x17 :: x18 :: x19 :: x20 :: some v :: r) 21 v := rfl
theorem sx21 {x0 x1 x2 x3 x4 x5 x6 x7 x8 x9 x10 x11 x12 x13 x14 x15 x16 x17 x18 x19 x20 : Option V} {x o : Option V} {r : L2.St} : Set1 (x0 :: x1 :: x2 :: x3 :: x4 :: x5 :: x6 :: x7 :: x8 :: x9 :: x10 :: x11 :: x12 :: x13 :: x14 :: x15 :: x16 :: x17 :: x18 :: x19 :: x20 :: x :: r) 21 o (x0 :: x1 :: x2 :: x3 :: x4 :: x5 :: x6 :: x7 :: x8 :: x9 :: x10 :: x11 :: x12 :: x13 :: x14 :: x15 :: x16 :: x17 :: x18 :: x19 :: x20 :: o :: r) := rfl
theorem gx22 {x0 x1 x2 x3 x4 x5 x6 x7 x8 x9 x10 x11 x12 x13 x14 x15 x16 x17 x18 x19 x20 x21 : Option V} {v : V} {r : L2.St} : Get1 (x0 :: x1 :: x2 :: x3 :: x4 :: x5 :: x6 :: x7 :: x8 :: x9 :: x10 :: x11 :: x12 :: x13 :: x14 :: x15 :: x16 :: x17 :: x18 :: x19 :: x20 :: x21 :: some v :: r) 22 v := rfl
theorem sx22 {x0 x1 x2 x3 x4 x5 x6 x7 x8 x9 x10 x11 x12 x13 x14 x15 x16 x17 x18 x19 x20 x21 : Option V} {x o : Option V} {r : L2.St} : Set1 (x0 :: x1 :: x2 :: x3 :: x4 :: x5 :: x6 :: x7 :: x8 :: x9 :: x10 :: x11 :: x12 :: x13 :: x14 :: x15 :: x16 :: x17 :: x18 :: x19 :: x20 :: x21 :: x :: r) 22 o (x0 :: x1 :: x2 :: x3 :: x4 :: x5 :: x6 :: x7 :: x8 :: x9 :: x10 :: x11 :: x12 :: x13 :: x14 :: x15 :: x16 :: x17 :: x18 :: x19 :: x20 :: x21 :: o :: r) := rfl
theorem gx23 {x0 x1 x2 x3 x4 x5 x6 x7 x8 x9 x10 x11 x12 x13 x14 x15 x16 x17 x18 x19 x20 x21 x22 : Option V} {v : V} {r : L2.St} : Get1 (x0 :: x1 :: x2 :: x3 :: x4 :: x5 :: x6 :: x7 :: x8 :: x9 :: x10 :: x11 :: x12 :: x13 :: x14 :: x15 :: x16 :: x17 :: x18 :: x19 :: x20 :: x21 :: x22 :: some v :: r) 23 v := rfl
theorem sx23 {x0 x1 x2 x3 x4 x5 x6 x7 x8 x9 x10 x11 x12 x13 x14 x15 x16 x17 x18 x19 x20 x21 x22 : Option V} {x o : Option V} {r : L2.St} : Set1 (x0 :: x1 :: x2 :: x3 :: x4 :: x5 :: x6 :: x7 :: x8 :: x9 :: x10 :: x11 :: x12 :: x13 :: x14 :: x15 :: x16 :: x17 :: x18 :: x19 :: x20 :: x21 :: x22 :: x :: r) 23 o (x0 :: x1 :: x2 :: x3 :: x4 :: x5 :: x6 :: x7 :: x8 :: x9 :: x10 :: x11 :: x12 :: x13 :: x14 :: x15 :: x16 :: x17 :: x18 :: x19 :: x20 :: x21 :: x22 :: o :: r) := rfl
theorem gx24 {x0 x1 x2 x3 x4 x5 x6 x7 x8 x9 x10 x11 x12 x13 x14 x15 x16 x17 x18 x19 x20 x21 x22 x23 : Option V} {v : V} {r : L2.St} : Get1 (x0 :: x1 :: x2 :: x3 :: x4 :: x5 :: x6 :: x7 :: x8 :: x9 :: x10 :: x11 :: x12 :: x13 :: x14 :: x15 :: x16 :: x17 :: x18 :: x19 :: x20 :: x21 :: x22 :: x23 :: some v :: r) 24 v := rfl
theorem sx24 {x0 x1 x2 x3 x4 x5 x6 x7 x8 x9 x10 x11 x12 x13 x14 x15 x16 x17 x18 x19 x20 x21 x22 x23 : Option V} {x o : Option V} {r : L2.St} : Set1 (x0 :: x1 :: x2 :: x3 :: x4 :: x5 :: x6 :: x7 :: x8 :: x9 :: x10 :: x11 :: x12 :: x13 :: x14 :: x15 :: x16 :: x17 :: x18 :: x19 :: x20 :: x21 :: x22 :: x23 :: x :: r) 24 o (x0 :: x1 :: x2 :: x3 :: x4 :: x5 :: x6 :: x7 :: x8 :: x9 :: x10 :: x11 :: x12 :: x13 :: x14 :: x15 :: x16 :: x17 :: x18 :: x19 :: x20 :: x21 :: x22 :: x23 :: o :: r) := rfl
theorem gx25 {x0 x1 x2 x3 x4 x5 x6 x7 x8 x9 x10 x11 x12 x13 x14 x15 x16 x17 x18 x19 x20 x21 x22 x23 x24 : Option V} {v : V} {r : L2.St} : Get1 (x0 :: x1 :: x2 :: x3 :: x4 :: x5 :: x6 :: x7 :: x8 :: x9 :: x10 :: x11 :: x12 :: x13 :: x14 :: x15 :: x16 :: x17 :: x18 :: x19 :: x20 :: x21 :: x22 :: x23 :: x24 :: some v :: r) 25 v := rfl
theorem sx25 {x0 x1 x2 x3 x4 x5 x6 x7 x8 x9 x10 x11 x12 x13 x14 x15 x16 x17 x18 x19 x20 x21 x22 x23 x24 : Option V} {x o : Option V} {r : L2.St} : Set1 (x0 :: x1 :: x2 :: x3 :: x4 :: x5 :: x6 :: x7 :: x8 :: x9 :: x10 :: x11 :: x12 :: x13 :: x14 :: x15 :: x16 :: x17 :: x18 :: x19 :: x20 :: x21 :: x22 :: x23 :: x24 :: x :: r) 25 o (x0 :: x1 :: x2 :: x3 :: x4 :: x5 :: x6 :: x7 :: x8 :: x9 :: x10 :: x11 :: x12 :: x13 :: x14 :: x15 :: x16 :: x17 :: x18 :: x19 :: x20 :: x21 :: x22 :: x23 :: x24 :: o :: r) := rfl
theorem gx26 {x0 x1 x2 x3 x4 x5 x6 x7 x8 x9 x10 x11 x12 x13 x14 x15 x16 x17 x18 x19 x20 x21 x22 x23 x24 x25 : Option V} {v : V} {r : L2.St} : Get1 (x0 :: x1 :: x2 :: x3 :: x4 :: x5 :: x6 :: x7 :: x8 :: x9 :: x10 :: x11 :: x12 :: x13 :: x14 :: x15 :: x16 :: x17 :: x18 :: x19 :: x20 :: x21 :: x22 :: x23 :: x24 :: x25 :: some v :: r) 26 v := rfl
theorem sx26 {x0 x1 x2 x3 x4 x5 x6 x7 x8 x9 x10 x11 x12 x13 x14 x15 x16 x17 x18 x19 x20 x21 x22 x23 x24 x25 : Option V} {x o : Option V} {r : L2.St} : Set1 (x0 :: x1 :: x2 :: x3 :: x4 :: x5 :: x6 :: x7 :: x8 :: x9 :: x10 :: x11 :: x12 :: x13 :: x14 :: x15 :: x16 :: x17 :: x18 :: x19 :: x20 :: x21 :: x22 :: x23 :: x24 :: x25 :: x :: r) 26 o (x0 :: x1 :: x2 :: x3 :: x4 :: x5 :: x6 :: x7 :: x8 :: x9 :: x10 :: x11 :: x12 :: x13 :: x14 :: x15 :: x16 :: x17 :: x18 :: x19 :: x20 :: x21 :: x22 :: x23 :: x24 :: x25 :: o :: r) := rfl
theorem gx27 {x0 x1 x2 x3 x4 x5 x6 x7 x8 x9 x10 x11 x12 x13 x14 x15 x16 x17 x18 x19 x20 x21 x22 x23 x24 x25 x26 : Option V} {v : V} {r : L2.St} : Get1 (x0 :: x1 :: x2 :: x3 :: x4 :: x5 :: x6 :: x7 :: x8 :: x9 :: x10 :: x11 :: x12 :: x13 :: x14 :: x15 :: x16 :: x17 :: x18 :: x19 :: x20 :: x21 :: x22 :: x23 :: x24 :: x25 :: x26 :: some v :: r) 27 v := rfl
theorem sx27 {x0 x1 x2 x3 x4 x5 x6 x7 x8 x9 x10 x11 x12 x13 x14 x15 x16 x17 x18 x19 x20 x21 x22 x23 x24 x25 x26 : Option V} {x o : Option V} {r : L2.St} : Set1 (x0 :: x1 :: x2 :: x3 :: x4 :: x5 :: x6 :: x7 :: x8 :: x9 :: x10 :: x11 :: x12 :: x13 :: x14 :: x15 :: x16 :: x17 :: x18 :: x19 :: x20 :: x21 :: x22 :: x23 :: x24 :: x25 :: x26 :: x :: r) 27 o (x0 :: x1 :: x2 :: x3 :: x4 :: x5 :: x6 :: x7 :: x8 :: x9 :: x10 :: x11 :: x12 :: x13 :: x14 :: x15 :: x16 :: x17 :: x18 :: x19 :: x20 :: x21 :: x22 :: x23 :: x24 :: x25 :: x26 :: o :: r) := rfl
theorem gx28 {x0 x1 x2 x3 x4 x5 x6 x7 x8 x9 x10 x11 x12 x13 x14 x15 x16 x17 x18 x19 x20 x21 x22 x23 x24 x25 x26 x27 : Option V} {v : V} {r : L2.St} : Get1 (x0 :: x1 :: x2 :: x3 :: x4 :: x5 :: x6 :: x7 :: x8 :: x9 :: x10 :: x11 :: x12 :: x13 :: x14 :: x15 :: x16 :: x17 :: x18 :: x19 :: x20 :: x21 :: x22 :: x23 :: x24 :: x25 :: x26 :: x27 :: some v :: r) 28 v := rfl
theorem sx28 {x0 x1 x2 x3 x4 x5 x6 x7 x8 x9 x10 x11 x12 x13 x14 x15 x16 x17 x18 x19 x20 x21 x22 x23 x24 x25 x26 x27 : Option V} {x o : Option V} {r : L2.St} : Set1 (x0 :: x1 :: x2 :: x3 :: x4 :: x5 :: x6 :: x7 :: x8 :: x9 :: x10 :: x11 :: x12 :: x13 :: x14 :: x15 :: x16 :: x17 :: x18 :: x19 :: x20 :: x21 :: x22 :: x23 :: x24 :: x25 :: x26 :: x27 :: x :: r) 28 o (x0 :: x1 :: x2 :: x3 :: x4 :: x5 :: x6 :: x7 :: x8 :: x9 :: x10 :: x11 :: x12 :: x13 :: x14 :: x15 :: x16 :: x17 :: x18 :: x19 :: x20 :: x21 :: x22 :: x23 :: x24 :: x25 :: x26 :: x27 :: o :: r) := rfl
theorem gx29 {x0 x1 x2 x3 x4 x5 x6 x7 x8 x9 x10 x11 x12 x13 x14 x15 x16 x17 x18 x19 x20 x21 x22 x23 x24 x25 x26 x27 x28 : Option V} {v : V} {r : L2.St} : Get1 (x0 :: x1 :: x2 :: x3 :: x4 :: x5 :: x6 :: x7 :: x8 :: x9 :: x10 :: x11 :: x12 :: x13 :: x14 :: x15 :: x16 :: x17 :: x18 :: x19 :: x20 :: x21 :: x22 :: x23 :: x24 :: x25 :: x26 :: x27 :: x28 :: some v :: r) 29 v := rfl
theorem sx29 {x0 x1 x2 x3 x4 x5 x6 x7 x8 x9 x10 x11 x12 x13 x14 x15 x16 x17 x18 x19 x20 x21 x22 x23 x24 x25 x26 x27 x28 : Option V} {x o : Option V} {r : L2.St} : Set1 (x0 :: x1 :: x2 :: x3 :: x4 :: x5 :: x6 :: x7 :: x8 :: x9 :: x10 :: x11 :: x12 :: x13 :: x14 :: x15 :: x16 :: x17 :: x18 :: x19 :: x20 :: x21 :: x22 :: x23 :: x24 :: x25 :: x26 :: x27 :: x28 :: x :: r) 29 o (x0 :: x1 :: x2 :: x3 :: x4 :: x5 :: x6 :: x7 :: x8 :: x9 :: x10 :: x11 :: x12 :: x13 :: x14 :: x15 :: x16 :: x17 :: x18 :: x19 :: x20 :: x21 :: x22 :: x23 :: x24 :: x25 :: x26 :: x27 :: x28 :: o :: r) := rfl
/-! ### named leaves: one head a question -/
section
variable {K : PySem.W.Frag} {σ σ' : L2.St} {A B C : SH} {Φ : V → SH → Prop} {v x y : V} {i j : Int} {p q : Addr} {xs ys : List V} {ta tb te : TE} {t u : TA} {nx : L2.St → SH → Prop} {rt : V → SH → Prop} {bk ct : L2.St → SH → Prop}
def NB (Ψ : Bool → SH → Prop) : V → SH → Prop := fun x A => ∃ k, x = .bl k ∧ Ψ k A
theorem nb {Ψ : Bool → SH → Prop} {b : Bool} (k : Ψ b A) : NB Ψ (.bl b) A := ⟨b, rfl, k⟩
theorem gt_test' {Ψ : Bool → SH → Prop} (h : GE te σ A (NB Ψ)) : GT (tTest te) σ A Ψ := gt_test h
theorem gt_B' {Ψ : Bool → SH → Prop} (h : GE te σ A (NB Ψ)) : GT (tB te) σ A Ψ := gt_B h
theorem ge_andV' (h : GE ta σ A (NB fun c A1 => (c = true → GE tb σ A1 Φ) ∧ (c = false → Φ (.bl false) A1))) : GE (tAndV ta tb) σ A Φ := ge_andV h
theorem ge_orV' (h : GE ta σ A (NB fun c A1 => (c = true → Φ (.bl true) A1) ∧ (c = false → GE tb σ A1 Φ))) : GE (tOrV ta tb) σ A Φ := ge_orV h
theorem ge_notV' (h : GE ta σ A (NB fun c A1 => Φ (.bl (!c)) A1)) : GE (tNotV ta) σ A Φ := ge_notV h
theorem ge_chain' {r r' : R2} {tc : TE} (h : GE ta σ A fun x A1 => GE tb σ A1 fun y A2 => GR r x y A2 (NB fun c A3 => (c = true → GE tc σ A3 fun w A4 => GR r' y w A4 Φ) ∧ (c = false → Φ (.bl false) A3))) : GE (tChain r r' ta tb tc) σ A Φ := ge_chain h
def NNew (o : List V → HO) (Φ : V → SH → Prop) : List V → SH → Prop := fun xs A1 => xs.length ≤ sizeLine ∧ ∀ p, Φ (.ref p) (sg p (o xs) :: A1)
theorem nnew {o : List V → HO} (h : xs.length ≤ 1000) (k : ∀ p, Φ (.ref p) (sg p (o xs) :: A)) : NNew o Φ xs A := ⟨Nat.le_trans h (by decide), k⟩
theorem ge_tup' (h : GA t σ A (NNew .tup Φ)) : GE (tTup t) σ A Φ := ge_tup h
theorem ge_lst' (h : GA t σ A (NNew .lst Φ)) : GE (tLst t) σ A Φ := ge_lst h
def NFld (K : PySem.W.Frag) (f : Str) (Φ : V → SH → Prop) : V → SH → Prop := fun x A1 => ∃ a C dx fs v, x = .ref a ∧ RO A1 a (.ins C dx fs) ∧ FOk K C f ∧ fs.lookup f = some v ∧ Φ v A1
theorem nfld {f : Str} {C dx : Addr} {fs : List (Str × V)} (r : RO A p (.ins C dx fs)) (o : FOk K C f) (l : fs.lookup f = some v) (k : Φ v A) : NFld K f Φ (.ref p) A := ⟨p, C, dx, fs, v, rfl, r, o, l, k⟩
theorem ge_fld' {f : Str} (h : GE te σ A (NFld K f Φ)) : GE (tFld K te f) σ A Φ := ge_fld h
def NFst (K : PySem.W.Frag) (f : Str) (y : V) (k : SH → Prop) : V → SH → Prop := fun x A2 => ∃ a C dx fs B, x = .ref a ∧ Pull A2 (sg a (.ins C dx fs)) B ∧ FOk K C f ∧ fs.length < 1000 ∧ k (sg a (.ins C dx (putF f y fs)) :: B)
theorem nfst {f : Str} {C dx : Addr} {fs fs' : List (Str × V)} {kk : SH → Prop} (pl : Pull A (sg p (.ins C dx fs)) B) (o : FOk K C f) (l : fs.length < 1000) (e : putF f y fs = fs') (k : kk (sg p (.ins C dx fs') :: B)) : NFst K f y kk (.ref p) A := ⟨p, C, dx, fs, B, rfl, pl, o, l, e ▸ k⟩
theorem gs_fld' {f : Str} (h : GE tb σ A fun y A1 => GE ta σ A1 (NFst K f y (nx σ))) : GS (sFld K ta tb f) ⟨nx, rt, bk, ct⟩ σ A := gs_fld h
def NDget (Φ : V → SH → Prop) (y : V) (x : V) : SH → Prop := fun A2 => ∃ a kvs k v, x = .ref a ∧ RD A2 a kvs ∧ KV1 y k ∧ valV kvs k = some v ∧ Φ v A2
theorem ndget {kvs : List (L2.Key × V)} {k : L2.Key} (r : RD A p kvs) (ky : KV1 y k) (hv : valV kvs k = some v) (c : Φ v A) : NDget Φ y (.ref p) A := ⟨p, kvs, k, v, rfl, r, ky, hv, c⟩
theorem ge_dget' (h : GE ta σ A fun x A1 => GE tb σ A1 fun y => NDget Φ y x) : GE (tDGet ta tb) σ A Φ := ge_dget h
def NDin (neg : Bool) (Φ : V → SH → Prop) (y x : V) : SH → Prop := fun A2 => ∃ a kvs k, x = .ref a ∧ RD A2 a kvs ∧ KV1 y k ∧ Φ (.bl (if neg then !(valV kvs k).isSome else (valV kvs k).isSome)) A2
theorem ndin {neg : Bool} {kvs : List (L2.Key × V)} {k : L2.Key} (r : RD A p kvs) (ky : KV1 y k) (c : Φ (.bl (if neg then !(valV kvs k).isSome else (valV kvs k).isSome)) A) : NDin neg Φ y (.ref p) A := ⟨p, kvs, k, rfl, r, ky, c⟩
theorem ge_din' (h : GE ta σ A fun y A1 => GE tb σ A1 fun x => NDin false Φ y x) : GE (tDIn ta tb) σ A Φ := ge_din h
theorem ge_dnotin' (h : GE ta σ A fun y A1 => GE tb σ A1 fun x => NDin true Φ y x) : GE (tDNotIn ta tb) σ A Φ := ge_dnotin h
def NDput (kk : SH → Prop) (v x y : V) : SH → Prop := fun A3 => ∃ a kvs k B, x = .ref a ∧ Pull A3 (sg a (.dK kvs)) B ∧ KV1 y k ∧ kvs.length < sizeLine ∧ kk (sg a (.dK (putK kvs k v)) :: B)
theorem ndput {kk : SH → Prop} {kvs : List (L2.Key × V)} {k : L2.Key} (pl : Pull A (sg p (.dK kvs)) B) (ky : KV1 y k) (l : kvs.length ≤ 1000) (c : kk (sg p (.dK (putK kvs k v)) :: B)) : NDput kk v (.ref p) y A := ⟨p, kvs, k, B, rfl, pl, ky, Nat.lt_of_le_of_lt l (by decide), c⟩
theorem gs_dput' {tv td ty : TE} (h : GE tv σ A fun v A1 => GE td σ A1 fun x A2 => GE ty σ A2 fun y => NDput (nx σ) v x y) : GS (sDPut td ty tv) ⟨nx, rt, bk, ct⟩ σ A := gs_dput h
def NList (K : PySem.W.Frag) (Φ : It → SH → Prop) : V → SH → Prop := fun x A' => ∃ a xs, x = .ref a ∧ RL K A' a xs ∧ Φ (Itl K a) A'
theorem nlist {Φ : It → SH → Prop} (r : RL K A p xs) (k : Φ (Itl K p) A) : NList K Φ (.ref p) A := ⟨p, xs, rfl, r, k⟩
theorem gi_list' {Φ : It → SH → Prop} (h : GE te σ A (NList K Φ)) : GI (iList K te) σ A Φ := gi_list h
def NTup (K : PySem.W.Frag) (Φ : It → SH → Prop) : V → SH → Prop := fun x A' => ∃ a xs, x = .ref a ∧ RT K A' a xs ∧ Φ (Itt K a) A'
theorem ntup {Φ : It → SH → Prop} (r : RT K A p xs) (k : Φ (Itt K p) A) : NTup K Φ (.ref p) A := ⟨p, xs, rfl, r, k⟩
theorem gi_tup' {Φ : It → SH → Prop} (h : GE te σ A (NTup K Φ)) : GI (iTup K te) σ A Φ := gi_tup h
def NRng1 (Φ : It → SH → Prop) : List V → SH → Prop := fun vs A' => ∃ j : Int, vs = [.int j] ∧ -(2 ^ 62) ≤ j ∧ j < 2 ^ 62 ∧ Φ (Itr 0 j.toNat) A'
theorem nrng1 {Φ : It → SH → Prop} (h1 : -(2 ^ 62) ≤ j) (h2 : j < 2 ^ 62) (k : Φ (Itr 0 j.toNat) A) : NRng1 Φ [.int j] A := ⟨j, rfl, h1, h2, k⟩
theorem gi_rng1' {Φ : It → SH → Prop} (h : GA t σ A (NRng1 Φ)) : GI (iRng1 t) σ A Φ := gi_rng1 h
def NRng2 (Φ : It → SH → Prop) : List V → SH → Prop := fun vs A' => ∃ i j : Int, vs = [.int i, .int j] ∧ (-(2 ^ 62) ≤ i ∧ i < 2 ^ 62 ∧ -(2 ^ 62) ≤ j ∧ j < 2 ^ 62) ∧ Φ (Itr i (j - i).toNat) A'
theorem nrng2 {Φ : It → SH → Prop} (h : -(2 ^ 62) ≤ i ∧ i < 2 ^ 62 ∧ -(2 ^ 62) ≤ j ∧ j < 2 ^ 62) (k : Φ (Itr i (j - i).toNat) A) : NRng2 Φ [.int i, .int j] A := ⟨i, j, rfl, h, k⟩
theorem gi_rng2' {Φ : It → SH → Prop} (h : GA t σ A (NRng2 Φ)) : GI (iRng2 t) σ A Φ := gi_rng2 h
def NEnum (K : PySem.W.Frag) (Φ : It → SH → Prop) : List V → SH → Prop := fun vs A' => ∃ a xs, vs = [.ref a] ∧ RL K A' a xs ∧ Φ (Ite K a) A'
theorem nenum {Φ : It → SH → Prop} (r : RL K A p xs) (k : Φ (Ite K p) A) : NEnum K Φ [.ref p] A := ⟨p, xs, rfl, r, k⟩
theorem gi_enum' {Φ : It → SH → Prop} (h : GA t σ A (NEnum K Φ)) : GI (iEnum K t) σ A Φ := gi_enum h
def NStr (Φ : It → SH → Prop) : V → SH → Prop := fun v A' => ∃ x, v = .str x ∧ Φ (Its x) A'
theorem nstr {Φ : It → SH → Prop} {z : Str} (k : Φ (Its z) A) : NStr Φ (.str z) A := ⟨z, rfl, k⟩
theorem gi_str' {Φ : It → SH → Prop} (h : GE te σ A (NStr Φ)) : GI (iStr te) σ A Φ := gi_str h
def NPart (Φ : Option Int → SH → Prop) : V → SH → Prop := fun x A' => ∃ i, x = .int i ∧ Φ (some i) A'
theorem npart {Φ : Option Int → SH → Prop} (k : Φ (some i) A) : NPart Φ (.int i) A := ⟨i, rfl, k⟩
theorem go_some' {Φ : Option Int → SH → Prop} (h : GE te σ A (NPart Φ)) : GO (tPart te) σ A Φ := go_some h
def NBm (K : PySem.W.Frag) (T : String) (t : TA) (σ : L2.St) (r : V → List V → Hp → VK → Prop) (Φ : V → SH → Prop) : V → SH → Prop := fun x A1 => TyA K T x A1 ∧ GA t σ A1 fun vs A2 => GM r x vs A2 Φ
theorem nbm {T : String} {r : V → List V → Hp → VK → Prop} (ty : TyA K T x A) (k : GA t σ A fun vs A2 => GM r x vs A2 Φ) : NBm K T t σ r Φ x A := ⟨ty, k⟩
theorem ge_bm' {T : String} {r : V → List V → Hp → VK → Prop} (h : GE te σ A (NBm K T t σ r Φ)) : GE (tBM K T r te t) σ A Φ := ge_bm h
def NBm0 (K : PySem.W.Frag) (T : String) (r : V → List V → Hp → VK → Prop) (Φ : V → SH → Prop) : V → SH → Prop := fun x A1 => TyA K T x A1 ∧ GM r x [] A1 Φ
theorem nbm0 {T : String} {r : V → List V → Hp → VK → Prop} (ty : TyA K T x A) (k : GM r x [] A Φ) : NBm0 K T r Φ x A := ⟨ty, k⟩
theorem ge_bm0' {T : String} {r : V → List V → Hp → VK → Prop} (h : GE te σ A (NBm0 K T r Φ)) : GE (tBM0 K T r te) σ A Φ := ge_bm0 h
def NMet (MT : Addr → Spec → Prop) (m : Str) (Ψ : Value → Option Addr → L2.St → SH → Prop) (t : TA) (σ : L2.St) (Φ : V → SH → Prop) : V → SH → Prop := fun x A1 => ∃ a C dx fs sp, x = .ref a ∧ RO A1 a (.ins C dx fs) ∧ MT C sp ∧ fs.lookup m = none ∧ GA t σ A1 fun vs A2 => sp (x :: vs) A2 Φ fun c d A3 => Ψ c d σ A3
theorem nmet {MT : Addr → Spec → Prop} {m : Str} {Ψ : Value → Option Addr → L2.St → SH → Prop} {C dx : Addr} {fs : List (Str × V)} {sp : Spec} (r : RO A p (.ins C dx fs)) (mt : MT C sp) (l : fs.lookup m = none)
    (k : GA t σ A fun vs A2 => sp (.ref p :: vs) A2 Φ fun c d A3 => Ψ c d σ A3) : NMet MT m Ψ t σ Φ (.ref p) A := ⟨p, C, dx, fs, sp, rfl, r, mt, l, k⟩
theorem ge_met' {MT : Addr → Spec → Prop} {m : Str} {Ψ : Value → Option Addr → L2.St → SH → Prop} {W : WX} (hx : WPost Ψ W) (h : GE ta σ A (NMet MT m Ψ t σ Φ)) : GE (tMet MT m W ta t) σ A Φ := ge_met hx h
def NMak (C : Addr) (sp : Spec) (Φ : V → SH → Prop) (Ψ : Value → Option Addr → L2.St → SH → Prop) (σ : L2.St) : List V → SH → Prop := fun vs A1 => ∀ x dx, sp (V.ref x :: vs) (sg x (.ins C dx []) :: A1) (fun v A2 => v = .non ∧ Φ (.ref x) A2) fun c d A2 => Ψ c d σ A2
theorem ge_mak' {C : Addr} {sp : Spec} {W : WX} {Ψ : Value → Option Addr → L2.St → SH → Prop} (hx : WPost Ψ W) (h : GA t σ A (NMak C sp Φ Ψ σ)) : GE (tMak C (lift sp) W t) σ A Φ := ge_mak hx h
/-! ### short bounds -/
def IntL (xs : List V) (ns : List Int) : Prop := xs = ns.map V.int
theorem il_nil : IntL [] [] := rfl
theorem il_cons {ns : List Int} (h : IntL xs ns) : IntL (.int i :: xs) (i :: ns) := by
  show V.int i :: xs = V.int i :: ns.map V.int
  rw [h]
theorem il_map {ns : List Int} : IntL (ns.map V.int) ns := rfl
theorem getD_at {ns : List Int} {k : Nat} (h : k < ns.length) : ns[k]? = some (ns.getD k 0) := by
  rw [List.getD_eq_getElem?_getD, List.getElem?_eq_getElem h]
  rfl
theorem at_ints {ns : List Int} (hx : IntL xs ns) (h0 : 0 ≤ i) (h1 : i < (ns.length : Int)) : atI xs i = some (.int (ns.getD i.toNat 0)) := by
  have e : xs = ns.map V.int := hx
  subst e
  have hl : i < ((ns.map V.int).length : Int) := by rw [List.length_map]; exact h1
  rw [atI_lt h0 hl]
  congr 1
  rw [List.getElem_map]
  congr 1
  have := getD_at (ns := ns) (k := i.toNat) (by omega)
  rw [List.getElem?_eq_getElem (by omega)] at this
  exact Option.some.inj this
theorem gr_ixI {ns : List Int} (r : RL K A p xs) (hx : IntL xs ns) (h0 : 0 ≤ i) (h1 : i < (ns.length : Int)) (k : Φ (.int (ns.getD i.toNat 0)) A) : GR (rIx K) (.ref p) (.int i) A Φ := gr_ixL r (at_ints hx h0 h1) k
theorem gr_ixTI {ns : List Int} (r : RT K A p xs) (hx : IntL xs ns) (h0 : 0 ≤ i) (h1 : i < (ns.length : Int)) (k : Φ (.int (ns.getD i.toNat 0)) A) : GR (rIx K) (.ref p) (.int i) A Φ := gr_ixT r (at_ints hx h0 h1) k
theorem cdiv (h1 : 0 < j) (h2 : j < 1073741824) : CDiv i j := ⟨h1, h2⟩
theorem cmulL (h1 : -(2 ^ 64) < i) (h2 : i < 2 ^ 64) : CMul i j := .inl ⟨h1, h2⟩
theorem cmulR (h1 : -(2 ^ 64) < j) (h2 : j < 2 ^ 64) : CMul i j := .inr ⟨h1, h2⟩
/-- facts of a known part of the heap -/
theorem RT.k {a : Addr} (h : ∀ H, SqT K H a xs) : RT K A a xs := fun H _ => h H
theorem sz (n : Nat) (h : n ≤ 1000 := by decide) : n ≤ sizeLine := Nat.le_trans h (by decide)
theorem sz1 {n : Nat} (h : n ≤ 1000) : n < sizeLine := Nat.lt_of_le_of_lt h (by decide)
theorem sz2 {n : Nat} (h : n ≤ 1000) : n ≤ sizeLine := Nat.le_trans h (by decide)
end
end S

namespace S
open PySem L2
theorem kt_NoneType_int {K : PySem.W.Frag} : PySem.W.kitOne K (.type "NoneType") (.type "int") = some false := kit_ty (by decide +kernel)
theorem kt_NoneType_bool {K : PySem.W.Frag} : PySem.W.kitOne K (.type "NoneType") (.type "bool") = some false := kit_ty (by decide +kernel)
theorem kt_NoneType_str {K : PySem.W.Frag} : PySem.W.kitOne K (.type "NoneType") (.type "str") = some false := kit_ty (by decide +kernel)
theorem kt_NoneType_list {K : PySem.W.Frag} : PySem.W.kitOne K (.type "NoneType") (.type "list") = some false := kit_ty (by decide +kernel)
theorem kt_NoneType_tuple {K : PySem.W.Frag} : PySem.W.kitOne K (.type "NoneType") (.type "tuple") = some false := kit_ty (by decide +kernel)
theorem kt_NoneType_dict {K : PySem.W.Frag} : PySem.W.kitOne K (.type "NoneType") (.type "dict") = some false := kit_ty (by decide +kernel)
theorem kt_bool_int {K : PySem.W.Frag} : PySem.W.kitOne K (.type "bool") (.type "int") = some true := kit_ty (by decide +kernel)
theorem kt_bool_bool {K : PySem.W.Frag} : PySem.W.kitOne K (.type "bool") (.type "bool") = some true := kit_ty (by decide +kernel)
theorem kt_bool_str {K : PySem.W.Frag} : PySem.W.kitOne K (.type "bool") (.type "str") = some false := kit_ty (by decide +kernel)
theorem kt_bool_list {K : PySem.W.Frag} : PySem.W.kitOne K (.type "bool") (.type "list") = some false := kit_ty (by decide +kernel)
theorem kt_bool_tuple {K : PySem.W.Frag} : PySem.W.kitOne K (.type "bool") (.type "tuple") = some false := kit_ty (by decide +kernel)
theorem kt_bool_dict {K : PySem.W.Frag} : PySem.W.kitOne K (.type "bool") (.type "dict") = some false := kit_ty (by decide +kernel)
theorem kt_int_int {K : PySem.W.Frag} : PySem.W.kitOne K (.type "int") (.type "int") = some true := kit_ty (by decide +kernel)
theorem kt_int_bool {K : PySem.W.Frag} : PySem.W.kitOne K (.type "int") (.type "bool") = some false := kit_ty (by decide +kernel)
theorem kt_int_str {K : PySem.W.Frag} : PySem.W.kitOne K (.type "int") (.type "str") = some false := kit_ty (by decide +kernel)
theorem kt_int_list {K : PySem.W.Frag} : PySem.W.kitOne K (.type "int") (.type "list") = some false := kit_ty (by decide +kernel)
theorem kt_int_tuple {K : PySem.W.Frag} : PySem.W.kitOne K (.type "int") (.type "tuple") = some false := kit_ty (by decide +kernel)
theorem kt_int_dict {K : PySem.W.Frag} : PySem.W.kitOne K (.type "int") (.type "dict") = some false := kit_ty (by decide +kernel)
theorem kt_str_int {K : PySem.W.Frag} : PySem.W.kitOne K (.type "str") (.type "int") = some false := kit_ty (by decide +kernel)
theorem kt_str_bool {K : PySem.W.Frag} : PySem.W.kitOne K (.type "str") (.type "bool") = some false := kit_ty (by decide +kernel)
theorem kt_str_str {K : PySem.W.Frag} : PySem.W.kitOne K (.type "str") (.type "str") = some true := kit_ty (by decide +kernel)
theorem kt_str_list {K : PySem.W.Frag} : PySem.W.kitOne K (.type "str") (.type "list") = some false := kit_ty (by decide +kernel)
theorem kt_str_tuple {K : PySem.W.Frag} : PySem.W.kitOne K (.type "str") (.type "tuple") = some false := kit_ty (by decide +kernel)
theorem kt_str_dict {K : PySem.W.Frag} : PySem.W.kitOne K (.type "str") (.type "dict") = some false := kit_ty (by decide +kernel)
theorem kt_list_int {K : PySem.W.Frag} : PySem.W.kitOne K (.type "list") (.type "int") = some false := kit_ty (by decide +kernel)
theorem kt_list_bool {K : PySem.W.Frag} : PySem.W.kitOne K (.type "list") (.type "bool") = some false := kit_ty (by decide +kernel)
theorem kt_list_str {K : PySem.W.Frag} : PySem.W.kitOne K (.type "list") (.type "str") = some false := kit_ty (by decide +kernel)
theorem kt_list_list {K : PySem.W.Frag} : PySem.W.kitOne K (.type "list") (.type "list") = some true := kit_ty (by decide +kernel)
theorem kt_list_tuple {K : PySem.W.Frag} : PySem.W.kitOne K (.type "list") (.type "tuple") = some false := kit_ty (by decide +kernel)
theorem kt_list_dict {K : PySem.W.Frag} : PySem.W.kitOne K (.type "list") (.type "dict") = some false := kit_ty (by decide +kernel)
theorem kt_tuple_int {K : PySem.W.Frag} : PySem.W.kitOne K (.type "tuple") (.type "int") = some false := kit_ty (by decide +kernel)
theorem kt_tuple_bool {K : PySem.W.Frag} : PySem.W.kitOne K (.type "tuple") (.type "bool") = some false := kit_ty (by decide +kernel)
theorem kt_tuple_str {K : PySem.W.Frag} : PySem.W.kitOne K (.type "tuple") (.type "str") = some false := kit_ty (by decide +kernel)
theorem kt_tuple_list {K : PySem.W.Frag} : PySem.W.kitOne K (.type "tuple") (.type "list") = some false := kit_ty (by decide +kernel)
theorem kt_tuple_tuple {K : PySem.W.Frag} : PySem.W.kitOne K (.type "tuple") (.type "tuple") = some true := kit_ty (by decide +kernel)
theorem kt_tuple_dict {K : PySem.W.Frag} : PySem.W.kitOne K (.type "tuple") (.type "dict") = some false := kit_ty (by decide +kernel)
theorem kt_dict_int {K : PySem.W.Frag} : PySem.W.kitOne K (.type "dict") (.type "int") = some false := kit_ty (by decide +kernel)
theorem kt_dict_bool {K : PySem.W.Frag} : PySem.W.kitOne K (.type "dict") (.type "bool") = some false := kit_ty (by decide +kernel)
theorem kt_dict_str {K : PySem.W.Frag} : PySem.W.kitOne K (.type "dict") (.type "str") = some false := kit_ty (by decide +kernel)
theorem kt_dict_list {K : PySem.W.Frag} : PySem.W.kitOne K (.type "dict") (.type "list") = some false := kit_ty (by decide +kernel)
theorem kt_dict_tuple {K : PySem.W.Frag} : PySem.W.kitOne K (.type "dict") (.type "tuple") = some false := kit_ty (by decide +kernel)
theorem kt_dict_dict {K : PySem.W.Frag} : PySem.W.kitOne K (.type "dict") (.type "dict") = some true := kit_ty (by decide +kernel)
theorem kit_self {K : PySem.W.Frag} {C : Addr} : PySem.W.kitOne K (.ref C) (.ref C) = some true := by
  unfold PySem.W.kitOne
  rw [if_pos (by simp)]
section
variable {K : PySem.W.Frag} {σ : L2.St} {A B : SH} {Φ : V → SH → Prop} {v x y : V} {i j : Int} {p q : Addr} {xs ys : List V}
theorem gc_lenM {α : Type} {f : α → V} {l : List α} (r : RL K A p (l.map f)) (k : Φ (.int (l.length : Nat)) A) : GC (cLen K) [.ref p] A Φ := gc_lenL r (by rw [List.length_map]; exact k)
theorem atI_nat' {α : Type} {l : List α} {n : Nat} {x : α} (h : l[n]? = some x) : atI l (n : Int) = some x := by
  have := (List.getElem?_eq_some_iff.mp h).1
  unfold atI ixN
  rw [if_pos (by omega), if_pos (by omega)]
  simpa using h
theorem gr_ixN {n : Nat} (r : RL K A p xs) (h : xs[n]? = some v) (k : Φ v A) : GR (rIx K) (.ref p) (.int (n : Int)) A Φ := gr_ixL r (atI_nat' h) k
theorem gr_inS0 {c : Nat} {z : Str} (k : Φ (.bl (decide (c ∈ z.cps.toList))) A) : GR (dIn K false) (.str ⟨#[c]⟩) (.str z) A Φ := gr_inS k
theorem gr_inS1 {c : Nat} {z : Str} (k : Φ (.bl (!decide (c ∈ z.cps.toList))) A) : GR (dIn K true) (.str ⟨#[c]⟩) (.str z) A Φ := gr_inS k
theorem gr_inL0 (r : RL K A p xs) (f : flatV x = true) (fs : xs.all flatV = true) (k : Φ (.bl (inV x xs)) A) : GR (dIn K false) x (.ref p) A Φ := gr_inL r f fs k
theorem gr_inL1 (r : RL K A p xs) (f : flatV x = true) (fs : xs.all flatV = true) (k : Φ (.bl (!inV x xs)) A) : GR (dIn K true) x (.ref p) A Φ := gr_inL r f fs k
theorem gr_inT0 (r : RT K A p xs) (f : flatV x = true) (fs : xs.all flatV = true) (k : Φ (.bl (inV x xs)) A) : GR (dIn K false) x (.ref p) A Φ := gr_inT r f fs k
theorem gr_inT1 (r : RT K A p xs) (f : flatV x = true) (fs : xs.all flatV = true) (k : Φ (.bl (!inV x xs)) A) : GR (dIn K true) x (.ref p) A Φ := gr_inT r f fs k
theorem ndin0 {kvs : List (L2.Key × V)} {k : L2.Key} (r : RD A p kvs) (ky : KV1 y k) (c : Φ (.bl (valV kvs k).isSome) A) : NDin false Φ y (.ref p) A := ndin r ky c
theorem ndin1 {kvs : List (L2.Key × V)} {k : L2.Key} (r : RD A p kvs) (ky : KV1 y k) (c : Φ (.bl (!(valV kvs k).isSome)) A) : NDin true Φ y (.ref p) A := ndin r ky c
theorem is_non (k : Φ (.bl true) A) : GR (dIs false) .non .non A Φ := gr_isN k
theorem isn_non (k : Φ (.bl false) A) : GR (dIs true) .non .non A Φ := gr_isN k
theorem is_int (k : Φ (.bl false) A) : GR (dIs false) (.int i) .non A Φ := gr_isN k
theorem isn_int (k : Φ (.bl true) A) : GR (dIs true) (.int i) .non A Φ := gr_isN k
theorem is_ref (k : Φ (.bl false) A) : GR (dIs false) (.ref p) .non A Φ := gr_isN k
theorem isn_ref (k : Φ (.bl true) A) : GR (dIs true) (.ref p) .non A Φ := gr_isN k
theorem is_str {z : Str} (k : Φ (.bl false) A) : GR (dIs false) (.str z) .non A Φ := gr_isN k
theorem isn_str {z : Str} (k : Φ (.bl true) A) : GR (dIs true) (.str z) .non A Φ := gr_isN k
theorem is_bl {b : Bool} (k : Φ (.bl false) A) : GR (dIs false) (.bl b) .non A Φ := gr_isN k
theorem gc_isi2t {tp : Addr} {c1 c2 : V} {t u1 u2 : Value} (r : RO A tp (.tup [c1, c2])) (h1 : ClsV c1 u1) (h2 : ClsV c2 u2) (ty : TyG K A x t) (e : PySem.W.kitOne K t u1 = some true) (k : Φ (.bl true) A) : GC (rIsiT K) [x, .ref tp] A Φ :=
  gc_isiT r (.cons h1 (.cons h2 .nil)) ty (kitAny_cons e (fun z => (nomatch z)) fun _ => rfl) k
theorem gc_isi2f {tp : Addr} {c1 c2 : V} {t u1 u2 : Value} {b : Bool} (r : RO A tp (.tup [c1, c2])) (h1 : ClsV c1 u1) (h2 : ClsV c2 u2) (ty : TyG K A x t) (e : PySem.W.kitOne K t u1 = some false) (e2 : PySem.W.kitOne K t u2 = some b) (k : Φ (.bl b) A) : GC (rIsiT K) [x, .ref tp] A Φ :=
  gc_isiT r (.cons h1 (.cons h2 .nil)) ty (kitAny_cons e (fun _ => kitAny_cons e2 (fun z => by rw [z]; exact kitAny_nil) fun z => z) fun z => (nomatch z)) k
def FlN (fs : List (Str × V)) (n : Nat) : Prop := fs.length ≤ n
theorem fl0 : FlN [] 0 := Nat.le_refl 0
theorem putF_le (f : Str) (y : V) : ∀ fs : List (Str × V), (putF f y fs).length ≤ fs.length + 1
  | [] => Nat.le_refl _
  | (g, z) :: r => by
    show (if g = f then (g, y) :: r else (g, z) :: putF f y r).length ≤ r.length + 1 + 1
    split
    · simp
    · have := putF_le f y r
      simp only [List.length_cons]
      omega
theorem fl1 {f : Str} {y : V} {fs : List (Str × V)} {n : Nat} (h : FlN fs n) : FlN (putF f y fs) (n + 1) := Nat.le_trans (putF_le f y fs) (Nat.succ_le_succ h)
theorem fl_of {fs : List (Str × V)} {n : Nat} (h : FlN fs n) (l : n < 1000) : fs.length < 1000 := Nat.lt_of_le_of_lt h l
theorem gr_eqE0 (r1 : RL K A p []) (r2 : RL K A q []) (k : Φ (.bl true) A) : GR (dEq K) (.ref p) (.ref q) A Φ := gr_eqD (dp_lst r1 dps_nil) (dp_lst r2 dps_nil) (by decide +kernel) (by decide +kernel) k
/-- what was made on the way, ahead of the rest -/
theorem Sl.app {G A : SH} : Sl A (G ++ A) := by
  induction G with
  | nil => exact .refl
  | cons g G ih => exact .drop ih
theorem Sl.app' {G A B : SH} (h : Sl B A) : Sl B (G ++ A) := by
  induction G with
  | nil => exact h
  | cons g G ih => exact .drop ih
theorem Le.pre {G A : SH} : Le G (G ++ A) := fun H h => ⟨fun g hg => h.1 g (List.mem_append_left _ hg), (List.pairwise_append.mp h.2).1⟩
theorem Le.app' {G A B : SH} (l : Le B A) : Le B (G ++ A) := fun H h => l H ⟨fun g hg => h.1 g (List.mem_append_right _ hg), (List.pairwise_append.mp h.2).2.1⟩
theorem Le.app {G A : SH} : Le A (G ++ A) := Sl.app.le
theorem RO.app {G A : SH} {a : Addr} {o : HO} (h : RO A a o) : RO (G ++ A) a o := h.le Le.app
theorem RL.app {G A : SH} {a : Addr} (h : RL K A a xs) : RL K (G ++ A) a xs := h.le Le.app
theorem RT.app {G A : SH} {a : Addr} (h : RT K A a xs) : RT K (G ++ A) a xs := h.le Le.app
theorem RD.le {a : Addr} {kvs : List (L2.Key × V)} (l : Le A B) (h : RD A a kvs) : RD B a kvs := fun H x => h H (l H x)
theorem RD.app {G A : SH} {a : Addr} {kvs : List (L2.Key × V)} (h : RD A a kvs) : RD (G ++ A) a kvs := h.le Le.app
theorem Pull.app {G A B : SH} {h : Hp} (p : Pull A h B) : Pull (G ++ A) h (G ++ B) := by
  induction G with
  | nil => exact p
  | cons g G ih => exact .tail ih
theorem lk_put {f : Str} {y : V} {fs : List (Str × V)} : (putF f y fs).lookup f = some y := by rw [lookup_putF, if_pos rfl]
theorem lk_ne {f g : Str} {y z : V} {fs : List (Str × V)} (h : ¬ g = f) (l : fs.lookup g = some z) : (putF f y fs).lookup g = some z := by rw [lookup_putF, if_neg h]; exact l
theorem lk_nil {g : Str} : ([] : List (Str × V)).lookup g = none := rfl
theorem lk_no {f g : Str} {y : V} {fs : List (Str × V)} (h : ¬ g = f) (l : fs.lookup g = none) : (putF f y fs).lookup g = none := by rw [lookup_putF, if_neg h]; exact l
theorem lay_ints : ∀ ns : List Int, PyData.canLayAll0 (ns.map PyData.int) = true ∧ PyData.depthAll (ns.map PyData.int) = 0
  | [] => ⟨by simp only [List.map_nil, PyData.canLayAll0], by simp only [List.map_nil, PyData.depthAll]⟩
  | n :: r => by
    obtain ⟨h1, h2⟩ := lay_ints r
    exact ⟨by simp only [List.map_cons, PyData.canLayAll0, PyData.canLay0, h1, Bool.and_self], by simp only [List.map_cons, PyData.depthAll, PyData.depth, h2, Nat.max_self]⟩
theorem shp_ints (ns : List Int) : SeqAt.shaped (.list (ns.map PyData.int)) = true ∧ SeqAt.shaped (.tuple (ns.map PyData.int)) = true := by
  obtain ⟨h1, h2⟩ := lay_ints ns
  constructor <;> (unfold SeqAt.shaped; simp only [PyData.canLay0, PyData.depth, h1, h2]; decide)
theorem eqv_ints : ∀ ns ms : List Int, PyData.eqvAll (ns.map PyData.int) (ms.map PyData.int) = decide (ns = ms)
  | [], [] => by simp only [List.map_nil, PyData.eqvAll, decide_true]
  | [], _ :: _ => by simp [PyData.eqvAll]
  | _ :: _, [] => by simp [PyData.eqvAll]
  | n :: r, m :: t => by
    have ih := eqv_ints r t
    simp only [List.map_cons, PyData.eqvAll, PyData.eqv, ih]
    by_cases e : n = m
    · subst e
      simp
    · simp [e]
theorem dps_il {ns : List Int} (h : IntL xs ns) : DPs K A xs (ns.map PyData.int) := by
  have e : xs = ns.map V.int := h
  rw [e]; exact dps_ints
theorem gr_eqTI {ns ms : List Int} (r1 : RT K A p xs) (r2 : RT K A q ys) (h1 : IntL xs ns) (h2 : IntL ys ms) (k : Φ (.bl (decide (ns = ms))) A) : GR (dEq K) (.ref p) (.ref q) A Φ :=
  gr_eqD (dp_tup r1 (dps_il h1)) (dp_tup r2 (dps_il h2)) (shp_ints ns).2 (shp_ints ms).2 (by simp only [PyData.eqv, eqv_ints]; exact k)
theorem gr_neTI {ns ms : List Int} (r1 : RT K A p xs) (r2 : RT K A q ys) (h1 : IntL xs ns) (h2 : IntL ys ms) (k : Φ (.bl (!decide (ns = ms))) A) : GR (dNe K) (.ref p) (.ref q) A Φ :=
  gr_neD (dp_tup r1 (dps_il h1)) (dp_tup r2 (dps_il h2)) (shp_ints ns).2 (shp_ints ms).2 (by simp only [PyData.eqv, eqv_ints]; exact k)
theorem gr_eqLI {ns ms : List Int} (r1 : RL K A p xs) (r2 : RL K A q ys) (h1 : IntL xs ns) (h2 : IntL ys ms) (k : Φ (.bl (decide (ns = ms))) A) : GR (dEq K) (.ref p) (.ref q) A Φ :=
  gr_eqD (dp_lst r1 (dps_il h1)) (dp_lst r2 (dps_il h2)) (shp_ints ns).1 (shp_ints ms).1 (by simp only [PyData.eqv, eqv_ints]; exact k)
theorem gr_neLI {ns ms : List Int} (r1 : RL K A p xs) (r2 : RL K A q ys) (h1 : IntL xs ns) (h2 : IntL ys ms) (k : Φ (.bl (!decide (ns = ms))) A) : GR (dNe K) (.ref p) (.ref q) A Φ :=
  gr_neD (dp_lst r1 (dps_il h1)) (dp_lst r2 (dps_il h2)) (shp_ints ns).1 (shp_ints ms).1 (by simp only [PyData.eqv, eqv_ints]; exact k)
theorem gr_ixSD {z : Str} (l : z.length ≤ 1000) (h0 : 0 ≤ i) (h1 : i < (z.length : Int)) (k : Φ (.str ⟨#[z.cps.toList.getD i.toNat 0]⟩) A) : GR (rIx K) (.str z) (.int i) A Φ := by
  have hl : i.toNat < z.cps.toList.length := by
    have : (z.length : Int) = (z.cps.toList.length : Int) := by simp [Str.length]
    omega
  refine gr_ixS (c := z.cps.toList.getD i.toNat 0) (Nat.le_trans l (by decide)) ?_ k
  rw [atI_lt h0 (by omega), List.getD_eq_getElem?_getD, List.getElem?_eq_getElem hl]
  rfl
theorem len1 {c : Nat} : (⟨#[c]⟩ : Str).length = 1 := rfl
/-- a list mapped, at a place -/
theorem gr_ixM {α : Type} {f : α → V} {l : List α} {n : Nat} {x : α} (r : RL K A p (l.map f)) (h : l[n]? = some x) (k : Φ (f x) A) : GR (rIx K) (.ref p) (.int (n : Int)) A Φ := gr_ixN r (by rw [List.getElem?_map, h]; rfl) k
end
end S

namespace S
open PySem L2
section
variable {P : Program} {w : World} {K : PySem.W.Frag} {mg : Str → Option Value} {base : Heap} {x qual m : Str} {params : Arguments} {body : List Stmt} {scope : Scope} {dvs : List V} {kws : List (Str × V)} {f C : Addr} {fd : FuncData} {ps : List Str} {k : Nat} {sp : Sp}
theorem fnR_of (ok : FnOk P w K mg base (L2.CX P w) k f fd ps sp) (hb : Binds K fd ps []) : FnR P w K mg base (L2.CX P w) k f sp :=
  (FnOk.raw ok hb .nil).imp fun vs H Q E h => by rw [List.append_nil]; exact h
theorem defR_of (F : FunD K x qual params body scope dvs kws f fd) (hm : mg x = some (.ref f)) (hb : Binds K fd ps []) (ok : FnOk P w K mg base (L2.CX P w) k f fd ps sp) : DefR P w K mg base k x sp := ⟨f, fnR_of ok hb, hm, F.kp⟩
theorem methR_of (c : Cls K C) (hm : Meth K C m f) (hb : Binds K fd ps []) (ok : FnOk P w K mg base (L2.CX P w) k f fd ps sp) : MethR P w K mg base k C m sp := ⟨c, f, hm, fnR_of ok hb⟩
theorem makR_of (M : Mk K C f) (hm : mg x = some (.ref C)) (hb : Binds K fd ps []) (ok : FnOk P w K mg base (L2.CX P w) k f fd ps sp) : MakR P w K mg base k x C sp := ⟨f, M, fnR_of ok hb, hm⟩
theorem methR_mono {j : Nat} (h : MethR P w K mg base j C m sp) (l : j ≤ k) : MethR P w K mg base k C m sp := by
  obtain ⟨c, f, hm, F⟩ := h
  exact ⟨c, f, hm, F.mono l⟩
theorem funD_mk {st : Stmt} {oc : Value} {od an : Option Addr} {osl : Array (Option Value)} {kV doc pm cdv ct : Value} (l : K.lookup f = some ⟨oc, od, .func (PySem.W.fnOf x qual (defArgs st) (defBody st) (defScope st) .none kV doc pm an cdv ct), osl⟩)
    (c : PySem.W.codeIn K cdv qual = true) (kp : PySem.W.keepIn K (.ref f) = true) : FunD K x qual (defArgs st) (defBody st) (defScope st) [] [] f (PySem.W.fnOf x qual (defArgs st) (defBody st) (defScope st) .none kV doc pm an cdv ct) :=
  ⟨⟨oc, od, .none, kV, doc, pm, an, cdv, ct, osl, rfl, l, c, .inl ⟨rfl, rfl⟩, .inl rfl⟩, kp⟩
theorem funD_mkD {st : Stmt} {oc : Value} {od an : Option Addr} {osl : Array (Option Value)} {kV doc pm cdv ct : Value} {D : Addr} {o : Obj} {its : List Value} {n : Nat} (l : K.lookup f = some ⟨oc, od, .func (PySem.W.fnOf x qual (defArgs st) (defBody st) (defScope st) (.ref D) kV doc pm an cdv ct), osl⟩)
    (c : PySem.W.codeIn K cdv qual = true) (kp : PySem.W.keepIn K (.ref f) = true) (hD : K.lookup D = some o) (hs : o.data = .seq its.toArray n) (hv : Vals dvs its) (hne : dvs ≠ []) :
    FunD K x qual (defArgs st) (defBody st) (defScope st) dvs [] f (PySem.W.fnOf x qual (defArgs st) (defBody st) (defScope st) (.ref D) kV doc pm an cdv ct) :=
  ⟨⟨oc, od, .ref D, kV, doc, pm, an, cdv, ct, osl, rfl, l, c, .inr ⟨hne, D, o, its, n, rfl, hD, hs, hv⟩, .inl rfl⟩, kp⟩
theorem binds_all (F : FunD K x qual params body scope dvs [] f fd) (hd : dvs ≠ [])
    (h : ∀ (T : Addr) (kV doc pm : Value) (an : Option Addr) (cdv ct : Value) (us its : List Value), us.length = ps.length → its.length = dvs.length →
      ∃ k, bindArgs (PySem.W.fnOf x qual params body scope (.ref T) kV doc pm an cdv ct) ⟨us, []⟩ = seqItems? (.ref T) >>= k ∧ k (some its.toArray) = pure (ps.zip us)) : Binds K fd ps [] := by
  obtain ⟨ds, hv, hb⟩ := F.binds1 (ps := ps) ps.length dvs.length hd (by omega) fun T kV doc pm an cdv ct us its h1 h2 => by
    obtain ⟨k, e1, e2⟩ := h T kV doc pm an cdv ct us its h1 h2
    refine ⟨k, e1, ?_⟩
    rw [e2, List.drop_eq_nil_of_le (by omega), List.append_nil]
  rw [List.drop_eq_nil_of_le (Nat.le_refl _)] at hv
  cases hv
  exact hb
end
/-- a constant tuple of the module -/
theorem sqT_k {K : PySem.W.Frag} {p : Addr} {od : Option Addr} {its : Array Value} {n : Nat} {sl : Array (Option Value)} {xs : List V} (l : K.lookup p = some ⟨.type "tuple", od, .seq its n, sl⟩) (hz : its.size ≤ 1000) (hv : Vals xs its.toList) : ∀ H, SqT K H p xs :=
  fun H => .inr ⟨_, its, n, l, rfl, rfl, Nat.le_trans hz (by decide), hv⟩
theorem sqL_sub {K : PySem.W.Frag} {H H' : Hp} {p : Addr} {xs : List V} (s : Sub H H') (h : SqL K H p xs) : SqL K H' p xs := by
  rcases h with (h | ⟨o, h⟩) | h
  · exact .inl (.inl (s _ _ h))
  · exact .inl (.inr ⟨o, s _ _ h⟩)
  · exact .inr h
theorem has_self {H : Hp} : Has H [H] := ⟨fun h hh => by rw [List.mem_singleton.mp hh]; exact fun _ _ e => e, List.pairwise_singleton _ _⟩
/-- the law's call -/
theorem law_in {K : PySem.W.Frag} {a : Addr} {ns : List Int} {H : Hp} {sp : Spec} (hS : SqL K H a (ns.map V.int)) (h : ∀ A : SH, RL K A a (ns.map V.int) → sp [.ref a] A (fun v _ => v = .bl true) fun _ _ _ => False) : lift sp [.ref a] H (fun v _ => v = .bl true) fun _ _ _ => False :=
  ⟨[H], fun v _ => v = .bl true, fun _ _ _ => False, has_self, fun v A H' _ e => e, fun _ _ _ _ _ z => z, h [H] fun H' x => sqL_sub x.head hS⟩
theorem cx_no {P : Program} {w : World} {H : Hp} {s : Shared} {e : Value} {s' : Shared} (h : L2.CX P w [] H s (fun _ _ _ => False) e s') : False := by
  obtain ⟨_, _, _, _, _, _, _, _, _, _, _, _, z⟩ := h
  exact z
end S

namespace S
section
variable {α : Type} [DecidableEq α]
/-- how many unlike ones -/
def dst : List α → Nat
  | [] => 0
  | x :: r => if x ∈ r then dst r else dst r + 1
def dsf (l : List α) : Nat := dst l.reverse
theorem dsf_snoc (l : List α) (x : α) : dsf (l ++ [x]) = if x ∈ l then dsf l else dsf l + 1 := by
  unfold dsf
  rw [List.reverse_append]
  show dst (x :: l.reverse) = _
  rw [dst]
  simp only [List.mem_reverse]
theorem dst_le : ∀ l : List α, dst l ≤ l.length
  | [] => Nat.le_refl _
  | x :: r => by
    have := dst_le r
    rw [dst, List.length_cons]
    split <;> omega
theorem dsf_le (l : List α) : dsf l ≤ l.length := by
  have := dst_le l.reverse
  rwa [List.length_reverse] at this
theorem dst_full : ∀ l : List α, dst l = l.length ↔ l.Nodup
  | [] => by simp [dst]
  | x :: r => by
    have h := dst_le r
    have ih := dst_full r
    rw [dst, List.length_cons, List.nodup_cons]
    split
    · rename_i m
      constructor
      · intro e
        omega
      · intro e
        exact absurd m e.1
    · rename_i m
      constructor
      · intro e
        exact ⟨m, ih.mp (by omega)⟩
      · intro e
        rw [ih.mpr e.2]
theorem dsf_full (l : List α) : dsf l = l.length ↔ l.Nodup := by
  have := dst_full l.reverse
  rw [List.length_reverse] at this
  unfold dsf
  rw [this]
  exact (List.reverse_perm l).nodup_iff
end
section
open PySem PyProof.Rows
variable {P : Program} {w : World} {α : Type} [DecidableEq α] {knd : KeyKind P w α} {A : Around} {R : Result → Shared → Prop} {I : Addr} {fp wr : List Addr} {G : Array GenState → Array GenState → Prop} {n : Nat} {Pv : Nat → Value → Prop} {St : Nat → Shared → Prop}
theorem setOf_as {h : Heap} {a : Addr} {f g : α → Bool} {i j : Nat} (x : h.SetOf knd a f i) (e : f = g) (e' : i = j) : h.SetOf knd a g j := e ▸ e' ▸ x
theorem setOf_mv {h h' : Heap} {a : Addr} {f : α → Bool} {i : Nat} (x : h.SetOf knd a f i) (k : ∀ o, h.get? a = some o → h'.get? a = some o) : h'.SetOf knd a f i := let ⟨o, es, ep, t, ho, r⟩ := x; ⟨o, es, ep, t, k o ho, r⟩
theorem set_fill (W : WalksS P w A.in1 I fp wr G n Pv St) (S : Addr) (hf : S ∉ fp) (xs : List α) (hl : xs.length = n) (hz : n + 1 < scanBound) (hv : ∀ i v, Pv i v → ∃ x, xs[i]? = some x ∧ knd.is x v = true ∧ v.scannable = true) :
    ∀ (k i : Nat) (s : Shared), n - i = k → i ≤ n → St i s → s.heap.SetOf knd S (fun y => decide (y ∈ xs.take i)) (dsf (xs.take i)) →
      (∀ s', Moved (S :: wr) G s s' → s'.heap.SetOf knd S (fun y => decide (y ∈ xs)) (dsf xs) → R (.ok (.ret .none)) s') → codeAny (model P w) A (.builtin "set.update.loop" ⟨[.ref S, .ref I], []⟩) R s := by
  have out : S ∉ wr := fun z => hf (W.sub _ z)
  have more : ∀ b ∈ wr, b ∈ S :: wr := fun b z => .tail _ z
  intro k
  induction k with
  | zero =>
    intro i s e le st x q
    obtain rfl : i = n := by omega
    refine codeAny_builtin PyProof.Rows.F.entry_set_update_loop ?_
    rw [Around.under_plainId PyProof.Rows.F.plain_set_update_loop _]
    show wpAny _ A.in1 (pyNext (.ref I) >>= _) _ _ s
    refine wpAny_bind (W.done s _ _ st fun s1 mv => ?_)
    refine wpAny_pure (q s1 (mv.mono more) ?_)
    rw [List.take_of_length_le (Nat.le_of_eq hl)] at x
    exact setOf_mv x fun o e => mv.heap S o out e
  | succ k ih =>
    intro i s e le st x q
    have lt : i < n := by omega
    refine codeAny_builtin PyProof.Rows.F.entry_set_update_loop ?_
    rw [Around.under_plainId PyProof.Rows.F.plain_set_update_loop _]
    show wpAny _ A.in1 (pyNext (.ref I) >>= _) _ _ s
    refine wpAny_bind (W.item i s _ _ lt st fun v s1 pv st1 mv => ?_)
    obtain ⟨y, hy, isy, scn⟩ := hv i v pv
    have x1 := setOf_mv x fun o e => mv.heap S o out e
    show wpAny _ A.in1 (holding [v] (setAdd S v) >>= _) _ _ s1
    refine wpAny_bind (wpAny_holding ?_)
    unfold setAdd
    refine wpAny_holding (wpAny_bind (knd.pyHash isy ?_))
    have room : dsf (xs.take i) + 1 < scanBound := by
      have a := dsf_le (xs.take i)
      rw [List.length_take] at a
      omega
    refine wpAny_setAddHashed_of (s := { s1 with toks := s1.toks + 1 }) isy scn x1 room fun h2 but x2 => ?_
    have tk : xs.take (i + 1) = xs.take i ++ [y] := by
      rw [List.take_add_one, hy]
      rfl
    have x3 : h2.SetOf knd S (fun z => decide (z ∈ xs.take (i + 1))) (dsf (xs.take (i + 1))) := by
      refine setOf_as x2 (funext fun z => ?_) ?_
      · rw [tk, Bool.eq_iff_iff]
        simp
      · rw [tk, dsf_snoc]
        by_cases m : y ∈ xs.take i <;> simp [m]
    refine wpAny_pure ⟨plainId_quiet PyProof.Rows.F.plain_set_update_loop _, ih (i + 1) _ (by omega) lt (W.frame _ s1 _ _ st1 (Nat.le_succ _) fun b hb o e => ?_) x3 fun s3 mv3 x4 => ?_⟩
    · have nb : b ≠ S := fun z => hf (z ▸ hb)
      rw [but.2 b nb]
      exact e
    · refine q s3 (Moved.trans W.gtrans ((mv.mono more).then_heap (Nat.le_succ _) fun b o nb e => ?_) mv3) x4
      have nS : b ≠ S := fun z => nb (z ▸ .head _)
      rw [but.2 b nS]
      exact e
end
section
open PySem
variable {P : Program} {w : World} {α : Type} [DecidableEq α] {knd : KeyKind P w α} {A : Around} {E : Value → Shared → Prop} {s : Shared}
abbrev mtSet (led : Bool) : Obj := { cls := .type "set", dict := none, data := .set #[] 0 (.fresh 0 0 led) }
theorem set_of_list {l : Addr} {its : Array Value} {xs : List α} {Q : Value → Shared → Prop} (hh : A.handled = none) (hl : s.heap.IsList l its) (hx : xs.length = its.size) (hv : ∀ (i : Nat) v, its[i]? = some v → ∃ x, xs[i]? = some x ∧ knd.is x v = true ∧ v.scannable = true) (hz : its.size + 1 < scanBound)
    (q : ∀ (h1 : Heap) (tk : Nat), h1.SetOf knd s.heap.objs.size (fun y => decide (y ∈ xs)) (dsf xs) → (∀ b o, s.heap.get? b = some o → h1.get? b = some o) → Q (.ref s.heap.objs.size) { s with heap := h1, toks := tk }) :
    wpAny (model P w) A (call (.type "set") [.ref l]) Q E s := by
  obtain ⟨c, tl, mro⟩ := PySem.F.called_set.mro
  have z1 := PySem.F.called_set.made
  have z2 := PySem.F.called_set.sub
  refine wpAny_call (codeAny_of_tree ?_)
  show wpAny _ _ (callAny (.type "set") _) _ _ _
  refine wpAny_pure ⟨Code.quiet_builtin _ (by decide +kernel), codeAny_builtin PySem.F.entry_type_call ?_⟩
  rw [Around.under_plain (weight_type_call_type "set" [.ref l] []) rfl]
  have z3 := PySem.F.called_set.notType
  have z4 := PySem.F.called_set.canCreate
  have z5 := PySem.F.typeCall_set_1 (.ref l)
  repeat (any_goals (first | assumption | wp_step))
  refine codeAny_mono (code_set_new_1 (.ref l) (E := E) (Q₁ := fun obj s1 => ∃ led, obj = .ref s.heap.objs.size ∧ s1 = { s with heap := s.heap.push (mtSet led) }) fun led => ⟨led, rfl, rfl⟩) fun r s1 hr => ?_
  cases r with
  | error e => exact hr
  | ok fl =>
    cases fl with
    | ret obj =>
      obtain ⟨led, rfl, rfl⟩ := hr
      have at0 : (s.heap.push (mtSet led)).get? s.heap.objs.size = some (mtSet led) := Heap.get?_push_size _ rfl
      have ty0 : Shared.TypeIs { s with heap := s.heap.push (mtSet led) } (.ref s.heap.objs.size) "set" := ⟨_, at0, rfl⟩
      have z6 := PySem.F.called_set.init.lookup
      have z7 := PySem.F.called_set.init.bind (.ref s.heap.objs.size)
      repeat (any_goals (first | assumption | wp_step))
      refine codeAny_mono (codeAny_call_builtin (R := wants (fun r s2 => r = .none ∧ ∃ h1 tk, s2 = { s with heap := h1, toks := tk } ∧ h1.SetOf knd s.heap.objs.size (fun y => decide (y ∈ xs)) (dsf xs) ∧ (∀ b o, s.heap.get? b = some o → h1.get? b = some o)) E)
        PySem.F.called_set.init.plain PySem.F.entry_set_init (check_set_init_1 ty0 ?_)) fun r2 s2 hr2 => ?_
      · obtain ⟨ol, hol, hcl, nl, hdl⟩ := hl
        obtain ⟨oc, od, ot, os⟩ := ol
        simp only at hcl hdl
        subst hcl
        subst hdl
        have hol1 := Heap.get?_push_of_some (mtSet led) hol
        have z8 := PySem.F.sub_list_set
        have z9 := PySem.F.sub_list_frozenset
        have z0 : (Value.type "list" == Value.type "dict") = false := by decide
        have il : (s.heap.push (mtSet led)).IsList l its := ⟨_, hol1, rfl, nl, rfl⟩
        unfold Builtin.«set.__init__» noKeywords Builtin.Frozenset.updateFrom
        generalize hPI : pyIter = PI
        wp_walk
        subst hPI
        refine wpAny_pyIter_list il (wpAny_bind (wpAny_runValue ?_))
        have lt : l < s.heap.objs.size := Heap.lt_size hol
        have hh3 : A.in1.in1.in1.handled = none := by simp [hh]
        have sz : (s.heap.push (mtSet led)).objs.size = s.heap.objs.size + 1 := Heap.size_push _ _
        have neI : l ≠ (s.heap.push (mtSet led)).objs.size := Nat.ne_of_lt (Nat.lt_of_lt_of_eq (Nat.lt_succ_of_lt lt) sz.symm)
        have nfp : s.heap.objs.size ∉ [(s.heap.push (mtSet led)).objs.size, l] := by
          intro m
          rcases List.mem_cons.mp m with m | m
          · exact Nat.ne_of_lt (Nat.lt_of_lt_of_eq (Nat.lt_succ_self _) sz.symm) m
          · exact Nat.ne_of_gt lt (List.mem_singleton.mp m)
        refine set_fill ((Walks.list hh3 _ l neI its).toS) s.heap.objs.size nfp xs hx hz hv (its.size - 0) 0 _ (by omega) (Nat.zero_le _) ⟨⟨_, Heap.get?_push_size _ rfl, rfl, rfl⟩, il.push _⟩ ?_ ?_
        · exact setOf_as ((PyProof.Rows.setObjOf_fresh (knd := knd) led).setOf (Heap.get?_push_of_some _ at0) (by unfold scanBound; omega)) (funext fun y => by simp) rfl
        · intro s3 mv x
          obtain ⟨h3, g3, d3, t3, o3⟩ := s3
          obtain rfl : g3 = s.gens := mv.gens
          obtain rfl : d3 = s.drawn := mv.drawn
          obtain rfl : o3 = s.os := mv.os
          show wpAny _ _ _ _ _ _
          refine wpAny_pure ?_
          show wpAny _ _ (ret Value.none) _ _ _
          refine wpAny_pure ⟨rfl, h3, t3, rfl, x, fun b o e => ?_⟩
          have lb : b < s.heap.objs.size := Heap.lt_size e
          refine mv.heap b o (fun m => ?_) (Heap.get?_push_of_some _ (Heap.get?_push_of_some _ e))
          rcases List.mem_cons.mp m with m | m
          · exact Nat.ne_of_lt lb m
          · exact Nat.ne_of_lt (Nat.lt_of_lt_of_eq (Nat.lt_succ_of_lt lb) sz.symm) (List.mem_singleton.mp m)
      · cases r2 with
        | error e => exact hr2
        | ok f2 =>
          cases f2 with
          | ret r =>
            obtain ⟨rfl, h1, tk, rfl, x, kp⟩ := hr2
            repeat (any_goals (first | assumption | wp_step))
            exact q _ _ x kp
          | _ => exact hr2.elim
    | _ => exact hr.elim
end
end S

namespace S
open PySem PySem.Spec PyProof.Rows L2
/-! ### len(set(xs)) -/
/-- of texts or of ints, in a list -/
def tLenS (K : PySem.W.Frag) (ta : TE) : TE := fun σ H Q => ta σ H fun x H1 => ∃ l, x = .ref l ∧ ((∃ xs : List Str, SqL K H1 l (xs.map V.str) ∧ xs.length ≤ 1000 ∧ Q (.int (dsf xs)) H1) ∨ (∃ ns : List Int, SqL K H1 l (ns.map V.int) ∧ ns.length ≤ 1000 ∧ Q (.int (dsf ns)) H1))
theorem valStr : ∀ {ys : List Str} {us : List Value}, Vals (ys.map V.str) us → ∀ (i : Nat) v, us.toArray[i]? = some v → ∃ x, ys[i]? = some x ∧ ∃ t, v = .str x t := fun {ys us} r i v h => by
  have hi : i < us.length := by
    have := (Array.getElem?_eq_some_iff.mp h).1
    rwa [List.size_toArray] at this
  have hy : i < ys.length := by
    have := r.length
    rw [List.length_map] at this
    omega
  obtain ⟨u, hu, t, e⟩ := r.get (i := i) (x := .str ys[i]) (by simp [hy])
  refine ⟨ys[i], by simp [hy], t, ?_⟩
  rw [List.getElem?_toArray, hu] at h
  cases h
  exact e
theorem valInt : ∀ {ys : List Int} {us : List Value}, Vals (ys.map V.int) us → ∀ (i : Nat) v, us.toArray[i]? = some v → ∃ x, ys[i]? = some x ∧ ∃ t, v = .int x t := fun {ys us} r i v h => by
  have hi : i < us.length := by
    have := (Array.getElem?_eq_some_iff.mp h).1
    rwa [List.size_toArray] at this
  have hy : i < ys.length := by
    have := r.length
    rw [List.length_map] at this
    omega
  obtain ⟨u, hu, t, e⟩ := r.get (i := i) (x := .int ys[i]) (by simp [hy])
  refine ⟨ys[i], by simp [hy], t, ?_⟩
  rw [List.getElem?_toArray, hu] at h
  cases h
  exact e
section
variable {X : Cx}
theorem pe_lenS {a : Expr} {ta : TE} {p p2 q pos : Pos} (hc : X.calm = true) (hg : Gl X "len") (hm : X.mg "len" = none) (hg2 : Gl X "set") (hm2 : X.mg "set" = none) (ha : PE X a ta)
    (na : starEach [a] X.env = (false, eval a X.env) :: starEach [] X.env := by rfl) : PE X (.Call (.Name "len" p) [.Call (.Name "set" p2) [a] [] q] [] pos) (tLenS X.K ta) := by
  constructor
  intro pins s σ H Q I h
  refine Call_ (ld_blt I hg hm boot_len (PyProof.Rows.callWith_builtin1 (PyProof.Rows.args_cons ?_ rfl) rfl rfl))
  refine Call_ (ld_blt I hg2 hm2 boot_set (PyProof.Rows.callWith_type1 (PyProof.Rows.args_cons (thn (ha.run pins s σ H _ I h) ?_) na) na rfl))
  rintro v s1 ⟨x, H1, I1, r1, l, rfl, q1⟩
  refine PyProof.Rows.args_nil ?_
  cases r1
  have fin : ∀ {α : Type} [DecidableEq α] (knd : KeyKind X.prog X.w α) (xs : List α) (h1 : Heap) (tk : Nat), xs.length ≤ 1000 → Q (.int (dsf xs)) H1 → h1.SetOf knd s1.heap.objs.size (fun y => decide (y ∈ xs)) (dsf xs) → (∀ b o, s1.heap.get? b = some o → h1.get? b = some o) →
      wpAny (model X.prog X.w) X.A (spliced (backTo pos (starEach [] X.env))) (fun vs s2 => wpAny (model X.prog X.w) X.A (call (.builtin "len") (Value.ref s1.heap.objs.size :: vs)) (EP X pins σ Q) X.xe s2) X.xe { s1 with heap := h1, toks := tk } := by
    intro α _ knd xs h1 tk hx q x kp
    refine PyProof.Rows.args_nil ?_
    obtain ⟨o, es, ep, t, ho, hex, hd, _, _, _, hf, hn⟩ := x
    have I2 : Inv X pins σ H1 { s1 with heap := h1, toks := tk } := I1.kept fun b o e => kp b o e
    have le := dsf_le xs
    refine call_len_set ho hex hd hf (by rw [hn]; omega) ⟨.int (dsf xs), H1, I2.tok _, ⟨_, by rw [hn]⟩, q⟩
  rcases q1 with ⟨xs, hq, hz, q⟩ | ⟨ns, hq, hz, q⟩
  · obtain ⟨its, r, pl, _⟩ := I1.list hq
    have e1 := r.length
    rw [List.length_map] at e1
    refine set_of_list (knd := strKind X.prog X.w) (xs := xs) (I1.ok.hd hc) pl.isList (by rw [List.size_toArray, e1]) (fun i v e => ?_) (by rw [List.size_toArray]; unfold scanBound; omega) fun h1 tk x kp => fin _ xs h1 tk hz q x kp
    obtain ⟨x, hx, t, rfl⟩ := valStr r i v e
    exact ⟨x, hx, strKind_is _ _ _ _, rfl⟩
  · obtain ⟨its, r, pl, _⟩ := I1.list hq
    have e1 := r.length
    rw [List.length_map] at e1
    refine set_of_list (knd := intKind X.prog X.w) (xs := ns) (I1.ok.hd hc) pl.isList (by rw [List.size_toArray, e1]) (fun i v e => ?_) (by rw [List.size_toArray]; unfold scanBound; omega) fun h1 tk x kp => fin _ ns h1 tk hz q x kp
    obtain ⟨x, hx, t, rfl⟩ := valInt r i v e
    exact ⟨x, hx, intKind_is _ _ _ _, rfl⟩
/-! ### xs[::s], s 1 or -1 -/
def tRow (K : PySem.W.Frag) (te ts : TE) : TE := fun σ H Q => te σ H fun x H1 => ts σ H1 fun y H2 => ∃ (a : Addr) (xs : List V) (i : Int), x = .ref a ∧ y = .int i ∧ SqL K H2 a xs ∧ (i = 1 ∨ i = -1) ∧ ∀ p, H2 p = none → Q (.ref p) (upd H2 p (.lst (if i = 1 then xs else xs.reverse)))
theorem pick1 (its : Array Value) : slicePick its none none (some 1) = its := by
  have : slicePick its none none (some 1) = slicePick its none none none := rfl
  rw [this, slicePick_all]
theorem pe_row {e st : Expr} {te ts : TE} {p3 pos : Pos} (he : PE X e te) (hs : PE X st ts) : PE X (.Subscript e (.Slice none none (some st) p3) pos) (tRow X.K te ts) := by
  constructor
  intro pins s σ H Q I h
  refine Subscript_ (thn (he.run pins s σ H _ I h) ?_)
  rintro v s1 ⟨x, H1, I1, r1, q1⟩
  refine wpAny_Slice (thn (po_none.run pins s1 σ H1 (fun o H2 => o = none ∧ H2 = H1) I1 ⟨rfl, rfl⟩) ?_)
  rintro vl s2 ⟨l, H2, I2, pl, rfl, rfl⟩
  refine thn (po_none.run pins s2 σ H2 (fun o H3 => o = none ∧ H3 = H2) I2 ⟨rfl, rfl⟩) ?_
  rintro vu s3 ⟨u, H3, I3, pu, rfl, rfl⟩
  refine thn (hs.run pins s3 σ H3 _ I3 q1) ?_
  rintro vs s4 ⟨y, H4, I4, r4, a, xs, i, rfl, rfl, hx, hi, q⟩
  obtain ⟨t, rfl⟩ := r4
  cases r1
  have I5 : Inv X pins σ H4 { s4 with heap := s4.heap.push { cls := .type "slice", data := .fields #[vl, vu, .int i t] } } := I4.kept (t' := s4.toks) fun b ob z => Heap.get?_push_of_some _ z
  obtain ⟨its, r, ht, hz⟩ := I5.list hx
  have e1 := r.length
  show wpAny (model X.prog X.w) X.A (subscriptTail e (.Slice none none (some st) p3) (.ref a) (.ref s4.heap.objs.size)) (EP X pins σ Q) X.xe { s4 with heap := s4.heap.push { cls := .type "slice", data := .fields #[vl, vu, .int i t] } }
  refine tail_any (ops := [.ref a, .ref s4.heap.objs.size]) ht.isList.typeIs (PySem.slot_list_getitem.lookup) ?_ (by with_unfolding_all rfl)
  have i0 : some i ≠ some 0 := by
    intro z
    cases z
    omega
  refine wpAny_getItem_list_slice (st := some i) ht.isList (Heap.IsSliceOf.new _ vl vu _) pl pu (.int i t) i0 ?_ (by rw [List.size_toArray]; omega)
  rcases hi with rfl | rfl
  · rw [pick1]
    exact ⟨.ref _, _, I5.laid (t' := s4.toks) (o := .lst xs) (fun b ob z => Heap.get?_push_of_some _ z) (Nat.le_refl _) ⟨hz, _, 0, r, Heap.get?_push_size _ rfl⟩, rfl, q _ (I5.hok.fresh (Nat.le_refl _))⟩
  · rw [PySem.W.krv_pick]
    exact ⟨.ref _, _, I5.laid (t' := s4.toks) (o := .lst xs.reverse) (fun b ob z => Heap.get?_push_of_some _ z) (Nat.le_refl _) ⟨by rw [List.length_reverse]; exact hz, _, 0, r.reverse, Heap.get?_push_size _ rfl⟩, rfl, q _ (I5.hok.fresh (Nat.le_refl _))⟩
/-! ### big powers -/
def CPw (i j : Int) : Prop := 0 ≤ j ∧ (Builtin.Int.intBits i : Int) * j ≤ 2 ^ 27
def dPow : R2 := rI CPw fun i j => .int (i ^ j.toNat)
theorem op_dPow : OpR X (binaryOp .Pow) dPow := opI fun _ _ _ _ _ _ _ hc q => pow_int hc.1 hc.2 q
/-- x.join(ys) -/
def rJoin (K : PySem.W.Frag) : V → List V → Hp → VK → Prop := fun x xs H Q => ∃ a p, ∃ ys : List Str, x = .str a ∧ xs = [.ref p] ∧ (SqL K H p (ys.map V.str) ∨ SqT K H p (ys.map V.str)) ∧
      (ys.map (·.length)).sum + ys.length * a.length ≤ 16777216 ∧ Q (.str (Txt.join a ys)) H
end
end S

namespace S
open PySem PySem.Spec PyProof.Rows L2
/-! ### C(.., k = v), with defaults -/
def MakRK (P : Program) (w : World) (K : PySem.W.Frag) (mg : Str → Option Value) (base : Heap) (k : Nat) (x : Str) (C : Addr) (n : Nat) (ks : List Str) (gV : List V → List V → List V) (sp : Sp) : Prop :=
  ∃ f fd ps g, Mk K C f ∧ FnOk P w K mg base (L2.CX P w) k f fd ps sp ∧ KBn K fd ps (n + 1) ks g gV ∧ mg x = some (.ref C)
def tMakK (C : Addr) (sp : Sp) (W : WX) (n m : Nat) (gV : List V → List V → List V) (t tk : TA) : TE := fun σ H Q => t σ H fun vs H1 => tk σ H1 fun zs H2 => vs.length = n ∧ zs.length = m ∧ ∀ x dx, H2 x = Option.none → H2 dx = Option.none → dx ≠ x →
  sp (gV (V.ref x :: vs) zs) (upd (upd H2 dx (.own x)) x (.ins C dx [])) (fun v H3 => v = .non ∧ Q (.ref x) H3) (WE W σ)
section
variable {X : Cx} {k n : Nat} {f C : Addr} {fd : FuncData} {ps ks : List Str} {sp : Sp} {W : WX} {x : Str} {p pos : Pos} {e : Expr} {es : List Expr} {kws : List Keyword} {t tk : TA} {σ : L2.St} {g : List Value → List Value → List Value} {gV : List V → List V → List V}
theorem run_makK {E : XK} {pins : List (Addr × Obj)} {H : Hp} {s : Shared} {Q : VK} {us ws : List Value} {vs zs : List V} (M : Mk X.K C f) (F : FnOk X.prog X.w X.K X.mg X.base (L2.CX X.prog X.w) k f fd ps sp) (hb : KBn X.K fd ps (n + 1) ks g gV) (hr : Room (k + 1) X.A)
    (hx : PassesAt (L2.CX X.prog X.w) X σ E) (I : Inv X pins σ H s) (r : Vals vs us) (rz : Vals zs ws) (l1 : vs.length = n) (l2 : zs.length = ks.length)
    (h : ∀ x dx, H x = Option.none → H dx = Option.none → dx ≠ x → sp (gV (V.ref x :: vs) zs) (upd (upd H dx (.own x)) x (.ins C dx [])) (fun v H2 => v = .non ∧ Q (.ref x) H2) E) :
    wpAny (model X.prog X.w) X.A (call (.ref C) us (ks.zip ws)) (EP X pins σ Q) X.xe s := by
  have new := h (s.heap.objs.size + 1) s.heap.objs.size (I.hok.fresh (Nat.le_succ _)) (I.hok.fresh (Nat.le_refl _)) (Nat.ne_of_lt (Nat.lt_succ_self _))
  have J := Inv.made (C := C) I
  have rr : Vals (V.ref (s.heap.objs.size + 1) :: vs) (Value.ref (s.heap.objs.size + 1) :: us) := .cons rfl r
  have n1 : (Value.ref (s.heap.objs.size + 1) :: us).length = n + 1 := by rw [List.length_cons, ← r.length, l1]
  have n2 : ws.length = ks.length := by rw [← rz.length, l2]
  have run := F.run _ X.stack _ _ ⟨Value.ref (s.heap.objs.size + 1) :: us, ks.zip ws⟩ (g (Value.ref (s.heap.objs.size + 1) :: us) ws) _ _ E (hr.make C us (ks.zip ws)) (J.env0.make C us (ks.zip ws)) (hb.to _ _ ws J.kIn n1 n2) (hb.rel rr rz) new
  refine wpAny_call (make_map (f := f) I.kIn M.makes M.init (beq_iff_eq.mp M.fn) (codeAny_mono run ?_))
  intro res s' got
  match res, got with
  | .error e, got => exact hx pins _ _ e s' J got
  | .ok (.ret u), got =>
    obtain ⟨v, H', I3, rv, ev, q3⟩ := J.after got
    subst ev
    exact ⟨rv, ⟨V.ref (s.heap.objs.size + 1), H', I3, rfl, q3⟩⟩
  | .ok .next, got => exact False.elim got
  | .ok .brk, got => exact False.elim got
  | .ok .cont, got => exact False.elim got
theorem pe_makK (G : MakRK X.prog X.w X.K X.mg X.base k x C n ks gV sp) (hr : Room (k + 1) X.A) (hg : Gl X x) (tw : Takes X W) (ha : PA X (e :: es) t) (hkw : PK X kws tk)
    (hall : (backToKw pos (keywordEach kws X.env)).all (·.1.isSome) = true := by rfl) (hks : (backToKw pos (keywordEach kws X.env)).filterMap (·.1) = ks := by rfl) (hdb : (x == ("__debug__" : Str)) = false := by decide)
    (he : starEach (e :: es) X.env = (false, eval e X.env) :: starEach es X.env := by rfl)
    (hpl : ((backTo pos (starEach (e :: es) X.env)).any (·.1) || (backToKw pos (keywordEach kws X.env)).any (·.1.isNone)) = false := by rfl) : PE X (.Call (.Name x p) (e :: es) kws pos) (tMakK C sp W n ks.length gV t tk) := by
  obtain ⟨f, fd, ps, g, M, F, hb, hm⟩ := G
  constructor
  intro pins s σ H Q I h
  refine wpAny_Call_Name_kw (ld_glob I hg hm ?_ hdb)
  refine PySem.W.callWith_KW (h₀ := X.base) I.ok.mod.kin M.kp hall (thn (ha.run pos pins s σ H _ I h) ?_) hpl he
  rintro us s1 ⟨vs, H1, I1, r, q⟩
  refine thn (hkw.run pos pins s1 σ H1 _ I1 q) ?_
  rintro ws s2 ⟨zs, H2, I2, rz, l1, l2, q2⟩
  refine ⟨I2.kIn, ?_⟩
  rw [hks]
  exact run_makK M F hb hr (passAt tw σ) I2 r rz l1 l2 q2
end
theorem makRK_of {P : Program} {w : World} {K : PySem.W.Frag} {mg : Str → Option Value} {base : Heap} {x : Str} {f C : Addr} {fd : FuncData} {ps ks : List Str} {k n : Nat} {sp : Sp} {g : List Value → List Value → List Value} {gV : List V → List V → List V}
    (M : Mk K C f) (hm : mg x = some (.ref C)) (hb : KBn K fd ps (n + 1) ks g gV) (ok : FnOk P w K mg base (L2.CX P w) k f fd ps sp) : MakRK P w K mg base k x C n ks gV sp := ⟨f, fd, ps, g, M, ok, hb, hm⟩
/-- Vals of a joined row -/
theorem kbn_of {K : PySem.W.Frag} {x qual : Str} {params : Arguments} {body : List Stmt} {scope : Scope} {dvs : List V} {f : Addr} {fd : FuncData} {ps : List Str} (F : FunD K x qual params body scope dvs [] f fd) (n : Nat) (ks : List Str) (g : {α : Type} → List α → List α → List α → List α) (hd : dvs ≠ [])
    (hrel : ∀ {vs ds zs : List V} {us its ws : List Value}, Vals vs us → Vals ds its → Vals zs ws → Vals (g vs ds zs) (g us its ws))
    (h : ∀ (T : Addr) (kV doc pm : Value) (an : Option Addr) (cdv ct : Value) (us its ws : List Value), us.length = n → its.length = dvs.length → ws.length = ks.length →
      ∃ k, bindArgs (PySem.W.fnOf x qual params body scope (.ref T) kV doc pm an cdv ct) ⟨us, ks.zip ws⟩ = seqItems? (.ref T) >>= k ∧ k (some its.toArray) = pure (ps.zip (g us its ws))) : ∃ g', KBn K fd ps n ks g' (fun vs zs => g vs dvs zs) := by
  obtain ⟨its, r⟩ := FunD.kbindsD F n ks g hd hrel h
  exact ⟨_, r⟩
section
variable {K : PySem.W.Frag} {σ : L2.St} {A B : SH} {Φ : V → SH → Prop} {Ψ : Value → Option Addr → L2.St → SH → Prop} {W : WX} {te ts ta : TE} {t tk : TA} {sp : Spec} {C p q : Addr} {xs : List V} {i j : Int} {n m : Nat} {gV : List V → List V → List V}
def NMakK (C : Addr) (sp : Spec) (Φ : V → SH → Prop) (Ψ : Value → Option Addr → L2.St → SH → Prop) (σ : L2.St) (n m : Nat) (gV : List V → List V → List V) (vs : List V) : List V → SH → Prop := fun zs A1 => vs.length = n ∧ zs.length = m ∧ ∀ x dx, sp (gV (V.ref x :: vs) zs) (sg x (.ins C dx []) :: A1) (fun v A2 => v = .non ∧ Φ (.ref x) A2) fun c d A2 => Ψ c d σ A2
theorem ge_makK' (hx : WPost Ψ W) (h : GA t σ A fun vs A1 => GA tk σ A1 (NMakK C sp Φ Ψ σ n m gV vs)) : GE (tMakK C (lift sp) W n m gV t tk) σ A Φ := fun H Q a p =>
  h H _ a fun vs A1 H1 a1 h1 => h1 H1 _ a1 fun zs A2 H2 a2 ⟨l1, l2, h2⟩ => ⟨l1, l2, fun x dx nx nd ne =>
    ⟨_, _, _, (a2.new nd).tail.new (by rw [upd_ne (Ne.symm ne)]; exact nx), fun v A3 H3 a3 ⟨e, k⟩ => ⟨e, p _ A3 H3 a3 k⟩, fun c d A3 H3 a3 k => hx c d σ A3 H3 a3 k, h2 x dx⟩⟩
def NLenS (K : PySem.W.Frag) (Φ : V → SH → Prop) : V → SH → Prop := fun x A => ∃ l, x = .ref l ∧ ((∃ xs : List Str, RL K A l (xs.map V.str) ∧ xs.length ≤ 1000 ∧ Φ (.int (dsf xs)) A) ∨ (∃ ns : List Int, RL K A l (ns.map V.int) ∧ ns.length ≤ 1000 ∧ Φ (.int (dsf ns)) A))
theorem ge_lenS' (h : GE ta σ A (NLenS K Φ)) : GE (tLenS K ta) σ A Φ := fun H Q a ps =>
  h H _ a fun x A1 H1 a1 ⟨l, e, r⟩ => ⟨l, e, r.elim (fun ⟨xs, r, z, k⟩ => .inl ⟨xs, r H1 a1, z, ps _ A1 H1 a1 k⟩) fun ⟨xs, r, z, k⟩ => .inr ⟨xs, r H1 a1, z, ps _ A1 H1 a1 k⟩⟩
theorem nlenS {xs : List Str} (r : RL K A p (xs.map V.str)) (z : xs.length ≤ 1000) (k : Φ (.int (dsf xs)) A) : NLenS K Φ (.ref p) A := ⟨p, rfl, .inl ⟨xs, r, z, k⟩⟩
theorem nlenI {xs : List Int} (r : RL K A p (xs.map V.int)) (z : xs.length ≤ 1000) (k : Φ (.int (dsf xs)) A) : NLenS K Φ (.ref p) A := ⟨p, rfl, .inr ⟨xs, r, z, k⟩⟩
def NRow (K : PySem.W.Frag) (Φ : V → SH → Prop) (x : V) : V → SH → Prop := fun y A => ∃ a xs i, x = .ref a ∧ y = .int i ∧ RL K A a xs ∧ (i = 1 ∨ i = -1) ∧ ∀ p, Φ (.ref p) (sg p (.lst (if i = 1 then xs else xs.reverse)) :: A)
theorem ge_row' (h : GE te σ A fun x A1 => GE ts σ A1 (NRow K Φ x)) : GE (tRow K te ts) σ A Φ := fun H Q a ps =>
  h H _ a fun x A1 H1 a1 h1 => h1 H1 _ a1 fun y A2 H2 a2 ⟨b, xs, i, e1, e2, r, o, k⟩ => ⟨b, xs, i, e1, e2, r H2 a2, o, fun c hc => ps _ _ _ (a2.new hc) (k c)⟩
theorem nrow (r : RL K A p xs) (o : i = 1 ∨ i = -1) (k : ∀ p, Φ (.ref p) (sg p (.lst (if i = 1 then xs else xs.reverse)) :: A)) : NRow K Φ (.ref p) (.int i) A := ⟨p, xs, i, rfl, rfl, r, o, k⟩
theorem gr_pow (c : CPw i j) (k : Φ (.int (i ^ j.toNat)) A) : GR dPow (.int i) (.int j) A Φ := gr_I c k
def NJoin (K : PySem.W.Frag) (Φ : V → SH → Prop) (x : V) : V → SH → Prop := fun y A => ∃ a p, ∃ ys : List Str, x = .str a ∧ y = .ref p ∧ RL K A p (ys.map V.str) ∧ (ys.map (·.length)).sum + ys.length * a.length ≤ 16777216 ∧ Φ (.str (Txt.join a ys)) A
def NJ1 (K : PySem.W.Frag) (ts : TE) (σ : L2.St) (Φ : V → SH → Prop) : V → SH → Prop := fun x A => (∃ a, x = .str a) ∧ GE ts σ A (NJoin K Φ x)
def NLR1 (Φ : V → SH → Prop) : V → SH → Prop := fun x A => ∃ n : Int, x = .int n ∧ 0 ≤ n ∧ n ≤ 1000000 ∧ ∀ q, Φ (.ref q) (sg q (.lst ((List.range n.toNat).map fun i : Nat => V.int i)) :: A)
theorem rgV0 (n : Int) : rgV 0 n = (List.range n.toNat).map fun i : Nat => V.int i := by
  unfold rgV
  rw [Int.sub_zero]
  simp only [Int.zero_add]
theorem ge_lstRg1' (h : GE te σ A (NLR1 Φ)) : GE (tLstRg (tRg1 te)) σ A Φ := fun H Q a ps =>
  h H _ a fun x A1 H1 a1 ⟨n, e, z0, z1, k⟩ => ⟨n, e, RgOk.of_le (by decide) (by omega) (by decide) z0, fun q hq => ps _ _ _ (a1.new hq) (rgV0 n ▸ k q)⟩
theorem nlr1 {n : Int} (z0 : 0 ≤ n) (z1 : n ≤ 1000000) (k : ∀ q, Φ (.ref q) (sg q (.lst ((List.range n.toNat).map fun i : Nat => V.int i)) :: A)) : NLR1 Φ (.int n) A := ⟨n, rfl, z0, z1, k⟩
theorem nj1 {a : Str} (h : GE ts σ A (NJoin K Φ (.str a))) : NJ1 K ts σ Φ (.str a) A := ⟨⟨a, rfl⟩, h⟩
theorem ge_join' (h : GE te σ A (NJ1 K ts σ Φ)) : GE (tM1 (rJoin K) te ts) σ A Φ := fun H Q a ps =>
  h H _ a fun x A1 H1 a1 h1 => ⟨h1.1, h1.2 H1 _ a1 fun y A2 H2 a2 ⟨b, c, ys, e1, e2, r, z, k⟩ => ⟨b, c, ys, e1, by rw [e2], .inl (r H2 a2), z, ps _ A2 H2 a2 k⟩⟩
theorem njoin {a : Str} {ys : List Str} (r : RL K A p (ys.map V.str)) (z : (ys.map (·.length)).sum + ys.length * a.length ≤ 16777216) (k : Φ (.str (Txt.join a ys)) A) : NJoin K Φ (.str a) (.ref p) A := ⟨a, p, ys, rfl, rfl, r, z, k⟩
end
section
variable {K : PySem.W.Frag} {σ σ1 σ2 : L2.St} {A B : SH} {to ti : TE} {t : TA} {v w : V} {p : Addr} {xs : List V} {k : Int} {i j : Nat} {nx : L2.St → SH → Prop} {rt : V → SH → Prop} {bk ct : L2.St → SH → Prop} {Φ : L2.St → SH → Prop}
def NSet (Φ : L2.St → SH → Prop) (σ : L2.St) (v o : V) : V → SH → Prop := fun i A => ∃ p xs k B, o = .ref p ∧ i = .int k ∧ Pull A (sg p (.lst xs)) B ∧ 0 ≤ k ∧ k < (xs.length : Int) ∧ Φ σ (sg p (.lst (xs.set k.toNat v)) :: B)
theorem gg_sub' (h : GE to σ A fun o A1 => GE ti σ A1 (NSet Φ σ v o)) : GG (gSub to ti rSetL) v σ A Φ := fun H Q a ps =>
  h H _ a fun o A1 H1 a1 h1 => h1 H1 _ a1 fun i A2 H2 a2 ⟨p, xs, k, B, e1, e2, pl, z0, z1, q⟩ => ⟨p, xs, k, k.toNat, e1, e2, (pl.has a2).at, by unfold ixN; rw [if_pos z0, if_pos z1], ps _ _ _ (pl.has a2).set q⟩
theorem nset (pl : Pull A (sg p (.lst xs)) B) (z0 : 0 ≤ k) (z1 : k < (xs.length : Int)) (q : Φ σ (sg p (.lst (xs.set k.toNat v)) :: B)) : NSet Φ σ v (.ref p) (.int k) A := ⟨p, xs, k, B, rfl, rfl, pl, z0, z1, q⟩
def NPar (nx : L2.St → SH → Prop) (σ : L2.St) (i j : Nat) : List V → SH → Prop := fun vs A => ∃ v w, vs = [v, w] ∧ nx ((σ.set i (some v)).set j (some w)) A
theorem gs_par' (h : GA t σ A (NPar nx σ i j)) : GS (tPar i j t) ⟨nx, rt, bk, ct⟩ σ A := fun H E a im =>
  h H _ a fun vs A1 H1 a1 ⟨v, w, e, q⟩ => ⟨v, w, e, im.nx _ _ _ a1 q⟩
theorem npar (s1 : Set1 σ i (some v) σ1) (s2 : Set1 σ1 j (some w) σ2) (q : nx σ2 A) : NPar nx σ i j [v, w] A := by
  have e1 : σ.set i (some v) = σ1 := s1
  have e2 : σ1.set j (some w) = σ2 := s2
  exact ⟨v, w, rfl, by rw [e1, e2]; exact q⟩
end
/-! ### cells of any size -/
def Big : Nat := 2 ^ 1048576
theorem big_le {n : Nat} (h : n ≤ 2 ^ 64) : n ≤ Big := Nat.le_trans h (Nat.pow_le_pow_right (by decide) (by decide))
/-- a number of the script -/
def Cell (z : Int) : Prop := z.natAbs < Big
theorem cell_bits {z : Int} (h : Builtin.Int.intBits z ≤ 1048576) : Cell z := by
  unfold Cell Big
  by_cases h0 : z.natAbs = 0
  · rw [h0]
    exact Nat.pow_pos (by decide)
  · have hz : ¬ z = 0 := fun e => h0 (by rw [e]; rfl)
    have e : Builtin.Int.intBits z = z.natAbs.log2 + 1 := by
      unfold Builtin.Int.intBits
      first | rfl | (simp [h0, hz])
    rw [e] at h
    exact Nat.lt_of_lt_of_le (Nat.lt_log2_self) (Nat.pow_le_pow_right (by decide) h)
theorem bits_of {z : Int} {n : Nat} (h : z.natAbs < 2 ^ n) : Builtin.Int.intBits z ≤ n := by
  unfold Builtin.Int.intBits
  by_cases h0 : z.natAbs = 0
  · have hz : z = 0 := Int.natAbs_eq_zero.mp h0
    simp [hz]
  · have hz : ¬ z = 0 := fun e => h0 (by rw [e]; rfl)
    have := (Nat.log2_lt h0).mpr h
    simp [h0, hz]
    omega
/-- (z + d) ** 3 -/
theorem cpw3 {z d : Int} (h : Cell z) (h0 : -(2 ^ 40) ≤ d) (h1 : d ≤ 2 ^ 40) : CPw (z + d) 3 := by
  refine ⟨by decide, ?_⟩
  have b : (z + d).natAbs < 2 ^ 1048577 := by
    have e : (2 : Nat) ^ 1048577 = Big + Big := by
      unfold Big
      rw [Nat.pow_succ]
      omega
    rw [e]
    have hz : z.natAbs < Big := h
    have hb : 2 ^ 41 ≤ Big := big_le (by decide)
    generalize Big = N at *
    omega
  have := bits_of b
  omega
/-! ### slices from and up to a place -/
section
variable {K : PySem.W.Frag} {A : SH} {Φ : V → SH → Prop} {p : Addr} {xs : List V} {i j : Int}
theorem cut_to (h : 0 ≤ i) : cutV xs none (some i) = xs.take i.toNat := by
  unfold cutV
  show (xs.drop 0).take ((if i < 0 then _ else min i.toNat xs.length) - 0) = _
  rw [if_neg (by omega), List.drop_zero, Nat.sub_zero, List.take_eq_take_iff]
  omega
theorem cut_from (h : 0 ≤ i) : cutV xs (some i) none = xs.drop i.toNat := by
  unfold cutV
  show (xs.drop (if i < 0 then _ else min i.toNat xs.length)).take (xs.length - (if i < 0 then _ else min i.toNat xs.length)) = _
  rw [if_neg (by omega)]
  by_cases c : i.toNat ≤ xs.length
  · rw [Nat.min_eq_left c, List.take_of_length_le (by rw [List.length_drop]; omega)]
  · rw [Nat.min_eq_right (by omega), List.drop_eq_nil_of_le (Nat.le_refl _), List.drop_eq_nil_of_le (by omega)]
    exact List.take_nil
theorem gsl_to (r : RL K A p xs) (h : 0 ≤ i) (k : ∀ q, Φ (.ref q) (sg q (.lst (xs.take i.toNat)) :: A)) : GSl (rSl K) (.ref p) none (some i) A Φ := gsl_list r fun q => (cut_to (xs := xs) h).symm ▸ k q
theorem gsl_from (r : RL K A p xs) (h : 0 ≤ i) (k : ∀ q, Φ (.ref q) (sg q (.lst (xs.drop i.toNat)) :: A)) : GSl (rSl K) (.ref p) (some i) none A Φ := gsl_list r fun q => (cut_from (xs := xs) h).symm ▸ k q
end
/-! ### a place to meet -/
def tMid (t1 t2 : TS) : TS := tSeq t1 t2
theorem gs_mid {σ : L2.St} {A : SH} {t1 t2 : TS} {nx : L2.St → SH → Prop} {rt : V → SH → Prop} {bk ct : L2.St → SH → Prop} (Mid : L2.St → SH → Prop) (h : GS t1 ⟨Cl Mid, rt, bk, ct⟩ σ A) (k : ∀ σ A, Mid σ A → GS t2 ⟨nx, rt, bk, ct⟩ σ A) : GS (tMid t1 t2) ⟨nx, rt, bk, ct⟩ σ A := by
  show GS (tSeq t1 t2) ⟨nx, rt, bk, ct⟩ σ A
  refine gs_seq fun H E a im => h H E a ⟨fun σ A H x p => im.nx σ A H x (gs_as fun H2 x2 => ?_), im.rt, im.bk, im.ct⟩
  obtain ⟨B, hB, m⟩ := p H2 x2
  exact ⟨B, hB, k σ B m⟩
end S

namespace S
open PySem PySem.Spec PyProof.Rows L2
section
variable {K : PySem.W.Frag} {σ : L2.St} {A : SH} {ta : TA} {a b : Addr} {xs ys : List V} {g : TG} {t : TS} {nx : L2.St → SH → Prop} {rt : V → SH → Prop} {bk ct : L2.St → SH → Prop}
def NZip (K : PySem.W.Frag) (Φ : It → SH → Prop) : List V → SH → Prop := fun vs A => ∃ a b xs ys, vs = [.ref a, .ref b] ∧ ((RL K A a xs ∧ RL K A b ys ∧ Φ (Itz K a b) A) ∨ (RT K A a xs ∧ RT K A b ys ∧ Φ (RZ.ItzT K a b) A))
theorem gi_zip' {Φ : It → SH → Prop} (h : GA ta σ A (NZip K Φ)) : GI (RZ.iZipA K ta) σ A Φ := fun H R x p =>
  h H _ x fun vs A1 H1 a1 ⟨a, b, xs, ys, e, q⟩ => ⟨a, b, xs, ys, e, q.elim (fun ⟨r1, r2, k⟩ => .inl ⟨r1 H1 a1, r2 H1 a1, p _ A1 H1 a1 k⟩) fun ⟨r1, r2, k⟩ => .inr ⟨r1 H1 a1, r2 H1 a1, p _ A1 H1 a1 k⟩⟩
theorem nzipT {Φ : It → SH → Prop} (r1 : RT K A a xs) (r2 : RT K A b ys) (k : Φ (RZ.ItzT K a b) A) : NZip K Φ [.ref a, .ref b] A := ⟨a, b, xs, ys, rfl, .inr ⟨r1, r2, k⟩⟩
theorem nzipL {Φ : It → SH → Prop} (r1 : RL K A a xs) (r2 : RL K A b ys) (k : Φ (Itz K a b) A) : NZip K Φ [.ref a, .ref b] A := ⟨a, b, xs, ys, rfl, .inl ⟨r1, r2, k⟩⟩
theorem gf_zipT (hl : xs.length = ys.length) (Pv : Nat → L2.St → SH → Prop) (h0 : Cl (Pv 0) σ A) (hq : ∀ i σ A, Pv i σ A → RT K A a xs ∧ RT K A b ys)
    (hs : ∀ i x y T σ A, xs[i]? = some x → ys[i]? = some y → Pv i σ A → GG g (.ref T) σ (sg T (.tup [x, y]) :: A) fun σ' A' => GS t ⟨Cl (Pv (i + 1)), rt, nx, Cl (Pv (i + 1))⟩ σ' A') (hd : ∀ σ A, Pv xs.length σ A → nx σ A) : GF (RZ.ItzT K a b) g t ⟨nx, rt, bk, ct⟩ σ A := fun H E x im =>
  RZ.for_zipT (K := K) (D := E) hl (fun i σ H => ∃ A, Has H A ∧ Pv i σ A) (h0 H x) (fun i σ H ⟨A, x, p⟩ => ⟨(hq i σ A p).1 H x, (hq i σ A p).2 H x⟩)
    (fun i v y T σ H hx hy ⟨A, x, p⟩ hT => hs i v y T σ A hx hy p _ _ (x.new hT) fun σ' A' H' x' k => k H' _ x' ⟨fun σ A H x p => p H x, im.rt, im.nx, fun σ A H x p => p H x⟩)
    fun σ H ⟨A, x, p⟩ => im.nx σ A H x (hd σ A p)
theorem gf_zipL (hl : xs.length = ys.length) (Pv : Nat → L2.St → SH → Prop) (h0 : Cl (Pv 0) σ A) (hq : ∀ i σ A, Pv i σ A → RL K A a xs ∧ RL K A b ys)
    (hs : ∀ i x y T σ A, xs[i]? = some x → ys[i]? = some y → Pv i σ A → GG g (.ref T) σ (sg T (.tup [x, y]) :: A) fun σ' A' => GS t ⟨Cl (Pv (i + 1)), rt, nx, Cl (Pv (i + 1))⟩ σ' A') (hd : ∀ σ A, Pv xs.length σ A → nx σ A) : GF (Itz K a b) g t ⟨nx, rt, bk, ct⟩ σ A := fun H E x im =>
  RZ.for_zipL (K := K) (D := E) hl (fun i σ H => ∃ A, Has H A ∧ Pv i σ A) (h0 H x) (fun i σ H ⟨A, x, p⟩ => ⟨(hq i σ A p).1 H x, (hq i σ A p).2 H x⟩)
    (fun i v y T σ H hx hy ⟨A, x, p⟩ hT => hs i v y T σ A hx hy p _ _ (x.new hT) fun σ' A' H' x' k => k H' _ x' ⟨fun σ A H x p => p H x, im.rt, im.nx, fun σ A H x p => p H x⟩)
    fun σ H ⟨A, x, p⟩ => im.nx σ A H x (hd σ A p)
end
/-! ### data that may be compared -/
def Shp (n : Nat) (d : PyData) : Prop := d.canLay0 = true ∧ d.depth ≤ n
def ShpA (n : Nat) (ds : List PyData) : Prop := PyData.canLayAll0 ds = true ∧ PyData.depthAll ds ≤ n
theorem shp_non {n : Nat} : Shp n .none := ⟨by simp only [PyData.canLay0], by simp only [PyData.depth]; omega⟩
theorem shp_bl {n : Nat} {b : Bool} : Shp n (.bool b) := ⟨by simp only [PyData.canLay0], by simp only [PyData.depth]; omega⟩
theorem shp_int {n : Nat} {i : Int} : Shp n (.int i) := ⟨by simp only [PyData.canLay0], by simp only [PyData.depth]; omega⟩
theorem shp_str {n : Nat} {x : Str} (h : PyData.strOk x = true) : Shp n (.str x) := ⟨by simp only [PyData.canLay0]; exact h, by simp only [PyData.depth]; omega⟩
theorem shp_lst {n : Nat} {ds : List PyData} (h : ShpA n ds) : Shp (n + 1) (.list ds) := ⟨by simp only [PyData.canLay0]; exact h.1, by have := h.2; simp only [PyData.depth]; omega⟩
theorem shp_tup {n : Nat} {ds : List PyData} (h : ShpA n ds) : Shp (n + 1) (.tuple ds) := ⟨by simp only [PyData.canLay0]; exact h.1, by have := h.2; simp only [PyData.depth]; omega⟩
theorem shpA_nil {n : Nat} : ShpA n [] := ⟨by simp only [PyData.canLayAll0], by simp only [PyData.depthAll]; omega⟩
theorem shpA_cons {n : Nat} {d : PyData} {ds : List PyData} (h : Shp n d) (t : ShpA n ds) : ShpA n (d :: ds) := ⟨by simp only [PyData.canLayAll0, h.1, t.1, Bool.and_self], by have := h.2; have := t.2; simp only [PyData.depthAll]; omega⟩
theorem shpA_all {n : Nat} : ∀ {ds : List PyData}, (∀ d ∈ ds, Shp n d) → ShpA n ds
  | [], _ => shpA_nil
  | d :: ds, h => shpA_cons (h d (.head _)) (shpA_all fun e he => h e (.tail _ he))
theorem shpA_map {α : Type} {n : Nat} {f : α → PyData} {l : List α} (h : ∀ x, Shp n (f x)) : ShpA n (l.map f) := shpA_all fun d hd => by
  obtain ⟨x, _, rfl⟩ := List.mem_map.mp hd
  exact h x
theorem shp_ok {n : Nat} {d : PyData} (h : Shp n d) (hn : n ≤ 64) : SeqAt.shaped d = true := by
  unfold SeqAt.shaped
  rw [h.1, decide_eq_true (Nat.le_trans h.2 hn)]
  rfl
section
variable {K : PySem.W.Frag} {A : SH} {Φ : V → SH → Prop} {x y : V} {n : Nat} {d : PyData}
theorem gr_neB {b c : Bool} (k : Φ (.bl (!decide (b = c))) A) : GR (dNe K) (.bl b) (.bl c) A Φ := gr_ne_scal rfl (by
  have e : decide (V.bl b = V.bl c) = decide (b = c) := by
    by_cases h : b = c
    · rw [h, decide_eq_true rfl, decide_eq_true rfl]
    · rw [decide_eq_false h, decide_eq_false fun z => h (V.bl.inj z)]
  rw [e]
  exact k)
theorem gr_eqR (h1 : DP K A x d) (h2 : DP K A y d) (s : Shp n d) (hn : n ≤ 64) (k : Φ (.bl true) A) : GR (dEq K) x y A Φ := gr_eqD h1 h2 (shp_ok s hn) (shp_ok s hn) (by rw [SeqAt.eqv_refl d s.1]; exact k)
theorem gr_neR (h1 : DP K A x d) (h2 : DP K A y d) (s : Shp n d) (hn : n ≤ 64) (k : Φ (.bl false) A) : GR (dNe K) x y A Φ := gr_neD h1 h2 (shp_ok s hn) (shp_ok s hn) (by rw [SeqAt.eqv_refl d s.1]; exact k)
end
def uNeg : V → Hp → VK → Prop := rU fun i => .int (-i)
theorem gu_neg {A : SH} {Φ : V → SH → Prop} {i : Int} (k : Φ (.int (-i)) A) : GU uNeg (.int i) A Φ := fun H Q a p => ⟨i, rfl, p _ A H a k⟩
section
variable {K : PySem.W.Frag} {A : SH} {Φ : V → SH → Prop} {x : V} {p : Addr} {xs : List V} {z w : Str}
theorem gr_inTt (r : RT K A p xs) (h : (flatV x && xs.all flatV && inV x xs) = true) (k : Φ (.bl true) A) : GR (dIn K false) x (.ref p) A Φ := by
  obtain ⟨h1, h3⟩ := Bool.and_eq_true_iff.mp h
  obtain ⟨h1, h2⟩ := Bool.and_eq_true_iff.mp h1
  exact gr_inT0 r h1 h2 (by rw [h3]; exact k)
theorem gr_inTf (r : RT K A p xs) (h : (flatV x && xs.all flatV && !inV x xs) = true) (k : Φ (.bl false) A) : GR (dIn K false) x (.ref p) A Φ := by
  obtain ⟨h1, h3⟩ := Bool.and_eq_true_iff.mp h
  obtain ⟨h1, h2⟩ := Bool.and_eq_true_iff.mp h1
  have h4 : inV x xs = false := by simpa using h3
  exact gr_inT0 r h1 h2 (by rw [h4]; exact k)
theorem gr_eqSy (h : z = w) (k : Φ (.bl true) A) : GR (dEq K) (.str z) (.str w) A Φ := gr_eqS (by rw [decide_eq_true h]; exact k)
theorem gr_eqSn (h : ¬ z = w) (k : Φ (.bl false) A) : GR (dEq K) (.str z) (.str w) A Φ := gr_eqS (by rw [decide_eq_false h]; exact k)
theorem gr_neSy (h : z = w) (k : Φ (.bl false) A) : GR (dNe K) (.str z) (.str w) A Φ := gr_neS (by rw [decide_eq_true h]; exact k)
theorem gr_neSn (h : ¬ z = w) (k : Φ (.bl true) A) : GR (dNe K) (.str z) (.str w) A Φ := gr_neS (by rw [decide_eq_false h]; exact k)
end
theorem ty_tupT {K : PySem.W.Frag} {A : SH} {p : Addr} {xs : List V} (r : RT K A p xs) : TyG K A (.ref p) (.type "tuple") := fun H a => by
  rcases r H a with (h | ⟨o, h⟩) | ⟨o, its, n, l, c, _⟩
  · exact .base (.tup h)
  · exact .fTuple h
  · exact .kTuple l c
/-! ### a written place of a written row -/
section
variable {K : PySem.W.Frag} {A : SH} {Φ : V → SH → Prop} {p : Addr} {v0 v1 v2 v3 v4 : V} {r : List V}
theorem gl0 (h : RL K A p (v0 :: r)) (k : Φ v0 A) : GR (rIx K) (.ref p) (.int 0) A Φ := gr_ixN (n := 0) h rfl k
theorem gl1 (h : RL K A p (v0 :: v1 :: r)) (k : Φ v1 A) : GR (rIx K) (.ref p) (.int 1) A Φ := gr_ixN (n := 1) h rfl k
theorem gl2 (h : RL K A p (v0 :: v1 :: v2 :: r)) (k : Φ v2 A) : GR (rIx K) (.ref p) (.int 2) A Φ := gr_ixN (n := 2) h rfl k
theorem gl3 (h : RL K A p (v0 :: v1 :: v2 :: v3 :: r)) (k : Φ v3 A) : GR (rIx K) (.ref p) (.int 3) A Φ := gr_ixN (n := 3) h rfl k
theorem gl4 (h : RL K A p (v0 :: v1 :: v2 :: v3 :: v4 :: r)) (k : Φ v4 A) : GR (rIx K) (.ref p) (.int 4) A Φ := gr_ixN (n := 4) h rfl k
end
end S

namespace S
open PySem PySem.Spec PyProof.Rows L2
theorem map_at {α β : Type} {f : α → β} {l : List α} {i : Nat} {y : β} (h : (l.map f)[i]? = some y) : ∃ x, l[i]? = some x ∧ f x = y := by
  rw [List.getElem?_map] at h
  cases e : l[i]? with
  | none => rw [e] at h; cases h
  | some x => rw [e] at h; exact ⟨x, rfl, Option.some.inj h⟩
/-! ### calls by themselves -/
theorem wxF : WPost (fun _ _ _ _ => False) (fun _ _ _ _ => False) := fun _ _ _ _ _ _ z => z
section
variable {K : PySem.W.Frag} {σ σ' σw : L2.St} {A B : SH} {Φ : V → SH → Prop} {Ψ : Value → Option Addr → L2.St → SH → Prop} {C p q : Addr} {sp : Spec} {vs : List V} {xs ys : List V} {v x y : V}
theorem nmk (h : ∀ x dx, sp (V.ref x :: vs) (sg x (.ins C dx []) :: A) (fun v A2 => v = .non ∧ Φ (.ref x) A2) fun c d A2 => Ψ c d σ A2) : NMak C sp Φ Ψ σ vs A := h
theorem nret {P : Prop} (h : P) : V.non = V.non ∧ P := ⟨rfl, h⟩
/-! ### loops that leave the heap as it is but for what is new -/
section
variable {g : TG} {t : TS} {nx : L2.St → SH → Prop} {rt : V → SH → Prop} {bk ct : L2.St → SH → Prop}
/-- for x in a list that stays: Pv by the turn and the slots, over a heap that holds A -/
theorem gf_lstK (Pv : Nat → L2.St → Prop) (h0 : Pv 0 σ) (r : RL K A p xs)
    (hs : ∀ i x σ A', xs[i]? = some x → Le A A' → Pv i σ → GG g x σ A' fun σ' A'' => GS t ⟨Cl (fun σ B => Le A B ∧ Pv (i + 1) σ), rt, nx, Cl (fun σ B => Le A B ∧ Pv (i + 1) σ)⟩ σ' A'')
    (hd : ∀ σ A', Le A A' → Pv xs.length σ → nx σ A') : GF (Itl K p) g t ⟨nx, rt, bk, ct⟩ σ A :=
  gf_list (fun i σ B => Le A B ∧ Pv i σ) (Cl.of ⟨Le.refl, h0⟩) (fun _ _ _ _ q => r.le q.1) (fun i x σ A' hx q => hs i x σ A' hx q.1 q.2) fun σ A' q => hd σ A' q.1 q.2
theorem gf_tupK (Pv : Nat → L2.St → Prop) (h0 : Pv 0 σ) (r : RT K A p xs)
    (hs : ∀ i x σ A', xs[i]? = some x → Le A A' → Pv i σ → GG g x σ A' fun σ' A'' => GS t ⟨Cl (fun σ B => Le A B ∧ Pv (i + 1) σ), rt, nx, Cl (fun σ B => Le A B ∧ Pv (i + 1) σ)⟩ σ' A'')
    (hd : ∀ σ A', Le A A' → Pv xs.length σ → nx σ A') : GF (Itt K p) g t ⟨nx, rt, bk, ct⟩ σ A :=
  gf_tup (fun i σ B => Le A B ∧ Pv i σ) (Cl.of ⟨Le.refl, h0⟩) (fun _ _ _ _ q => r.le q.1) (fun i x σ A' hx q => hs i x σ A' hx q.1 q.2) fun σ A' q => hd σ A' q.1 q.2
theorem gf_rngK {lo : Int} {n : Nat} (Pv : Nat → L2.St → Prop) (h0 : Pv 0 σ)
    (hs : ∀ i σ A', i < n → Le A A' → Pv i σ → GG g (.int (lo + i)) σ A' fun σ' A'' => GS t ⟨Cl (fun σ B => Le A B ∧ Pv (i + 1) σ), rt, nx, Cl (fun σ B => Le A B ∧ Pv (i + 1) σ)⟩ σ' A'')
    (hd : ∀ σ A', Le A A' → Pv n σ → nx σ A') : GF (Itr lo n) g t ⟨nx, rt, bk, ct⟩ σ A :=
  gf_range (fun i σ B => Le A B ∧ Pv i σ) (Cl.of ⟨Le.refl, h0⟩) (fun i σ A' hi q => hs i σ A' hi q.1 q.2) fun σ A' q => hd σ A' q.1 q.2
theorem gf_strK {z : Str} (Pv : Nat → L2.St → Prop) (h0 : Pv 0 σ)
    (hs : ∀ i c σ A', z.cps[i]? = some c → Le A A' → Pv i σ → GG g (.str ⟨#[c]⟩) σ A' fun σ' A'' => GS t ⟨Cl (fun σ B => Le A B ∧ Pv (i + 1) σ), rt, nx, Cl (fun σ B => Le A B ∧ Pv (i + 1) σ)⟩ σ' A'')
    (hd : ∀ σ A', Le A A' → Pv z.cps.size σ → nx σ A') : GF (Its z) g t ⟨nx, rt, bk, ct⟩ σ A :=
  gf_str (fun i σ B => Le A B ∧ Pv i σ) (Cl.of ⟨Le.refl, h0⟩) (fun i c σ A' hc q => hs i c σ A' hc q.1 q.2) fun σ A' q => hd σ A' q.1 q.2
theorem cl_le {P : L2.St → Prop} (l : Le A B) (h : P σ) : Cl (fun σ B => Le A B ∧ P σ) σ B := Cl.of ⟨l, h⟩
end
/-! ### comprehensions whose items are told by a function: some y to take, none to leave -/
section
variable {g : TG} {tt : TT} {te : TE} {vsn : List Nat}
/-- one turn: what it adds -/
def Turn2 (g : TG) (tt : TT) (te : TE) (vs : List Nat) (σw : L2.St) (x : V) (A : SH) (o : Option V) : Prop :=
  ∀ D acc, GG g x σw (sg D (.lst acc) :: A) fun σ2 A2 => Wi σ2 vs σw ∧ GT tt σ2 A2 fun b A3 => (b = true → GE te σ2 A3 fun y A4 => o = some y ∧ Le (sg D (.lst acc) :: A) A4) ∧ (b = false → o = none ∧ Le (sg D (.lst acc) :: A) A3)
theorem Turn2.one {x : V} {o : Option V} {D : Addr} {acc acc' : List V} {N : List V → SH → Prop} (h : Turn2 g tt te vsn σw x A o) (e : acc' = acc ++ o.toList) (n : N acc' A) : Turn1 g tt te vsn σw D acc x A N := by
  unfold Turn1
  subst e
  refine fun H Q a p => h D acc H Q a fun σ' A' H' a' ⟨w, q⟩ => p σ' A' H' a' ⟨w, fun H2 Q2 a2 p2 => q H2 Q2 a2 fun b A3 H3 a3 ⟨q1, q2⟩ => p2 b A3 H3 a3 ⟨fun hb H4 Q4 a4 p4 => q1 hb H4 Q4 a4 fun y A5 H5 a5 ⟨e, l⟩ => p4 y A5 H5 a5 ?_, fun hb => ?_⟩⟩
  · subst e
    exact CT.le l n
  · obtain ⟨e, l⟩ := q2 hb
    subst e
    refine CT.le l ?_
    rw [show acc ++ (none : Option V).toList = acc from List.append_nil _] at n
    exact n
theorem fm_take (F : V → Option V) {i : Nat} (h : xs[i]? = some x) : (xs.take (i + 1)).filterMap F = (xs.take i).filterMap F ++ (F x).toList := by
  rw [List.take_add_one, h, List.filterMap_append]
  cases e : F x <;> simp [e]
theorem glc_lstF (F : V → Option V) (hw : Wi σ vsn σw) (hz : xs.length ≤ 1000) (r : RL K A p xs) (hs : ∀ (i : Nat) (x : V), xs[i]? = some x → Turn2 g tt te vsn σw x A (F x)) (hd : ∀ D, Φ (.ref D) (sg D (.lst (xs.filterMap F)) :: A)) : GLC (Itl K p) g tt te vsn σ A Φ :=
  glc_list (fun (i : Nat) acc B => B = A ∧ acc = (xs.take i).filterMap F) hw ⟨rfl, rfl⟩ (sz1 hz) (fun _ _ _ _ q => q.1 ▸ r) (fun i x acc B D hx _ ⟨e1, e2⟩ => by
    subst e1
    exact (hs i x hx).one (acc' := acc ++ (F x).toList) rfl ⟨rfl, by rw [e2, fm_take F hx]⟩) (fun acc B D _ ⟨e1, e2⟩ => by
    subst e1
    rw [List.take_length] at e2
    subst e2
    exact hd D)
theorem glc_tupF (F : V → Option V) (hw : Wi σ vsn σw) (hz : xs.length ≤ 1000) (r : RT K A p xs) (hs : ∀ (i : Nat) (x : V), xs[i]? = some x → Turn2 g tt te vsn σw x A (F x)) (hd : ∀ D, Φ (.ref D) (sg D (.lst (xs.filterMap F)) :: A)) : GLC (Itt K p) g tt te vsn σ A Φ :=
  glc_tup (fun (i : Nat) acc B => B = A ∧ acc = (xs.take i).filterMap F) hw ⟨rfl, rfl⟩ (sz1 hz) (fun _ _ _ _ q => q.1 ▸ r) (fun i x acc B D hx _ ⟨e1, e2⟩ => by
    subst e1
    exact (hs i x hx).one (acc' := acc ++ (F x).toList) rfl ⟨rfl, by rw [e2, fm_take F hx]⟩) (fun acc B D _ ⟨e1, e2⟩ => by
    subst e1
    rw [List.take_length] at e2
    subst e2
    exact hd D)
theorem glc_rngF {lo : Int} {n : Nat} (F : Nat → Option V) (hw : Wi σ vsn σw) (hz : n ≤ 1000) (hs : ∀ i, i < n → Turn2 g tt te vsn σw (.int (lo + i)) A (F i)) (hd : ∀ D, Φ (.ref D) (sg D (.lst ((List.range n).filterMap F)) :: A)) : GLC (Itr lo n) g tt te vsn σ A Φ :=
  glc_range (fun i acc B => B = A ∧ acc = (List.range i).filterMap F) hw ⟨rfl, rfl⟩ (sz1 hz) (fun i acc B D hi _ ⟨e1, e2⟩ => by
    subst e1
    refine (hs i hi).one (acc' := acc ++ (F i).toList) rfl ⟨rfl, ?_⟩
    rw [e2, List.range_succ, List.filterMap_append]
    cases e : F i <;> simp [e]) (fun acc B D _ ⟨e1, e2⟩ => by
    subst e1
    subst e2
    exact hd D)
theorem t2_some {x y : V} {D : Addr} {acc : List V} (l : Le (sg D (.lst acc) :: A) B) : some y = some y ∧ Le (sg D (.lst acc) :: A) B := ⟨rfl, l⟩
/-- every item one -/
theorem fm_all {α β : Type} {f : α → β} : ∀ {l : List α}, l.filterMap (fun x => some (f x)) = l.map f
  | [] => rfl
  | a :: l => by rw [List.filterMap_cons, List.map_cons, fm_all]
theorem fm_map {α β γ : Type} {f : α → β} {F : β → Option γ} : ∀ {l : List α}, (l.map f).filterMap F = l.filterMap fun x => F (f x)
  | [] => rfl
  | a :: l => by
    rw [List.map_cons, List.filterMap_cons, List.filterMap_cons, fm_map]
theorem fm_cong {α β : Type} {F G : α → Option β} : ∀ {l : List α}, (∀ x ∈ l, F x = G x) → l.filterMap F = l.filterMap G
  | [], _ => rfl
  | a :: l, h => by
    rw [List.filterMap_cons, List.filterMap_cons, h a (.head _), fm_cong fun x hx => h x (.tail _ hx)]
end
end
end S

namespace S
open PySem PySem.Spec PyProof.Rows L2
/-! ### lists of Nats -/
def nats (l : List Nat) : List V := l.map fun i : Nat => V.int i
theorem nats_at {l : List Nat} {i : Nat} {y : V} (h : (nats l)[i]? = some y) : ∃ x, l[i]? = some x ∧ V.int x = y := map_at h
theorem nats_snoc {f : List Nat} {k : Nat} : nats f ++ [V.int (k : Int)] = nats (f ++ [k]) := by simp [nats]
theorem nats_len {f : List Nat} : (nats f).length = f.length := by simp [nats]
theorem nats_il (l : List Nat) : IntL (nats l) (l.map fun i : Nat => (i : Int)) := by
  show nats l = _
  unfold nats
  rw [List.map_map]
  rfl
theorem nats_cast {l m : List Nat} : (l.map (fun i : Nat => (i : Int)) = m.map fun i : Nat => (i : Int)) ↔ l = m := by
  constructor
  · intro h
    have : ∀ (l m : List Nat), (l.map (fun i : Nat => (i : Int)) = m.map fun i : Nat => (i : Int)) → l = m := by
      intro l
      induction l with
      | nil =>
        intro m h
        cases m with
        | nil => rfl
        | cons a m => cases h
      | cons b l ih =>
        intro m h
        cases m with
        | nil => cases h
        | cons a m =>
          rw [List.map_cons, List.map_cons, List.cons.injEq] at h
          rw [ih m h.2]
          have : b = a := by have := h.1; omega
          rw [this]
    exact this l m h
  · intro h
    rw [h]
theorem nats_dec {l m : List Nat} : decide ((l.map fun i : Nat => (i : Int)) = m.map fun i : Nat => (i : Int)) = decide (l = m) := by
  by_cases c : l = m
  · rw [decide_eq_true c, decide_eq_true (nats_cast.mpr c)]
  · rw [decide_eq_false c, decide_eq_false fun z => c (nats_cast.mp z)]
theorem flat_nats (l : List Nat) : (nats l).all flatV = true := by simp [nats, flatV]
theorem in_nats {k : Nat} {l : List Nat} : inV (.int (k : Int)) (nats l) = decide (k ∈ l) := by
  unfold inV nats
  rw [List.any_map, Bool.eq_iff_iff, List.any_eq_true, decide_eq_true_eq]
  constructor
  · rintro ⟨x, hx, e⟩
    have e2 : ((x : Int) == (k : Int)) = true := e
    have : x = k := by have := of_decide_eq_true e2; omega
    exact this ▸ hx
  · intro h
    exact ⟨k, h, by show ((k : Int) == (k : Int)) = true; simp⟩
section
variable {K : PySem.W.Frag} {σ : L2.St} {A B : SH} {Φ : V → SH → Prop} {p q : Addr} {l m : List Nat} {k : Nat} {xs ys : List V}
theorem gr_eq_nats (r1 : RL K A p (nats l)) (r2 : RL K A q (nats m)) (c : Φ (.bl (decide (l = m))) A) : GR (dEq K) (.ref p) (.ref q) A Φ := gr_eqLI r1 r2 (nats_il l) (nats_il m) (by rw [nats_dec]; exact c)
theorem gr_ne_nats (r1 : RL K A p (nats l)) (r2 : RL K A q (nats m)) (c : Φ (.bl (!decide (l = m))) A) : GR (dNe K) (.ref p) (.ref q) A Φ := gr_neLI r1 r2 (nats_il l) (nats_il m) (by rw [nats_dec]; exact c)
theorem gr_eq_nats0 (r1 : RL K A p (nats l)) (r2 : RL K A q []) (c : Φ (.bl (decide (l = []))) A) : GR (dEq K) (.ref p) (.ref q) A Φ := gr_eq_nats r1 (show RL K A q (nats []) from r2) c
theorem gr_ne_nats0 (r1 : RL K A p (nats l)) (r2 : RL K A q []) (c : Φ (.bl (!decide (l = []))) A) : GR (dNe K) (.ref p) (.ref q) A Φ := gr_ne_nats r1 (show RL K A q (nats []) from r2) c
theorem gr_in_nats (r : RL K A p (nats l)) (c : Φ (.bl (decide (k ∈ l))) A) : GR (dIn K false) (.int (k : Int)) (.ref p) A Φ := gr_inL0 r rfl (flat_nats l) (by rw [in_nats]; exact c)
theorem gr_notin_nats (r : RL K A p (nats l)) (c : Φ (.bl (!decide (k ∈ l))) A) : GR (dIn K true) (.int (k : Int)) (.ref p) A Φ := gr_inL1 r rfl (flat_nats l) (by rw [in_nats]; exact c)
theorem gr_ix_nats (r : RL K A p (nats l)) (h : k < l.length) (c : Φ (.int ((l.getD k 0 : Nat) : Int)) A) : GR (rIx K) (.ref p) (.int (k : Int)) A Φ := by
  have h1 : l[k]? = some l[k] := List.getElem?_eq_getElem h
  refine gr_ixM r h1 ?_
  have e : l.getD k 0 = l[k] := by rw [List.getD_eq_getElem?_getD, h1]; rfl
  rw [e] at c
  exact c
theorem nats_ix {n : Nat} (hk : (nats l)[n]? = some (.int (k : Int))) : l[n]? = some k := by
  obtain ⟨x, h1, h2⟩ := nats_at hk
  rw [h1]
  have := V.int.inj h2
  congr 1
  omega
theorem gm_index_nats {n : Nat} (r : RL K A p (nats l)) (h : l[n]? = some k) (hn : ∀ m x, m < n → l[m]? = some x → x ≠ k) (c : Φ (.int (n : Int)) A) : GM (rIndex K) (.ref p) [.int (k : Int)] A Φ := by
  refine gm_index (n := n) (z := .int (k : Int)) r rfl (flat_nats l) (by unfold nats; rw [List.getElem?_map, h]; rfl) (by show ((k : Int) == (k : Int)) = true; simp) (fun m z' hm hz => ?_) c
  obtain ⟨x, h1, rfl⟩ := nats_at hz
  have := hn m x hm h1
  show ((x : Int) == (k : Int)) = false
  rw [beq_eq_false_iff_ne]
  omega
theorem nats_drop {n : Nat} : (nats l).drop n = nats (l.drop n) := by unfold nats; rw [List.map_drop]
theorem nats_take {n : Nat} : (nats l).take n = nats (l.take n) := by unfold nats; rw [List.map_take]
theorem nats_app : nats l ++ nats m = nats (l ++ m) := by unfold nats; rw [List.map_append]
theorem gr_ix_natsI {i : Int} (r : RL K A p (nats l)) (h0 : 0 ≤ i) (h1 : i < (l.length : Int)) (c : ∀ x, l[i.toNat]? = some x → Φ (.int ((x : Nat) : Int)) A) : GR (rIx K) (.ref p) (.int i) A Φ := by
  obtain ⟨k, rfl⟩ : ∃ k : Nat, i = k := ⟨i.toNat, by omega⟩
  have h : k < l.length := by omega
  have h2 : l[k]? = some l[k] := List.getElem?_eq_getElem h
  exact gr_ixM r h2 (c _ (by rw [Int.toNat_natCast]; exact h2))
theorem gr_modN {i : Int} (h : 0 < k) (c : ∀ r : Nat, r < k → Φ (.int ((r : Nat) : Int)) A) : GR dMod (.int i) (.int (k : Int)) A Φ := by
  refine gr_modI (by omega) ?_
  have h1 : 0 ≤ i % (k : Int) := Int.emod_nonneg _ (by omega)
  have h2 : i % (k : Int) < (k : Int) := Int.emod_lt_of_pos _ (by omega)
  have e : i % (k : Int) = ((i % (k : Int)).toNat : Int) := by omega
  rw [e]
  exact c _ (by omega)
theorem gr_neE0 (r1 : RL K A p []) (r2 : RL K A q []) (c : Φ (.bl false) A) : GR (dNe K) (.ref p) (.ref q) A Φ := gr_neD (dp_lst r1 dps_nil) (dp_lst r2 dps_nil) (by decide +kernel) (by decide +kernel) c
/-! ints against the empty list -/
theorem gr_eq_ints0 {ns : List Int} (r1 : RL K A p (ns.map V.int)) (r2 : RL K A q []) (c : Φ (.bl (decide (ns = []))) A) : GR (dEq K) (.ref p) (.ref q) A Φ := gr_eqLI r1 r2 il_map il_nil c
theorem gr_ne_ints0 {ns : List Int} (r1 : RL K A p (ns.map V.int)) (r2 : RL K A q []) (c : Φ (.bl (!decide (ns = []))) A) : GR (dNe K) (.ref p) (.ref q) A Φ := gr_neLI r1 r2 il_map il_nil c
end
/-! ### parts -/
theorem le1 {h g : Hp} {B : SH} (s : Sub h g) : Le [h] (g :: B) := fun H x => ⟨fun y hy => by rw [List.mem_singleton.mp hy]; exact fun a o e => x.head a o (s a o e), List.pairwise_singleton _ _⟩
theorem le1i {h : Hp} {A : SH} (m : h ∈ A) : Le [h] A := fun H x => ⟨fun y hy => by rw [List.mem_singleton.mp hy]; exact x.1 h m, List.pairwise_singleton _ _⟩
theorem Cl.new {α : Type} {P : α → SH → Prop} {x : α} {A : SH} (k : ∀ h, P x (h :: A)) : Cl P x A := Cl.blk (xs := []) (A := A) Le.refl fun h _ => k h
theorem sub_sg {p : Addr} {o : HO} {h : Hp} {B : SH} (s : Sub (sg p o) h) : RO (h :: B) p o := .blk (s p o sg_same)
/-! ### items that are told by a predicate -/
section
variable {K : PySem.W.Frag} {σ σw : L2.St} {A B : SH} {Φ : V → SH → Prop} {p : Addr} {xs : List V} {g : TG} {tt : TT} {te : TE} {vsn : List Nat}
def TurnP (g : TG) (tt : TT) (te : TE) (vs : List Nat) (σw : L2.St) (x : V) (A : SH) (P : V → Prop) : Prop :=
  ∀ D acc, GG g x σw (sg D (.lst acc) :: A) fun σ2 A2 => Wi σ2 vs σw ∧ GT tt σ2 A2 fun b A3 => (b = true → GE te σ2 A3 fun y A4 => P y ∧ Le (sg D (.lst acc) :: A) A4) ∧ (b = false → False)
theorem TurnP.one {x : V} {P : V → Prop} {D : Addr} {acc : List V} {N : List V → SH → Prop} (h : TurnP g tt te vsn σw x A P) (n : ∀ y, P y → N (acc ++ [y]) A) : Turn1 g tt te vsn σw D acc x A N := by
  unfold Turn1
  exact fun H Q a p => h D acc H Q a fun σ' A' H' a' ⟨w, q⟩ => p σ' A' H' a' ⟨w, fun H2 Q2 a2 p2 => q H2 Q2 a2 fun b A3 H3 a3 ⟨q1, q2⟩ => p2 b A3 H3 a3 ⟨fun hb H4 Q4 a4 p4 => q1 hb H4 Q4 a4 fun y A5 H5 a5 ⟨e, l⟩ => p4 y A5 H5 a5 (CT.le l (n y e)), fun hb => (q2 hb).elim⟩⟩
theorem glc_rngP {lo : Int} {n : Nat} (P : Nat → V → Prop) (hw : Wi σ vsn σw) (hz : n ≤ 1000) (hs : ∀ i, i < n → TurnP g tt te vsn σw (.int (lo + i)) A (P i))
    (hd : ∀ D (ys : List V), ys.length = n → (∀ (i : Nat) (y : V), ys[i]? = some y → P i y) → Φ (.ref D) (sg D (.lst ys) :: A)) : GLC (Itr lo n) g tt te vsn σ A Φ :=
  glc_range (fun (i : Nat) acc B => B = A ∧ acc.length = i ∧ ∀ (j : Nat) (y : V), acc[j]? = some y → P j y) hw ⟨rfl, rfl, by simp⟩ (sz1 hz) (fun i acc B D hi _ ⟨e1, e2, e3⟩ => by
    subst e1
    refine (hs i hi).one fun y hy => ⟨rfl, by rw [List.length_append, e2]; rfl, fun j z hz => ?_⟩
    by_cases c : j < acc.length
    · rw [List.getElem?_append_left c] at hz
      exact e3 j z hz
    · have := (List.getElem?_eq_some_iff.mp hz).1
      rw [List.length_append, List.length_singleton] at this
      have e : j = acc.length := by omega
      subst e
      rw [List.getElem?_append_right (Nat.le_refl _)] at hz
      simp at hz
      subst hz
      exact e2 ▸ hy) (fun acc B D _ ⟨e1, e2, e3⟩ => by
    subst e1
    exact hd D acc e2 e3)
theorem glc_lstP (P : Nat → V → V → Prop) (hw : Wi σ vsn σw) (hz : xs.length ≤ 1000) (r : RL K A p xs) (hs : ∀ (i : Nat) (x : V), xs[i]? = some x → TurnP g tt te vsn σw x A (P i x))
    (hd : ∀ D (ys : List V), ys.length = xs.length → (∀ (i : Nat) (x y : V), xs[i]? = some x → ys[i]? = some y → P i x y) → Φ (.ref D) (sg D (.lst ys) :: A)) : GLC (Itl K p) g tt te vsn σ A Φ :=
  glc_list (fun (i : Nat) acc B => B = A ∧ acc.length = i ∧ ∀ (j : Nat) (x y : V), xs[j]? = some x → acc[j]? = some y → P j x y) hw ⟨rfl, rfl, by simp⟩ (sz1 hz) (fun _ _ _ _ q => q.1 ▸ r) (fun i x acc B D hi _ ⟨e1, e2, e3⟩ => by
    subst e1
    refine (hs i x hi).one fun y hy => ⟨rfl, by rw [List.length_append, e2]; rfl, fun j u z hu hz => ?_⟩
    by_cases c : j < acc.length
    · rw [List.getElem?_append_left c] at hz
      exact e3 j u z hu hz
    · have := (List.getElem?_eq_some_iff.mp hz).1
      rw [List.length_append, List.length_singleton] at this
      have e : j = acc.length := by omega
      subst e
      rw [List.getElem?_append_right (Nat.le_refl _)] at hz
      simp at hz
      subst hz
      rw [e2, hi] at hu
      cases hu
      exact e2 ▸ hy) (fun acc B D _ ⟨e1, e2, e3⟩ => by
    subst e1
    exact hd D acc e2 e3)
theorem glc_new {J : It} (k : ∀ h, GLC J g tt te vsn σ (h :: A) Φ) : GLC J g tt te vsn σ A Φ := fun H1 Q a p => by
  obtain ⟨B, b, q⟩ := (Cl.new (P := fun (_ : Unit) A => GLC J g tt te vsn σ A Φ) (x := ()) (A := A) k) H1 a
  exact q H1 Q b p
/-- ints as Nats -/
theorem nats_of {P : Nat → Nat → Prop} {ys : List V} (h : ∀ (i : Nat) (y : V), ys[i]? = some y → ∃ x : Nat, y = .int (x : Int) ∧ P i x) : ∃ l : List Nat, ys = nats l ∧ ∀ (i x : Nat), l[i]? = some x → P i x := by
  induction ys generalizing P with
  | nil => exact ⟨[], rfl, by simp⟩
  | cons a ys ih =>
    obtain ⟨x, rfl, hx⟩ := h 0 a rfl
    obtain ⟨l, rfl, hl⟩ := ih (P := fun i => P (i + 1)) fun i y hy => h (i + 1) y (by simpa using hy)
    refine ⟨x :: l, rfl, fun i z hz => ?_⟩
    cases i with
    | zero =>
      have : x = z := by simpa using hz
      exact this ▸ hx
    | succ i => exact hl i z (by simpa using hz)
end
end S

namespace S
open PySem L2
/-! ### the plain law of rings and orders -/
def canF (f xs : List Nat) : Bool := xs.all fun e => decide (e ∈ f)
def candF (nd : List (List Nat)) (f : List Nat) (p : Nat) : Bool := !decide (p ∈ f) && canF f (nd.getD p [])
def nxt (nd : List (List Nat)) (f : List Nat) : Option Nat := (List.range nd.length).find? (candF nd f)
def grow (nd : List (List Nat)) : Nat → List Nat → List Nat
  | 0, f => f
  | m + 1, f => match nxt nd f with
    | none => f
    | some p => grow nd m (f ++ [p])
def begF (nd : List (List Nat)) : List Nat := grow nd nd.length []
theorem nodup_le : ∀ (n : Nat) (l : List Nat), l.Nodup → (∀ x ∈ l, x < n) → l.length ≤ n
  | 0, [], _, _ => Nat.le_refl _
  | 0, x :: _, _, h => absurd (h x (.head _)) (Nat.not_lt_zero _)
  | n + 1, l, nd, h => by
    have h1 : (l.erase n).length ≤ n := nodup_le n (l.erase n) (nd.erase n) fun x hx => by
      obtain ⟨a, b⟩ := nd.mem_erase_iff.mp hx
      have := h x b
      omega
    by_cases m : n ∈ l
    · rw [List.length_erase_of_mem m] at h1
      omega
    · rw [List.erase_of_not_mem m] at h1
      omega
theorem canF_iff {f xs : List Nat} : canF f xs = true ↔ ∀ e ∈ xs, e ∈ f := by simp [canF]
theorem nxt_some {nd : List (List Nat)} {f : List Nat} {p : Nat} (h : nxt nd f = some p) : p < nd.length ∧ p ∉ f ∧ (∀ e ∈ nd.getD p [], e ∈ f) ∧ ∀ q, q < p → q ∉ f → ¬ ∀ e ∈ nd.getD q [], e ∈ f := by
  unfold nxt at h
  have h1 := List.find?_some h
  have h2 := List.mem_of_find?_eq_some h
  have h3 : p < nd.length := List.mem_range.mp h2
  simp only [candF, Bool.and_eq_true, Bool.not_eq_true', decide_eq_false_iff_not] at h1
  refine ⟨h3, h1.1, canF_iff.mp h1.2, fun q hq hf hn => ?_⟩
  rw [List.find?_eq_some_iff_append] at h
  obtain ⟨_, as, bs, e, hn2⟩ := h
  have hq2 : q ∈ as := by
    have hs : as.length = p := by
      have e1 : (List.range nd.length)[as.length]? = some p := by rw [e]; simp
      rw [List.getElem?_range (by
        have := congrArg List.length e
        simp at this
        omega)] at e1
      exact Option.some.inj e1
    have e2 : (List.range nd.length)[q]? = some q := List.getElem?_range (by omega)
    rw [e, List.getElem?_append_left (by omega)] at e2
    exact List.mem_of_getElem? e2
  have := hn2 q hq2
  simp only [candF, Bool.not_and, Bool.not_not, Bool.or_eq_true, decide_eq_true_eq, Bool.not_eq_true'] at this
  rcases this with z | z
  · exact hf z
  · rw [canF_iff.mpr hn] at z
    cases z
theorem nxt_none {nd : List (List Nat)} {f : List Nat} (h : nxt nd f = none) {p : Nat} (hp : p < nd.length) (hf : p ∉ f) : ∃ e ∈ nd.getD p [], e ∉ f := by
  unfold nxt at h
  rw [List.find?_eq_none] at h
  have := h p (List.mem_range.mpr hp)
  simp only [candF, Bool.and_eq_true, Bool.not_eq_true', decide_eq_false_iff_not, not_and, Bool.not_eq_true] at this
  have h2 := this hf
  apply Classical.byContradiction
  intro hn
  have : canF f (nd.getD p []) = true := canF_iff.mpr fun e he => Classical.byContradiction fun z => hn ⟨e, he, z⟩
  rw [this] at h2
  cases h2
/-- what holds of a beginning -/
structure Beg (nd : List (List Nat)) (f : List Nat) : Prop where
  lt : ∀ x ∈ f, x < nd.length
  dup : f.Nodup
  ord : ∀ i p, f[i]? = some p → nxt nd (f.take i) = some p
theorem Beg.nil {nd : List (List Nat)} : Beg nd [] := ⟨by simp, by simp, by simp⟩
theorem Beg.len {nd : List (List Nat)} {f : List Nat} (b : Beg nd f) : f.length ≤ nd.length := nodup_le _ _ b.dup b.lt
theorem Beg.more {nd : List (List Nat)} {f : List Nat} {p : Nat} (b : Beg nd f) (h : nxt nd f = some p) : Beg nd (f ++ [p]) := by
  obtain ⟨h1, h2, h3, h4⟩ := nxt_some h
  refine ⟨fun x hx => ?_, ?_, fun i q hq => ?_⟩
  · rcases List.mem_append.mp hx with z | z
    · exact b.lt x z
    · rw [List.mem_singleton.mp z]; exact h1
  · rw [List.nodup_append]
    exact ⟨b.dup, by simp, fun a ha c hc => by rw [List.mem_singleton.mp hc]; exact fun z => h2 (z ▸ ha)⟩
  · by_cases c : i < f.length
    · rw [List.getElem?_append_left c] at hq
      rw [List.take_append_of_le_length (by omega)]
      exact b.ord i q hq
    · have hl := (List.getElem?_eq_some_iff.mp hq).1
      simp only [List.length_append, List.length_singleton] at hl
      have e : i = f.length := by omega
      subst e
      rw [List.getElem?_append_right (Nat.le_refl _)] at hq
      simp at hq
      subst hq
      rw [List.take_append_of_le_length (Nat.le_refl _), List.take_length]
      exact h
theorem grow_none {nd : List (List Nat)} {f : List Nat} (h : nxt nd f = none) : ∀ m, grow nd m f = f
  | 0 => rfl
  | m + 1 => by rw [grow, h]
theorem grow_step {nd : List (List Nat)} {f : List Nat} {p : Nat} (b : Beg nd f) (h : nxt nd f = some p) : grow nd (nd.length - f.length) f = grow nd (nd.length - (f ++ [p]).length) (f ++ [p]) := by
  have hl := (b.more h).len
  rw [List.length_append, List.length_singleton] at hl ⊢
  obtain ⟨m, e⟩ : ∃ m, nd.length - f.length = m + 1 := ⟨nd.length - f.length - 1, by omega⟩
  rw [e, grow, h]
  show grow nd m _ = _
  congr 1
  omega
theorem grow_beg {nd : List (List Nat)} : ∀ (m : Nat) (f : List Nat), nd.length - f.length = m → Beg nd f → Beg nd (grow nd m f) ∧ nxt nd (grow nd m f) = none
  | 0, f, e, b => by
    refine ⟨b, ?_⟩
    show nxt nd f = none
    cases h : nxt nd f with
    | none => rfl
    | some p =>
      have := (b.more h).len
      rw [List.length_append, List.length_singleton] at this
      omega
  | m + 1, f, e, b => by
    rw [grow]
    cases h : nxt nd f with
    | none => exact ⟨b, h⟩
    | some p => exact grow_beg m (f ++ [p]) (by rw [List.length_append, List.length_singleton]; omega) (b.more h)
theorem beg_ok (nd : List (List Nat)) : Beg nd (begF nd) := (grow_beg _ _ rfl Beg.nil).1
theorem beg_end (nd : List (List Nat)) : nxt nd (begF nd) = none := (grow_beg _ _ rfl Beg.nil).2
def Full (nd : List (List Nat)) : Prop := (begF nd).length = nd.length
instance (nd : List (List Nat)) : Decidable (Full nd) := inferInstanceAs (Decidable (_ = _))
theorem full_mem {nd : List (List Nat)} (h : Full nd) {p : Nat} (hp : p < nd.length) : p ∈ begF nd := by
  apply Classical.byContradiction
  intro hn
  have b := beg_ok nd
  have : (begF nd ++ [p]).length ≤ nd.length := nodup_le _ _ (by
    rw [List.nodup_append]
    exact ⟨b.dup, by simp, fun a ha c hc => by rw [List.mem_singleton.mp hc]; exact fun z => hn (z ▸ ha)⟩) fun x hx => by
      rcases List.mem_append.mp hx with z | z
      · exact b.lt x z
      · rw [List.mem_singleton.mp z]; exact hp
  rw [List.length_append, List.length_singleton] at this
  have h2 : (begF nd).length = nd.length := h
  omega
theorem not_full {nd : List (List Nat)} (h : ¬ Full nd) : ∃ p, p < nd.length ∧ p ∉ begF nd := by
  apply Classical.byContradiction
  intro hn
  apply h
  have l1 := (beg_ok nd).len
  have : (List.range nd.length).length ≤ (begF nd).length := by
    have h3 : ∀ (l m : List Nat), l.Nodup → (∀ x ∈ l, x ∈ m) → l.length ≤ m.length := by
      intro l
      induction l with
      | nil => intro m _ _; exact Nat.zero_le _
      | cons a l ih =>
        intro m nd2 hs
        have hm := hs a (.head _)
        have := ih (m.erase a) (List.nodup_cons.mp nd2).2 fun x hx => by
          refine (List.mem_erase_of_ne ?_).mpr (hs x (.tail _ hx))
          intro z
          subst z
          exact (List.nodup_cons.mp nd2).1 hx
        rw [List.length_erase_of_mem hm] at this
        have := List.length_pos_of_mem hm
        rw [List.length_cons]
        omega
    exact h3 _ _ List.nodup_range fun x hx => Classical.byContradiction fun z => hn ⟨x, List.mem_range.mp hx, z⟩
  rw [List.length_range] at this
  show (begF nd).length = nd.length
  omega
/-! rings -/
def NdOk (nd : List (List Nat)) : Prop := nd.length ≤ 40 ∧ ∀ row ∈ nd, row.length ≤ 10 ∧ ∀ e ∈ row, e < nd.length
theorem NdOk.at {nd : List (List Nat)} (h : NdOk nd) {p : Nat} (hp : p < nd.length) : (nd.getD p []).length ≤ 10 ∧ ∀ e ∈ nd.getD p [], e < nd.length := by
  have : nd.getD p [] ∈ nd := by
    rw [List.getD_eq_getElem?_getD, List.getElem?_eq_getElem hp]
    exact List.getElem_mem hp
  exact h.2 _ this
theorem getD_of {nd : List (List Nat)} {p : Nat} {xs : List Nat} (h : nd[p]? = some xs) : nd.getD p [] = xs := by rw [List.getD_eq_getElem?_getD, h]; rfl
def leftF (nd : List (List Nat)) : List Nat := (List.range nd.length).filter fun p => !decide (p ∈ begF nd)
/-- the first need that doesn't stand -/
def goF (nd : List (List Nat)) (p : Nat) : List Nat := (nd.getD p []).filter fun e => !decide (e ∈ begF nd)
theorem leftF_mem {nd : List (List Nat)} {p : Nat} : p ∈ leftF nd ↔ p < nd.length ∧ p ∉ begF nd := by simp [leftF]
theorem goF_mem {nd : List (List Nat)} (ok : NdOk nd) {p : Nat} (hp : p ∈ leftF nd) : ∃ q r, goF nd p = q :: r ∧ q ∈ leftF nd ∧ q ∈ nd.getD p [] := by
  obtain ⟨h1, h2⟩ := leftF_mem.mp hp
  obtain ⟨e, he, hn⟩ := nxt_none (beg_end nd) h1 h2
  cases h : goF nd p with
  | nil =>
    have : e ∈ goF nd p := by simp [goF]; exact ⟨by simpa using he, hn⟩
    rw [h] at this
    cases this
  | cons q r =>
    have : q ∈ goF nd p := by rw [h]; exact .head _
    have h3 := List.mem_filter.mp this
    refine ⟨q, r, rfl, leftF_mem.mpr ⟨(ok.at h1).2 q h3.1, by simpa using h3.2⟩, h3.1⟩
theorem leftF_none {nd : List (List Nat)} : leftF nd = [] ↔ Full nd := by
  constructor
  · intro h
    apply Classical.byContradiction
    intro hn
    obtain ⟨p, h1, h2⟩ := not_full hn
    have := leftF_mem.mpr ⟨h1, h2⟩
    rw [h] at this
    cases this
  · intro h
    rw [List.eq_nil_iff_forall_not_mem]
    intro p hp
    obtain ⟨h1, h2⟩ := leftF_mem.mp hp
    exact h2 (full_mem h h1)
structure Ring (nd : List (List Nat)) (r : List Nat) : Prop where
  ne : r ≠ []
  dup : r.Nodup
  lt : ∀ x ∈ r, x < nd.length
  go : ∀ i p, r[i]? = some p → ∃ q, r[(i + 1) % r.length]? = some q ∧ q ∈ nd.getD p []
/-- a trail: each needs the next one, the last one needs p -/
structure Trail (nd : List (List Nat)) (t : List Nat) (p : Nat) : Prop where
  dup : t.Nodup
  sub : ∀ x ∈ t, x ∈ leftF nd
  at' : p ∈ leftF nd
  go : ∀ i x, t[i]? = some x → ∃ y, (t ++ [p])[i + 1]? = some y ∧ y ∈ nd.getD x []
theorem Trail.len {nd : List (List Nat)} {t : List Nat} {p : Nat} (h : Trail nd t p) : t.length ≤ nd.length := nodup_le _ _ h.dup fun x hx => (leftF_mem.mp (h.sub x hx)).1
theorem Trail.nil {nd : List (List Nat)} {p : Nat} (h : p ∈ leftF nd) : Trail nd [] p := ⟨by simp, by simp, h, by simp⟩
theorem Trail.more {nd : List (List Nat)} {t : List Nat} {p q : Nat} (h : Trail nd t p) (hn : p ∉ t) (hq : q ∈ leftF nd) (hg : q ∈ nd.getD p []) : Trail nd (t ++ [p]) q := by
  refine ⟨?_, fun x hx => ?_, hq, fun i x hx => ?_⟩
  · rw [List.nodup_append]
    exact ⟨h.dup, by simp, fun a ha c hc => by rw [List.mem_singleton.mp hc]; exact fun z => hn (z ▸ ha)⟩
  · rcases List.mem_append.mp hx with z | z
    · exact h.sub x z
    · rw [List.mem_singleton.mp z]; exact h.at'
  · have hl := (List.getElem?_eq_some_iff.mp hx).1
    simp only [List.length_append, List.length_singleton] at hl
    by_cases c : i < t.length
    · rw [List.getElem?_append_left c] at hx
      obtain ⟨y, e, m⟩ := h.go i x hx
      exact ⟨y, by rw [List.getElem?_append_left (by simp; omega)]; exact e, m⟩
    · have e : i = t.length := by omega
      subst e
      rw [List.getElem?_append_right (Nat.le_refl _)] at hx
      simp at hx
      subst hx
      exact ⟨q, by rw [List.getElem?_append_right (by simp)]; simp, hg⟩
theorem Trail.ring {nd : List (List Nat)} {t : List Nat} {p : Nat} {k : Nat} (h : Trail nd t p) (hk : t[k]? = some p) : Ring nd (t.drop k) := by
  have kl := (List.getElem?_eq_some_iff.mp hk).1
  refine ⟨fun z => ?_, h.dup.sublist (List.drop_sublist _ _), fun x hx => (leftF_mem.mp (h.sub x (List.mem_of_mem_drop hx))).1, fun i x hx => ?_⟩
  · have := congrArg List.length z
    simp at this
    omega
  · rw [List.getElem?_drop] at hx
    obtain ⟨y, e, m⟩ := h.go (k + i) x hx
    have il := (List.getElem?_eq_some_iff.mp hx).1
    refine ⟨y, ?_, m⟩
    rw [List.length_drop]
    by_cases c : k + i + 1 < t.length
    · rw [Nat.mod_eq_of_lt (by omega), List.getElem?_drop]
      rw [List.getElem?_append_left c] at e
      exact e
    · have e1 : i + 1 = t.length - k := by omega
      rw [e1, Nat.mod_self, List.getElem?_drop, Nat.add_zero, hk]
      rw [List.getElem?_append_right (by omega)] at e
      have e2 : k + i + 1 - t.length = 0 := by omega
      rw [e2] at e
      simpa using e
/-! the law's own: all can stand -/
/-- L is what is left behind some rounds -/
structure Lft (nd : List (List Nat)) (L : List Nat) : Prop where
  dup : L.Nodup
  lt : ∀ x ∈ L, x < nd.length
  out : ∀ p, p < nd.length → p ∉ L → p ∈ begF nd
def someF (nd : List (List Nat)) (L : List Nat) : List Nat := L.filter fun p => (nd.getD p []).all fun e => !decide (e ∈ L)
theorem someF_mem {nd : List (List Nat)} {L : List Nat} {p : Nat} : p ∈ someF nd L ↔ p ∈ L ∧ ∀ e ∈ nd.getD p [], e ∉ L := by simp [someF]
theorem Lft.start {nd : List (List Nat)} : Lft nd (List.range nd.length) := ⟨List.nodup_range, fun x hx => List.mem_range.mp hx, fun p hp hn => absurd (List.mem_range.mpr hp) hn⟩
theorem Lft.next {nd : List (List Nat)} {L : List Nat} (ok : NdOk nd) (h : Lft nd L) : Lft nd (L.filter fun p => !decide (p ∈ someF nd L)) := by
  refine ⟨h.dup.sublist (List.filter_sublist), fun x hx => h.lt x (List.mem_filter.mp hx).1, fun p hp hn => ?_⟩
  by_cases c : p ∈ L
  · have hs : p ∈ someF nd L := by
      apply Classical.byContradiction
      intro z
      exact hn (List.mem_filter.mpr ⟨c, by simpa using z⟩)
    obtain ⟨_, h2⟩ := someF_mem.mp hs
    apply Classical.byContradiction
    intro z
    obtain ⟨e, he, hne⟩ := nxt_none (beg_end nd) hp z
    exact hne (h.out e ((ok.at hp).2 e he) (h2 e he))
  · exact h.out p hp c
theorem Lft.stop {nd : List (List Nat)} {L : List Nat} (h : Lft nd L) (hs : someF nd L = []) : L = [] ↔ Full nd := by
  constructor
  · intro e
    apply Classical.byContradiction
    intro hn
    obtain ⟨p, h1, h2⟩ := not_full hn
    exact h2 (h.out p h1 (by rw [e]; simp))
  · intro hf
    rw [List.eq_nil_iff_forall_not_mem]
    have key : ∀ (i p : Nat), (begF nd)[i]? = some p → p ∉ L := by
      intro i
      induction i using Nat.strongRecOn with
      | ind i ih =>
        intro p hp hL
        have h1 := (nxt_some ((beg_ok nd).ord i p hp)).2.2.1
        have : p ∈ someF nd L := someF_mem.mpr ⟨hL, fun e he heL => by
          obtain ⟨j, hj, e1⟩ := List.mem_iff_getElem.mp (h1 e he)
          rw [List.getElem_take] at e1
          rw [List.length_take] at hj
          exact ih j (by omega) e (by rw [List.getElem?_eq_getElem (by omega), e1]) heL⟩
        rw [hs] at this
        cases this
    intro p hL
    obtain ⟨i, hi, e⟩ := List.mem_iff_getElem.mp (full_mem hf (h.lt p hL))
    exact key i p (by rw [List.getElem?_eq_getElem hi, e]) hL
/-! how many unlike needs don't stand -/
theorem dst_zero {l : List Nat} : dst l = 0 ↔ l = [] := by
  cases l with
  | nil => simp [dst]
  | cons a l =>
    constructor
    · intro h
      exfalso
      have : ∀ l : List Nat, l ≠ [] → 0 < dst l := by
        intro l
        induction l with
        | nil => intro h; exact absurd rfl h
        | cons b l ih =>
          intro _
          rw [dst]
          split
          · rename_i m
            exact ih (List.ne_nil_of_mem m)
          · omega
      have := this (a :: l) (by simp)
      omega
    · intro h
      cases h
theorem dst_out (p : Nat) : ∀ l : List Nat, dst l = dst (l.filter fun e => !decide (e = p)) + if p ∈ l then 1 else 0
  | [] => rfl
  | a :: l => by
    have ih := dst_out p l
    by_cases e : a = p
    · subst e
      rw [List.filter_cons_of_neg (by simp), dst, if_pos (List.mem_cons_self (a := a) (l := l))]
      by_cases m : a ∈ l
      · rw [if_pos m] at ih ⊢
        exact ih
      · rw [if_neg m] at ih ⊢
        omega
    · rw [List.filter_cons_of_pos (by simpa using e), dst, dst]
      have e1 : (a ∈ l.filter fun e => !decide (e = p)) ↔ a ∈ l := by simp [e]
      have e2 : p ∈ a :: l ↔ p ∈ l := by simp [Ne.symm e]
      by_cases m : a ∈ l <;> by_cases m2 : p ∈ l <;> simp [e1, e2, m, m2] at ih ⊢ <;> omega
def lackF (row f : List Nat) : Nat := dsf (row.filter fun e => !decide (e ∈ f))
theorem lack_nil (row : List Nat) : lackF row [] = dsf row := by
  unfold lackF
  congr 1
  exact List.filter_eq_self.mpr (by simp)
theorem lack_zero {row f : List Nat} : lackF row f = 0 ↔ ∀ e ∈ row, e ∈ f := by
  unfold lackF dsf
  rw [dst_zero, List.reverse_eq_nil_iff, List.filter_eq_nil_iff]
  simp
theorem lack_more {row f : List Nat} {p : Nat} (h : p ∉ f) : lackF row f = lackF row (f ++ [p]) + if p ∈ row then 1 else 0 := by
  unfold lackF dsf
  rw [← List.filter_reverse, ← List.filter_reverse, dst_out p, List.filter_filter]
  congr 1
  · congr 1
    apply List.filter_congr
    intro x _
    simp only [List.mem_append, List.mem_singleton]
    by_cases a : x = p <;> by_cases b : x ∈ f <;> simp [a, b]
  · have : p ∈ (row.reverse.filter fun e => !decide (e ∈ f)) ↔ p ∈ row := by simp [h]
    simp only [this]

theorem find_range {n p : Nat} {c : Nat → Bool} : (List.range n).find? c = some p ↔ p < n ∧ c p = true ∧ ∀ j, j < p → c j = false := by
  constructor
  · intro h
    have h1 := List.find?_some h
    have h3 : p < n := List.mem_range.mp (List.mem_of_find?_eq_some h)
    refine ⟨h3, h1, fun j hj => ?_⟩
    rw [List.find?_eq_some_iff_append] at h
    obtain ⟨_, as, bs, e, hn2⟩ := h
    have hs : as.length = p := by
      have e1 : (List.range n)[as.length]? = some p := by rw [e]; simp
      rw [List.getElem?_range (by
        have := congrArg List.length e
        simp at this
        omega)] at e1
      exact Option.some.inj e1
    have e2 : (List.range n)[j]? = some j := List.getElem?_range (by omega)
    rw [e, List.getElem?_append_left (by omega)] at e2
    simpa using hn2 j (List.mem_of_getElem? e2)
  · rintro ⟨h1, h2, h3⟩
    cases h : (List.range n).find? c with
    | none =>
      rw [List.find?_eq_none] at h
      exact absurd h2 (h p (List.mem_range.mpr h1))
    | some q =>
      have q1 := List.find?_some h
      have q2 : ∀ j, j < q → c j = false := fun j hj => by
        rw [List.find?_eq_some_iff_append] at h
        obtain ⟨_, as, bs, e, hn2⟩ := h
        have hs : as.length = q := by
          have e1 : (List.range n)[as.length]? = some q := by rw [e]; simp
          rw [List.getElem?_range (by
            have := congrArg List.length e
            simp at this
            omega)] at e1
          exact Option.some.inj e1
        have hq : q < n := by
          have := congrArg List.length e
          simp at this
          omega
        have e2 : (List.range n)[j]? = some j := List.getElem?_range (by omega)
        rw [e, List.getElem?_append_left (by omega)] at e2
        simpa using hn2 j (List.mem_of_getElem? e2)
      rcases Nat.lt_trichotomy q p with z | z | z
      · rw [h3 q z] at q1
        cases q1
      · rw [z]
      · rw [q2 p z] at h2
        cases h2
theorem nodup_inj {l : List Nat} (h : l.Nodup) {i j : Nat} (hi : i < l.length) (hj : j < l.length) (e : l[i] = l[j]) : i = j := by
  induction l generalizing i j with
  | nil => cases hi
  | cons a l ih =>
    obtain ⟨h1, h2⟩ := List.nodup_cons.mp h
    cases i with
    | zero =>
      cases j with
      | zero => rfl
      | succ j => exact absurd (show a ∈ l from (show a = l[j]'(by simpa using hj) from e) ▸ List.getElem_mem _) h1
    | succ i =>
      cases j with
      | zero => exact absurd (show a ∈ l from (show l[i]'(by simpa using hi) = a from e) ▸ List.getElem_mem _) h1
      | succ j => rw [ih h2 (i := i) (j := j) (by simpa using hi) (by simpa using hj) e]
theorem first_at {x : Nat} : ∀ {l : List Nat}, x ∈ l → ∃ n, l[n]? = some x ∧ ∀ (m y : Nat), m < n → l[m]? = some y → y ≠ x
  | [], h => nomatch h
  | a :: l, h => by
    by_cases c : a = x
    · exact ⟨0, by rw [c]; rfl, fun m y hm => absurd hm (Nat.not_lt_zero _)⟩
    · have : x ∈ l := by
        rcases List.mem_cons.mp h with z | z
        · exact absurd z.symm c
        · exact z
      obtain ⟨n, h1, h2⟩ := first_at this
      refine ⟨n + 1, by simpa using h1, fun m y hm hy => ?_⟩
      cases m with
      | zero =>
        have : a = y := by simpa using hy
        exact this ▸ c
      | succ m => exact h2 m y (by omega) (by simpa using hy)
theorem dst_cast : ∀ l : List Nat, dst (l.map fun i : Nat => (i : Int)) = dst l
  | [] => rfl
  | a :: l => by
    rw [List.map_cons, dst, dst, dst_cast l]
    have : ((a : Int) ∈ l.map fun i : Nat => (i : Int)) ↔ a ∈ l := by
      rw [List.mem_map]
      constructor
      · rintro ⟨x, hx, e⟩
        have : x = a := by omega
        exact this ▸ hx
      · intro h
        exact ⟨a, h, rfl⟩
    by_cases c : a ∈ l
    · rw [if_pos c, if_pos (this.mpr c)]
    · rw [if_neg c, if_neg fun z => c (this.mp z)]
theorem dsf_cast (l : List Nat) : dsf (l.map fun i : Nat => (i : Int)) = dsf l := by
  unfold dsf
  rw [← List.map_reverse, dst_cast]
theorem set_rng {α : Type} {n k : Nat} {g : Nat → α} {v : α} : ((List.range n).map g).set k v = (List.range n).map fun o => if o = k then v else g o := by
  refine List.ext_getElem? fun i => ?_
  rw [List.getElem?_set, List.getElem?_map, List.getElem?_map]
  by_cases c : k = i
  · subst c
    by_cases h : k < n
    · simp [h]
    · simp [h]
  · rw [if_neg c]
    by_cases h : i < n
    · rw [List.getElem?_range h]
      simp [Ne.symm c]
    · rw [List.getElem?_eq_none (by simpa using h)]
      rfl

end S

namespace S
open PySem L2
abbrev top (i : Nat) : Stmt := PySem.Challenge.pw_buildhall_k05_rings_and_orders.main.body.getD i (.Pass ⟨0, 0, 0, 0⟩)
abbrev s_can_stand : Stmt := (top 1)
abbrev s_next_place : Stmt := (top 2)
abbrev s_beginning : Stmt := (top 3)
abbrev s_order_of : Stmt := (top 4)
abbrev s_ring_of : Stmt := (top 5)
abbrev s_law_mixed : Stmt := (top 7)
abbrev s_law_line_up : Stmt := (top 8)
abbrev s_law_freely : Stmt := (top 9)
abbrev s_law_in_line : Stmt := (top 10)
abbrev s_law_needs : Stmt := (top 11)
abbrev s_law_copied : Stmt := (top 12)
abbrev s_law_can_end : Stmt := (top 13)
abbrev s_law_whole : Stmt := (top 14)
abbrev s_law_is_least : Stmt := (top 15)
abbrev s_law_is_ring : Stmt := (top 16)
abbrev s_law_orders : Stmt := (top 17)
abbrev s_law_rings : Stmt := (top 18)
abbrev s_law : Stmt := (top 19)
structure Ad where
  nothing : Addr


end S

namespace S
open PySem L2
/-! ### lists of places -/
def RowsAt (A : SH) (rs : List Addr) (nd : List (List Nat)) : Prop := rs.length = nd.length ∧ ∀ (i : Nat) (r : Addr) (xs : List Nat), rs[i]? = some r → nd[i]? = some xs → RO A r (.lst (nats xs))
def NdAt (A : SH) (p : Addr) (nd : List (List Nat)) : Prop := ∃ rs : List Addr, RO A p (.lst (rs.map V.ref)) ∧ RowsAt A rs nd
theorem RowsAt.le {A B : SH} {rs : List Addr} {nd : List (List Nat)} (l : Le A B) (h : RowsAt A rs nd) : RowsAt B rs nd := ⟨h.1, fun i r xs h1 h2 => (h.2 i r xs h1 h2).le l⟩
theorem RowsAt.snoc {A : SH} {rs : List Addr} {nd : List (List Nat)} {r : Addr} {xs : List Nat} (h : RowsAt A rs nd) (e : RO A r (.lst (nats xs))) : RowsAt A (rs ++ [r]) (nd ++ [xs]) := by
  obtain ⟨hl, h⟩ := h
  refine ⟨by simp [hl], fun i q ys h1 h2 => ?_⟩
  by_cases c : i < rs.length
  · rw [List.getElem?_append_left c] at h1
    rw [List.getElem?_append_left (by omega)] at h2
    exact h i q ys h1 h2
  · have := (List.getElem?_eq_some_iff.mp h1).1
    rw [List.length_append, List.length_singleton] at this
    have e2 : i = rs.length := by omega
    subst e2
    rw [List.getElem?_append_right (Nat.le_refl _)] at h1
    rw [hl, List.getElem?_append_right (Nat.le_refl _)] at h2
    simp at h1 h2
    subst h1 h2
    exact e
theorem RowsAt.set {A : SH} {rs : List Addr} {nd : List (List Nat)} {r : Addr} {xs : List Nat} {k : Nat} (h : RowsAt A rs nd) (e : RO A r (.lst (nats xs))) : RowsAt A (rs.set k r) (nd.set k xs) := by
  obtain ⟨hl, h⟩ := h
  refine ⟨by simp [hl], fun i q ys h1 h2 => ?_⟩
  by_cases c : k = i
  · subst c
    have i1 := (List.getElem?_eq_some_iff.mp h1).1
    have i2 := (List.getElem?_eq_some_iff.mp h2).1
    rw [List.length_set] at i1 i2
    rw [List.getElem?_set_self i1] at h1
    rw [List.getElem?_set_self i2] at h2
    cases h1
    cases h2
    exact e
  · rw [List.getElem?_set_ne c] at h1 h2
    exact h i q ys h1 h2
theorem RowsAt.nil {A : SH} : RowsAt A [] [] := ⟨rfl, by simp⟩
theorem NdAt.le {A B : SH} {p : Addr} {nd : List (List Nat)} (l : Le A B) (h : NdAt A p nd) : NdAt B p nd := let ⟨rs, h1, h2⟩ := h; ⟨rs, h1.le l, h2.le l⟩
/-- the dict of places that stand -/
def ahd (f : List Nat) : List (L2.Key × V) := f.map fun i : Nat => (.inl (i : Int), .bl true)
def S_can_stand (K : PySem.W.Frag) (a : Ad) : Spec := fun vs A Φ _ => ∃ (p q : Addr) (k : Nat) (nd : List (List Nat)) (f : List Nat), vs = [.ref p, .int k, .ref q] ∧ NdAt A p nd ∧ RO A q (.dK (ahd f)) ∧ k < nd.length ∧ Φ (.bl (canF f (nd.getD k []))) A
def S_next_place (K : PySem.W.Frag) (a : Ad) : Spec := fun vs A Φ _ => ∃ (p q : Addr) (nd : List (List Nat)) (f : List Nat), vs = [.ref p, .ref q] ∧ NdAt A p nd ∧ RO A q (.dK (ahd f)) ∧ nd.length ≤ 40 ∧ (nxt nd f = none → Φ .non A) ∧ (∀ k : Nat, nxt nd f = some k → Φ (.int k) A)
def S_beginning (K : PySem.W.Frag) (a : Ad) : Spec := fun vs A Φ _ => ∃ (p : Addr) (nd : List (List Nat)), vs = [.ref p] ∧ NdAt A p nd ∧ nd.length ≤ 40 ∧ ∀ q, Φ (.ref q) (sg q (.lst (nats (begF nd))) :: A)
def S_order_of (K : PySem.W.Frag) (a : Ad) : Spec := fun vs A Φ _ => ∃ (p : Addr) (nd : List (List Nat)), vs = [.ref p] ∧ NdAt A p nd ∧ nd.length ≤ 40 ∧ (¬ Full nd → Φ .non A) ∧ (∀ q, Full nd → Φ (.ref q) (sg q (.lst (nats (begF nd))) :: A))
def S_ring_of (K : PySem.W.Frag) (a : Ad) : Spec := fun vs A Φ _ => ∃ (p : Addr) (nd : List (List Nat)), vs = [.ref p] ∧ NdAt A p nd ∧ NdOk nd ∧ (Full nd → Φ .non A) ∧ (∀ q r, ¬ Full nd → Ring nd r → Φ (.ref q) (sg q (.lst (nats r)) :: A))
def S_law_mixed (K : PySem.W.Frag) (a : Ad) : Spec := fun vs A Φ _ => ∃ (p : Addr) (ns : List Int) (k : Int), vs = [.ref p, .int k] ∧ RL K A p (ns.map V.int) ∧ ns.length ≤ 63 ∧ 0 ≤ k ∧ k < 1000 ∧ ∀ m : Int, 0 ≤ m → m < 1000000000 → Φ (.int m) A
def S_law_line_up (K : PySem.W.Frag) (a : Ad) : Spec := fun vs A Φ _ => ∃ (p : Addr) (ns : List Int) (n : Int), vs = [.ref p, .int n] ∧ RL K A p (ns.map V.int) ∧ ns.length ≤ 63 ∧ 0 ≤ n ∧ n ≤ 40 ∧ ∀ (q : Addr) (l : List Nat), l.length = n.toNat → (∀ x ∈ l, x < n.toNat) → Φ (.ref q) (sg q (.lst (nats l)) :: A)
def S_law_freely (K : PySem.W.Frag) (a : Ad) : Spec := fun vs A Φ _ => ∃ (p : Addr) (ns : List Int) (n : Int), vs = [.ref p, .int n] ∧ RL K A p (ns.map V.int) ∧ ns.length ≤ 63 ∧ 0 ≤ n ∧ n ≤ 40 ∧ ∀ (q : Addr) (nd : List (List Nat)) (h : Hp), NdAt [h] q nd → NdOk nd → Φ (.ref q) (h :: A)
def S_law_in_line (K : PySem.W.Frag) (a : Ad) : Spec := fun vs A Φ _ => ∃ (p : Addr) (ns : List Int) (n : Int), vs = [.ref p, .int n] ∧ RL K A p (ns.map V.int) ∧ ns.length ≤ 63 ∧ 0 ≤ n ∧ n ≤ 40 ∧ ∀ (q : Addr) (nd : List (List Nat)) (h : Hp), NdAt [h] q nd → NdOk nd → Φ (.ref q) (h :: A)
def S_law_needs (K : PySem.W.Frag) (a : Ad) : Spec := fun vs A Φ _ => ∃ (p : Addr) (ns : List Int), vs = [.ref p] ∧ RL K A p (ns.map V.int) ∧ ns.length ≤ 63 ∧ ∀ (q : Addr) (nd : List (List Nat)) (h : Hp), NdAt [h] q nd → NdOk nd → Φ (.ref q) (h :: A)
def S_law_copied (K : PySem.W.Frag) (a : Ad) : Spec := fun vs A Φ _ => ∃ (p : Addr) (nd : List (List Nat)), vs = [.ref p] ∧ NdAt A p nd ∧ nd.length ≤ 40 ∧ ∀ (q : Addr) (rs : List Addr) (h : Hp), RowsAt [h] rs nd → Φ (.ref q) (sg q (.lst (rs.map V.ref)) :: h :: A)
def S_law_can_end (K : PySem.W.Frag) (a : Ad) : Spec := fun vs A Φ _ => ∃ (p : Addr) (nd : List (List Nat)), vs = [.ref p] ∧ NdAt A p nd ∧ NdOk nd ∧ Φ (.bl (decide (Full nd))) A
def S_law_whole (K : PySem.W.Frag) (a : Ad) : Spec := fun vs A Φ _ => ∃ i : Int, vs = [.int i] ∧ Φ (.bl true) A
def S_law_is_least (K : PySem.W.Frag) (a : Ad) : Spec := fun vs A Φ _ => ∃ (q p : Addr) (nd : List (List Nat)), vs = [.ref q, .ref p] ∧ RO A q (.lst (nats (begF nd))) ∧ NdAt A p nd ∧ NdOk nd ∧ Full nd ∧ Φ (.bl true) A
def S_law_is_ring (K : PySem.W.Frag) (a : Ad) : Spec := fun vs A Φ _ => ∃ (q p : Addr) (r : List Nat) (nd : List (List Nat)), vs = [.ref q, .ref p] ∧ RO A q (.lst (nats r)) ∧ NdAt A p nd ∧ NdOk nd ∧ Ring nd r ∧ Φ (.bl true) A
def S_law_orders (K : PySem.W.Frag) (a : Ad) : Spec := fun vs A Φ _ => ∃ (p : Addr) (nd : List (List Nat)), vs = [.ref p, .bl (decide (Full nd))] ∧ NdAt A p nd ∧ NdOk nd ∧ Φ (.bl true) A
def S_law_rings (K : PySem.W.Frag) (a : Ad) : Spec := fun vs A Φ _ => ∃ (p : Addr) (nd : List (List Nat)), vs = [.ref p, .bl (decide (Full nd))] ∧ NdAt A p nd ∧ NdOk nd ∧ Φ (.bl true) A
def S_law (K : PySem.W.Frag) (a : Ad) : Spec := fun vs A Φ _ => ∃ (p : Addr) (ns : List Int), vs = [.ref p] ∧ RL K A p (ns.map V.int) ∧ ns.length ≤ 63 ∧ Φ (.bl true) A
section
variable {K : PySem.W.Frag} {a : Ad}
theorem c_can_stand {A : SH} {Φ : V → SH → Prop} {Ψ : Value → Option Addr → SH → Prop} {p q : Addr} {k : Nat} {nd : List (List Nat)} {f : List Nat} (h0_ : NdAt A p nd) (h1_ : RO A q (.dK (ahd f))) (h2_ : k < nd.length) (h3_ : Φ (.bl (canF f (nd.getD k []))) A) : S_can_stand K a [.ref p, .int k, .ref q] A Φ Ψ := ⟨_, _, _, _, _, rfl, h0_, h1_, h2_, h3_⟩
theorem c_next_place {A : SH} {Φ : V → SH → Prop} {Ψ : Value → Option Addr → SH → Prop} {p q : Addr} {nd : List (List Nat)} {f : List Nat} (h0_ : NdAt A p nd) (h1_ : RO A q (.dK (ahd f))) (h2_ : nd.length ≤ 40) (h3_ : (nxt nd f = none → Φ .non A)) (h4_ : (∀ k : Nat, nxt nd f = some k → Φ (.int k) A)) : S_next_place K a [.ref p, .ref q] A Φ Ψ := ⟨_, _, _, _, rfl, h0_, h1_, h2_, h3_, h4_⟩
theorem c_beginning {A : SH} {Φ : V → SH → Prop} {Ψ : Value → Option Addr → SH → Prop} {p : Addr} {nd : List (List Nat)} (h0_ : NdAt A p nd) (h1_ : nd.length ≤ 40) (h2_ : ∀ q, Φ (.ref q) (sg q (.lst (nats (begF nd))) :: A)) : S_beginning K a [.ref p] A Φ Ψ := ⟨_, _, rfl, h0_, h1_, h2_⟩
theorem c_order_of {A : SH} {Φ : V → SH → Prop} {Ψ : Value → Option Addr → SH → Prop} {p : Addr} {nd : List (List Nat)} (h0_ : NdAt A p nd) (h1_ : nd.length ≤ 40) (h2_ : (¬ Full nd → Φ .non A)) (h3_ : (∀ q, Full nd → Φ (.ref q) (sg q (.lst (nats (begF nd))) :: A))) : S_order_of K a [.ref p] A Φ Ψ := ⟨_, _, rfl, h0_, h1_, h2_, h3_⟩
theorem c_ring_of {A : SH} {Φ : V → SH → Prop} {Ψ : Value → Option Addr → SH → Prop} {p : Addr} {nd : List (List Nat)} (h0_ : NdAt A p nd) (h1_ : NdOk nd) (h2_ : (Full nd → Φ .non A)) (h3_ : (∀ q r, ¬ Full nd → Ring nd r → Φ (.ref q) (sg q (.lst (nats r)) :: A))) : S_ring_of K a [.ref p] A Φ Ψ := ⟨_, _, rfl, h0_, h1_, h2_, h3_⟩
theorem c_law_mixed {A : SH} {Φ : V → SH → Prop} {Ψ : Value → Option Addr → SH → Prop} {p : Addr} {ns : List Int} {k : Int} (h0_ : RL K A p (ns.map V.int)) (h1_ : ns.length ≤ 63) (h2_ : 0 ≤ k) (h3_ : k < 1000) (h4_ : ∀ m : Int, 0 ≤ m → m < 1000000000 → Φ (.int m) A) : S_law_mixed K a [.ref p, .int k] A Φ Ψ := ⟨_, _, _, rfl, h0_, h1_, h2_, h3_, h4_⟩
theorem c_law_line_up {A : SH} {Φ : V → SH → Prop} {Ψ : Value → Option Addr → SH → Prop} {p : Addr} {ns : List Int} {n : Int} (h0_ : RL K A p (ns.map V.int)) (h1_ : ns.length ≤ 63) (h2_ : 0 ≤ n) (h3_ : n ≤ 40) (h4_ : ∀ (q : Addr) (l : List Nat), l.length = n.toNat → (∀ x ∈ l, x < n.toNat) → Φ (.ref q) (sg q (.lst (nats l)) :: A)) : S_law_line_up K a [.ref p, .int n] A Φ Ψ := ⟨_, _, _, rfl, h0_, h1_, h2_, h3_, h4_⟩
theorem c_law_freely {A : SH} {Φ : V → SH → Prop} {Ψ : Value → Option Addr → SH → Prop} {p : Addr} {ns : List Int} {n : Int} (h0_ : RL K A p (ns.map V.int)) (h1_ : ns.length ≤ 63) (h2_ : 0 ≤ n) (h3_ : n ≤ 40) (h4_ : ∀ (q : Addr) (nd : List (List Nat)) (h : Hp), NdAt [h] q nd → NdOk nd → Φ (.ref q) (h :: A)) : S_law_freely K a [.ref p, .int n] A Φ Ψ := ⟨_, _, _, rfl, h0_, h1_, h2_, h3_, h4_⟩
theorem c_law_in_line {A : SH} {Φ : V → SH → Prop} {Ψ : Value → Option Addr → SH → Prop} {p : Addr} {ns : List Int} {n : Int} (h0_ : RL K A p (ns.map V.int)) (h1_ : ns.length ≤ 63) (h2_ : 0 ≤ n) (h3_ : n ≤ 40) (h4_ : ∀ (q : Addr) (nd : List (List Nat)) (h : Hp), NdAt [h] q nd → NdOk nd → Φ (.ref q) (h :: A)) : S_law_in_line K a [.ref p, .int n] A Φ Ψ := ⟨_, _, _, rfl, h0_, h1_, h2_, h3_, h4_⟩
theorem c_law_needs {A : SH} {Φ : V → SH → Prop} {Ψ : Value → Option Addr → SH → Prop} {p : Addr} {ns : List Int} (h0_ : RL K A p (ns.map V.int)) (h1_ : ns.length ≤ 63) (h2_ : ∀ (q : Addr) (nd : List (List Nat)) (h : Hp), NdAt [h] q nd → NdOk nd → Φ (.ref q) (h :: A)) : S_law_needs K a [.ref p] A Φ Ψ := ⟨_, _, rfl, h0_, h1_, h2_⟩
theorem c_law_copied {A : SH} {Φ : V → SH → Prop} {Ψ : Value → Option Addr → SH → Prop} {p : Addr} {nd : List (List Nat)} (h0_ : NdAt A p nd) (h1_ : nd.length ≤ 40) (h2_ : ∀ (q : Addr) (rs : List Addr) (h : Hp), RowsAt [h] rs nd → Φ (.ref q) (sg q (.lst (rs.map V.ref)) :: h :: A)) : S_law_copied K a [.ref p] A Φ Ψ := ⟨_, _, rfl, h0_, h1_, h2_⟩
theorem c_law_can_end {A : SH} {Φ : V → SH → Prop} {Ψ : Value → Option Addr → SH → Prop} {p : Addr} {nd : List (List Nat)} (h0_ : NdAt A p nd) (h1_ : NdOk nd) (h2_ : Φ (.bl (decide (Full nd))) A) : S_law_can_end K a [.ref p] A Φ Ψ := ⟨_, _, rfl, h0_, h1_, h2_⟩
theorem c_law_whole {A : SH} {Φ : V → SH → Prop} {Ψ : Value → Option Addr → SH → Prop} {i : Int} (h0_ : Φ (.bl true) A) : S_law_whole K a [.int i] A Φ Ψ := ⟨_, rfl, h0_⟩
theorem c_law_is_least {A : SH} {Φ : V → SH → Prop} {Ψ : Value → Option Addr → SH → Prop} {q p : Addr} {nd : List (List Nat)} (h0_ : RO A q (.lst (nats (begF nd)))) (h1_ : NdAt A p nd) (h2_ : NdOk nd) (h3_ : Full nd) (h4_ : Φ (.bl true) A) : S_law_is_least K a [.ref q, .ref p] A Φ Ψ := ⟨_, _, _, rfl, h0_, h1_, h2_, h3_, h4_⟩
theorem c_law_is_ring {A : SH} {Φ : V → SH → Prop} {Ψ : Value → Option Addr → SH → Prop} {q p : Addr} {r : List Nat} {nd : List (List Nat)} (h0_ : RO A q (.lst (nats r))) (h1_ : NdAt A p nd) (h2_ : NdOk nd) (h3_ : Ring nd r) (h4_ : Φ (.bl true) A) : S_law_is_ring K a [.ref q, .ref p] A Φ Ψ := ⟨_, _, _, _, rfl, h0_, h1_, h2_, h3_, h4_⟩
theorem c_law_orders {A : SH} {Φ : V → SH → Prop} {Ψ : Value → Option Addr → SH → Prop} {p : Addr} {nd : List (List Nat)} (h0_ : NdAt A p nd) (h1_ : NdOk nd) (h2_ : Φ (.bl true) A) : S_law_orders K a [.ref p, .bl (decide (Full nd))] A Φ Ψ := ⟨_, _, rfl, h0_, h1_, h2_⟩
theorem c_law_rings {A : SH} {Φ : V → SH → Prop} {Ψ : Value → Option Addr → SH → Prop} {p : Addr} {nd : List (List Nat)} (h0_ : NdAt A p nd) (h1_ : NdOk nd) (h2_ : Φ (.bl true) A) : S_law_rings K a [.ref p, .bl (decide (Full nd))] A Φ Ψ := ⟨_, _, rfl, h0_, h1_, h2_⟩
theorem c_law {A : SH} {Φ : V → SH → Prop} {Ψ : Value → Option Addr → SH → Prop} {p : Addr} {ns : List Int} (h0_ : RL K A p (ns.map V.int)) (h1_ : ns.length ≤ 63) (h2_ : Φ (.bl true) A) : S_law K a [.ref p] A Φ Ψ := ⟨_, _, rfl, h0_, h1_, h2_⟩
end
end S

namespace S
open PySem L2
/-- the methods of own classes -/
inductive MT (K : PySem.W.Frag) (a : Ad) : Str → Addr → Spec → Prop
/-- what the top has written -/
structure Txt (K : PySem.W.Frag) (mg : Str → Option Value) (a : Ad) : Prop where
  b_bool : mg "bool" = none
  b_enumerate : mg "enumerate" = none
  b_int : mg "int" = none
  b_isinstance : mg "isinstance" = none
  b_len : mg "len" = none
  b_list : mg "list" = none
  b_max : mg "max" = none
  b_min : mg "min" = none
  b_range : mg "range" = none
  b_set : mg "set" = none
-- fields
end S

namespace S
open PySem L2
theorem sc_can_stand : FnScope ["needs", "place", "ahead", "other"] ["needs", "place", "ahead"] (defScope s_can_stand) := ⟨rfl, rfl, rfl, by decide +kernel, rfl, by decide +kernel, by decide +kernel⟩
def t_can_stand (K : PySem.W.Frag) (a : Ad) (W : WX) : TS :=
  (tSeq (tFor (iList K (tOp (rIx K) (tVar 0) (tVar 1))) (gName 3) (tIfS (tB (tDNotIn (tVar 3) (tVar 2))) (tRet (tC (.bl false))) tNext))
  (tRet (tC (.bl true))))
theorem dv_can_stand {P : Program} {w : World} {K : PySem.W.Frag} {mg : Str → Option Value} {base : Heap} {a : Ad} (T : Txt K mg a) 
    {f : Addr} {cdv : Value} {A : Around} {outer : List Env} {s : Shared} {H : Hp} {E : XK} (hr : Room 0 (A.deeper (PyProof.Rows.envOfC "can_stand" (defScope s_can_stand) s.heap.objs.size f cdv))) :
    PSs (cxOf (L2.CX P w) P w K mg base ["needs", "place", "ahead", "other"] "can_stand" (defScope s_can_stand) f cdv A outer s H E) (defBody s_can_stand) (t_can_stand K a fun c d _ H => E c d H) := by
  have tk : Takes (cxOf (L2.CX P w) P w K mg base ["needs", "place", "ahead", "other"] "can_stand" (defScope s_can_stand) f cdv A outer s H E) (fun c d _ H => E c d H) := takes_of rfl rfl rfl rfl
  have po : PassesOwn (model P w) (A.deeper (PyProof.Rows.envOfC "can_stand" (defScope s_can_stand) s.heap.objs.size f cdv)) (PyProof.Rows.envOfC "can_stand" (defScope s_can_stand) s.heap.objs.size f cdv) (cxOf (L2.CX P w) P w K mg base ["needs", "place", "ahead", "other"] "can_stand" (defScope s_can_stand) f cdv A outer s H E).xe := passes_of (X := cxOf (L2.CX P w) P w K mg base ["needs", "place", "ahead", "other"] "can_stand" (defScope s_can_stand) f cdv A outer s H E) rfl
  exact (pss_cons (ps_for po rfl (pi_list (pe_ix ix_seq (pv 0) (pv 1) (fun _ _ => rfl))) (pg_name (i := 3) sc_can_stand.nd rfl (by first | exact Or.inl rfl | exact Or.inr rfl)) (pss_one (ps_if (pt_cmp (pc_dnotin (hu_of hr) (pv 3) (pv 2))) (pss_one (ps_ret pe_bl)) pss_nil)))
  (pss_one (ps_ret pe_bl)))
theorem sc_next_place : FnScope ["needs", "ahead", "place"] ["needs", "ahead"] (defScope s_next_place) := ⟨rfl, rfl, rfl, by decide +kernel, rfl, by decide +kernel, by decide +kernel⟩
def t_next_place (K : PySem.W.Frag) (a : Ad) (W : WX) : TS :=
  (tSeq (tFor (iRng1 (tCons (tCB (cLen K) (tCons (tVar 0) tNil)) tNil)) (gName 2) (tIfS (tAnd (tB (tDNotIn (tVar 2) (tVar 1))) (tB (tCal (lift (S_can_stand K a)) W (tCons (tVar 0) (tCons (tVar 2) (tCons (tVar 1) tNil)))))) (tRet (tVar 2)) tNext))
  (tRet (tC .non)))
theorem dv_next_place {P : Program} {w : World} {K : PySem.W.Frag} {mg : Str → Option Value} {base : Heap} {a : Ad} (T : Txt K mg a) (G_can_stand : DefR P w K mg base 1 "can_stand" (lift (S_can_stand K a)))
    {f : Addr} {cdv : Value} {A : Around} {outer : List Env} {s : Shared} {H : Hp} {E : XK} (hr : Room 1 (A.deeper (PyProof.Rows.envOfC "next_place" (defScope s_next_place) s.heap.objs.size f cdv))) :
    PSs (cxOf (L2.CX P w) P w K mg base ["needs", "ahead", "place"] "next_place" (defScope s_next_place) f cdv A outer s H E) (defBody s_next_place) (t_next_place K a fun c d _ H => E c d H) := by
  have tk : Takes (cxOf (L2.CX P w) P w K mg base ["needs", "ahead", "place"] "next_place" (defScope s_next_place) f cdv A outer s H E) (fun c d _ H => E c d H) := takes_of rfl rfl rfl rfl
  have po : PassesOwn (model P w) (A.deeper (PyProof.Rows.envOfC "next_place" (defScope s_next_place) s.heap.objs.size f cdv)) (PyProof.Rows.envOfC "next_place" (defScope s_next_place) s.heap.objs.size f cdv) (cxOf (L2.CX P w) P w K mg base ["needs", "ahead", "place"] "next_place" (defScope s_next_place) f cdv A outer s H E).xe := passes_of (X := cxOf (L2.CX P w) P w K mg base ["needs", "ahead", "place"] "next_place" (defScope s_next_place) f cdv A outer s H E) rfl
  exact (pss_cons (ps_for po rfl (pi_range1 rfl T.b_range (pa_cons (pe_callB call_cLen (by rfl) T.b_len (by decide +kernel) (pa_cons (pv 0) pa_nil)) pa_nil)) (pg_name (i := 2) sc_next_place.nd rfl (by first | exact Or.inl rfl | exact Or.inr rfl)) (pss_one (ps_if (PW.pt (pw_and (pt_cmp (pc_dnotin (hu_of hr) (pv 2) (pv 1))) (pw_and1 (pt_val (pe_own G_can_stand (hr.mono (by decide)) rfl tk (pa_cons (pv 0) (pa_cons (pv 2) (pa_cons (pv 1) pa_nil)))))))) (pss_one (ps_ret (pv 2))) pss_nil)))
  (pss_one (ps_ret pe_non)))
theorem sc_beginning : FnScope ["needs", "found", "ahead", "place"] ["needs"] (defScope s_beginning) := ⟨rfl, rfl, rfl, by decide +kernel, rfl, by decide +kernel, by decide +kernel⟩
def t_beginning (K : PySem.W.Frag) (a : Ad) (W : WX) : TS :=
  (tSeq (tAsg (tLst tNil) (gName 1))
  (tSeq (tAsg tDNewK (gName 2))
  (tMid (tAsg (tCal (lift (S_next_place K a)) W (tCons (tVar 0) (tCons (tVar 2) tNil))) (gName 3))
  (tSeq (tWhile (tTest (tOp (dIs true) (tVar 3) (tC .non))) (tSeq (tDrop (tBM K "list" rAppend (tVar 1) (tCons (tVar 3) tNil)))
  (tSeq (sDPut (tVar 2) (tVar 3) (tC (.bl true)))
  (tAsg (tCal (lift (S_next_place K a)) W (tCons (tVar 0) (tCons (tVar 2) tNil))) (gName 3)))))
  (tRet (tVar 1))))))
theorem dv_beginning {P : Program} {w : World} {K : PySem.W.Frag} {mg : Str → Option Value} {base : Heap} {a : Ad} (T : Txt K mg a) (G_next_place : DefR P w K mg base 2 "next_place" (lift (S_next_place K a)))
    {f : Addr} {cdv : Value} {A : Around} {outer : List Env} {s : Shared} {H : Hp} {E : XK} (hr : Room 2 (A.deeper (PyProof.Rows.envOfC "beginning" (defScope s_beginning) s.heap.objs.size f cdv))) :
    PSs (cxOf (L2.CX P w) P w K mg base ["needs", "found", "ahead", "place"] "beginning" (defScope s_beginning) f cdv A outer s H E) (defBody s_beginning) (t_beginning K a fun c d _ H => E c d H) := by
  have tk : Takes (cxOf (L2.CX P w) P w K mg base ["needs", "found", "ahead", "place"] "beginning" (defScope s_beginning) f cdv A outer s H E) (fun c d _ H => E c d H) := takes_of rfl rfl rfl rfl
  have po : PassesOwn (model P w) (A.deeper (PyProof.Rows.envOfC "beginning" (defScope s_beginning) s.heap.objs.size f cdv)) (PyProof.Rows.envOfC "beginning" (defScope s_beginning) s.heap.objs.size f cdv) (cxOf (L2.CX P w) P w K mg base ["needs", "found", "ahead", "place"] "beginning" (defScope s_beginning) f cdv A outer s H E).xe := passes_of (X := cxOf (L2.CX P w) P w K mg base ["needs", "found", "ahead", "place"] "beginning" (defScope s_beginning) f cdv A outer s H E) rfl
  exact (pss_cons (ps_set (i := 1) sc_beginning.nd rfl (by first | exact Or.inl rfl | exact Or.inr rfl) (pe_lst pa_nil))
  (pss_cons (ps_set (i := 2) sc_beginning.nd rfl (by first | exact Or.inl rfl | exact Or.inr rfl) pe_dnewK)
  (pss_cons (ps_set (i := 3) sc_beginning.nd rfl (by first | exact Or.inl rfl | exact Or.inr rfl) (pe_own G_next_place (hr.mono (by decide)) rfl tk (pa_cons (pv 0) (pa_cons (pv 2) pa_nil))))
  (pss_cons (ps_while po (pt_cmpR op_dIsNot (pv 3) pe_non (nomark _)) (pss_cons (ps_expr (pe_bm PySem.F.plainAttrs_list PySem.F.slot_list_append PySem.F.type_list_append mt_append (pv 1) (pa_cons (pv 3) pa_nil)))
  (pss_cons (ps_dput (hu_of hr) (pv 2) (pv 3) pe_bl rfl)
  (pss_one (ps_set (i := 3) sc_beginning.nd rfl (by first | exact Or.inl rfl | exact Or.inr rfl) (pe_own G_next_place (hr.mono (by decide)) rfl tk (pa_cons (pv 0) (pa_cons (pv 2) pa_nil))))))))
  (pss_one (ps_ret (pv 1)))))))
theorem sc_order_of : FnScope ["needs", "found"] ["needs"] (defScope s_order_of) := ⟨rfl, rfl, rfl, by decide +kernel, rfl, by decide +kernel, by decide +kernel⟩
def t_order_of (K : PySem.W.Frag) (a : Ad) (W : WX) : TS :=
  (tSeq (tAsg (tCal (lift (S_beginning K a)) W (tCons (tVar 0) tNil)) (gName 1))
  (tSeq (tIfS (tTest (tOp (dLt K) (tCB (cLen K) (tCons (tVar 1) tNil)) (tCB (cLen K) (tCons (tVar 0) tNil)))) (tRet (tC .non)) tNext)
  (tRet (tVar 1))))
theorem dv_order_of {P : Program} {w : World} {K : PySem.W.Frag} {mg : Str → Option Value} {base : Heap} {a : Ad} (T : Txt K mg a) (G_beginning : DefR P w K mg base 3 "beginning" (lift (S_beginning K a)))
    {f : Addr} {cdv : Value} {A : Around} {outer : List Env} {s : Shared} {H : Hp} {E : XK} (hr : Room 3 (A.deeper (PyProof.Rows.envOfC "order_of" (defScope s_order_of) s.heap.objs.size f cdv))) :
    PSs (cxOf (L2.CX P w) P w K mg base ["needs", "found"] "order_of" (defScope s_order_of) f cdv A outer s H E) (defBody s_order_of) (t_order_of K a fun c d _ H => E c d H) := by
  have tk : Takes (cxOf (L2.CX P w) P w K mg base ["needs", "found"] "order_of" (defScope s_order_of) f cdv A outer s H E) (fun c d _ H => E c d H) := takes_of rfl rfl rfl rfl
  have po : PassesOwn (model P w) (A.deeper (PyProof.Rows.envOfC "order_of" (defScope s_order_of) s.heap.objs.size f cdv)) (PyProof.Rows.envOfC "order_of" (defScope s_order_of) s.heap.objs.size f cdv) (cxOf (L2.CX P w) P w K mg base ["needs", "found"] "order_of" (defScope s_order_of) f cdv A outer s H E).xe := passes_of (X := cxOf (L2.CX P w) P w K mg base ["needs", "found"] "order_of" (defScope s_order_of) f cdv A outer s H E) rfl
  exact (pss_cons (ps_set (i := 1) sc_order_of.nd rfl (by first | exact Or.inl rfl | exact Or.inr rfl) (pe_own G_beginning (hr.mono (by decide)) rfl tk (pa_cons (pv 0) pa_nil)))
  (pss_cons (ps_if (pt_cmpR (op_dLt hr) (pe_callB call_cLen (by rfl) T.b_len (by decide +kernel) (pa_cons (pv 1) pa_nil)) (pe_callB call_cLen (by rfl) T.b_len (by decide +kernel) (pa_cons (pv 0) pa_nil)) (nomark _)) (pss_one (ps_ret pe_non)) pss_nil)
  (pss_one (ps_ret (pv 1)))))
theorem sc_ring_of : FnScope ["needs", "ahead", "place", "left", "trail", "other"] ["needs"] (defScope s_ring_of) := ⟨rfl, rfl, rfl, by decide +kernel, rfl, by decide +kernel, by decide +kernel⟩
def t_ring_of (K : PySem.W.Frag) (a : Ad) (W : WX) : TS :=
  (tSeq (tAsg tDNewK (gName 1))
  (tSeq (tFor (iList K (tCal (lift (S_beginning K a)) W (tCons (tVar 0) tNil))) (gName 2) (sDPut (tVar 1) (tVar 2) (tC (.bl true))))
  (tSeq (tAsg (tLc (iRng1 (tCons (tCB (cLen K) (tCons (tVar 0) tNil)) tNil)) (gName 2) (tB (tDNotIn (tVar 2) (tVar 1))) (tVar 2) [2]) (gName 3))
  (tSeq (tIfS (tTest (tOp (dEq K) (tVar 3) (tLst tNil))) (tRet (tC .non)) tNext)
  (tSeq (tAsg (tLst tNil) (gName 4))
  (tSeq (tAsg (tOp (rIx K) (tVar 3) (tC (.int 0))) (gName 2))
  (tSeq (tWhile (tTest (tOp (dIn K true) (tVar 2) (tVar 4))) (tSeq (tDrop (tBM K "list" rAppend (tVar 4) (tCons (tVar 2) tNil)))
  (tAsg (tOp (rIx K) (tLc (iList K (tOp (rIx K) (tVar 0) (tVar 2))) (gName 5) (tB (tDNotIn (tVar 5) (tVar 1))) (tVar 5) [5]) (tC (.int 0))) (gName 2))))
  (tRet (tSl (rSl K) (tVar 4) (tPart (tBM K "list" (rIndex K) (tVar 4) (tCons (tVar 2) tNil))) tNoPart)))))))))
theorem dv_ring_of {P : Program} {w : World} {K : PySem.W.Frag} {mg : Str → Option Value} {base : Heap} {a : Ad} (T : Txt K mg a) (G_beginning : DefR P w K mg base 3 "beginning" (lift (S_beginning K a)))
    {f : Addr} {cdv : Value} {A : Around} {outer : List Env} {s : Shared} {H : Hp} {E : XK} (hr : Room 3 (A.deeper (PyProof.Rows.envOfC "ring_of" (defScope s_ring_of) s.heap.objs.size f cdv))) :
    PSs (cxOf (L2.CX P w) P w K mg base ["needs", "ahead", "place", "left", "trail", "other"] "ring_of" (defScope s_ring_of) f cdv A outer s H E) (defBody s_ring_of) (t_ring_of K a fun c d _ H => E c d H) := by
  have tk : Takes (cxOf (L2.CX P w) P w K mg base ["needs", "ahead", "place", "left", "trail", "other"] "ring_of" (defScope s_ring_of) f cdv A outer s H E) (fun c d _ H => E c d H) := takes_of rfl rfl rfl rfl
  have po : PassesOwn (model P w) (A.deeper (PyProof.Rows.envOfC "ring_of" (defScope s_ring_of) s.heap.objs.size f cdv)) (PyProof.Rows.envOfC "ring_of" (defScope s_ring_of) s.heap.objs.size f cdv) (cxOf (L2.CX P w) P w K mg base ["needs", "ahead", "place", "left", "trail", "other"] "ring_of" (defScope s_ring_of) f cdv A outer s H E).xe := passes_of (X := cxOf (L2.CX P w) P w K mg base ["needs", "ahead", "place", "left", "trail", "other"] "ring_of" (defScope s_ring_of) f cdv A outer s H E) rfl
  exact (pss_cons (ps_set (i := 1) sc_ring_of.nd rfl (by first | exact Or.inl rfl | exact Or.inr rfl) pe_dnewK)
  (pss_cons (ps_for po rfl (pi_list (pe_own G_beginning (hr.mono (by decide)) rfl tk (pa_cons (pv 0) pa_nil))) (pg_name (i := 2) sc_ring_of.nd rfl (by first | exact Or.inl rfl | exact Or.inr rfl)) (pss_one (ps_dput (hu_of hr) (pv 1) (pv 2) pe_bl rfl)))
  (pss_cons (ps_setLc (i := 3) (own := [("place", 2)]) rfl sc_ring_of.nd rfl rfl (sw_true rfl rfl rfl (by decide +kernel)) (pi_range1 rfl T.b_range (pa_cons (pe_callB call_cLen (by rfl) T.b_len (by decide +kernel) (pa_cons (pv 0) pa_nil)) pa_nil)) (blkOk_by (own := [("place", 2)]) (by kernel_rfl)) (fun _ _ _ _ _ => (pg_name (i := 2) sc_ring_of.nd rfl (by first | exact Or.inl rfl | exact Or.inr rfl))) (fun _ _ _ _ _ => (pts_one (pt_cmp (pc_dnotin (hu_of hr) (pv 2) (pv 1))))) (fun _ _ _ _ _ => (pv 2)))
  (pss_cons (ps_if (pt_cmpR (op_dEq hr) (pv 3) (pe_lst pa_nil) (nomark _)) (pss_one (ps_ret pe_non)) pss_nil)
  (pss_cons (ps_set (i := 4) sc_ring_of.nd rfl (by first | exact Or.inl rfl | exact Or.inr rfl) (pe_lst pa_nil))
  (pss_cons (ps_set (i := 2) sc_ring_of.nd rfl (by first | exact Or.inl rfl | exact Or.inr rfl) (pe_ix ix_seq (pv 3) pe_int (fun _ _ => rfl)))
  (pss_cons (ps_while po (pt_cmpR op_dNotIn (pv 2) (pv 4) (by rfl)) (pss_cons (ps_expr (pe_bm PySem.F.plainAttrs_list PySem.F.slot_list_append PySem.F.type_list_append mt_append (pv 4) (pa_cons (pv 2) pa_nil)))
  (pss_one (ps_set (i := 2) sc_ring_of.nd rfl (by first | exact Or.inl rfl | exact Or.inr rfl) (pe_ix ix_seq (pe_lc (own := [("other", 5)]) rfl sc_ring_of.nd (pi_list (pe_ix ix_seq (pv 0) (pv 2) (fun _ _ => rfl))) (blkOk_by (own := [("other", 5)]) (by kernel_rfl)) (fun _ _ _ _ _ => (pg_name (i := 5) sc_ring_of.nd rfl (by first | exact Or.inl rfl | exact Or.inr rfl))) (fun _ _ _ _ _ => (pts_one (pt_cmp (pc_dnotin (hu_of hr) (pv 5) (pv 1))))) (fun _ _ _ _ _ => (pv 5))) pe_int (fun _ _ => rfl))))))
  (pss_one (ps_ret (pe_slice sl_any (pv 4) (po_some (pe_bm PySem.F.plainAttrs_list PySem.F.slot_list_index PySem.F.type_list_index mt_index (pv 4) (pa_cons (pv 2) pa_nil))) po_none))))))))))
theorem sc_law_mixed : FnScope ["_law_script", "_law_k", "_law_cell", "_law_number"] ["_law_script", "_law_k"] (defScope s_law_mixed) := ⟨rfl, rfl, rfl, by decide +kernel, rfl, by decide +kernel, by decide +kernel⟩
def t_law_mixed (K : PySem.W.Frag) (a : Ad) (W : WX) : TS :=
  (tSeq (tAsg (tIf (tTest (tOp (dNe K) (tVar 0) (tLst tNil))) (tOp (rIx K) (tVar 0) (tOp dMod (tVar 1) (tCB (cLen K) (tCons (tVar 0) tNil)))) (tC (.int 0))) (gName 2))
  (tSeq (tAsg (tOp dMod (tOp (dAdd K) (tOp (dAdd K) (tOp dMul (tVar 2) (tC (.int 48271))) (tOp dMul (tOp dMul (tC (.int 30011)) (tVar 1)) (tVar 1))) (tOp dMul (tC (.int 11)) (tVar 1))) (tC (.int 2147483647))) (gName 3))
  (tRet (tOp dDiv (tOp dMod (tOp dMul (tVar 3) (tOp (dAdd K) (tC (.int 69621)) (tOp dMul (tC (.int 2)) (tVar 1)))) (tC (.int 998244353))) (tC (.int 16))))))
theorem dv_law_mixed {P : Program} {w : World} {K : PySem.W.Frag} {mg : Str → Option Value} {base : Heap} {a : Ad} (T : Txt K mg a) 
    {f : Addr} {cdv : Value} {A : Around} {outer : List Env} {s : Shared} {H : Hp} {E : XK} (hr : Room 0 (A.deeper (PyProof.Rows.envOfC "_law_mixed" (defScope s_law_mixed) s.heap.objs.size f cdv))) :
    PSs (cxOf (L2.CX P w) P w K mg base ["_law_script", "_law_k", "_law_cell", "_law_number"] "_law_mixed" (defScope s_law_mixed) f cdv A outer s H E) (defBody s_law_mixed) (t_law_mixed K a fun c d _ H => E c d H) := by
  have tk : Takes (cxOf (L2.CX P w) P w K mg base ["_law_script", "_law_k", "_law_cell", "_law_number"] "_law_mixed" (defScope s_law_mixed) f cdv A outer s H E) (fun c d _ H => E c d H) := takes_of rfl rfl rfl rfl
  have po : PassesOwn (model P w) (A.deeper (PyProof.Rows.envOfC "_law_mixed" (defScope s_law_mixed) s.heap.objs.size f cdv)) (PyProof.Rows.envOfC "_law_mixed" (defScope s_law_mixed) s.heap.objs.size f cdv) (cxOf (L2.CX P w) P w K mg base ["_law_script", "_law_k", "_law_cell", "_law_number"] "_law_mixed" (defScope s_law_mixed) f cdv A outer s H E).xe := passes_of (X := cxOf (L2.CX P w) P w K mg base ["_law_script", "_law_k", "_law_cell", "_law_number"] "_law_mixed" (defScope s_law_mixed) f cdv A outer s H E) rfl
  exact (pss_cons (ps_set (i := 2) sc_law_mixed.nd rfl (by first | exact Or.inl rfl | exact Or.inr rfl) (pe_ifExp (pt_cmpR (op_dNe hr) (pv 0) (pe_lst pa_nil) (nomark _)) (pe_ix ix_seq (pv 0) (pe_op op_dMod (pv 1) (pe_callB call_cLen (by rfl) T.b_len (by decide +kernel) (pa_cons (pv 0) pa_nil))) (fun _ _ => rfl)) pe_int))
  (pss_cons (ps_set (i := 3) sc_law_mixed.nd rfl (by first | exact Or.inl rfl | exact Or.inr rfl) (pe_op op_dMod (pe_op op_dAdd (pe_op op_dAdd (pe_op op_dMul (pv 2) pe_int) (pe_op op_dMul (pe_op op_dMul pe_int (pv 1)) (pv 1))) (pe_op op_dMul pe_int (pv 1))) pe_int))
  (pss_one (ps_ret (pe_op op_dDiv (pe_op op_dMod (pe_op op_dMul (pv 3) (pe_op op_dAdd pe_int (pe_op op_dMul pe_int (pv 1)))) pe_int) pe_int)))))
theorem sc_law_line_up : FnScope ["_law_script", "_law_many", "_law_found", "_law_k"] ["_law_script", "_law_many"] (defScope s_law_line_up) := ⟨rfl, rfl, rfl, by decide +kernel, rfl, by decide +kernel, by decide +kernel⟩
def t_law_line_up (K : PySem.W.Frag) (a : Ad) (W : WX) : TS :=
  (tSeq (tAsg (tLst tNil) (gName 2))
  (tSeq (tFor (iRng1 (tCons (tVar 1) tNil)) (gName 3) (tDrop (tBM K "list" rInsert (tVar 2) (tCons (tOp dMod (tCal (lift (S_law_mixed K a)) W (tCons (tVar 0) (tCons (tOp (dAdd K) (tC (.int 100)) (tVar 3)) tNil))) (tOp (dAdd K) (tVar 3) (tC (.int 1)))) (tCons (tVar 3) tNil)))))
  (tRet (tVar 2))))
theorem dv_law_line_up {P : Program} {w : World} {K : PySem.W.Frag} {mg : Str → Option Value} {base : Heap} {a : Ad} (T : Txt K mg a) (G_law_mixed : DefR P w K mg base 1 "_law_mixed" (lift (S_law_mixed K a)))
    {f : Addr} {cdv : Value} {A : Around} {outer : List Env} {s : Shared} {H : Hp} {E : XK} (hr : Room 1 (A.deeper (PyProof.Rows.envOfC "_law_line_up" (defScope s_law_line_up) s.heap.objs.size f cdv))) :
    PSs (cxOf (L2.CX P w) P w K mg base ["_law_script", "_law_many", "_law_found", "_law_k"] "_law_line_up" (defScope s_law_line_up) f cdv A outer s H E) (defBody s_law_line_up) (t_law_line_up K a fun c d _ H => E c d H) := by
  have tk : Takes (cxOf (L2.CX P w) P w K mg base ["_law_script", "_law_many", "_law_found", "_law_k"] "_law_line_up" (defScope s_law_line_up) f cdv A outer s H E) (fun c d _ H => E c d H) := takes_of rfl rfl rfl rfl
  have po : PassesOwn (model P w) (A.deeper (PyProof.Rows.envOfC "_law_line_up" (defScope s_law_line_up) s.heap.objs.size f cdv)) (PyProof.Rows.envOfC "_law_line_up" (defScope s_law_line_up) s.heap.objs.size f cdv) (cxOf (L2.CX P w) P w K mg base ["_law_script", "_law_many", "_law_found", "_law_k"] "_law_line_up" (defScope s_law_line_up) f cdv A outer s H E).xe := passes_of (X := cxOf (L2.CX P w) P w K mg base ["_law_script", "_law_many", "_law_found", "_law_k"] "_law_line_up" (defScope s_law_line_up) f cdv A outer s H E) rfl
  exact (pss_cons (ps_set (i := 2) sc_law_line_up.nd rfl (by first | exact Or.inl rfl | exact Or.inr rfl) (pe_lst pa_nil))
  (pss_cons (ps_for po rfl (pi_range1 rfl T.b_range (pa_cons (pv 1) pa_nil)) (pg_name (i := 3) sc_law_line_up.nd rfl (by first | exact Or.inl rfl | exact Or.inr rfl)) (pss_one (ps_expr (pe_bm PySem.F.plainAttrs_list PySem.F.slot_list_insert PySem.F.type_list_insert mt_insert (pv 2) (pa_cons (pe_op op_dMod (pe_own G_law_mixed (hr.mono (by decide)) rfl tk (pa_cons (pv 0) (pa_cons (pe_op op_dAdd pe_int (pv 3)) pa_nil))) (pe_op op_dAdd (pv 3) pe_int)) (pa_cons (pv 3) pa_nil))))))
  (pss_one (ps_ret (pv 2)))))
theorem sc_law_freely : FnScope ["_law_script", "_law_many", "_law_found", "_law_k", "_law_size", "_law_j"] ["_law_script", "_law_many"] (defScope s_law_freely) := ⟨rfl, rfl, rfl, by decide +kernel, rfl, by decide +kernel, by decide +kernel⟩
def t_law_freely (K : PySem.W.Frag) (a : Ad) (W : WX) : TS :=
  (tSeq (tAsg (tLst tNil) (gName 2))
  (tSeq (tFor (iRng1 (tCons (tVar 1) tNil)) (gName 3) (tSeq (tAsg (tOp dMod (tCal (lift (S_law_mixed K a)) W (tCons (tVar 0) (tCons (tOp (dAdd K) (tC (.int 200)) (tVar 3)) tNil))) (tC (.int 5))) (gName 4))
  (tSeq (tIfS (tOr (tTest (tOp dGt (tVar 1) (tC (.int 9)))) (tTest (tOp (dEq K) (tOp dMod (tCal (lift (S_law_mixed K a)) W (tCons (tVar 0) (tCons (tOp (dAdd K) (tC (.int 250)) (tVar 3)) tNil))) (tC (.int 3))) (tC (.int 0))))) (tAsg (tOp dDiv (tVar 4) (tC (.int 3))) (gName 4)) tNext)
  (tDrop (tBM K "list" rAppend (tVar 2) (tCons (tLc (iRng1 (tCons (tVar 4) tNil)) (gName 5) tYes (tOp dMod (tCal (lift (S_law_mixed K a)) (fun _ _ _ _ => False) (tCons (tVar 0) (tCons (tOp (dAdd K) (tOp (dAdd K) (tC (.int 300)) (tOp dMul (tC (.int 5)) (tVar 3))) (tVar 5)) tNil))) (tVar 1)) [5]) tNil))))))
  (tRet (tVar 2))))
theorem dv_law_freely {P : Program} {w : World} {K : PySem.W.Frag} {mg : Str → Option Value} {base : Heap} {a : Ad} (T : Txt K mg a) (G_law_mixed : DefR P w K mg base 1 "_law_mixed" (lift (S_law_mixed K a)))
    {f : Addr} {cdv : Value} {A : Around} {outer : List Env} {s : Shared} {H : Hp} {E : XK} (hr : Room 1 (A.deeper (PyProof.Rows.envOfC "_law_freely" (defScope s_law_freely) s.heap.objs.size f cdv))) :
    PSs (cxOf (L2.CX P w) P w K mg base ["_law_script", "_law_many", "_law_found", "_law_k", "_law_size", "_law_j"] "_law_freely" (defScope s_law_freely) f cdv A outer s H E) (defBody s_law_freely) (t_law_freely K a fun c d _ H => E c d H) := by
  have tk : Takes (cxOf (L2.CX P w) P w K mg base ["_law_script", "_law_many", "_law_found", "_law_k", "_law_size", "_law_j"] "_law_freely" (defScope s_law_freely) f cdv A outer s H E) (fun c d _ H => E c d H) := takes_of rfl rfl rfl rfl
  have po : PassesOwn (model P w) (A.deeper (PyProof.Rows.envOfC "_law_freely" (defScope s_law_freely) s.heap.objs.size f cdv)) (PyProof.Rows.envOfC "_law_freely" (defScope s_law_freely) s.heap.objs.size f cdv) (cxOf (L2.CX P w) P w K mg base ["_law_script", "_law_many", "_law_found", "_law_k", "_law_size", "_law_j"] "_law_freely" (defScope s_law_freely) f cdv A outer s H E).xe := passes_of (X := cxOf (L2.CX P w) P w K mg base ["_law_script", "_law_many", "_law_found", "_law_k", "_law_size", "_law_j"] "_law_freely" (defScope s_law_freely) f cdv A outer s H E) rfl
  exact (pss_cons (ps_set (i := 2) sc_law_freely.nd rfl (by first | exact Or.inl rfl | exact Or.inr rfl) (pe_lst pa_nil))
  (pss_cons (ps_for po rfl (pi_range1 rfl T.b_range (pa_cons (pv 1) pa_nil)) (pg_name (i := 3) sc_law_freely.nd rfl (by first | exact Or.inl rfl | exact Or.inr rfl)) (pss_cons (ps_set (i := 4) sc_law_freely.nd rfl (by first | exact Or.inl rfl | exact Or.inr rfl) (pe_op op_dMod (pe_own G_law_mixed (hr.mono (by decide)) rfl tk (pa_cons (pv 0) (pa_cons (pe_op op_dAdd pe_int (pv 3)) pa_nil))) pe_int))
  (pss_cons (ps_if (PW.pt (pw_or (pt_cmpR op_dGt (pv 1) pe_int (nomark _)) (pw_or1 (pt_cmpR (op_dEq hr) (pe_op op_dMod (pe_own G_law_mixed (hr.mono (by decide)) rfl tk (pa_cons (pv 0) (pa_cons (pe_op op_dAdd pe_int (pv 3)) pa_nil))) pe_int) pe_int (nomark _))))) (pss_one (ps_set (i := 4) sc_law_freely.nd rfl (by first | exact Or.inl rfl | exact Or.inr rfl) (pe_op op_dDiv (pv 4) pe_int))) pss_nil)
  (pss_one (ps_expr (pe_bm PySem.F.plainAttrs_list PySem.F.slot_list_append PySem.F.type_list_append mt_append (pv 2) (pa_cons (pe_lc (own := [("_law_j", 5)]) rfl sc_law_freely.nd (pi_range1 rfl T.b_range (pa_cons (pv 4) pa_nil)) (blkOk_by (own := [("_law_j", 5)]) (by kernel_rfl)) (fun _ _ _ _ _ => (pg_name (i := 5) sc_law_freely.nd rfl (by first | exact Or.inl rfl | exact Or.inr rfl))) (fun _ _ _ _ _ => pts_nil) (fun _ _ _ _ _ => (pe_op op_dMod (pe_own G_law_mixed (hr.mono (by decide)) rfl takes0 (pa_cons (pv 0) (pa_cons (pe_op op_dAdd (pe_op op_dAdd pe_int (pe_op op_dMul pe_int (pv 3))) (pv 5)) pa_nil))) (pv 1)))) pa_nil)))))))
  (pss_one (ps_ret (pv 2)))))
theorem sc_law_in_line : FnScope ["_law_script", "_law_many", "_law_k", "_law_found", "_law_line", "_law_at", "_law_place", "_law_size", "_law_j", "_law_one", "_law_other", "_law_spot"] ["_law_script", "_law_many"] (defScope s_law_in_line) := ⟨rfl, rfl, rfl, by decide +kernel, rfl, by decide +kernel, by decide +kernel⟩
def t_law_in_line (K : PySem.W.Frag) (a : Ad) (W : WX) : TS :=
  (tSeq (tAsg (tLc (iRng1 (tCons (tVar 1) tNil)) (gName 2) tYes (tLst tNil) [2]) (gName 3))
  (tSeq (tAsg (tCal (lift (S_law_line_up K a)) W (tCons (tVar 0) (tCons (tVar 1) tNil))) (gName 4))
  (tSeq (tFor (iEnum K (tCons (tVar 4) tNil)) (gTup K 2 (gCons (gName 5) (gCons (gName 6) gNil))) (tSeq (tAsg (tIf (tTest (tOp dGt (tVar 5) (tC (.int 0)))) (tOp dMod (tCal (lift (S_law_mixed K a)) W (tCons (tVar 0) (tCons (tOp (dAdd K) (tC (.int 200)) (tVar 6)) tNil))) (tC (.int 5))) (tC (.int 0))) (gName 7))
  (tSeq (tIfS (tTest (tOp dGt (tVar 1) (tC (.int 9)))) (tAsg (tOp dDiv (tVar 7) (tC (.int 3))) (gName 7)) tNext)
  (tAsg (tLc (iRng1 (tCons (tVar 7) tNil)) (gName 8) tYes (tOp (rIx K) (tVar 4) (tOp dMod (tCal (lift (S_law_mixed K a)) (fun _ _ _ _ => False) (tCons (tVar 0) (tCons (tOp (dAdd K) (tOp (dAdd K) (tC (.int 300)) (tOp dMul (tC (.int 5)) (tVar 6))) (tVar 8)) tNil))) (tVar 5))) [8]) (gSub (tVar 3) (tVar 6) rSetL)))))
  (tSeq (tIfS (tAnd (tTest (tOp dGt (tVar 1) (tC (.int 0)))) (tTest (tOp (dEq K) (tOp dMod (tCal (lift (S_law_mixed K a)) W (tCons (tVar 0) (tCons (tC (.int 3)) tNil))) (tC (.int 2))) (tC (.int 0))))) (tSeq (tAsg (tOp (rIx K) (tVar 4) (tOp dMod (tCal (lift (S_law_mixed K a)) W (tCons (tVar 0) (tCons (tC (.int 4)) tNil))) (tVar 1))) (gName 9))
  (tSeq (tAsg (tOp (rIx K) (tVar 4) (tOp dMod (tCal (lift (S_law_mixed K a)) W (tCons (tVar 0) (tCons (tC (.int 5)) tNil))) (tVar 1))) (gName 10))
  (tSeq (tAsg (tOp dMod (tCal (lift (S_law_mixed K a)) W (tCons (tVar 0) (tCons (tC (.int 6)) tNil))) (tOp (dAdd K) (tCB (cLen K) (tCons (tOp (rIx K) (tVar 3) (tVar 9)) tNil)) (tC (.int 1)))) (gName 11))
  (tAsg (tOp (dAdd K) (tOp (dAdd K) (tSl (rSl K) (tOp (rIx K) (tVar 3) (tVar 9)) tNoPart (tPart (tVar 11))) (tLst (tCons (tVar 10) tNil))) (tSl (rSl K) (tOp (rIx K) (tVar 3) (tVar 9)) (tPart (tVar 11)) tNoPart)) (gSub (tVar 3) (tVar 9) rSetL))))) tNext)
  (tRet (tVar 3))))))
theorem dv_law_in_line {P : Program} {w : World} {K : PySem.W.Frag} {mg : Str → Option Value} {base : Heap} {a : Ad} (T : Txt K mg a) (G_law_line_up : DefR P w K mg base 2 "_law_line_up" (lift (S_law_line_up K a))) (G_law_mixed : DefR P w K mg base 1 "_law_mixed" (lift (S_law_mixed K a)))
    {f : Addr} {cdv : Value} {A : Around} {outer : List Env} {s : Shared} {H : Hp} {E : XK} (hr : Room 2 (A.deeper (PyProof.Rows.envOfC "_law_in_line" (defScope s_law_in_line) s.heap.objs.size f cdv))) :
    PSs (cxOf (L2.CX P w) P w K mg base ["_law_script", "_law_many", "_law_k", "_law_found", "_law_line", "_law_at", "_law_place", "_law_size", "_law_j", "_law_one", "_law_other", "_law_spot"] "_law_in_line" (defScope s_law_in_line) f cdv A outer s H E) (defBody s_law_in_line) (t_law_in_line K a fun c d _ H => E c d H) := by
  have tk : Takes (cxOf (L2.CX P w) P w K mg base ["_law_script", "_law_many", "_law_k", "_law_found", "_law_line", "_law_at", "_law_place", "_law_size", "_law_j", "_law_one", "_law_other", "_law_spot"] "_law_in_line" (defScope s_law_in_line) f cdv A outer s H E) (fun c d _ H => E c d H) := takes_of rfl rfl rfl rfl
  have po : PassesOwn (model P w) (A.deeper (PyProof.Rows.envOfC "_law_in_line" (defScope s_law_in_line) s.heap.objs.size f cdv)) (PyProof.Rows.envOfC "_law_in_line" (defScope s_law_in_line) s.heap.objs.size f cdv) (cxOf (L2.CX P w) P w K mg base ["_law_script", "_law_many", "_law_k", "_law_found", "_law_line", "_law_at", "_law_place", "_law_size", "_law_j", "_law_one", "_law_other", "_law_spot"] "_law_in_line" (defScope s_law_in_line) f cdv A outer s H E).xe := passes_of (X := cxOf (L2.CX P w) P w K mg base ["_law_script", "_law_many", "_law_k", "_law_found", "_law_line", "_law_at", "_law_place", "_law_size", "_law_j", "_law_one", "_law_other", "_law_spot"] "_law_in_line" (defScope s_law_in_line) f cdv A outer s H E) rfl
  exact (pss_cons (ps_setLc (i := 3) (own := [("_law_k", 2)]) rfl sc_law_in_line.nd rfl rfl (sw_true rfl rfl rfl (by decide +kernel)) (pi_range1 rfl T.b_range (pa_cons (pv 1) pa_nil)) (blkOk_by (own := [("_law_k", 2)]) (by kernel_rfl)) (fun _ _ _ _ _ => (pg_name (i := 2) sc_law_in_line.nd rfl (by first | exact Or.inl rfl | exact Or.inr rfl))) (fun _ _ _ _ _ => pts_nil) (fun _ _ _ _ _ => (pe_lst pa_nil)))
  (pss_cons (ps_set (i := 4) sc_law_in_line.nd rfl (by first | exact Or.inl rfl | exact Or.inr rfl) (pe_own G_law_line_up (hr.mono (by decide)) rfl tk (pa_cons (pv 0) (pa_cons (pv 1) pa_nil))))
  (pss_cons (ps_for po rfl (pi_enum (by rfl) T.b_enumerate (pa_cons (pv 4) pa_nil)) (pg_tup rfl (pgs_cons (pg_name (i := 5) sc_law_in_line.nd rfl (by first | exact Or.inl rfl | exact Or.inr rfl)) (pgs_cons (pg_name (i := 6) sc_law_in_line.nd rfl (by first | exact Or.inl rfl | exact Or.inr rfl)) pgs_nil))) (pss_cons (ps_set (i := 7) sc_law_in_line.nd rfl (by first | exact Or.inl rfl | exact Or.inr rfl) (pe_ifExp (pt_cmpR op_dGt (pv 5) pe_int (nomark _)) (pe_op op_dMod (pe_own G_law_mixed (hr.mono (by decide)) rfl tk (pa_cons (pv 0) (pa_cons (pe_op op_dAdd pe_int (pv 6)) pa_nil))) pe_int) pe_int))
  (pss_cons (ps_if (pt_cmpR op_dGt (pv 1) pe_int (nomark _)) (pss_one (ps_set (i := 7) sc_law_in_line.nd rfl (by first | exact Or.inl rfl | exact Or.inr rfl) (pe_op op_dDiv (pv 7) pe_int))) pss_nil)
  (pss_one (ps_asg (pe_lc (own := [("_law_j", 8)]) rfl sc_law_in_line.nd (pi_range1 rfl T.b_range (pa_cons (pv 7) pa_nil)) (blkOk_by (own := [("_law_j", 8)]) (by kernel_rfl)) (fun _ _ _ _ _ => (pg_name (i := 8) sc_law_in_line.nd rfl (by first | exact Or.inl rfl | exact Or.inr rfl))) (fun _ _ _ _ _ => pts_nil) (fun _ _ _ _ _ => (pe_ix ix_seq (pv 4) (pe_op op_dMod (pe_own G_law_mixed (hr.mono (by decide)) rfl takes0 (pa_cons (pv 0) (pa_cons (pe_op op_dAdd (pe_op op_dAdd pe_int (pe_op op_dMul pe_int (pv 6))) (pv 8)) pa_nil))) (pv 5)) (fun _ _ => rfl)))) (pg_sub (pv 3) (pv 6) set_list))))))
  (pss_cons (ps_if (PW.pt (pw_and (pt_cmpR op_dGt (pv 1) pe_int (nomark _)) (pw_and1 (pt_cmpR (op_dEq hr) (pe_op op_dMod (pe_own G_law_mixed (hr.mono (by decide)) rfl tk (pa_cons (pv 0) (pa_cons pe_int pa_nil))) pe_int) pe_int (nomark _))))) (pss_cons (ps_set (i := 9) sc_law_in_line.nd rfl (by first | exact Or.inl rfl | exact Or.inr rfl) (pe_ix ix_seq (pv 4) (pe_op op_dMod (pe_own G_law_mixed (hr.mono (by decide)) rfl tk (pa_cons (pv 0) (pa_cons pe_int pa_nil))) (pv 1)) (fun _ _ => rfl)))
  (pss_cons (ps_set (i := 10) sc_law_in_line.nd rfl (by first | exact Or.inl rfl | exact Or.inr rfl) (pe_ix ix_seq (pv 4) (pe_op op_dMod (pe_own G_law_mixed (hr.mono (by decide)) rfl tk (pa_cons (pv 0) (pa_cons pe_int pa_nil))) (pv 1)) (fun _ _ => rfl)))
  (pss_cons (ps_set (i := 11) sc_law_in_line.nd rfl (by first | exact Or.inl rfl | exact Or.inr rfl) (pe_op op_dMod (pe_own G_law_mixed (hr.mono (by decide)) rfl tk (pa_cons (pv 0) (pa_cons pe_int pa_nil))) (pe_op op_dAdd (pe_callB call_cLen (by rfl) T.b_len (by decide +kernel) (pa_cons (pe_ix ix_seq (pv 3) (pv 9) (fun _ _ => rfl)) pa_nil)) pe_int)))
  (pss_one (ps_asg (pe_op op_dAdd (pe_op op_dAdd (pe_slice sl_any (pe_ix ix_seq (pv 3) (pv 9) (fun _ _ => rfl)) po_none (po_some (pv 11))) (pe_lst (pa_cons (pv 10) pa_nil))) (pe_slice sl_any (pe_ix ix_seq (pv 3) (pv 9) (fun _ _ => rfl)) (po_some (pv 11)) po_none)) (pg_sub (pv 3) (pv 9) set_list)))))) pss_nil)
  (pss_one (ps_ret (pv 3)))))))
theorem sc_law_needs : FnScope ["_law_script", "_law_many"] ["_law_script"] (defScope s_law_needs) := ⟨rfl, rfl, rfl, by decide +kernel, rfl, by decide +kernel, by decide +kernel⟩
def t_law_needs (K : PySem.W.Frag) (a : Ad) (W : WX) : TS :=
  (tSeq (tAsg (tIf (tTest (tOp (dEq K) (tOp dMod (tCal (lift (S_law_mixed K a)) W (tCons (tVar 0) (tCons (tC (.int 1)) tNil))) (tC (.int 6))) (tC (.int 0)))) (tC (.int 40)) (tOp dMod (tCal (lift (S_law_mixed K a)) W (tCons (tVar 0) (tCons (tC (.int 2)) tNil))) (tC (.int 10)))) (gName 1))
  (tSeq (tIfS (tTest (tOp (dEq K) (tOp dMod (tCal (lift (S_law_mixed K a)) W (tCons (tVar 0) (tCons (tC (.int 7)) tNil))) (tC (.int 3))) (tC (.int 0)))) (tRet (tCal (lift (S_law_freely K a)) W (tCons (tVar 0) (tCons (tVar 1) tNil)))) tNext)
  (tRet (tCal (lift (S_law_in_line K a)) W (tCons (tVar 0) (tCons (tVar 1) tNil))))))
theorem dv_law_needs {P : Program} {w : World} {K : PySem.W.Frag} {mg : Str → Option Value} {base : Heap} {a : Ad} (T : Txt K mg a) (G_law_freely : DefR P w K mg base 2 "_law_freely" (lift (S_law_freely K a))) (G_law_in_line : DefR P w K mg base 3 "_law_in_line" (lift (S_law_in_line K a))) (G_law_mixed : DefR P w K mg base 1 "_law_mixed" (lift (S_law_mixed K a)))
    {f : Addr} {cdv : Value} {A : Around} {outer : List Env} {s : Shared} {H : Hp} {E : XK} (hr : Room 3 (A.deeper (PyProof.Rows.envOfC "_law_needs" (defScope s_law_needs) s.heap.objs.size f cdv))) :
    PSs (cxOf (L2.CX P w) P w K mg base ["_law_script", "_law_many"] "_law_needs" (defScope s_law_needs) f cdv A outer s H E) (defBody s_law_needs) (t_law_needs K a fun c d _ H => E c d H) := by
  have tk : Takes (cxOf (L2.CX P w) P w K mg base ["_law_script", "_law_many"] "_law_needs" (defScope s_law_needs) f cdv A outer s H E) (fun c d _ H => E c d H) := takes_of rfl rfl rfl rfl
  have po : PassesOwn (model P w) (A.deeper (PyProof.Rows.envOfC "_law_needs" (defScope s_law_needs) s.heap.objs.size f cdv)) (PyProof.Rows.envOfC "_law_needs" (defScope s_law_needs) s.heap.objs.size f cdv) (cxOf (L2.CX P w) P w K mg base ["_law_script", "_law_many"] "_law_needs" (defScope s_law_needs) f cdv A outer s H E).xe := passes_of (X := cxOf (L2.CX P w) P w K mg base ["_law_script", "_law_many"] "_law_needs" (defScope s_law_needs) f cdv A outer s H E) rfl
  exact (pss_cons (ps_set (i := 1) sc_law_needs.nd rfl (by first | exact Or.inl rfl | exact Or.inr rfl) (pe_ifExp (pt_cmpR (op_dEq hr) (pe_op op_dMod (pe_own G_law_mixed (hr.mono (by decide)) rfl tk (pa_cons (pv 0) (pa_cons pe_int pa_nil))) pe_int) pe_int (nomark _)) pe_int (pe_op op_dMod (pe_own G_law_mixed (hr.mono (by decide)) rfl tk (pa_cons (pv 0) (pa_cons pe_int pa_nil))) pe_int)))
  (pss_cons (ps_if (pt_cmpR (op_dEq hr) (pe_op op_dMod (pe_own G_law_mixed (hr.mono (by decide)) rfl tk (pa_cons (pv 0) (pa_cons pe_int pa_nil))) pe_int) pe_int (nomark _)) (pss_one (ps_ret (pe_own G_law_freely (hr.mono (by decide)) rfl tk (pa_cons (pv 0) (pa_cons (pv 1) pa_nil))))) pss_nil)
  (pss_one (ps_ret (pe_own G_law_in_line (hr.mono (by decide)) rfl tk (pa_cons (pv 0) (pa_cons (pv 1) pa_nil)))))))
theorem sc_law_copied : FnScope ["_law_needs_here", "_law_row"] ["_law_needs_here"] (defScope s_law_copied) := ⟨rfl, rfl, rfl, by decide +kernel, rfl, by decide +kernel, by decide +kernel⟩
def t_law_copied (K : PySem.W.Frag) (a : Ad) (W : WX) : TS :=
  (tRet (tLc (iList K (tVar 0)) (gName 1) tYes (tCB (cList K) (tCons (tVar 1) tNil)) [1]))
theorem dv_law_copied {P : Program} {w : World} {K : PySem.W.Frag} {mg : Str → Option Value} {base : Heap} {a : Ad} (T : Txt K mg a) 
    {f : Addr} {cdv : Value} {A : Around} {outer : List Env} {s : Shared} {H : Hp} {E : XK} (hr : Room 0 (A.deeper (PyProof.Rows.envOfC "_law_copied" (defScope s_law_copied) s.heap.objs.size f cdv))) :
    PSs (cxOf (L2.CX P w) P w K mg base ["_law_needs_here", "_law_row"] "_law_copied" (defScope s_law_copied) f cdv A outer s H E) (defBody s_law_copied) (t_law_copied K a fun c d _ H => E c d H) := by
  have tk : Takes (cxOf (L2.CX P w) P w K mg base ["_law_needs_here", "_law_row"] "_law_copied" (defScope s_law_copied) f cdv A outer s H E) (fun c d _ H => E c d H) := takes_of rfl rfl rfl rfl
  have po : PassesOwn (model P w) (A.deeper (PyProof.Rows.envOfC "_law_copied" (defScope s_law_copied) s.heap.objs.size f cdv)) (PyProof.Rows.envOfC "_law_copied" (defScope s_law_copied) s.heap.objs.size f cdv) (cxOf (L2.CX P w) P w K mg base ["_law_needs_here", "_law_row"] "_law_copied" (defScope s_law_copied) f cdv A outer s H E).xe := passes_of (X := cxOf (L2.CX P w) P w K mg base ["_law_needs_here", "_law_row"] "_law_copied" (defScope s_law_copied) f cdv A outer s H E) rfl
  exact (pss_one (ps_ret (pe_lc (own := [("_law_row", 1)]) rfl sc_law_copied.nd (pi_list (pv 0)) (blkOk_by (own := [("_law_row", 1)]) (by kernel_rfl)) (fun _ _ _ _ _ => (pg_name (i := 1) sc_law_copied.nd rfl (by first | exact Or.inl rfl | exact Or.inr rfl))) (fun _ _ _ _ _ => pts_nil) (fun _ _ _ _ _ => (pe_callTy (call_cList rfl) (by rfl) T.b_list (by decide +kernel) (pa_cons (pv 1) pa_nil))))))
theorem sc_law_can_end : FnScope ["_law_needs_here", "_law_left", "_law_place", "_law_gone", "_law_other", "_law_some"] ["_law_needs_here"] (defScope s_law_can_end) := ⟨rfl, rfl, rfl, by decide +kernel, rfl, by decide +kernel, by decide +kernel⟩
def t_law_can_end (K : PySem.W.Frag) (a : Ad) (W : WX) : TS :=
  (tSeq (tAsg tDNewK (gName 1))
  (tSeq (tFor (iRng1 (tCons (tCB (cLen K) (tCons (tVar 0) tNil)) tNil)) (gName 2) (sDPut (tVar 1) (tVar 2) (tC (.bl true))))
  (tSeq (tAsg (tC (.bl true)) (gName 3))
  (tSeq (tWhile (tB (tVar 3)) (tSeq (tAsg (tLc (iList K (tCB (cList K) (tCons (tVar 1) tNil))) (gName 2) (tTest (tOp (dEq K) (tLc (iList K (tOp (rIx K) (tVar 0) (tVar 2))) (gName 4) (tB (tDIn (tVar 4) (tVar 1))) (tVar 4) [4]) (tLst tNil))) (tVar 2) [2]) (gName 5))
  (tSeq (tFor (iList K (tVar 5)) (gName 2) (tDrop (tDPop1 (tVar 1) (tVar 2))))
  (tAsg (tOp (dNe K) (tVar 5) (tLst tNil)) (gName 3)))))
  (tRet (tOp (dEq K) (tCB (cLen K) (tCons (tVar 1) tNil)) (tC (.int 0))))))))
theorem dv_law_can_end {P : Program} {w : World} {K : PySem.W.Frag} {mg : Str → Option Value} {base : Heap} {a : Ad} (T : Txt K mg a) 
    {f : Addr} {cdv : Value} {A : Around} {outer : List Env} {s : Shared} {H : Hp} {E : XK} (hr : Room 0 (A.deeper (PyProof.Rows.envOfC "_law_can_end" (defScope s_law_can_end) s.heap.objs.size f cdv))) :
    PSs (cxOf (L2.CX P w) P w K mg base ["_law_needs_here", "_law_left", "_law_place", "_law_gone", "_law_other", "_law_some"] "_law_can_end" (defScope s_law_can_end) f cdv A outer s H E) (defBody s_law_can_end) (t_law_can_end K a fun c d _ H => E c d H) := by
  have tk : Takes (cxOf (L2.CX P w) P w K mg base ["_law_needs_here", "_law_left", "_law_place", "_law_gone", "_law_other", "_law_some"] "_law_can_end" (defScope s_law_can_end) f cdv A outer s H E) (fun c d _ H => E c d H) := takes_of rfl rfl rfl rfl
  have po : PassesOwn (model P w) (A.deeper (PyProof.Rows.envOfC "_law_can_end" (defScope s_law_can_end) s.heap.objs.size f cdv)) (PyProof.Rows.envOfC "_law_can_end" (defScope s_law_can_end) s.heap.objs.size f cdv) (cxOf (L2.CX P w) P w K mg base ["_law_needs_here", "_law_left", "_law_place", "_law_gone", "_law_other", "_law_some"] "_law_can_end" (defScope s_law_can_end) f cdv A outer s H E).xe := passes_of (X := cxOf (L2.CX P w) P w K mg base ["_law_needs_here", "_law_left", "_law_place", "_law_gone", "_law_other", "_law_some"] "_law_can_end" (defScope s_law_can_end) f cdv A outer s H E) rfl
  exact (pss_cons (ps_set (i := 1) sc_law_can_end.nd rfl (by first | exact Or.inl rfl | exact Or.inr rfl) pe_dnewK)
  (pss_cons (ps_for po rfl (pi_range1 rfl T.b_range (pa_cons (pe_callB call_cLen (by rfl) T.b_len (by decide +kernel) (pa_cons (pv 0) pa_nil)) pa_nil)) (pg_name (i := 2) sc_law_can_end.nd rfl (by first | exact Or.inl rfl | exact Or.inr rfl)) (pss_one (ps_dput (hu_of hr) (pv 1) (pv 2) pe_bl rfl)))
  (pss_cons (ps_set (i := 3) sc_law_can_end.nd rfl (by first | exact Or.inl rfl | exact Or.inr rfl) pe_bl)
  (pss_cons (ps_while po (pt_val (pv 3)) (pss_cons (ps_setLc (i := 5) (own := [("_law_place", 2)]) rfl sc_law_can_end.nd rfl rfl (sw_true rfl rfl rfl (by decide +kernel)) (pi_list (pe_callTy (call_cList rfl) (by rfl) T.b_list (by decide +kernel) (pa_cons (pv 1) pa_nil))) (blkOk_by (own := [("_law_place", 2)]) (by kernel_rfl)) (fun _ _ _ _ _ => (pg_name (i := 2) sc_law_can_end.nd rfl (by first | exact Or.inl rfl | exact Or.inr rfl))) (fun _ _ _ _ _ => (pts_one (pt_cmpR (op_dEq hr) (pe_lc (own := [("_law_other", 4)]) rfl sc_law_can_end.nd (pi_list (pe_ix ix_seq (pv 0) (pv 2) (fun _ _ => rfl))) (blkOk_by (own := [("_law_other", 4)]) (by kernel_rfl)) (fun _ _ _ _ _ => (pg_name (i := 4) sc_law_can_end.nd rfl (by first | exact Or.inl rfl | exact Or.inr rfl))) (fun _ _ _ _ _ => (pts_one (pt_cmp (pc_din (hu_of hr) (pv 4) (pv 1))))) (fun _ _ _ _ _ => (pv 4))) (pe_lst pa_nil) (nomark _)))) (fun _ _ _ _ _ => (pv 2)))
  (pss_cons (ps_for po rfl (pi_list (pv 5)) (pg_name (i := 2) sc_law_can_end.nd rfl (by first | exact Or.inl rfl | exact Or.inr rfl)) (pss_one (ps_expr (pe_dpop1 (pv 1) (pv 2) ⟨rfl, rfl, rfl, rfl⟩))))
  (pss_one (ps_set (i := 3) sc_law_can_end.nd rfl (by first | exact Or.inl rfl | exact Or.inr rfl) (pe_cmpR (op_dNe hr) (pv 5) (pe_lst pa_nil) (nomark _)))))))
  (pss_one (ps_ret (pe_cmpR (op_dEq hr) (pe_callB call_cLen (by rfl) T.b_len (by decide +kernel) (pa_cons (pv 1) pa_nil)) pe_int (nomark _))))))))
theorem sc_law_whole : FnScope ["_law_found"] ["_law_found"] (defScope s_law_whole) := ⟨rfl, rfl, rfl, by decide +kernel, rfl, by decide +kernel, by decide +kernel⟩
def t_law_whole (K : PySem.W.Frag) (a : Ad) (W : WX) : TS :=
  (tRet (tAndV (tCB (rIsi K) (tCons (tVar 0) (tCons (tC (.ty "int")) tNil))) (tNotV (tCB (rIsi K) (tCons (tVar 0) (tCons (tC (.ty "bool")) tNil))))))
theorem dv_law_whole {P : Program} {w : World} {K : PySem.W.Frag} {mg : Str → Option Value} {base : Heap} {a : Ad} (T : Txt K mg a) 
    {f : Addr} {cdv : Value} {A : Around} {outer : List Env} {s : Shared} {H : Hp} {E : XK} (hr : Room 0 (A.deeper (PyProof.Rows.envOfC "_law_whole" (defScope s_law_whole) s.heap.objs.size f cdv))) :
    PSs (cxOf (L2.CX P w) P w K mg base ["_law_found"] "_law_whole" (defScope s_law_whole) f cdv A outer s H E) (defBody s_law_whole) (t_law_whole K a fun c d _ H => E c d H) := by
  have tk : Takes (cxOf (L2.CX P w) P w K mg base ["_law_found"] "_law_whole" (defScope s_law_whole) f cdv A outer s H E) (fun c d _ H => E c d H) := takes_of rfl rfl rfl rfl
  have po : PassesOwn (model P w) (A.deeper (PyProof.Rows.envOfC "_law_whole" (defScope s_law_whole) s.heap.objs.size f cdv)) (PyProof.Rows.envOfC "_law_whole" (defScope s_law_whole) s.heap.objs.size f cdv) (cxOf (L2.CX P w) P w K mg base ["_law_found"] "_law_whole" (defScope s_law_whole) f cdv A outer s H E).xe := passes_of (X := cxOf (L2.CX P w) P w K mg base ["_law_found"] "_law_whole" (defScope s_law_whole) f cdv A outer s H E) rfl
  exact (pss_one (ps_ret (pe_and (pe_callB call_isi (by rfl) T.b_isinstance (by decide +kernel) (pa_cons (pv 0) (pa_cons (pe_bltn (v := .ty "int") (by rfl) T.b_int (by decide +kernel) rfl) pa_nil))) (pe_one (pe_not (pe_callB call_isi (by rfl) T.b_isinstance (by decide +kernel) (pa_cons (pv 0) (pa_cons (pe_bltn (v := .ty "bool") (by rfl) T.b_bool (by decide +kernel) rfl) pa_nil))))))))
theorem sc_law_is_least : FnScope ["_law_found", "_law_needs_here", "_law_one", "_law_row", "_law_lacking", "_law_stands", "_law_place", "_law_less", "_law_other"] ["_law_found", "_law_needs_here"] (defScope s_law_is_least) := ⟨rfl, rfl, rfl, by decide +kernel, rfl, by decide +kernel, by decide +kernel⟩
def t_law_is_least (K : PySem.W.Frag) (a : Ad) (W : WX) : TS :=
  (tSeq (tIfS (tOr (tNot (tB (tCB (rIsi K) (tCons (tVar 0) (tCons (tC (.ty "list")) tNil))))) (tOr (tTest (tOp (dNe K) (tCB (cLen K) (tCons (tVar 0) tNil)) (tCB (cLen K) (tCons (tVar 1) tNil)))) (tTest (tOp (dNe K) (tLc (iList K (tVar 0)) (gName 2) (tNot (tB (tCal (lift (S_law_whole K a)) (fun _ _ _ _ => False) (tCons (tVar 2) tNil)))) (tVar 2) [2]) (tLst tNil))))) (tRet (tC (.bl false))) tNext)
  (tSeq (tAsg (tLc (iList K (tVar 1)) (gName 3) tYes (tLenS K (tVar 3)) [3]) (gName 4))
  (tSeq (tAsg (tLc (iList K (tVar 1)) (gName 3) tYes (tC (.bl false)) [3]) (gName 5))
  (tSeq (tFor (iList K (tVar 0)) (gName 6) (tSeq (tIfS (tOr (tNot (tTest (tChain dLe (dLt K) (tC (.int 0)) (tVar 6) (tCB (cLen K) (tCons (tVar 1) tNil))))) (tOr (tB (tOp (rIx K) (tVar 5) (tVar 6))) (tTest (tOp dGt (tOp (rIx K) (tVar 4) (tVar 6)) (tC (.int 0)))))) (tRet (tC (.bl false))) tNext)
  (tSeq (tFor (iRng1 (tCons (tVar 6) tNil)) (gName 7) (tIfS (tAnd (tNot (tB (tOp (rIx K) (tVar 5) (tVar 7)))) (tTest (tOp (dEq K) (tOp (rIx K) (tVar 4) (tVar 7)) (tC (.int 0))))) (tRet (tC (.bl false))) tNext))
  (tSeq (tAsg (tC (.bl true)) (gSub (tVar 5) (tVar 6) rSetL))
  (tFor (iEnum K (tCons (tVar 1) tNil)) (gTup K 2 (gCons (gName 8) (gCons (gName 3) gNil))) (tIfS (tTest (tOp (dIn K false) (tVar 6) (tVar 3))) (tAsg (tOp dSub (tOp (rIx K) (tVar 4) (tVar 8)) (tC (.int 1))) (gSub (tVar 4) (tVar 8) rSetL)) tNext))))))
  (tRet (tC (.bl true)))))))
theorem dv_law_is_least {P : Program} {w : World} {K : PySem.W.Frag} {mg : Str → Option Value} {base : Heap} {a : Ad} (T : Txt K mg a) (G_law_whole : DefR P w K mg base 1 "_law_whole" (lift (S_law_whole K a)))
    {f : Addr} {cdv : Value} {A : Around} {outer : List Env} {s : Shared} {H : Hp} {E : XK} (hr : Room 1 (A.deeper (PyProof.Rows.envOfC "_law_is_least" (defScope s_law_is_least) s.heap.objs.size f cdv))) :
    PSs (cxOf (L2.CX P w) P w K mg base ["_law_found", "_law_needs_here", "_law_one", "_law_row", "_law_lacking", "_law_stands", "_law_place", "_law_less", "_law_other"] "_law_is_least" (defScope s_law_is_least) f cdv A outer s H E) (defBody s_law_is_least) (t_law_is_least K a fun c d _ H => E c d H) := by
  have tk : Takes (cxOf (L2.CX P w) P w K mg base ["_law_found", "_law_needs_here", "_law_one", "_law_row", "_law_lacking", "_law_stands", "_law_place", "_law_less", "_law_other"] "_law_is_least" (defScope s_law_is_least) f cdv A outer s H E) (fun c d _ H => E c d H) := takes_of rfl rfl rfl rfl
  have po : PassesOwn (model P w) (A.deeper (PyProof.Rows.envOfC "_law_is_least" (defScope s_law_is_least) s.heap.objs.size f cdv)) (PyProof.Rows.envOfC "_law_is_least" (defScope s_law_is_least) s.heap.objs.size f cdv) (cxOf (L2.CX P w) P w K mg base ["_law_found", "_law_needs_here", "_law_one", "_law_row", "_law_lacking", "_law_stands", "_law_place", "_law_less", "_law_other"] "_law_is_least" (defScope s_law_is_least) f cdv A outer s H E).xe := passes_of (X := cxOf (L2.CX P w) P w K mg base ["_law_found", "_law_needs_here", "_law_one", "_law_row", "_law_lacking", "_law_stands", "_law_place", "_law_less", "_law_other"] "_law_is_least" (defScope s_law_is_least) f cdv A outer s H E) rfl
  exact (pss_cons (ps_if (PW.pt (pw_or (pt_not (pt_val (pe_callB call_isi (by rfl) T.b_isinstance (by decide +kernel) (pa_cons (pv 0) (pa_cons (pe_bltn (v := .ty "list") (by rfl) T.b_list (by decide +kernel) rfl) pa_nil))))) (pw_or (pt_cmpR (op_dNe hr) (pe_callB call_cLen (by rfl) T.b_len (by decide +kernel) (pa_cons (pv 0) pa_nil)) (pe_callB call_cLen (by rfl) T.b_len (by decide +kernel) (pa_cons (pv 1) pa_nil)) (nomark _)) (pw_or1 (pt_cmpR (op_dNe hr) (pe_lc (own := [("_law_one", 2)]) rfl sc_law_is_least.nd (pi_list (pv 0)) (blkOk_by (own := [("_law_one", 2)]) (by kernel_rfl)) (fun _ _ _ _ _ => (pg_name (i := 2) sc_law_is_least.nd rfl (by first | exact Or.inl rfl | exact Or.inr rfl))) (fun _ _ _ _ _ => (pts_one (pt_not (pt_val (pe_own G_law_whole (hr.mono (by decide)) rfl takes0 (pa_cons (pv 2) pa_nil)))))) (fun _ _ _ _ _ => (pv 2))) (pe_lst pa_nil) (nomark _)))))) (pss_one (ps_ret pe_bl)) pss_nil)
  (pss_cons (ps_setLc (i := 4) (own := [("_law_row", 3)]) rfl sc_law_is_least.nd rfl rfl (sw_true rfl rfl rfl (by decide +kernel)) (pi_list (pv 1)) (blkOk_by (own := [("_law_row", 3)]) (by kernel_rfl)) (fun _ _ _ _ _ => (pg_name (i := 3) sc_law_is_least.nd rfl (by first | exact Or.inl rfl | exact Or.inr rfl))) (fun _ _ _ _ _ => pts_nil) (fun _ _ _ _ _ => (pe_lenS rfl (by rfl) T.b_len (by rfl) T.b_set (pv 3))))
  (pss_cons (ps_setLc (i := 5) (own := [("_law_row", 3)]) rfl sc_law_is_least.nd rfl rfl (sw_true rfl rfl rfl (by decide +kernel)) (pi_list (pv 1)) (blkOk_by (own := [("_law_row", 3)]) (by kernel_rfl)) (fun _ _ _ _ _ => (pg_name (i := 3) sc_law_is_least.nd rfl (by first | exact Or.inl rfl | exact Or.inr rfl))) (fun _ _ _ _ _ => pts_nil) (fun _ _ _ _ _ => pe_bl))
  (pss_cons (ps_for po rfl (pi_list (pv 0)) (pg_name (i := 6) sc_law_is_least.nd rfl (by first | exact Or.inl rfl | exact Or.inr rfl)) (pss_cons (ps_if (PW.pt (pw_or (pt_not (pt_chain op_dLe (op_dLt hr) pe_int (pv 6) (pe_callB call_cLen (by rfl) T.b_len (by decide +kernel) (pa_cons (pv 1) pa_nil)))) (pw_or (pt_val (pe_ix ix_seq (pv 5) (pv 6) (fun _ _ => rfl))) (pw_or1 (pt_cmpR op_dGt (pe_ix ix_seq (pv 4) (pv 6) (fun _ _ => rfl)) pe_int (nomark _)))))) (pss_one (ps_ret pe_bl)) pss_nil)
  (pss_cons (ps_for po rfl (pi_range1 rfl T.b_range (pa_cons (pv 6) pa_nil)) (pg_name (i := 7) sc_law_is_least.nd rfl (by first | exact Or.inl rfl | exact Or.inr rfl)) (pss_one (ps_if (PW.pt (pw_and (pt_not (pt_val (pe_ix ix_seq (pv 5) (pv 7) (fun _ _ => rfl)))) (pw_and1 (pt_cmpR (op_dEq hr) (pe_ix ix_seq (pv 4) (pv 7) (fun _ _ => rfl)) pe_int (nomark _))))) (pss_one (ps_ret pe_bl)) pss_nil)))
  (pss_cons (ps_asg pe_bl (pg_sub (pv 5) (pv 6) set_list))
  (pss_one (ps_for po rfl (pi_enum (by rfl) T.b_enumerate (pa_cons (pv 1) pa_nil)) (pg_tup rfl (pgs_cons (pg_name (i := 8) sc_law_is_least.nd rfl (by first | exact Or.inl rfl | exact Or.inr rfl)) (pgs_cons (pg_name (i := 3) sc_law_is_least.nd rfl (by first | exact Or.inl rfl | exact Or.inr rfl)) pgs_nil))) (pss_one (ps_if (pt_cmpR op_dIn (pv 6) (pv 3) (by rfl)) (pss_one (ps_asg (pe_op op_dSub (pe_ix ix_seq (pv 4) (pv 8) (fun _ _ => rfl)) pe_int) (pg_sub (pv 4) (pv 8) set_list))) pss_nil))))))))
  (pss_one (ps_ret pe_bl))))))
theorem sc_law_is_ring : FnScope ["_law_found", "_law_needs_here", "_law_one", "_law_k"] ["_law_found", "_law_needs_here"] (defScope s_law_is_ring) := ⟨rfl, rfl, rfl, by decide +kernel, rfl, by decide +kernel, by decide +kernel⟩
def t_law_is_ring (K : PySem.W.Frag) (a : Ad) (W : WX) : TS :=
  (tSeq (tIfS (tOr (tNot (tB (tCB (rIsi K) (tCons (tVar 0) (tCons (tC (.ty "list")) tNil))))) (tOr (tTest (tOp (dEq K) (tVar 0) (tLst tNil))) (tTest (tOp (dNe K) (tLc (iList K (tVar 0)) (gName 2) (tNot (tB (tCal (lift (S_law_whole K a)) (fun _ _ _ _ => False) (tCons (tVar 2) tNil)))) (tVar 2) [2]) (tLst tNil))))) (tRet (tC (.bl false))) tNext)
  (tSeq (tIfS (tOr (tTest (tOp (dLt K) (tLenS K (tVar 0)) (tCB (cLen K) (tCons (tVar 0) tNil)))) (tOr (tTest (tOp (dLt K) (tCB (rMin K) (tCons (tVar 0) tNil)) (tC (.int 0)))) (tTest (tOp dGe (tCB (rMax K) (tCons (tVar 0) tNil)) (tCB (cLen K) (tCons (tVar 1) tNil)))))) (tRet (tC (.bl false))) tNext)
  (tRet (tOp (dEq K) (tLc (iRng1 (tCons (tCB (cLen K) (tCons (tVar 0) tNil)) tNil)) (gName 3) (tTest (tOp (dIn K true) (tOp (rIx K) (tVar 0) (tOp dMod (tOp (dAdd K) (tVar 3) (tC (.int 1))) (tCB (cLen K) (tCons (tVar 0) tNil)))) (tOp (rIx K) (tVar 1) (tOp (rIx K) (tVar 0) (tVar 3))))) (tVar 3) [3]) (tLst tNil)))))
theorem dv_law_is_ring {P : Program} {w : World} {K : PySem.W.Frag} {mg : Str → Option Value} {base : Heap} {a : Ad} (T : Txt K mg a) (G_law_whole : DefR P w K mg base 1 "_law_whole" (lift (S_law_whole K a)))
    {f : Addr} {cdv : Value} {A : Around} {outer : List Env} {s : Shared} {H : Hp} {E : XK} (hr : Room 1 (A.deeper (PyProof.Rows.envOfC "_law_is_ring" (defScope s_law_is_ring) s.heap.objs.size f cdv))) :
    PSs (cxOf (L2.CX P w) P w K mg base ["_law_found", "_law_needs_here", "_law_one", "_law_k"] "_law_is_ring" (defScope s_law_is_ring) f cdv A outer s H E) (defBody s_law_is_ring) (t_law_is_ring K a fun c d _ H => E c d H) := by
  have tk : Takes (cxOf (L2.CX P w) P w K mg base ["_law_found", "_law_needs_here", "_law_one", "_law_k"] "_law_is_ring" (defScope s_law_is_ring) f cdv A outer s H E) (fun c d _ H => E c d H) := takes_of rfl rfl rfl rfl
  have po : PassesOwn (model P w) (A.deeper (PyProof.Rows.envOfC "_law_is_ring" (defScope s_law_is_ring) s.heap.objs.size f cdv)) (PyProof.Rows.envOfC "_law_is_ring" (defScope s_law_is_ring) s.heap.objs.size f cdv) (cxOf (L2.CX P w) P w K mg base ["_law_found", "_law_needs_here", "_law_one", "_law_k"] "_law_is_ring" (defScope s_law_is_ring) f cdv A outer s H E).xe := passes_of (X := cxOf (L2.CX P w) P w K mg base ["_law_found", "_law_needs_here", "_law_one", "_law_k"] "_law_is_ring" (defScope s_law_is_ring) f cdv A outer s H E) rfl
  exact (pss_cons (ps_if (PW.pt (pw_or (pt_not (pt_val (pe_callB call_isi (by rfl) T.b_isinstance (by decide +kernel) (pa_cons (pv 0) (pa_cons (pe_bltn (v := .ty "list") (by rfl) T.b_list (by decide +kernel) rfl) pa_nil))))) (pw_or (pt_cmpR (op_dEq hr) (pv 0) (pe_lst pa_nil) (nomark _)) (pw_or1 (pt_cmpR (op_dNe hr) (pe_lc (own := [("_law_one", 2)]) rfl sc_law_is_ring.nd (pi_list (pv 0)) (blkOk_by (own := [("_law_one", 2)]) (by kernel_rfl)) (fun _ _ _ _ _ => (pg_name (i := 2) sc_law_is_ring.nd rfl (by first | exact Or.inl rfl | exact Or.inr rfl))) (fun _ _ _ _ _ => (pts_one (pt_not (pt_val (pe_own G_law_whole (hr.mono (by decide)) rfl takes0 (pa_cons (pv 2) pa_nil)))))) (fun _ _ _ _ _ => (pv 2))) (pe_lst pa_nil) (nomark _)))))) (pss_one (ps_ret pe_bl)) pss_nil)
  (pss_cons (ps_if (PW.pt (pw_or (pt_cmpR (op_dLt hr) (pe_lenS rfl (by rfl) T.b_len (by rfl) T.b_set (pv 0)) (pe_callB call_cLen (by rfl) T.b_len (by decide +kernel) (pa_cons (pv 0) pa_nil)) (nomark _)) (pw_or (pt_cmpR (op_dLt hr) (pe_callB (cr_min rfl) (by rfl) T.b_min (by decide +kernel) (pa_cons (pv 0) pa_nil)) pe_int (nomark _)) (pw_or1 (pt_cmpR op_dGe (pe_callB (cr_max rfl) (by rfl) T.b_max (by decide +kernel) (pa_cons (pv 0) pa_nil)) (pe_callB call_cLen (by rfl) T.b_len (by decide +kernel) (pa_cons (pv 1) pa_nil)) (nomark _)))))) (pss_one (ps_ret pe_bl)) pss_nil)
  (pss_one (ps_ret (pe_cmpR (op_dEq hr) (pe_lc (own := [("_law_k", 3)]) rfl sc_law_is_ring.nd (pi_range1 rfl T.b_range (pa_cons (pe_callB call_cLen (by rfl) T.b_len (by decide +kernel) (pa_cons (pv 0) pa_nil)) pa_nil)) (blkOk_by (own := [("_law_k", 3)]) (by kernel_rfl)) (fun _ _ _ _ _ => (pg_name (i := 3) sc_law_is_ring.nd rfl (by first | exact Or.inl rfl | exact Or.inr rfl))) (fun _ _ _ _ _ => (pts_one (pt_cmpR op_dNotIn (pe_ix ix_seq (pv 0) (pe_op op_dMod (pe_op op_dAdd (pv 3) pe_int) (pe_callB call_cLen (by rfl) T.b_len (by decide +kernel) (pa_cons (pv 0) pa_nil))) (fun _ _ => rfl)) (pe_ix ix_seq (pv 1) (pe_ix ix_seq (pv 0) (pv 3) (fun _ _ => rfl)) (fun _ _ => rfl)) (by rfl)))) (fun _ _ _ _ _ => (pv 3))) (pe_lst pa_nil) (nomark _))))))
theorem sc_law_orders : FnScope ["_law_needs_here", "_law_ends", "_law_handed", "_law_one", "_law_kept", "_law_other"] ["_law_needs_here", "_law_ends"] (defScope s_law_orders) := ⟨rfl, rfl, rfl, by decide +kernel, rfl, by decide +kernel, by decide +kernel⟩
def t_law_orders (K : PySem.W.Frag) (a : Ad) (W : WX) : TS :=
  (tSeq (tAsg (tCal (lift (S_law_copied K a)) W (tCons (tVar 0) tNil)) (gName 2))
  (tSeq (tAsg (tCal (lift (S_order_of K a)) W (tCons (tVar 2) tNil)) (gName 3))
  (tSeq (tIfS (tNot (tB (tVar 1))) (tRet (tAndV (tOp (dIs false) (tVar 3) (tC .non)) (tOp (dEq K) (tVar 2) (tVar 0)))) tNext)
  (tSeq (tIfS (tNot (tB (tCal (lift (S_law_is_least K a)) W (tCons (tVar 3) (tCons (tVar 0) tNil))))) (tRet (tC (.bl false))) tNext)
  (tSeq (tAsg (tCB (cList K) (tCons (tVar 3) tNil)) (gName 4))
  (tSeq (tDrop (tBM K "list" rAppend (tVar 3) (tCons (tC (.int 0)) tNil)))
  (tSeq (tDrop (tBM0 K "list" rReverse (tVar 3)))
  (tSeq (tAsg (tCal (lift (S_order_of K a)) W (tCons (tVar 2) tNil)) (gName 5))
  (tSeq (tDrop (tBM0 K "list" rClear (tVar 2)))
  (tRet (tAndV (tOp (dEq K) (tVar 5) (tVar 4)) (tOp (dEq K) (tCal (lift (S_order_of K a)) W (tCons (tVar 2) tNil)) (tLst tNil)))))))))))))
theorem dv_law_orders {P : Program} {w : World} {K : PySem.W.Frag} {mg : Str → Option Value} {base : Heap} {a : Ad} (T : Txt K mg a) (G_law_copied : DefR P w K mg base 1 "_law_copied" (lift (S_law_copied K a))) (G_law_is_least : DefR P w K mg base 2 "_law_is_least" (lift (S_law_is_least K a))) (G_order_of : DefR P w K mg base 4 "order_of" (lift (S_order_of K a)))
    {f : Addr} {cdv : Value} {A : Around} {outer : List Env} {s : Shared} {H : Hp} {E : XK} (hr : Room 4 (A.deeper (PyProof.Rows.envOfC "_law_orders" (defScope s_law_orders) s.heap.objs.size f cdv))) :
    PSs (cxOf (L2.CX P w) P w K mg base ["_law_needs_here", "_law_ends", "_law_handed", "_law_one", "_law_kept", "_law_other"] "_law_orders" (defScope s_law_orders) f cdv A outer s H E) (defBody s_law_orders) (t_law_orders K a fun c d _ H => E c d H) := by
  have tk : Takes (cxOf (L2.CX P w) P w K mg base ["_law_needs_here", "_law_ends", "_law_handed", "_law_one", "_law_kept", "_law_other"] "_law_orders" (defScope s_law_orders) f cdv A outer s H E) (fun c d _ H => E c d H) := takes_of rfl rfl rfl rfl
  have po : PassesOwn (model P w) (A.deeper (PyProof.Rows.envOfC "_law_orders" (defScope s_law_orders) s.heap.objs.size f cdv)) (PyProof.Rows.envOfC "_law_orders" (defScope s_law_orders) s.heap.objs.size f cdv) (cxOf (L2.CX P w) P w K mg base ["_law_needs_here", "_law_ends", "_law_handed", "_law_one", "_law_kept", "_law_other"] "_law_orders" (defScope s_law_orders) f cdv A outer s H E).xe := passes_of (X := cxOf (L2.CX P w) P w K mg base ["_law_needs_here", "_law_ends", "_law_handed", "_law_one", "_law_kept", "_law_other"] "_law_orders" (defScope s_law_orders) f cdv A outer s H E) rfl
  exact (pss_cons (ps_set (i := 2) sc_law_orders.nd rfl (by first | exact Or.inl rfl | exact Or.inr rfl) (pe_own G_law_copied (hr.mono (by decide)) rfl tk (pa_cons (pv 0) pa_nil)))
  (pss_cons (ps_set (i := 3) sc_law_orders.nd rfl (by first | exact Or.inl rfl | exact Or.inr rfl) (pe_own G_order_of (hr.mono (by decide)) rfl tk (pa_cons (pv 2) pa_nil)))
  (pss_cons (ps_if (pt_not (pt_val (pv 1))) (pss_one (ps_ret (pe_and (pe_cmpR op_dIs (pv 3) pe_non (nomark _)) (pe_one (pe_cmpR (op_dEq hr) (pv 2) (pv 0) (nomark _)))))) pss_nil)
  (pss_cons (ps_if (pt_not (pt_val (pe_own G_law_is_least (hr.mono (by decide)) rfl tk (pa_cons (pv 3) (pa_cons (pv 0) pa_nil))))) (pss_one (ps_ret pe_bl)) pss_nil)
  (pss_cons (ps_set (i := 4) sc_law_orders.nd rfl (by first | exact Or.inl rfl | exact Or.inr rfl) (pe_callTy (call_cList rfl) (by rfl) T.b_list (by decide +kernel) (pa_cons (pv 3) pa_nil)))
  (pss_cons (ps_expr (pe_bm PySem.F.plainAttrs_list PySem.F.slot_list_append PySem.F.type_list_append mt_append (pv 3) (pa_cons pe_int pa_nil)))
  (pss_cons (ps_expr (pe_bm0 PySem.F.plainAttrs_list PySem.F.slot_list_reverse PySem.F.type_list_reverse mt_reverse (pv 3)))
  (pss_cons (ps_set (i := 5) sc_law_orders.nd rfl (by first | exact Or.inl rfl | exact Or.inr rfl) (pe_own G_order_of (hr.mono (by decide)) rfl tk (pa_cons (pv 2) pa_nil)))
  (pss_cons (ps_expr (pe_bm0 PySem.F.plainAttrs_list PySem.F.slot_list_clear PySem.F.type_list_clear mt_clear (pv 2)))
  (pss_one (ps_ret (pe_and (pe_cmpR (op_dEq hr) (pv 5) (pv 4) (nomark _)) (pe_one (pe_cmpR (op_dEq hr) (pe_own G_order_of (hr.mono (by decide)) rfl tk (pa_cons (pv 2) pa_nil)) (pe_lst pa_nil) (nomark _)))))))))))))))
theorem sc_law_rings : FnScope ["_law_needs_here", "_law_ends", "_law_handed", "_law_one", "_law_kept"] ["_law_needs_here", "_law_ends"] (defScope s_law_rings) := ⟨rfl, rfl, rfl, by decide +kernel, rfl, by decide +kernel, by decide +kernel⟩
def t_law_rings (K : PySem.W.Frag) (a : Ad) (W : WX) : TS :=
  (tSeq (tAsg (tCal (lift (S_law_copied K a)) W (tCons (tVar 0) tNil)) (gName 2))
  (tSeq (tAsg (tCal (lift (S_ring_of K a)) W (tCons (tVar 2) tNil)) (gName 3))
  (tSeq (tIfS (tB (tVar 1)) (tRet (tAndV (tOp (dIs false) (tVar 3) (tC .non)) (tAndV (tOp (dEq K) (tVar 2) (tVar 0)) (tOp (dIs false) (tCal (lift (S_ring_of K a)) W (tCons (tVar 2) tNil)) (tC .non))))) tNext)
  (tSeq (tIfS (tOr (tNot (tB (tCal (lift (S_law_is_ring K a)) W (tCons (tVar 3) (tCons (tVar 0) tNil))))) (tTest (tOp (dNe K) (tVar 2) (tVar 0)))) (tRet (tC (.bl false))) tNext)
  (tSeq (tAsg (tCB (cList K) (tCons (tVar 3) tNil)) (gName 4))
  (tSeq (tDrop (tBM0 K "list" rClear (tVar 3)))
  (tSeq (tIfS (tOr (tNot (tB (tCal (lift (S_law_is_ring K a)) W (tCons (tCal (lift (S_ring_of K a)) W (tCons (tVar 2) tNil)) (tCons (tVar 0) tNil))))) (tNot (tB (tCal (lift (S_law_is_ring K a)) W (tCons (tVar 4) (tCons (tVar 0) tNil)))))) (tRet (tC (.bl false))) tNext)
  (tSeq (tDrop (tBM0 K "list" rClear (tVar 2)))
  (tRet (tOp (dIs false) (tCal (lift (S_ring_of K a)) W (tCons (tVar 2) tNil)) (tC .non)))))))))))
theorem dv_law_rings {P : Program} {w : World} {K : PySem.W.Frag} {mg : Str → Option Value} {base : Heap} {a : Ad} (T : Txt K mg a) (G_law_copied : DefR P w K mg base 1 "_law_copied" (lift (S_law_copied K a))) (G_law_is_ring : DefR P w K mg base 2 "_law_is_ring" (lift (S_law_is_ring K a))) (G_ring_of : DefR P w K mg base 4 "ring_of" (lift (S_ring_of K a)))
    {f : Addr} {cdv : Value} {A : Around} {outer : List Env} {s : Shared} {H : Hp} {E : XK} (hr : Room 4 (A.deeper (PyProof.Rows.envOfC "_law_rings" (defScope s_law_rings) s.heap.objs.size f cdv))) :
    PSs (cxOf (L2.CX P w) P w K mg base ["_law_needs_here", "_law_ends", "_law_handed", "_law_one", "_law_kept"] "_law_rings" (defScope s_law_rings) f cdv A outer s H E) (defBody s_law_rings) (t_law_rings K a fun c d _ H => E c d H) := by
  have tk : Takes (cxOf (L2.CX P w) P w K mg base ["_law_needs_here", "_law_ends", "_law_handed", "_law_one", "_law_kept"] "_law_rings" (defScope s_law_rings) f cdv A outer s H E) (fun c d _ H => E c d H) := takes_of rfl rfl rfl rfl
  have po : PassesOwn (model P w) (A.deeper (PyProof.Rows.envOfC "_law_rings" (defScope s_law_rings) s.heap.objs.size f cdv)) (PyProof.Rows.envOfC "_law_rings" (defScope s_law_rings) s.heap.objs.size f cdv) (cxOf (L2.CX P w) P w K mg base ["_law_needs_here", "_law_ends", "_law_handed", "_law_one", "_law_kept"] "_law_rings" (defScope s_law_rings) f cdv A outer s H E).xe := passes_of (X := cxOf (L2.CX P w) P w K mg base ["_law_needs_here", "_law_ends", "_law_handed", "_law_one", "_law_kept"] "_law_rings" (defScope s_law_rings) f cdv A outer s H E) rfl
  exact (pss_cons (ps_set (i := 2) sc_law_rings.nd rfl (by first | exact Or.inl rfl | exact Or.inr rfl) (pe_own G_law_copied (hr.mono (by decide)) rfl tk (pa_cons (pv 0) pa_nil)))
  (pss_cons (ps_set (i := 3) sc_law_rings.nd rfl (by first | exact Or.inl rfl | exact Or.inr rfl) (pe_own G_ring_of (hr.mono (by decide)) rfl tk (pa_cons (pv 2) pa_nil)))
  (pss_cons (ps_if (pt_val (pv 1)) (pss_one (ps_ret (pe_and (pe_cmpR op_dIs (pv 3) pe_non (nomark _)) (pe_and (pe_cmpR (op_dEq hr) (pv 2) (pv 0) (nomark _)) (pe_one (pe_cmpR op_dIs (pe_own G_ring_of (hr.mono (by decide)) rfl tk (pa_cons (pv 2) pa_nil)) pe_non (nomark _))))))) pss_nil)
  (pss_cons (ps_if (PW.pt (pw_or (pt_not (pt_val (pe_own G_law_is_ring (hr.mono (by decide)) rfl tk (pa_cons (pv 3) (pa_cons (pv 0) pa_nil))))) (pw_or1 (pt_cmpR (op_dNe hr) (pv 2) (pv 0) (nomark _))))) (pss_one (ps_ret pe_bl)) pss_nil)
  (pss_cons (ps_set (i := 4) sc_law_rings.nd rfl (by first | exact Or.inl rfl | exact Or.inr rfl) (pe_callTy (call_cList rfl) (by rfl) T.b_list (by decide +kernel) (pa_cons (pv 3) pa_nil)))
  (pss_cons (ps_expr (pe_bm0 PySem.F.plainAttrs_list PySem.F.slot_list_clear PySem.F.type_list_clear mt_clear (pv 3)))
  (pss_cons (ps_if (PW.pt (pw_or (pt_not (pt_val (pe_own G_law_is_ring (hr.mono (by decide)) rfl tk (pa_cons (pe_own G_ring_of (hr.mono (by decide)) rfl tk (pa_cons (pv 2) pa_nil)) (pa_cons (pv 0) pa_nil))))) (pw_or1 (pt_not (pt_val (pe_own G_law_is_ring (hr.mono (by decide)) rfl tk (pa_cons (pv 4) (pa_cons (pv 0) pa_nil)))))))) (pss_one (ps_ret pe_bl)) pss_nil)
  (pss_cons (ps_expr (pe_bm0 PySem.F.plainAttrs_list PySem.F.slot_list_clear PySem.F.type_list_clear mt_clear (pv 2)))
  (pss_one (ps_ret (pe_cmpR op_dIs (pe_own G_ring_of (hr.mono (by decide)) rfl tk (pa_cons (pv 2) pa_nil)) pe_non (nomark _))))))))))))
theorem sc_law : FnScope ["_law_script", "_law_needs_here", "_law_ends"] ["_law_script"] (defScope s_law) := ⟨rfl, rfl, rfl, by decide +kernel, rfl, by decide +kernel, by decide +kernel⟩
def t_law (K : PySem.W.Frag) (a : Ad) (W : WX) : TS :=
  (tSeq (tAsg (tCal (lift (S_law_needs K a)) W (tCons (tVar 0) tNil)) (gName 1))
  (tSeq (tAsg (tCal (lift (S_law_can_end K a)) W (tCons (tVar 1) tNil)) (gName 2))
  (tSeq (tIfS (tTest (tOp (dEq K) (tOp dMod (tCal (lift (S_law_mixed K a)) W (tCons (tVar 0) (tCons (tC (.int 8)) tNil))) (tC (.int 2))) (tC (.int 0)))) (tRet (tAndV (tCal (lift (S_law_orders K a)) W (tCons (tVar 1) (tCons (tVar 2) tNil))) (tAndV (tCal (lift (S_law_rings K a)) W (tCons (tVar 1) (tCons (tVar 2) tNil))) (tCal (lift (S_law_orders K a)) W (tCons (tVar 1) (tCons (tVar 2) tNil)))))) tNext)
  (tRet (tAndV (tCal (lift (S_law_rings K a)) W (tCons (tVar 1) (tCons (tVar 2) tNil))) (tAndV (tCal (lift (S_law_orders K a)) W (tCons (tVar 1) (tCons (tVar 2) tNil))) (tCal (lift (S_law_rings K a)) W (tCons (tVar 1) (tCons (tVar 2) tNil)))))))))
theorem dv_law {P : Program} {w : World} {K : PySem.W.Frag} {mg : Str → Option Value} {base : Heap} {a : Ad} (T : Txt K mg a) (G_law_can_end : DefR P w K mg base 1 "_law_can_end" (lift (S_law_can_end K a))) (G_law_mixed : DefR P w K mg base 1 "_law_mixed" (lift (S_law_mixed K a))) (G_law_needs : DefR P w K mg base 4 "_law_needs" (lift (S_law_needs K a))) (G_law_orders : DefR P w K mg base 5 "_law_orders" (lift (S_law_orders K a))) (G_law_rings : DefR P w K mg base 5 "_law_rings" (lift (S_law_rings K a)))
    {f : Addr} {cdv : Value} {A : Around} {outer : List Env} {s : Shared} {H : Hp} {E : XK} (hr : Room 5 (A.deeper (PyProof.Rows.envOfC "law" (defScope s_law) s.heap.objs.size f cdv))) :
    PSs (cxOf (L2.CX P w) P w K mg base ["_law_script", "_law_needs_here", "_law_ends"] "law" (defScope s_law) f cdv A outer s H E) (defBody s_law) (t_law K a fun c d _ H => E c d H) := by
  have tk : Takes (cxOf (L2.CX P w) P w K mg base ["_law_script", "_law_needs_here", "_law_ends"] "law" (defScope s_law) f cdv A outer s H E) (fun c d _ H => E c d H) := takes_of rfl rfl rfl rfl
  have po : PassesOwn (model P w) (A.deeper (PyProof.Rows.envOfC "law" (defScope s_law) s.heap.objs.size f cdv)) (PyProof.Rows.envOfC "law" (defScope s_law) s.heap.objs.size f cdv) (cxOf (L2.CX P w) P w K mg base ["_law_script", "_law_needs_here", "_law_ends"] "law" (defScope s_law) f cdv A outer s H E).xe := passes_of (X := cxOf (L2.CX P w) P w K mg base ["_law_script", "_law_needs_here", "_law_ends"] "law" (defScope s_law) f cdv A outer s H E) rfl
  exact (pss_cons (ps_set (i := 1) sc_law.nd rfl (by first | exact Or.inl rfl | exact Or.inr rfl) (pe_own G_law_needs (hr.mono (by decide)) rfl tk (pa_cons (pv 0) pa_nil)))
  (pss_cons (ps_set (i := 2) sc_law.nd rfl (by first | exact Or.inl rfl | exact Or.inr rfl) (pe_own G_law_can_end (hr.mono (by decide)) rfl tk (pa_cons (pv 1) pa_nil)))
  (pss_cons (ps_if (pt_cmpR (op_dEq hr) (pe_op op_dMod (pe_own G_law_mixed (hr.mono (by decide)) rfl tk (pa_cons (pv 0) (pa_cons pe_int pa_nil))) pe_int) pe_int (nomark _)) (pss_one (ps_ret (pe_and (pe_own G_law_orders (hr.mono (by decide)) rfl tk (pa_cons (pv 1) (pa_cons (pv 2) pa_nil))) (pe_and (pe_own G_law_rings (hr.mono (by decide)) rfl tk (pa_cons (pv 1) (pa_cons (pv 2) pa_nil))) (pe_one (pe_own G_law_orders (hr.mono (by decide)) rfl tk (pa_cons (pv 1) (pa_cons (pv 2) pa_nil)))))))) pss_nil)
  (pss_one (ps_ret (pe_and (pe_own G_law_rings (hr.mono (by decide)) rfl tk (pa_cons (pv 1) (pa_cons (pv 2) pa_nil))) (pe_and (pe_own G_law_orders (hr.mono (by decide)) rfl tk (pa_cons (pv 1) (pa_cons (pv 2) pa_nil))) (pe_one (pe_own G_law_rings (hr.mono (by decide)) rfl tk (pa_cons (pv 1) (pa_cons (pv 2) pa_nil)))))))))))
end S

namespace S
open PySem L2
local macro_rules | `(tactic| walk_at "slot") => `(tactic| (with_reducible first | exact gx0 | exact gx1 | exact gx2 | exact gx3 | exact gx4 | exact gx5 | exact gx6 | exact gx7 | exact gx8 | exact gx9 | exact gx10 | exact gx11 | exact gx12 | exact gx13 | exact gx14 | exact gx15 | exact gx16 | exact gx17 | exact gx18 | exact gx19 | exact gx20 | exact gx21 | exact gx22 | exact gx23 | exact gx24 | exact gx25 | exact gx26 | exact gx27 | exact gx28 | exact gx29))
local macro_rules | `(tactic| walk_at "set") => `(tactic| (with_reducible first | exact sx0 | exact sx1 | exact sx2 | exact sx3 | exact sx4 | exact sx5 | exact sx6 | exact sx7 | exact sx8 | exact sx9 | exact sx10 | exact sx11 | exact sx12 | exact sx13 | exact sx14 | exact sx15 | exact sx16 | exact sx17 | exact sx18 | exact sx19 | exact sx20 | exact sx21 | exact sx22 | exact sx23 | exact sx24 | exact sx25 | exact sx26 | exact sx27 | exact sx28 | exact sx29))
local macro_rules | `(tactic| walk_at "wi") => `(tactic| first | exact wi0 | (refine' wi1 ?hw ?hs; (case hw => walk_at "wi"); (case hs => walk_at "set")))
local macro_rules | `(tactic| walk_at "ro") => `(tactic| with_reducible first | exact RO.head | assumption | (apply RO.tail; walk_at "ro") | (apply RO.app; walk_at "ro") | (refine' RO.le ?l_ ?r_; (case r_ => with_reducible assumption); (case l_ => with_reducible assumption)) | (refine' RO.le ?l_ ?r_; (case l_ => with_reducible assumption); (case r_ => walk_at "ro")))
local macro_rules | `(tactic| walk_at "rl") => `(tactic| with_reducible first | exact RL.head | assumption | (apply RL.tail; walk_at "rl") | (apply RL.app; walk_at "rl") | (refine' RL.le ?l_ ?r_; (case r_ => with_reducible assumption); (case l_ => with_reducible assumption)) | (refine' RL.le ?l_ ?r_; (case l_ => with_reducible assumption); (case r_ => walk_at "rl")) | (apply RL.ro; walk_at "ro"))
local macro_rules | `(tactic| walk_at "rt") => `(tactic| with_reducible first | exact RT.head | assumption | (apply RT.tail; walk_at "rt") | (apply RT.app; walk_at "rt") | (refine' RT.le ?l_ ?r_; (case r_ => with_reducible assumption); (case l_ => with_reducible assumption)) | (refine' RT.le ?l_ ?r_; (case l_ => with_reducible assumption); (case r_ => walk_at "rt")) | (apply RT.ro; walk_at "ro"))
local macro_rules | `(tactic| walk_at "rd") => `(tactic| with_reducible first | exact RD.head | assumption | (apply RD.tail; walk_at "rd") | (apply RD.app; walk_at "rd") | (apply RD.ro; walk_at "ro"))
local macro_rules | `(tactic| walk_at "pull") => `(tactic| with_reducible first | exact Pull.head | assumption | (apply Pull.tail; walk_at "pull") | (apply Pull.app; walk_at "pull"))
local macro_rules | `(tactic| walk_at "sl") => `(tactic| with_reducible first | exact Sl.refl | exact Sl.nil | exact Sl.app | (refine' Sl.pull ?hp ?hs; (case hp => walk_at "pull"); (case hs => walk_at "sl")) | (apply Sl.drop; walk_at "sl") | (apply Sl.app'; walk_at "sl"))
local macro_rules | `(tactic| walk_at "le") => `(tactic| first | with_reducible assumption | (with_reducible exact Le.refl) | (apply Sl.le; walk_at "sl") | (with_reducible exact Le.pre) | (with_reducible apply Le.drop; walk_at "le") | (with_reducible apply Le.app'; walk_at "le"))
local macro_rules | `(tactic| walk_at "kv") => `(tactic| with_reducible first | exact kv_int | exact kv_str | assumption)
local macro_rules | `(tactic| walk_at "il") => `(tactic| (with_reducible repeat (first | exact il_nil | exact il_map | apply il_cons)))
local macro_rules | `(tactic| walk_at "om") => `(tactic| first | omega | (simp only [List.length_cons, List.length_nil, List.length_map, List.length_append, List.length_range, List.length_take, List.length_drop, List.length_singleton, nats_len, len1]; omega) | decide)
local macro_rules | `(tactic| walk_at "tya") => `(tactic| with_reducible first | exact ty_str | (apply ty_list; walk_at "rl") | (apply ty_dict; walk_at "ro"))
local macro_rules | `(tactic| walk_at "tyg") => `(tactic| with_reducible first | exact ty_non | exact ty_bl | exact ty_int | exact ty_strT | (apply ty_lst; walk_at "ro") | (apply ty_tup; walk_at "ro") | (apply ty_dK; walk_at "ro") | (apply ty_tupT; walk_at "rt") | (refine' ty_ins ?_ ?hr; (case hr => walk_at "ro"); (walk_at "ins")))
local macro_rules | `(tactic| walk_at "cls") => `(tactic| first | exact ClsV.ty _ | exact ClsV.own _)
local macro_rules | `(tactic| walk_at "kit") => `(tactic| with_reducible first | exact kit_self | assumption | exact kt_NoneType_int | exact kt_NoneType_bool | exact kt_NoneType_str | exact kt_NoneType_list | exact kt_NoneType_tuple | exact kt_NoneType_dict | exact kt_bool_int | exact kt_bool_bool | exact kt_bool_str | exact kt_bool_list | exact kt_bool_tuple | exact kt_bool_dict | exact kt_int_int | exact kt_int_bool | exact kt_int_str | exact kt_int_list | exact kt_int_tuple | exact kt_int_dict | exact kt_str_int | exact kt_str_bool | exact kt_str_str | exact kt_str_list | exact kt_str_tuple | exact kt_str_dict | exact kt_list_int | exact kt_list_bool | exact kt_list_str | exact kt_list_list | exact kt_list_tuple | exact kt_list_dict | exact kt_tuple_int | exact kt_tuple_bool | exact kt_tuple_str | exact kt_tuple_list | exact kt_tuple_tuple | exact kt_tuple_dict | exact kt_dict_int | exact kt_dict_bool | exact kt_dict_str | exact kt_dict_list | exact kt_dict_tuple | exact kt_dict_dict)
local macro_rules | `(tactic| walk_at "fo") => `(tactic| assumption)
local macro_rules | `(tactic| walk_at "ins") => `(tactic| assumption)
local macro_rules | `(tactic| walk_at "lk") => `(tactic| rfl)
local macro_rules | `(tactic| walk_at "mt") => `(tactic| constructor)
local macro_rules | `(tactic| walk_at "br") => `(tactic| first
  | with_reducible refine' br_t ?_ | with_reducible refine' br_f ?_ | with_reducible refine' br_nt ?_ | with_reducible refine' br_nf ?_
  | (with_reducible refine' br_yes (p := _) ?hp ?_; (case hp => first | omega | assumption | rfl | decide))
  | (with_reducible refine' br_no (p := _) ?hp ?_; (case hp => first | omega | assumption | rfl | decide))
  | (with_reducible refine' br_nyes (p := _) ?hp ?_; (case hp => first | omega | assumption | rfl | decide))
  | (with_reducible refine' br_nno (p := _) ?hp ?_; (case hp => first | omega | assumption | rfl | decide))
  | with_reducible refine' br_dec (fun _ => ?_) (fun _ => ?_)
  | with_reducible refine' br_ndec (fun _ => ?_) (fun _ => ?_)
  | with_reducible refine' br_not ?_
  | with_reducible refine' br_b (fun _ => ?_) (fun _ => ?_))
local macro_rules | `(tactic| walk_at "ge") => `(tactic| with_reducible first
  | (refine' ge_var ?h1 ?_; (case h1 => walk_at "slot")) | refine' ge_c ?_ | refine' ge_op ?_ | refine' ge_un ?_ | refine' ge_fld' ?_ | refine' ge_cb ?_ | refine' ga_nil ?_ | refine' ga_cons ?_
  | refine' ge_tup' ?_ | refine' ge_lst' ?_ | (refine' ge_dnew ?_; intro _) | refine' ge_if ?_ | refine' ge_andV' ?_ | refine' ge_orV' ?_ | refine' ge_notV' ?_ | refine' ge_chain' ?_
  | refine' gt_test' ?_ | refine' gt_B' ?_ | refine' gt_and ?_ | refine' gt_or ?_ | refine' gt_not ?_ | refine' nb ?_ | refine' gt_yes ?_
  | refine' ge_dget' ?_ | refine' ge_din' ?_ | refine' ge_dnotin' ?_ | refine' ge_sl ?_ | refine' go_no ?_ | refine' go_some' ?_ | refine' npart ?_ | refine' ge_bm' ?_ | refine' ge_bm0' ?_ | refine' ge_lc ?_ | refine' ge_lenS' ?_ | refine' ge_row' ?_ | refine' ge_join' ?_ | refine' ge_lstRg1' ?_ | refine' nj1 ?_)
local macro_rules | `(tactic| walk_at "gr") => `(tactic| with_reducible first
  | (refine' gr_eq_ints0 ?h1 ?h2 ?_; (case h1 => walk_at "rl"); (case h2 => walk_at "rl")) | (refine' gr_ne_ints0 ?h1 ?h2 ?_; (case h1 => walk_at "rl"); (case h2 => walk_at "rl"))
  | (refine' gr_eq_nats0 ?h1 ?h2 ?_; (case h1 => walk_at "rl"); (case h2 => walk_at "rl")) | (refine' gr_ne_nats0 ?h1 ?h2 ?_; (case h1 => walk_at "rl"); (case h2 => walk_at "rl")) | (refine' gr_eq_nats ?h1 ?h2 ?_; (case h1 => walk_at "rl"); (case h2 => walk_at "rl")) | (refine' gr_ne_nats ?h1 ?h2 ?_; (case h1 => walk_at "rl"); (case h2 => walk_at "rl"))
  | (refine' gr_eqE0 ?h1 ?h2 ?_; (case h1 => walk_at "rl"); (case h2 => walk_at "rl")) | (refine' gr_neE0 ?h1 ?h2 ?_; (case h1 => walk_at "rl"); (case h2 => walk_at "rl"))
  | (refine' gr_in_nats ?h1 ?_; (case h1 => walk_at "rl")) | (refine' gr_notin_nats ?h1 ?_; (case h1 => walk_at "rl"))
  | (refine' gr_eqSy ?h1 ?_; (case h1 => decide +kernel)) | (refine' gr_eqSn ?h1 ?_; (case h1 => decide +kernel)) | (refine' gr_neSy ?h1 ?_; (case h1 => decide +kernel)) | (refine' gr_neSn ?h1 ?_; (case h1 => decide +kernel))
  | (refine' gr_inTt ?h1 ?h2 ?_; (case h1 => walk_at "rt"); (case h2 => decide +kernel)) | (refine' gr_inTf ?h1 ?h2 ?_; (case h1 => walk_at "rt"); (case h2 => decide +kernel))
  | refine' gr_addI ?_ | refine' gr_subI ?_ | refine' gr_ltI ?_ | refine' gr_leI ?_ | refine' gr_gtI ?_ | refine' gr_geI ?_ | refine' gr_eqI ?_ | refine' gr_neI ?_ | refine' gr_eqS ?_ | refine' gr_neS ?_ | refine' gr_eqB ?_ | refine' gr_neB ?_
  | refine' is_non ?_ | refine' isn_non ?_ | refine' is_int ?_ | refine' isn_int ?_ | refine' is_ref ?_ | refine' isn_ref ?_ | refine' is_str ?_ | refine' isn_str ?_ | refine' is_bl ?_ | refine' gr_inS0 ?_ | refine' gr_inS1 ?_ | refine' gr_ipI ?_ | refine' gu_neg ?_
  | (refine' gr_modI ?h1 ?_; (case h1 => walk_at "om"))
  | (refine' gr_divI ?h1 ?_; (case h1 => exact cdiv (by walk_at "om") (by walk_at "om")))
  | (refine' gr_mulI ?h1 ?_; (case h1 => first | exact cmulR (by walk_at "om") (by walk_at "om") | exact cmulL (by walk_at "om") (by walk_at "om")))
  | (refine' gr_ixT ?h1 ?h2 ?_; (case h1 => walk_at "rt"); (case h2 => with_unfolding_all rfl))
  | (refine' gl0 ?h1 ?_; (case h1 => walk_at "rl")) | (refine' gl1 ?h1 ?_; (case h1 => walk_at "rl")) | (refine' gl2 ?h1 ?_; (case h1 => walk_at "rl")) | (refine' gl3 ?h1 ?_; (case h1 => walk_at "rl")) | (refine' gl4 ?h1 ?_; (case h1 => walk_at "rl"))
  | (refine' gr_ixI ?h1 ?h2 ?h3 ?h4 ?_; (case h1 => walk_at "rl"); (case h2 => walk_at "il"); (case h3 => walk_at "om"); (case h4 => walk_at "om"))
  | (refine' gr_ixSD ?h1 ?h2 ?h3 ?_; (case h1 => first | omega | (with_unfolding_all decide +kernel)); (case h2 => walk_at "om"); (case h3 => walk_at "om"))
  | (refine' gr_addS ?h1 ?_; (case h1 => exact sz2 (by walk_at "om")))
  | (refine' gr_addL ?h1 ?h2 ?h3 ?_; (case h1 => walk_at "ro"); (case h2 => walk_at "ro"); (case h3 => exact sz2 (by walk_at "om")); intro _))
local macro_rules | `(tactic| walk_at "gc") => `(tactic| with_reducible first
  | refine' gc_min2 ?_ | refine' gc_max2 ?_
  | (refine' gc_lenM ?h1 ?_; (case h1 => walk_at "rl")) | (refine' gc_lenL ?h1 ?_; (case h1 => walk_at "rl")) | (refine' gc_lenT ?h1 ?_; (case h1 => walk_at "rt")) | (refine' gc_lenS ?h1 ?_; (case h1 => exact sz2 (by walk_at "om"))) | (refine' gc_lenD ?h1 ?_; (case h1 => walk_at "ro"))
  | (refine' gc_listL ?h1 ?_; (case h1 => walk_at "rl"); intro _) | (refine' gc_listT ?h1 ?_; (case h1 => walk_at "rt"); intro _) | (refine' gc_listD ?h1 ?_; (case h1 => walk_at "rd"); intro _)
  | (refine' gc_isi ?h1 ?h2 ?h3 ?_; (case h1 => walk_at "cls"); (case h2 => walk_at "tyg"); (case h3 => walk_at "kit"))
  | (refine' gc_isi2t ?h0 ?h1 ?h2 ?h3 ?h4 ?_; (case h0 => walk_at "ro"); (case h1 => walk_at "cls"); (case h2 => walk_at "cls"); (case h3 => walk_at "tyg"); (case h4 => walk_at "kit"))
  | (refine' gc_isi2f ?h0 ?h1 ?h2 ?h3 ?h4 ?h5 ?_; (case h0 => walk_at "ro"); (case h1 => walk_at "cls"); (case h2 => walk_at "cls"); (case h3 => walk_at "tyg"); (case h4 => walk_at "kit"); (case h5 => walk_at "kit")))
local macro_rules | `(tactic| walk_at "nn") => `(tactic| with_reducible first
  | (refine' nnew ?h1 ?_; (case h1 => walk_at "om"); intro _)
  | (refine' nfld ?h1 ?h2 ?h3 ?_; (case h1 => walk_at "ro"); (case h2 => walk_at "fo"); (case h3 => walk_at "lk"))
  | (refine' nfst ?h1 ?h2 ?h3 ?h4 ?_; (case h1 => walk_at "pull"); (case h2 => walk_at "fo"); (case h4 => walk_at "pf"); (case h3 => walk_at "fl"))
  | (refine' nlist ?h1 ?_; (case h1 => walk_at "rl")) | (refine' ntup ?h1 ?_; (case h1 => walk_at "rt")) | refine' nstr ?_
  | (refine' nrng1 ?h1 ?h2 ?_; (case h1 => walk_at "om"); (case h2 => walk_at "om"))
  | (refine' nrng2 ?h1 ?_; (case h1 => refine' ⟨?_, ?_, ?_, ?_⟩ <;> walk_at "om"))
  | (refine' nenum ?h1 ?_; (case h1 => walk_at "rl"))
  | (refine' nbm ?h1 ?_; (case h1 => walk_at "tya")) | (refine' nbm0 ?h1 ?_; (case h1 => walk_at "tya"))
  | (refine' nmet ?h1 ?h2 ?h3 ?_; (case h1 => walk_at "ro"); (case h2 => walk_at "mt"); (case h3 => walk_at "lk"))
  | (refine' ndin0 ?h1 ?h2 ?_; (case h1 => walk_at "rd"); (case h2 => walk_at "kv")) | (refine' ndin1 ?h1 ?h2 ?_; (case h1 => walk_at "rd"); (case h2 => walk_at "kv"))
  | (refine' ndput ?h1 ?h2 ?h3 ?_; (case h1 => walk_at "pull"); (case h2 => walk_at "kv"); (case h3 => walk_at "om"))
  | (refine' nzipT ?h1 ?h2 ?_; (case h1 => walk_at "rt"); (case h2 => walk_at "rt"))
  | (refine' nzipL ?h1 ?h2 ?_; (case h1 => walk_at "rl"); (case h2 => walk_at "rl"))
  | (refine' gsl_to ?h1 ?h2 ?_; (case h1 => walk_at "rl"); (case h2 => walk_at "om"); intro _)
  | (refine' gsl_from ?h1 ?h2 ?_; (case h1 => walk_at "rl"); (case h2 => walk_at "om"); intro _)
  | (refine' nlr1 ?h1 ?h2 ?_; (case h1 => walk_at "om"); (case h2 => walk_at "om"); intro _)
  | (refine' nset ?h1 ?h2 ?h3 ?_; (case h1 => walk_at "pull"); (case h2 => walk_at "om"); (case h3 => walk_at "om"))
  | (refine' npar ?h1 ?h2 ?_; (case h1 => walk_at "set"); (case h2 => walk_at "set"))
  | (refine' gm_reverse ?h1 ?_; (case h1 => walk_at "pull")) | (refine' gm_clear ?h1 ?_; (case h1 => walk_at "pull"))
  | (refine' gm_append ?h1 ?h2 ?_; (case h1 => walk_at "pull"); (case h2 => exact sz1 (by walk_at "om"))))
local macro_rules | `(tactic| walk_at "gs") => `(tactic| with_reducible first
  | refine' gs_seq ?_ | refine' gs_next ?_ | refine' gs_asg ?_ | (refine' gg_name ?h1 ?_; (case h1 => walk_at "set")) | refine' gs_if ?_ | refine' gs_ret ?_ | refine' gs_retN ?_ | refine' gs_drop ?_ | refine' gs_fld' ?_ | refine' gs_dput' ?_
  | refine' gs_for ?_ | refine' gi_list' ?_ | refine' gi_tup' ?_ | refine' gi_str' ?_ | refine' gi_rng1' ?_ | refine' gi_rng2' ?_ | refine' gi_enum' ?_
  | (refine' gg_tup ?h1 ?h2 ?_; (case h1 => walk_at "rt"); (case h2 => with_unfolding_all rfl)) | refine' ggs_cons ?_ | refine' ggs_nil ?_
  | (refine' gs_aug ?h1 ?_; (case h1 => walk_at "slot")) | refine' gs_break ?_ | refine' gs_cont ?_ | refine' gg_sub' ?_ | refine' gs_par' ?_ | refine' gi_zip' ?_)
local macro_rules | `(tactic| walk_at "rep") => `(tactic| fail)
local macro_rules | `(tactic| walk_at "rp") => `(tactic| first | with_reducible assumption | walk_at "ro" | walk_at "rl" | walk_at "rt" | walk_at "rd" | walk_at "pull" | walk_at "rep" | with_reducible rfl | walk_at "om")
local macro_rules | `(tactic| walk_at "hx") => `(tactic| first | assumption | exact wxF)
local macro_rules | `(tactic| walk_at "ca") => `(tactic| with_reducible first
  | (refine' ge_cal ?hx_ ?_; (case hx_ => walk_at "hx")) | (refine' ge_met' ?hx_ ?_; (case hx_ => walk_at "hx")) | (refine' ge_mak' ?hx_ ?_; (case hx_ => walk_at "hx")) | (refine' ge_makK' ?hx_ ?_; (case hx_ => walk_at "hx"))
  | refine' nmk (fun _ _ => ?_) | refine' nret ?_)
local macro_rules | `(tactic| walk_at "fin") => `(tactic| with_reducible first
  | (refine' Cl.le ?l_ ?q_; (case q_ => first | assumption | (apply_assumption <;> first | assumption | rfl | omega)); (case l_ => walk_at "le"))
  | (refine' cl_le ?l_ ?q_; (case l_ => walk_at "le"); (case q_ => first | assumption | rfl)))
local macro_rules | `(tactic| walk_at "st") => `(tactic| first | walk_at "ge" | walk_at "gs" | walk_at "gr" | walk_at "gc" | walk_at "nn" | walk_at "br" | walk_at "ca" | walk_at "sp" | walk_at "fin" | fail)
local macro_rules | `(tactic| walk_at "go") => `(tactic| (repeat' walk_at "st"))
local macro_rules | `(tactic| walk_at "cl") => `(tactic| refine Cl.of ?_)
local macro_rules | `(tactic| walk_at "dps") => `(tactic| ((try simp only [List.cons_append, List.nil_append, Bool.not_false, Bool.not_true]); with_reducible repeat (first | exact dps_nil | apply dps_cons dp_bl | apply dps_cons dp_int | apply dps_cons dp_str | apply dps_cons dp_non)))
local macro_rules | `(tactic| walk_at "shp") => `(tactic| (with_reducible repeat (first | exact shpA_nil | apply shp_lst | apply shp_tup | exact shp_bl | exact shp_int | exact shp_non | (refine' shp_str ?h; (case h => decide +kernel)) | refine' shpA_cons ?_ ?_)))
local macro_rules | `(tactic| walk_at "sp") => `(tactic| with_reducible first
  | (refine' c_can_stand ?h0_ ?h1_ ?h2_ ?_; (try (case h0_ => walk_at "rp")); (try (case h1_ => walk_at "rp")); (try (case h2_ => walk_at "rp")))
  | (refine' c_next_place ?h0_ ?h1_ ?h2_ (fun _ => ?_) (fun _ _ => ?_); (try (case h0_ => walk_at "rp")); (try (case h1_ => walk_at "rp")); (try (case h2_ => walk_at "rp")))
  | (refine' c_beginning ?h0_ ?h1_ (fun _ => ?_); (try (case h0_ => walk_at "rp")); (try (case h1_ => walk_at "rp")))
  | (refine' c_order_of ?h0_ ?h1_ (fun _ => ?_) (fun _ _ => ?_); (try (case h0_ => walk_at "rp")); (try (case h1_ => walk_at "rp")))
  | (refine' c_ring_of ?h0_ ?h1_ (fun _ => ?_) (fun _ _ _ _ => ?_); (try (case h0_ => walk_at "rp")); (try (case h1_ => walk_at "rp")))
  | (refine' c_law_mixed ?h0_ ?h1_ ?h2_ ?h3_ (fun _ _ _ => ?_); (try (case h0_ => walk_at "rp")); (try (case h1_ => walk_at "rp")); (try (case h2_ => walk_at "rp")); (try (case h3_ => walk_at "rp")))
  | (refine' c_law_line_up ?h0_ ?h1_ ?h2_ ?h3_ (fun _ _ _ _ => ?_); (try (case h0_ => walk_at "rp")); (try (case h1_ => walk_at "rp")); (try (case h2_ => walk_at "rp")); (try (case h3_ => walk_at "rp")))
  | (refine' c_law_freely ?h0_ ?h1_ ?h2_ ?h3_ (fun _ _ _ _ _ => ?_); (try (case h0_ => walk_at "rp")); (try (case h1_ => walk_at "rp")); (try (case h2_ => walk_at "rp")); (try (case h3_ => walk_at "rp")))
  | (refine' c_law_in_line ?h0_ ?h1_ ?h2_ ?h3_ (fun _ _ _ _ _ => ?_); (try (case h0_ => walk_at "rp")); (try (case h1_ => walk_at "rp")); (try (case h2_ => walk_at "rp")); (try (case h3_ => walk_at "rp")))
  | (refine' c_law_needs ?h0_ ?h1_ (fun _ _ _ _ _ => ?_); (try (case h0_ => walk_at "rp")); (try (case h1_ => walk_at "rp")))
  | (refine' c_law_copied ?h0_ ?h1_ (fun _ _ _ _ => ?_); (try (case h0_ => walk_at "rp")); (try (case h1_ => walk_at "rp")))
  | (refine' c_law_can_end ?h0_ ?h1_ ?_; (try (case h0_ => walk_at "rp")); (try (case h1_ => walk_at "rp")))
  | (refine' c_law_whole ?_)
  | (refine' c_law_is_least ?h0_ ?h1_ ?h2_ ?h3_ ?_; (try (case h0_ => walk_at "rp")); (try (case h1_ => walk_at "rp")); (try (case h2_ => walk_at "rp")); (try (case h3_ => walk_at "rp")))
  | (refine' c_law_is_ring ?h0_ ?h1_ ?h2_ ?h3_ ?_; (try (case h0_ => walk_at "rp")); (try (case h1_ => walk_at "rp")); (try (case h2_ => walk_at "rp")); (try (case h3_ => walk_at "rp")))
  | (refine' c_law_orders ?h0_ ?h1_ ?_; (try (case h0_ => walk_at "rp")); (try (case h1_ => walk_at "rp")))
  | (refine' c_law_rings ?h0_ ?h1_ ?_; (try (case h0_ => walk_at "rp")); (try (case h1_ => walk_at "rp")))
  | (refine' c_law ?h0_ ?h1_ ?_; (try (case h0_ => walk_at "rp")); (try (case h1_ => walk_at "rp"))))
local macro_rules | `(tactic| walk_at "lk") => `(tactic| with_reducible first | exact lk_put | (apply lk_ne (by decide +kernel); walk_at "lk") | exact lk_nil | (apply lk_no (by decide +kernel); walk_at "lk"))
local macro_rules | `(tactic| walk_at "pf") => `(tactic| with_reducible first | exact rfl)
local macro_rules | `(tactic| walk_at "fl") => `(tactic| first  | exact fl_of (by repeat (first | exact fl0 | apply fl1)) (by decide))

section
variable {K : PySem.W.Frag} {mg : Str → Option Value} {a : Ad} {A : SH} {vs : List V} {Φ : V → SH → Prop} {Ψ : Value → Option Addr → SH → Prop} {Ψ' : Value → Option Addr → L2.St → SH → Prop} {W : WX} {p q : Addr} {nd : List (List Nat)} {f : List Nat} {k : Nat}
theorem gr_nd (h : NdAt A p nd) (hk : k < nd.length) (c : ∀ r, RO A r (.lst (nats (nd.getD k []))) → Φ (.ref r) A) : GR (rIx K) (.ref p) (.int (k : Int)) A Φ := by
  obtain ⟨rs, hp, hl, hr⟩ := h
  have h1 : rs[k]? = some (rs[k]'(by omega)) := List.getElem?_eq_getElem _
  have h2 : nd[k]? = some nd[k] := List.getElem?_eq_getElem hk
  refine gr_ixM (RL.ro hp) h1 (c _ ?_)
  rw [getD_of h2]
  exact hr k _ _ h1 h2
theorem gc_nd (h : NdAt A p nd) (c : Φ (.int (nd.length : Nat)) A) : GC (cLen K) [.ref p] A Φ := by
  obtain ⟨rs, hp, hl, hr⟩ := h
  refine gc_lenM (RL.ro hp) ?_
  rw [hl]
  exact c
theorem key_ne {e k : Nat} (c : ¬ e = k) : ¬ ((Sum.inl ((e : Nat) : Int) : L2.Key) = .inl (k : Int)) := fun z => c (by have := Sum.inl.inj z; omega)
theorem ahd_val : ∀ {f : List Nat} {k : Nat}, valV (ahd f) (.inl (k : Int)) = if k ∈ f then some (.bl true) else none
  | [], k => rfl
  | e :: f, k => by
    show valV ((Sum.inl ((e : Nat) : Int), V.bl true) :: ahd f) (.inl (k : Int)) = _
    by_cases c : e = k
    · subst c
      rw [valV_pos rfl]
      simp
    · rw [valV_neg (key_ne c), ahd_val]
      simp [Ne.symm c]
theorem ahd_in : (valV (ahd f) (.inl (k : Int))).isSome = decide (k ∈ f) := by
  rw [ahd_val]
  by_cases c : k ∈ f <;> simp [c]
theorem ahd_put (h : k ∉ f) : putK (ahd f) (.inl (k : Int)) (.bl true) = ahd (f ++ [k]) := by
  rw [putK_new _ (by rw [ahd_val, if_neg h])]
  simp [ahd]
theorem nd_in0 (r : RD A q (ahd f)) (c : Φ (.bl (decide (k ∈ f))) A) : NDin false Φ (.int (k : Int)) (.ref q) A := ndin0 r kv_int (by rw [ahd_in]; exact c)
theorem nd_in1 (r : RD A q (ahd f)) (c : Φ (.bl (!decide (k ∈ f))) A) : NDin true Φ (.int (k : Int)) (.ref q) A := ndin1 r kv_int (by rw [ahd_in]; exact c)
theorem nd_put {B : SH} {kk : SH → Prop} (pl : Pull A (sg q (.dK (ahd f))) B) (h : k ∉ f) (l : f.length ≤ 1000) (c : kk (sg q (.dK (ahd (f ++ [k]))) :: B)) : NDput kk (.bl true) (.ref q) (.int (k : Int)) A := ndput pl kv_int (by unfold ahd; rw [List.length_map]; exact l) (by rw [ahd_put h]; exact c)
theorem ge_dnewA {σ : L2.St} (h : ∀ p, Φ (.ref p) (sg p (.dK (ahd [])) :: A)) : GE tDNewK σ A Φ := ge_dnew h
local macro_rules | `(tactic| walk_at "ge") => `(tactic| with_reducible (refine' ge_dnewA ?_; intro _))
local macro_rules | `(tactic| walk_at "rep") => `(tactic| (refine' NdAt.le ?l_ ?r_; (case r_ => assumption); (case l_ => walk_at "le")))
local macro_rules | `(tactic| walk_at "gr") => `(tactic| with_reducible (refine' gr_nd ?h1 ?h2 (fun _ _ => ?_); (case h1 => walk_at "rp"); (case h2 => omega)))
local macro_rules | `(tactic| walk_at "gc") => `(tactic| with_reducible (refine' gc_nd ?h1 ?_; (case h1 => walk_at "rp")))
local macro_rules | `(tactic| walk_at "nn") => `(tactic| with_reducible first | (refine' nd_in0 ?h1 ?_; (case h1 => walk_at "rd")) | (refine' nd_in1 ?h1 ?_; (case h1 => walk_at "rd")) | (refine' nd_put ?h1 ?h2 ?h3 ?_; (case h1 => walk_at "pull"); (case h2 => assumption); (case h3 => omega)))
theorem w_can_stand (T : Txt K mg a) (h : S_can_stand K a vs A Φ Ψ) (hx : WPost Ψ' W) : GS (t_can_stand K a W) (AEf Φ) (L2.start ["needs", "place", "ahead", "other"] vs) A := by
  obtain ⟨p, q, k, nd, f, rfl, hn, ha, hk, hq⟩ := h
  show GS _ _ [some (.ref p), some (.int k), some (.ref q), none] A
  unfold t_can_stand
  walk_at "go"
  refine gf_lstK (xs := nats (nd.getD k [])) (fun i σ => (∃ u, σ = [some (.ref p), some (.int k), some (.ref q), u]) ∧ ∀ e ∈ (nd.getD k []).take i, e ∈ f) ⟨⟨none, rfl⟩, by simp⟩ (by walk_at "rl") ?_ ?_
  · rintro i x σ A' hx1 l ⟨⟨u, rfl⟩, hf⟩
    obtain ⟨e, he, rfl⟩ := nats_at hx1
    walk_at "go"
    · rename_i hn2
      have : canF f (nd.getD k []) = false := by
        rw [Bool.eq_false_iff]
        intro z
        exact hn2 (canF_iff.mp z e (List.mem_of_getElem? he))
      rw [this] at hq
      exact Cl.le (by walk_at "le") hq
    · rename_i hy
      refine cl_le l ⟨⟨_, rfl⟩, fun y hy2 => ?_⟩
      rw [List.take_add_one, he] at hy2
      rcases List.mem_append.mp hy2 with z | z
      · exact hf y z
      · have : y = e := by simpa using z
        subst this
        exact hy
  · rintro σ A' l ⟨⟨u, rfl⟩, hf⟩
    have : canF f (nd.getD k []) = true := canF_iff.mpr fun e he => hf e (by rw [nats, List.length_map, List.take_length]; exact he)
    rw [this] at hq
    walk_at "go"
theorem w_next_place (T : Txt K mg a) (h : S_next_place K a vs A Φ Ψ) (hx : WPost Ψ' W) : GS (t_next_place K a W) (AEf Φ) (L2.start ["needs", "ahead", "place"] vs) A := by
  obtain ⟨p, q, nd, f, rfl, hn, ha, h40, hq1, hq2⟩ := h
  show GS _ _ [some (.ref p), some (.ref q), none] A
  unfold t_next_place
  walk_at "go"
  refine gf_rngK (fun i σ => (∃ u, σ = [some (.ref p), some (.ref q), u]) ∧ ∀ j, j < i → candF nd f j = false) ⟨⟨none, rfl⟩, by simp⟩ ?_ ?_
  · rintro i σ A' hi l ⟨⟨u, rfl⟩, hf⟩
    have hi2 : i < nd.length := by omega
    rw [Int.zero_add]
    have step : candF nd f i = false → ∀ j, j < i + 1 → candF nd f j = false := fun h j hj => by
      by_cases c : j = i
      · rw [c]; exact h
      · exact hf j (by omega)
    walk_at "go"
    · rename_i c1 c2
      refine Cl.le l (hq2 i ?_)
      unfold nxt
      rw [find_range]
      exact ⟨hi2, by unfold candF; rw [c2, decide_eq_false c1]; rfl, hf⟩
    · rename_i c1 c2
      exact cl_le l ⟨⟨_, rfl⟩, step (by unfold candF; rw [c2, Bool.and_false])⟩
    · rename_i c1
      exact cl_le l ⟨⟨_, rfl⟩, step (by unfold candF; rw [decide_eq_true c1]; rfl)⟩
  · rintro σ A' l ⟨⟨u, rfl⟩, hf⟩
    have : nxt nd f = none := by
      unfold nxt
      rw [List.find?_eq_none]
      intro x hx2
      have := hf x (by have := List.mem_range.mp hx2; omega)
      simp [this]
    walk_at "go"
theorem w_beginning (T : Txt K mg a) (h : S_beginning K a vs A Φ Ψ) (hx : WPost Ψ' W) : GS (t_beginning K a W) (AEf Φ) (L2.start ["needs", "found", "ahead", "place"] vs) A := by
  obtain ⟨p, nd, rfl, hn, h40, hq⟩ := h
  show GS _ _ [some (.ref p), none, none, none] A
  unfold t_beginning
  walk_at "go"
  rename_i l d
  refine gs_mid (fun σ A' => A' = sg d (.dK (ahd [])) :: sg l (.lst []) :: A ∧ ∃ v, ((nxt nd [] = none ∧ v = V.non) ∨ ∃ k : Nat, nxt nd [] = some k ∧ v = .int k) ∧ σ = [some (.ref p), some (.ref l), some (.ref d), some v]) ?_ ?_
  · walk_at "go"
    · rename_i c
      exact Cl.of ⟨rfl, _, .inl ⟨c, rfl⟩, rfl⟩
    · rename_i k c
      exact Cl.of ⟨rfl, _, .inr ⟨k, c, rfl⟩, rfl⟩
  · rintro σ A' ⟨rfl, v, hv, rfl⟩
    walk_at "go"
    refine gs_while (fun m σ A' => ∃ f v, Beg nd f ∧ grow nd (nd.length - f.length) f = begF nd ∧ m = nd.length + 1 - f.length ∧ A' = sg d (.dK (ahd f)) :: sg l (.lst (nats f)) :: A ∧ ((nxt nd f = none ∧ v = V.non) ∨ ∃ k : Nat, nxt nd f = some k ∧ v = .int k) ∧ σ = [some (.ref p), some (.ref l), some (.ref d), some v])
      (nd.length + 1) (Cl.of ⟨[], v, Beg.nil, rfl, rfl, rfl, hv, rfl⟩) ?_
    rintro m σ A' ⟨f, v, b, hg, rfl, rfl, hv, rfl⟩
    rcases hv with ⟨hv, rfl⟩ | ⟨k, hv, rfl⟩
    · walk_at "go"
      refine Cl.le ?_ (hq l)
      rw [← hg, grow_none hv]
      walk_at "le"
    · have bl := b.len
      have h1 := nxt_some hv
      have h2 := h1.2.1
      have b2 := b.more hv
      have bl2 := b2.len
      rw [List.length_append, List.length_singleton] at bl2
      have fl : (nats f).length ≤ 1000 := by rw [nats_len]; omega
      walk_at "go"
      all_goals
        refine ⟨nd.length + 1 - (f ++ [k]).length, by rw [List.length_append, List.length_singleton]; omega, Cl.of ⟨f ++ [k], _, b2, by rw [← grow_step b hv]; exact hg, rfl, by rw [nats_snoc], ?_, rfl⟩⟩
      · rename_i c
        exact .inl ⟨c, rfl⟩
      · rename_i j c
        exact .inr ⟨j, c, rfl⟩
theorem w_order_of (T : Txt K mg a) (h : S_order_of K a vs A Φ Ψ) (hx : WPost Ψ' W) : GS (t_order_of K a W) (AEf Φ) (L2.start ["needs", "found"] vs) A := by
  obtain ⟨p, nd, rfl, hn, h40, hq1, hq2⟩ := h
  show GS _ _ [some (.ref p), none] A
  unfold t_order_of
  walk_at "go"
  · rename_i c
    rw [nats_len] at c
    exact Cl.le (by walk_at "le") (hq1 (fun (z : _ = _) => by omega))
  · rename_i c
    rw [nats_len] at c
    have := (beg_ok nd).len
    exact Cl.le (by walk_at "le") (hq2 _ (show _ = _ by omega))
theorem w_ring_of (T : Txt K mg a) (h : S_ring_of K a vs A Φ Ψ) (hx : WPost Ψ' W) : GS (t_ring_of K a W) (AEf Φ) (L2.start ["needs", "ahead", "place", "left", "trail", "other"] vs) A := by
  obtain ⟨p, nd, rfl, hn, ok, hq1, hq2⟩ := h
  have h40 : nd.length ≤ 40 := ok.1
  have bok := beg_ok nd
  have bl := bok.len
  show GS _ _ [some (.ref p), none, none, none, none, none] A
  unfold t_ring_of
  walk_at "go"
  rename_i d l
  refine gf_list (xs := nats (begF nd)) (fun i σ A' => (∃ u, σ = [some (.ref p), some (.ref d), u, none, none, none]) ∧ A' = sg d (.dK (ahd ((begF nd).take i))) :: sg l (.lst (nats (begF nd))) :: A) (Cl.le (B := sg d (.dK (ahd [])) :: sg l (.lst (nats (begF nd))) :: A) (by walk_at "le") ⟨⟨none, rfl⟩, rfl⟩) ?_ ?_ ?_
  · rintro i σ A' _ ⟨_, rfl⟩
    exact RL.head.tail
  · rintro i x σ A' hx1 ⟨⟨u, rfl⟩, rfl⟩
    obtain ⟨e, he, rfl⟩ := nats_at hx1
    have hlt := (List.getElem?_eq_some_iff.mp he).1
    have hn2 : e ∉ (begF nd).take i := fun z => by
      obtain ⟨j, hj, e1⟩ := List.mem_iff_getElem.mp z
      rw [List.getElem_take] at e1
      rw [List.length_take] at hj
      have e2 : (begF nd)[i] = e := (List.getElem?_eq_some_iff.mp he).2
      have := nodup_inj bok.dup (i := j) (j := i) (by omega) hlt (e1.trans e2.symm)
      omega
    have tl : ((begF nd).take i).length ≤ 1000 := by rw [List.length_take]; omega
    walk_at "go"
    refine Cl.of ⟨⟨_, rfl⟩, ?_⟩
    rw [List.take_add_one, he]
    rfl
  · rintro σ A' ⟨⟨u, rfl⟩, rfl⟩
    rw [nats_len, List.take_length]
    walk_at "go"
    refine glc_rngF (σw := [some (.ref p), some (.ref d), none, none, none, none]) (fun i => if i ∈ begF nd then none else some (.int (i : Int))) rfl (by omega) ?_ ?_
    · intro i hi D acc
      rw [Int.zero_add]
      walk_at "go"
      refine ⟨rfl, ?_⟩
      walk_at "go"
      · rename_i c
        exact ⟨by rw [if_neg c], by walk_at "le"⟩
      · rename_i c
        exact ⟨by rw [if_pos c], by walk_at "le"⟩
    · intro lf
      have e1 : (List.range (nd.length : Int).toNat).filterMap (fun i => if i ∈ begF nd then none else some (V.int (i : Int))) = nats (leftF nd) := by
        rw [Int.toNat_natCast, leftF, nats, ← List.filterMap_eq_map, List.filterMap_filter]
        refine fm_cong fun x _ => ?_
        by_cases c : x ∈ begF nd <;> simp [c]
      rw [e1]
      walk_at "go"
      · rename_i c
        exact Cl.le (by walk_at "le") (hq1 (leftF_none.mp c))
      · rename_i c t
        obtain ⟨x0, r0, e0⟩ : ∃ x r, leftF nd = x :: r := by
          cases e : leftF nd with
          | nil => exact absurd e c
          | cons x r => exact ⟨x, r, rfl⟩
        have nf : ¬ Full nd := fun z => c (leftF_none.mpr z)
        have m0 : x0 ∈ leftF nd := by rw [e0]; exact List.mem_cons_self
        refine gr_ix_nats (l := leftF nd) (k := 0) (by walk_at "rl") (by rw [e0]; simp) ?_
        rw [show (leftF nd).getD 0 0 = x0 by rw [e0]; rfl]
        walk_at "go"
        refine gs_while (fun m σ A' => ∃ tr x o, Trail nd tr x ∧ m = nd.length - tr.length ∧ A' = sg t (.lst (nats tr)) :: sg d (.dK (ahd (begF nd))) :: A ∧ σ = [some (.ref p), some (.ref d), some (.int ((x : Nat) : Int)), some (.ref lf), some (.ref t), o]) nd.length (Cl.le (B := sg t (.lst []) :: sg d (.dK (ahd (begF nd))) :: A) (by walk_at "le") ⟨[], x0, _, Trail.nil m0, rfl, rfl, rfl⟩) ?_
        rintro m σ A' ⟨tr, x, o, ht, rfl, rfl, rfl⟩
        have tl := ht.len
        have tl2 : (nats tr).length ≤ 1000 := by rw [nats_len]; omega
        have xlt := (leftF_mem.mp ht.at').1
        have rl10 := (ok.at xlt).1
        obtain ⟨y, r, ey, hy, hy2⟩ := goF_mem ok ht.at'
        walk_at "go"
        · rename_i hx1 ra hra
          refine glc_lstF (σw := [some (.ref p), some (.ref d), some (.int ((x : Nat) : Int)), some (.ref lf), some (.ref t), none]) (xs := nats (nd.getD x [])) (fun v => match v with | .int i => if i.toNat ∈ begF nd then none else some (.int i) | _ => none) rfl (by rw [nats_len]; omega) (by walk_at "rl") ?_ ?_
          · intro i v hv D acc
            obtain ⟨e, he, rfl⟩ := nats_at hv
            dsimp only
            rw [Int.toNat_natCast]
            walk_at "go"
            refine ⟨rfl, ?_⟩
            walk_at "go"
            · rename_i c
              exact ⟨by rw [if_neg c], by walk_at "le"⟩
            · rename_i c
              exact ⟨by rw [if_pos c], by walk_at "le"⟩
          · intro D
            have e2 : (nats (nd.getD x [])).filterMap (fun v => match v with | .int i => if i.toNat ∈ begF nd then none else some (V.int i) | _ => none) = nats (y :: r) := by
              rw [← ey]
              unfold nats goF
              rw [fm_map, ← List.filterMap_eq_map, List.filterMap_filter]
              refine fm_cong fun z _ => ?_
              dsimp only
              rw [Int.toNat_natCast]
              by_cases c : z ∈ begF nd <;> simp [c]
            rw [e2]
            walk_at "go"
            refine gr_ix_nats (l := y :: r) (k := 0) (by walk_at "rl") (by simp) ?_
            walk_at "go"
            have ht2 := ht.more hx1 hy hy2
            have tl3 := ht2.len
            rw [List.length_append, List.length_singleton] at tl3
            refine ⟨nd.length - (tr ++ [x]).length, by rw [List.length_append, List.length_singleton]; omega, Cl.le (B := sg t (.lst (nats tr ++ [V.int ((x : Nat) : Int)])) :: sg d (.dK (ahd (begF nd))) :: A) (by walk_at "le") ⟨tr ++ [x], y, o, ht2, rfl, by rw [nats_snoc], rfl⟩⟩
        · rename_i hx1
          obtain ⟨n, h1, h2⟩ := first_at hx1
          have hn2 := (List.getElem?_eq_some_iff.mp h1).1
          refine gm_index_nats RL.head h1 h2 ?_
          walk_at "go"
          rename_i z
          rw [Int.toNat_natCast, nats_drop]
          exact Cl.le (by walk_at "le") (hq2 z _ nf (ht.ring h1))
end

section
variable {K : PySem.W.Frag} {mg : Str → Option Value} {a : Ad} {A : SH} {vs : List V} {Φ : V → SH → Prop} {Ψ : Value → Option Addr → SH → Prop} {Ψ' : Value → Option Addr → L2.St → SH → Prop} {W : WX} {p q : Addr} {nd : List (List Nat)} {f : List Nat} {k : Nat}
local macro_rules | `(tactic| walk_at "rep") => `(tactic| (refine' NdAt.le ?l_ ?r_; (case r_ => assumption); (case l_ => walk_at "le")))
local macro_rules | `(tactic| walk_at "gr") => `(tactic| with_reducible first | (refine' gr_nd ?h1 ?h2 (fun _ _ => ?_); (case h1 => walk_at "rp"); (case h2 => omega)) | (refine' gr_modN ?h1 (fun _ _ => ?_); (case h1 => omega)) | (refine' gr_ix_natsI ?h1 ?h2 ?h3 (fun _ _ => ?_); (case h1 => walk_at "rl"); (case h2 => omega); (case h3 => omega)))
local macro_rules | `(tactic| walk_at "gc") => `(tactic| with_reducible (refine' gc_nd ?h1 ?_; (case h1 => walk_at "rp")))
local macro_rules | `(tactic| walk_at "nn") => `(tactic| with_reducible first | (refine' nd_in0 ?h1 ?_; (case h1 => walk_at "rd")) | (refine' nd_in1 ?h1 ?_; (case h1 => walk_at "rd")) | (refine' nd_put ?h1 ?h2 ?h3 ?_; (case h1 => walk_at "pull"); (case h2 => assumption); (case h3 => omega)))
local macro_rules | `(tactic| walk_at "ge") => `(tactic| with_reducible (refine' ge_dnewA ?_; intro _))
theorem w_law_mixed (T : Txt K mg a) (h : S_law_mixed K a vs A Φ Ψ) (hx : WPost Ψ' W) : GS (t_law_mixed K a W) (AEf Φ) (L2.start ["_law_script", "_law_k", "_law_cell", "_law_number"] vs) A := by
  obtain ⟨p, ns, k, rfl, hr, hn, k0, k1, hq⟩ := h
  show GS _ _ [some (.ref p), some (.int k), none, none] A
  unfold t_law_mixed
  walk_at "go"
  · rename_i c
    have : 0 < ns.length := List.length_pos_iff.mpr c
    have h1 : 0 ≤ k % (ns.length : Int) := Int.emod_nonneg _ (by omega)
    have h2 : k % (ns.length : Int) < (ns.length : Int) := Int.emod_lt_of_pos _ (by omega)
    refine gr_modI (by omega) ?_
    walk_at "go"
theorem w_law_line_up (T : Txt K mg a) (h : S_law_line_up K a vs A Φ Ψ) (hx : WPost Ψ' W) : GS (t_law_line_up K a W) (AEf Φ) (L2.start ["_law_script", "_law_many", "_law_found", "_law_k"] vs) A := by
  obtain ⟨p, ns, n, rfl, hr, hn, n0, h40, hq⟩ := h
  show GS _ _ [some (.ref p), some (.int n), none, none] A
  unfold t_law_line_up
  walk_at "go"
  rename_i l
  refine gf_range (fun i σ A' => ∃ u f, σ = [some (.ref p), some (.int n), some (.ref l), u] ∧ A' = sg l (.lst (nats f)) :: A ∧ f.length = i ∧ ∀ x ∈ f, x < i) (Cl.of ⟨none, [], rfl, rfl, rfl, by simp⟩) ?_ ?_
  · rintro i σ A' hi ⟨u, f, rfl, rfl, fl, hf⟩
    rw [Int.zero_add]
    walk_at "go"
    rename_i m m0 m1
    have h1 : 0 ≤ m % ((i : Int) + 1) := Int.emod_nonneg _ (by omega)
    have h2 : m % ((i : Int) + 1) < (i : Int) + 1 := Int.emod_lt_of_pos _ (by omega)
    refine gm_insert .head (sz1 (by rw [nats_len]; omega)) (by omega) (by omega) ?_
    generalize (m % ((i : Int) + 1)).toNat = j
    refine Cl.of ⟨_, f.take j ++ [i] ++ f.drop j, rfl, ?_, ?_, ?_⟩
    · rw [nats_take, nats_drop, nats_snoc, nats_app]
    · simp only [List.length_append, List.length_take, List.length_drop, List.length_singleton]
      omega
    · intro x hx2
      simp only [List.mem_append, List.mem_singleton] at hx2
      rcases hx2 with (z | z) | z
      · have := hf x (List.mem_of_mem_take z); omega
      · omega
      · have := hf x (List.mem_of_mem_drop z); omega
  · rintro σ A' ⟨u, f, rfl, rfl, fl, hf⟩
    walk_at "go"
theorem w_law_freely (T : Txt K mg a) (h : S_law_freely K a vs A Φ Ψ) (hx : WPost Ψ' W) : GS (t_law_freely K a W) (AEf Φ) (L2.start ["_law_script", "_law_many", "_law_found", "_law_k", "_law_size", "_law_j"] vs) A := by
  obtain ⟨p, ns, n, rfl, hr, hn, n0, h40, hq⟩ := h
  show GS _ _ [some (.ref p), some (.int n), none, none, none, none] A
  unfold t_law_freely
  walk_at "go"
  rename_i l
  refine gf_range (fun i σ A' => ∃ u v rs nd h, σ = [some (.ref p), some (.int n), some (.ref l), u, v, none] ∧ A' = h :: sg l (.lst (rs.map V.ref)) :: A ∧ nd.length = i ∧ RowsAt [h] rs nd ∧ ∀ row ∈ nd, row.length ≤ 10 ∧ ∀ e ∈ row, e < n.toNat)
    (Cl.blk (xs := []) (A := sg l (.lst []) :: A) Le.refl fun h _ => ⟨none, none, [], [], h, rfl, rfl, rfl, RowsAt.nil, by simp⟩) ?_ ?_
  · rintro i σ A' hi ⟨u, v, rs, nd, h, rfl, rfl, nl, hrows, hok⟩
    rw [Int.zero_add]
    have rl : rs.length ≤ 40 := by have := hrows.1; omega
    have key : ∀ (v w : Option V) (D : Addr) (row : List Nat), row.length ≤ 10 → (∀ e ∈ row, e < n.toNat) → Cl (fun σ A' => ∃ u v rs nd h, σ = [some (.ref p), some (.int n), some (.ref l), u, v, none] ∧ A' = h :: sg l (.lst (rs.map V.ref)) :: A ∧ nd.length = i + 1 ∧ RowsAt [h] rs nd ∧ ∀ row ∈ nd, row.length ≤ 10 ∧ ∀ e ∈ row, e < n.toNat)
        [some (.ref p), some (.int n), some (.ref l), v, w, none] (sg l (.lst (rs.map V.ref ++ [.ref D])) :: sg D (.lst (nats row)) :: h :: A) := fun v w D row h1 h2 =>
      Cl.blk (xs := [sg D (.lst (nats row)), h]) (A := sg l (.lst (rs.map V.ref ++ [.ref D])) :: A) (by simp only [List.cons_append, List.nil_append]; walk_at "le") fun g hs => ⟨v, w, rs ++ [D], nd ++ [row], g, rfl, by rw [List.map_append]; rfl, by rw [List.length_append, nl]; rfl, (hrows.le (le1 (hs h (by simp)))).snoc (sub_sg (hs _ (by simp))), fun r hr2 => by
        rcases List.mem_append.mp hr2 with z | z
        · exact hok r z
        · rw [List.mem_singleton.mp z]
          exact ⟨h1, h2⟩⟩
    walk_at "go"
    all_goals
      refine glc_rngP (σw := [some (.ref p), some (.int n), some (.ref l), some (.int i), some (.int _), none]) (fun _ y => ∃ x : Nat, y = .int (x : Int) ∧ x < n.toNat) rfl (by omega) ?_ ?_
      · intro j hj D acc
        rw [Int.zero_add]
        walk_at "go"
        refine ⟨rfl, ?_⟩
        walk_at "go"
        rename_i m m0 m1
        have h1 : 0 ≤ m % n := Int.emod_nonneg _ (by omega)
        have h2 : m % n < n := Int.emod_lt_of_pos _ (by omega)
        exact ⟨⟨(m % n).toNat, by congr 1; omega, by omega⟩, by walk_at "le"⟩
      · intro D ys yl hy
        obtain ⟨row, rfl, hrow⟩ := nats_of (P := fun _ x => x < n.toNat) hy
        have rl2 : (rs.map V.ref).length ≤ 1000 := by rw [List.length_map]; omega
        rw [nats_len] at yl
        walk_at "go"
        exact key _ _ D row (by omega) fun e he => by
          obtain ⟨j, hj, e1⟩ := List.mem_iff_getElem.mp he
          exact hrow j e (by rw [List.getElem?_eq_getElem hj, e1])
  · rintro σ A' ⟨u, v, rs, nd, h, rfl, rfl, nl, hrows, hok⟩
    walk_at "go"
    refine Cl.blk (xs := [h, sg l (.lst (rs.map V.ref))]) (A := A) (by simp only [List.cons_append, List.nil_append]; walk_at "le") fun g hs => ?_
    refine hq l nd g ⟨rs, sub_sg (hs _ (by simp)), hrows.le (le1 (hs h (by simp)))⟩ ⟨by omega, fun row hr2 => ?_⟩
    rw [nl]
    exact hok row hr2
theorem w_law_needs (T : Txt K mg a) (h : S_law_needs K a vs A Φ Ψ) (hx : WPost Ψ' W) : GS (t_law_needs K a W) (AEf Φ) (L2.start ["_law_script", "_law_many"] vs) A := by
  obtain ⟨p, ns, rfl, hr, hn, hq⟩ := h
  show GS _ _ [some (.ref p), none] A
  unfold t_law_needs
  walk_at "go"
theorem w_law_whole (T : Txt K mg a) (h : S_law_whole K a vs A Φ Ψ) (hx : WPost Ψ' W) : GS (t_law_whole K a W) (AEf Φ) (L2.start ["_law_found"] vs) A := by
  obtain ⟨i, rfl, hq⟩ := h
  show GS _ _ [some (.int i)] A
  unfold t_law_whole
  walk_at "go"
theorem w_law_copied (T : Txt K mg a) (h : S_law_copied K a vs A Φ Ψ) (hx : WPost Ψ' W) : GS (t_law_copied K a W) (AEf Φ) (L2.start ["_law_needs_here", "_law_row"] vs) A := by
  obtain ⟨p, nd, rfl, ⟨rs, hp, hrows⟩, h40, hq⟩ := h
  show GS _ _ [some (.ref p), none] A
  unfold t_law_copied
  walk_at "go"
  have hl := hrows.1
  refine glc_new fun h0 => glc_list (xs := rs.map V.ref) (σw := [some (.ref p), none]) (fun i acc A' => ∃ qs h, acc = List.map V.ref qs ∧ A' = h :: A ∧ RowsAt [h] qs (nd.take i)) rfl ⟨[], h0, rfl, rfl, RowsAt.nil⟩ (sz1 (by rw [List.length_map]; omega)) ?_ ?_ ?_
  · rintro i acc A' _ ⟨qs, h, rfl, rfl, _⟩
    exact (RL.ro hp).tail
  · rintro i x acc A' D hx _ ⟨qs, h, rfl, rfl, hr⟩
    obtain ⟨r, hr1, rfl⟩ := map_at hx
    have il := (List.getElem?_eq_some_iff.mp hr1).1
    have hx2 : nd[i]? = some (nd[i]'(by omega)) := List.getElem?_eq_getElem _
    have h3 := hrows.2 i r _ hr1 hx2
    unfold Turn1
    walk_at "go"
    refine ⟨rfl, ?_⟩
    walk_at "go"
    rename_i c
    refine CT.blk (xs := [sg c (.lst (nats nd[i])), h]) (B := A) (by simp only [List.cons_append, List.nil_append]; walk_at "le") fun g hs => ⟨qs ++ [c], g, by rw [List.map_append]; rfl, rfl, ?_⟩
    rw [List.take_add_one, hx2]
    exact (hr.le (le1 (hs h (by simp)))).snoc (sub_sg (hs _ (by simp)))
  · rintro acc A' D _ ⟨qs, h, rfl, rfl, hr⟩
    rw [List.length_map, hl, List.take_length] at hr
    exact Cl.of (hq D qs h hr)
theorem w_law_in_line (T : Txt K mg a) (h : S_law_in_line K a vs A Φ Ψ) (hx : WPost Ψ' W) : GS (t_law_in_line K a W) (AEf Φ) (L2.start ["_law_script", "_law_many", "_law_k", "_law_found", "_law_line", "_law_at", "_law_place", "_law_size", "_law_j", "_law_one", "_law_other", "_law_spot"] vs) A := by
  obtain ⟨p, ns, n, rfl, hr, hn, n0, h40, hq⟩ := h
  obtain ⟨n, rfl⟩ : ∃ k : Nat, n = k := ⟨n.toNat, by omega⟩
  have n1 : n ≤ 40 := by omega
  show GS _ _ [some (.ref p), some (.int n), none, none, none, none, none, none, none, none, none, none] A
  unfold t_law_in_line
  walk_at "go"
  refine glc_new fun h0 => glc_range (σw := [some (.ref p), some (.int n), none, none, none, none, none, none, none, none, none, none]) (fun i acc A' => ∃ qs h, acc = List.map V.ref qs ∧ A' = h :: A ∧ RowsAt [h] qs (List.replicate i [])) rfl ⟨[], h0, rfl, rfl, RowsAt.nil⟩ (sz1 (by omega)) ?_ ?_
  · rintro i acc A' D hi _ ⟨qs, h, rfl, rfl, hr2⟩
    unfold Turn1
    walk_at "go"
    refine ⟨rfl, ?_⟩
    walk_at "go"
    rename_i c
    refine CT.blk (xs := [sg c (.lst []), h]) (B := A) (by simp only [List.cons_append, List.nil_append]; walk_at "le") fun g hs => ⟨qs ++ [c], g, by rw [List.map_append]; rfl, rfl, ?_⟩
    rw [List.replicate_succ']
    exact (hr2.le (le1 (hs h (by simp)))).snoc (xs := []) (sub_sg (hs (sg c (.lst [])) (by simp)))
  rintro acc A' fl _ ⟨qs, h, rfl, rfl, hr2⟩
  rw [Int.toNat_natCast] at hr2
  walk_at "go"
  rename_i ln l hl1 hl2
  rw [Int.toNat_natCast] at hl1 hl2
  refine gf_enum (xs := nats l) (fun i σ A' => ∃ u v w qs h nd, σ = [some (.ref p), some (.int n), none, some (.ref fl), some (.ref ln), u, v, w, none, none, none, none] ∧ A' = h :: sg ln (.lst (nats l)) :: sg fl (.lst (List.map V.ref qs)) :: A ∧ nd.length = n ∧ RowsAt [h] qs nd ∧ ∀ row ∈ nd, row.length ≤ 4 ∧ ∀ e ∈ row, e < n)
    (Cl.le (B := h :: sg ln (.lst (nats l)) :: sg fl (.lst (List.map V.ref qs)) :: A) (by walk_at "le") ⟨none, none, none, qs, h, _, rfl, rfl, by rw [List.length_replicate], hr2, fun row hr3 => by rw [List.eq_of_mem_replicate hr3]; simp⟩) ?_ ?_ ?_
  · rintro i σ A' _ ⟨u, v, w, qs, h, nd, rfl, rfl, _⟩
    exact RL.head.tail
  · rintro i x σ A' T hx1 ⟨u, v, w, qs, h, nd, rfl, rfl, nl, hr3, hok⟩
    obtain ⟨e, he, rfl⟩ := nats_at hx1
    have elt := hl2 e (List.mem_of_getElem? he)
    have il := (List.getElem?_eq_some_iff.mp he).1
    have el2 : e < nd.length := by omega
    have ql : qs.length ≤ 40 := by have := hr3.1; omega
    have qe : qs.length = nd.length := hr3.1
    have key : ∀ (u v w : Option V) (D : Addr) (row : List Nat), row.length ≤ 4 → (∀ e ∈ row, e < n) → Cl (fun σ A' => ∃ u v w qs h nd, σ = [some (.ref p), some (.int n), none, some (.ref fl), some (.ref ln), u, v, w, none, none, none, none] ∧ A' = h :: sg ln (.lst (nats l)) :: sg fl (.lst (List.map V.ref qs)) :: A ∧ nd.length = n ∧ RowsAt [h] qs nd ∧ ∀ row ∈ nd, row.length ≤ 4 ∧ ∀ e ∈ row, e < n)
        [some (.ref p), some (.int n), none, some (.ref fl), some (.ref ln), u, v, w, none, none, none, none] (sg fl (.lst ((List.map V.ref qs).set (e : Int).toNat (.ref D))) :: sg D (.lst (nats row)) :: sg T (.tup [.int i, .int e]) :: h :: sg ln (.lst (nats l)) :: A) := fun u v w D row h1 h2 => by
      rw [Int.toNat_natCast]
      refine Cl.blk (xs := [sg D (.lst (nats row)), h]) (A := sg ln (.lst (nats l)) :: sg fl (.lst ((List.map V.ref qs).set e (.ref D))) :: A) (by simp only [List.cons_append, List.nil_append]; walk_at "le") fun g hs => ⟨u, v, w, qs.set e D, g, nd.set e row, rfl, by rw [List.map_set], by rw [List.length_set, nl], (hr3.le (le1 (hs h (by simp)))).set (sub_sg (hs _ (by simp))), fun r hr4 => ?_⟩
      rcases List.mem_or_eq_of_mem_set hr4 with z | z
      · exact hok r z
      · rw [z]
        exact ⟨h1, h2⟩
    walk_at "go"
    all_goals
      refine glc_rngP (σw := [some (.ref p), some (.int n), none, some (.ref fl), some (.ref ln), some (.int i), some (.int e), some (.int _), none, none, none, none]) (fun _ y => ∃ x : Nat, y = .int (x : Int) ∧ x < n) rfl (by omega) ?_ ?_
      · intro j hj D acc
        first
        | (exfalso; omega)
        | (rw [Int.zero_add]
           walk_at "go"
           refine ⟨rfl, ?_⟩
           walk_at "go"
           rename_i x hx3
           exact ⟨⟨x, rfl, hl2 x (List.mem_of_getElem? hx3)⟩, by walk_at "le"⟩)
      · intro D ys yl hy
        obtain ⟨row, rfl, hrow⟩ := nats_of (P := fun _ x => x < n) hy
        rw [nats_len] at yl
        walk_at "go"
        exact key _ _ _ D row (by omega) fun e he => by
          obtain ⟨j, hj, e1⟩ := List.mem_iff_getElem.mp he
          exact hrow j e (by rw [List.getElem?_eq_getElem hj, e1])
  · rintro σ A' ⟨u, v, w, qs, h, nd, rfl, rfl, nl, hr3, hok⟩
    have ql : qs.length ≤ 40 := by have := hr3.1; omega
    have qe : qs.length = nd.length := hr3.1
    have done : Cl Φ (.ref fl) (h :: sg ln (.lst (nats l)) :: sg fl (.lst (List.map V.ref qs)) :: A) :=
      Cl.blk (xs := [h, sg fl (.lst (List.map V.ref qs))]) (A := A) (by simp only [List.cons_append, List.nil_append]; walk_at "le") fun g hs =>
        hq fl nd g ⟨qs, sub_sg (hs _ (by simp)), hr3.le (le1 (hs h (by simp)))⟩ ⟨by omega, fun row hr5 => ⟨by have := (hok row hr5).1; omega, by rw [nl]; exact (hok row hr5).2⟩⟩
    walk_at "go"
    · rename_i c m m0 m1 e o1 ho2 hoe m2 m3 m4 x hx1 m5 m6 m7
      have xl := hl2 x (List.mem_of_getElem? hx1)
      have el := hl2 e (List.mem_of_getElem? o1)
      have el2 : e < nd.length := by omega
      have r1 : qs[e]? = some (qs[e]'(by omega)) := List.getElem?_eq_getElem _
      have r2 : nd[e]? = some nd[e] := List.getElem?_eq_getElem el2
      have r3 := hr3.2 e _ _ r1 r2
      have r4 : ∀ B : SH, RO (h :: B) qs[e] (.lst (nats nd[e])) := fun B => r3.le (le1i (by simp))
      have rl := hok nd[e] (List.getElem_mem el2)
      have rg : ∀ (B : SH) (Φ : V → SH → Prop), Φ (.ref qs[e]) B → RL K B fl (List.map V.ref qs) → GR (rIx K) (.ref fl) (.int (e : Int)) B Φ := fun B Φ k r => gr_ixM r r1 k
      refine rg _ _ ?_ (by walk_at "rl")
      have r5 := r4 (sg ln (.lst (nats l)) :: sg fl (.lst (List.map V.ref qs)) :: A)
      walk_at "go"
      rw [nats_len]
      walk_at "go"
      have sp0 : 0 ≤ m5 % ((nd[e].length : Int) + 1) := Int.emod_nonneg _ (by omega)
      have sp1 : m5 % ((nd[e].length : Int) + 1) < (nd[e].length : Int) + 1 := Int.emod_lt_of_pos _ (by omega)
      generalize m5 % ((nd[e].length : Int) + 1) = sp at sp0 sp1
      refine rg _ _ ?_ (by walk_at "rl")
      walk_at "go"
      refine rg _ _ ?_ (by walk_at "rl")
      walk_at "go"
      rename_i r
      have e3 : (nats nd[e]).take sp.toNat ++ [V.int (x : Int)] ++ (nats nd[e]).drop sp.toNat = nats (nd[e].take sp.toNat ++ [x] ++ nd[e].drop sp.toNat) := by rw [nats_take, nats_drop, nats_snoc, nats_app]
      rw [e3]
      rw [Int.toNat_natCast]
      refine Cl.blk (xs := [h, sg r (.lst (nats (nd[e].take sp.toNat ++ [x] ++ nd[e].drop sp.toNat))), sg fl (.lst ((List.map V.ref qs).set e (.ref r)))]) (A := A) (by simp only [List.cons_append, List.nil_append]; walk_at "le") fun g hs => ?_
      refine hq fl (nd.set e (nd[e].take sp.toNat ++ [x] ++ nd[e].drop sp.toNat)) g ⟨qs.set e r, by rw [List.map_set]; exact sub_sg (hs _ (by simp)), (hr3.le (le1 (hs h (by simp)))).set (sub_sg (hs _ (by simp)))⟩ ⟨by rw [List.length_set]; omega, fun row hr5 => ?_⟩
      rw [List.length_set, nl]
      rcases List.mem_or_eq_of_mem_set hr5 with z | z
      · exact ⟨by have := (hok row z).1; omega, (hok row z).2⟩
      · subst z
        refine ⟨by simp only [List.length_append, List.length_take, List.length_drop, List.length_singleton]; omega, fun y hy => ?_⟩
        simp only [List.mem_append, List.mem_singleton] at hy
        rcases hy with (z | z) | z
        · exact rl.2 y (List.mem_of_mem_take z)
        · omega
        · exact rl.2 y (List.mem_of_mem_drop z)
    · exact done
    · exact done
end

section
variable {K : PySem.W.Frag} {mg : Str → Option Value} {a : Ad} {A : SH} {vs : List V} {Φ : V → SH → Prop} {Ψ : Value → Option Addr → SH → Prop} {Ψ' : Value → Option Addr → L2.St → SH → Prop} {W : WX} {p q : Addr} {nd : List (List Nat)} {f : List Nat} {k : Nat}
local macro_rules | `(tactic| walk_at "rep") => `(tactic| (refine' NdAt.le ?l_ ?r_; (case r_ => assumption); (case l_ => walk_at "le")))
local macro_rules | `(tactic| walk_at "gr") => `(tactic| with_reducible first | (refine' gr_nd ?h1 ?h2 (fun _ _ => ?_); (case h1 => walk_at "rp"); (case h2 => omega)) | (refine' gr_modN ?h1 (fun _ _ => ?_); (case h1 => omega)) | (refine' gr_ix_natsI ?h1 ?h2 ?h3 (fun _ _ => ?_); (case h1 => walk_at "rl"); (case h2 => omega); (case h3 => omega)))
local macro_rules | `(tactic| walk_at "gc") => `(tactic| with_reducible (refine' gc_nd ?h1 ?_; (case h1 => walk_at "rp")))
local macro_rules | `(tactic| walk_at "nn") => `(tactic| with_reducible first | (refine' nd_in0 ?h1 ?_; (case h1 => walk_at "rd")) | (refine' nd_in1 ?h1 ?_; (case h1 => walk_at "rd")) | (refine' nd_put ?h1 ?h2 ?h3 ?_; (case h1 => walk_at "pull"); (case h2 => assumption); (case h3 => omega)))
local macro_rules | `(tactic| walk_at "ge") => `(tactic| with_reducible (refine' ge_dnewA ?_; intro _))
theorem ahd_drop : dropK (ahd f) (.inl (k : Int)) = ahd (f.filter fun z => !decide (z = k)) := by
  unfold dropK ahd
  rw [List.filter_map]
  congr 1
  refine List.filter_congr fun z _ => ?_
  show decide ((Sum.inl ((z : Nat) : Int) : L2.Key) ≠ .inl (k : Int)) = _
  by_cases c : z = k
  · subst c
    simp
  · rw [decide_eq_true (key_ne c)]
    simp [c]
theorem w_law_can_end (T : Txt K mg a) (h : S_law_can_end K a vs A Φ Ψ) (hx : WPost Ψ' W) : GS (t_law_can_end K a W) (AEf Φ) (L2.start ["_law_needs_here", "_law_left", "_law_place", "_law_gone", "_law_other", "_law_some"] vs) A := by
  obtain ⟨p, nd, rfl, hn, ok, hq⟩ := h
  have h40 := ok.1
  show GS _ _ [some (.ref p), none, none, none, none, none] A
  unfold t_law_can_end
  walk_at "go"
  rename_i d
  refine gf_range (fun i σ A' => (∃ u, σ = [some (.ref p), some (.ref d), u, none, none, none]) ∧ A' = sg d (.dK (ahd (List.range i))) :: A) (Cl.of ⟨⟨none, rfl⟩, rfl⟩) ?_ ?_
  · rintro i σ A' hi ⟨⟨u, rfl⟩, rfl⟩
    rw [Int.zero_add]
    have h1 : i ∉ List.range i := by simp
    have h2 : (List.range i).length ≤ 1000 := by rw [List.length_range]; omega
    walk_at "go"
    exact Cl.of ⟨⟨_, rfl⟩, by rw [List.range_succ]⟩
  · rintro σ A' ⟨⟨u, rfl⟩, rfl⟩
    rw [Int.toNat_natCast]
    walk_at "go"
    refine gs_while (fun m σ A' => ∃ L b u v, Lft nd L ∧ (b = false → someF nd L = []) ∧ m = (L.length + if b then 1 else 0) ∧ A' = sg d (.dK (ahd L)) :: A ∧ σ = [some (.ref p), some (.ref d), u, some (.bl b), none, v]) (nd.length + 1) (Cl.of ⟨_, true, _, _, Lft.start, (fun z => nomatch z), by rw [List.length_range]; rfl, rfl, rfl⟩) ?_
    rintro m σ A' ⟨L, b, u, v, hL, hb, rfl, rfl, rfl⟩
    walk_at "go"
    · rename_i c sl
      have Ll : L.length ≤ 40 := by have := nodup_le _ _ hL.dup hL.lt; omega
      have e1 : (ahd L).map (fun kv => kV kv.1) = nats L := by simp [ahd, nats, kV]
      rw [e1]
      refine glc_lstF (σw := [some (.ref p), some (.ref d), none, some (.bl b), none, v]) (xs := nats L) (fun v => match v with | .int i => if i.toNat ∈ someF nd L then some (.int i) else none | _ => none) rfl (by rw [nats_len]; omega) (by walk_at "rl") ?_ ?_
      · intro i x hx1 D acc
        obtain ⟨e, he, rfl⟩ := nats_at hx1
        have elt := hL.lt e (List.mem_of_getElem? he)
        dsimp only
        rw [Int.toNat_natCast]
        walk_at "go"
        refine ⟨rfl, ?_⟩
        walk_at "go"
        rename_i r hr
        refine glc_lstF (σw := [some (.ref p), some (.ref d), some (.int e), some (.bl b), none, v]) (xs := nats (nd.getD e [])) (fun v => match v with | .int i => if i.toNat ∈ L then some (.int i) else none | _ => none) rfl (by have := (ok.at elt).1; rw [nats_len]; omega) (by walk_at "rl") ?_ ?_
        · intro j y hy D acc
          obtain ⟨z, hz, rfl⟩ := nats_at hy
          dsimp only
          rw [Int.toNat_natCast]
          walk_at "go"
          refine ⟨rfl, ?_⟩
          walk_at "go"
          · rename_i c
            exact ⟨by rw [if_pos c], by walk_at "le"⟩
          · rename_i c
            exact ⟨by rw [if_neg c], by walk_at "le"⟩
        · intro D2
          have e3 : (nats (nd.getD e [])).filterMap (fun v => match v with | .int i => if i.toNat ∈ L then some (V.int i) else none | _ => none) = nats ((nd.getD e []).filter fun z => decide (z ∈ L)) := by
            unfold nats
            rw [fm_map, ← List.filterMap_eq_map, List.filterMap_filter]
            refine fm_cong fun z _ => ?_
            dsimp only
            rw [Int.toNat_natCast]
            by_cases c : z ∈ L <;> simp [c]
          have e4 : ((nd.getD e []).filter fun z => decide (z ∈ L)) = [] ↔ e ∈ someF nd L := by
            rw [someF_mem, List.filter_eq_nil_iff]
            constructor
            · intro h
              exact ⟨List.mem_of_getElem? he, fun z hz hL2 => h z hz (by simpa using hL2)⟩
            · intro h z hz
              simpa using h.2 z hz
          rw [e3]
          walk_at "go"
          · rename_i c
            exact ⟨by rw [if_pos (e4.mp c)], by walk_at "le"⟩
          · rename_i c
            exact ⟨by rw [if_neg (fun z => c (e4.mpr z))], by walk_at "le"⟩
      · intro D
        have e2 : (nats L).filterMap (fun v => match v with | .int i => if i.toNat ∈ someF nd L then some (V.int i) else none | _ => none) = nats (someF nd L) := by
          have e5 : someF nd L = L.filter fun z => decide (z ∈ someF nd L) := by
            conv => lhs; unfold someF
            refine List.filter_congr fun z hz => ?_
            rw [Bool.eq_iff_iff, decide_eq_true_eq, someF_mem]
            simp [hz]
          conv => rhs; rw [e5]
          unfold nats
          rw [fm_map, ← List.filterMap_eq_map, List.filterMap_filter]
          refine fm_cong fun z _ => ?_
          dsimp only
          rw [Int.toNat_natCast]
          by_cases c : z ∈ someF nd L <;> simp [c]
        rw [e2]
        walk_at "go"
        have e6 : ∀ i, L.filter (fun z => !decide (z ∈ (someF nd L).take i)) = L.filter (fun z => !decide (z ∈ (someF nd L).take i)) := fun _ => rfl
        have sd : (someF nd L).Nodup := hL.dup.sublist List.filter_sublist
        have ss : ∀ z ∈ someF nd L, z ∈ L := fun z hz => (someF_mem.mp hz).1
        refine gf_list (xs := nats (someF nd L)) (fun i σ A' => (∃ u, σ = [some (.ref p), some (.ref d), u, some (.bl b), none, some (.ref D)]) ∧ A' = sg d (.dK (ahd (L.filter (fun z => !decide (z ∈ (someF nd L).take i))))) :: sg D (.lst (nats (someF nd L))) :: A) (Cl.le (B := sg d (.dK (ahd L)) :: sg D (.lst (nats (someF nd L))) :: A) (by walk_at "le") ⟨⟨u, rfl⟩, by rw [List.filter_eq_self.mpr (by simp)]⟩) ?_ ?_ ?_
        · rintro i σ A' _ ⟨_, rfl⟩
          exact RL.head.tail
        · rintro i x σ A' hx1 ⟨⟨u, rfl⟩, rfl⟩
          obtain ⟨e, he, rfl⟩ := nats_at hx1
          have hlt := (List.getElem?_eq_some_iff.mp he).1
          have hn2 : e ∉ (someF nd L).take i := fun z => by
            obtain ⟨j, hj, e1⟩ := List.mem_iff_getElem.mp z
            rw [List.getElem_take] at e1
            rw [List.length_take] at hj
            have e2 : (someF nd L)[i] = e := (List.getElem?_eq_some_iff.mp he).2
            have := nodup_inj sd (i := j) (j := i) (by omega) hlt (e1.trans e2.symm)
            omega
          have hin : e ∈ L.filter (fun z => !decide (z ∈ (someF nd L).take i)) := List.mem_filter.mpr ⟨ss e (List.mem_of_getElem? he), by simpa using hn2⟩
          walk_at "go"
          refine ge_dpop1 ?_
          walk_at "go"
          refine ⟨d, _, rfl, by walk_at "ro", ?_⟩
          walk_at "go"
          refine ⟨_, .inl (e : Int), .bl true, _, .head, rfl, by rw [ahd_val, if_pos hin], ?_⟩
          refine Cl.of ⟨⟨_, rfl⟩, ?_⟩
          rw [ahd_drop, List.filter_filter]
          congr 4
          refine List.filter_congr fun z _ => ?_
          rw [List.take_add_one, he]
          simp only [List.mem_append, Option.toList_some, List.mem_singleton]
          by_cases c1 : z = e <;> by_cases c2 : z ∈ (someF nd L).take i <;> simp [c1, c2]
        · rintro σ A' ⟨⟨u, rfl⟩, rfl⟩
          rw [nats_len, List.take_length]
          have hL2 := hL.next ok
          have l3 : someF nd L ≠ [] → (L.filter (fun p => !decide (p ∈ someF nd L))).length < L.length := fun hne => by
            obtain ⟨z, r, e⟩ : ∃ z r, someF nd L = z :: r := by
              cases e : someF nd L with
              | nil => exact absurd e hne
              | cons z r => exact ⟨z, r, rfl⟩
            have hz : z ∈ someF nd L := by rw [e]; exact List.mem_cons_self
            have h1 := List.length_filter_le (fun p => !decide (p ∈ someF nd L)) L
            rcases Nat.lt_or_eq_of_le h1 with h2 | h2
            · exact h2
            · have := (List.filter_eq_self.mp (List.filter_sublist.eq_of_length h2)) z (ss z hz)
              simp at this
              exact absurd hz this
          walk_at "go"
          subst c
          refine ⟨_, ?_, Cl.le (B := sg d (.dK (ahd (L.filter (fun z => !decide (z ∈ someF nd L))))) :: A) (by walk_at "le") ⟨L.filter (fun z => !decide (z ∈ someF nd L)), !decide (someF nd L = []), u, _, hL2, fun h => ?_, rfl, rfl, rfl⟩⟩
          · by_cases c : someF nd L = []
            · have := List.length_filter_le (fun p => !decide (p ∈ someF nd L)) L
              simp only [decide_eq_true c, Bool.not_true, Bool.false_eq_true, if_false, if_true]
              omega
            · have := l3 c
              simp only [decide_eq_false c, Bool.not_false, if_true]
              omega
          · have h1 : someF nd L = [] := by simpa using h
            rw [h1, List.filter_eq_self.mpr (by simp)]
            exact h1
    · rename_i c
      have e7 : decide (((ahd L).length : Int) = 0) = decide (Full nd) := by
        have := hL.stop (hb c)
        by_cases c2 : Full nd
        · rw [decide_eq_true c2, decide_eq_true]
          rw [this.mpr c2]
          rfl
        · rw [decide_eq_false c2, decide_eq_false]
          intro z
          refine c2 (this.mp (List.eq_nil_of_length_eq_zero ?_))
          have : (ahd L).length = L.length := by unfold ahd; rw [List.length_map]
          omega
      rw [e7]
      exact Cl.le (by walk_at "le") hq
end

section
variable {K : PySem.W.Frag} {mg : Str → Option Value} {a : Ad} {A : SH} {vs : List V} {Φ : V → SH → Prop} {Ψ : Value → Option Addr → SH → Prop} {Ψ' : Value → Option Addr → L2.St → SH → Prop} {W : WX} {p q : Addr} {nd : List (List Nat)} {f : List Nat} {k : Nat}
theorem dps_of {K : PySem.W.Frag} {A : SH} : ∀ {vs : List V} {ds : List PyData}, vs.length = ds.length → (∀ (i : Nat) (v : V) (d : PyData), vs[i]? = some v → ds[i]? = some d → DP K A v d) → DPs K A vs ds
  | [], [], _, _ => dps_nil
  | v :: vs, d :: ds, hl, h => dps_cons (h 0 v d rfl rfl) (dps_of (by simpa using hl) fun i v d h1 h2 => h (i + 1) v d (by simpa using h1) (by simpa using h2))
def ndD (nd : List (List Nat)) : PyData := .list (nd.map fun r => .list (r.map fun i : Nat => .int i))
theorem nd_dp (h : NdAt A p nd) : DP K A (.ref p) (ndD nd) := by
  obtain ⟨rs, hp, hl, hr⟩ := h
  refine dp_lst (RL.ro hp) (dps_of (by rw [List.length_map, List.length_map, hl]) fun i v d h1 h2 => ?_)
  obtain ⟨r, e1, rfl⟩ := map_at h1
  obtain ⟨row, e2, rfl⟩ := map_at h2
  refine dp_lst (RL.ro (hr i r row e1 e2)) ?_
  exact dps_map fun _ _ => dp_int
theorem nd_shp (nd : List (List Nat)) : Shp 2 (ndD nd) := shp_lst (shpA_map fun r => shp_lst (shpA_map fun i => shp_int))
theorem gr_eq_nd (h1 : NdAt A p nd) (h2 : NdAt A q nd) (c : Φ (.bl true) A) : GR (dEq K) (.ref p) (.ref q) A Φ := gr_eqR (nd_dp h1) (nd_dp h2) (nd_shp nd) (by decide) c
theorem gr_ne_nd (h1 : NdAt A p nd) (h2 : NdAt A q nd) (c : Φ (.bl false) A) : GR (dNe K) (.ref p) (.ref q) A Φ := gr_neR (nd_dp h1) (nd_dp h2) (nd_shp nd) (by decide) c
theorem nd_nil (o : RO A q (.lst [])) : NdAt A q [] := ⟨[], o, RowsAt.nil⟩
theorem nd_mk {B : SH} {h : Hp} {rs : List Addr} (r : RowsAt [h] rs nd) (o : RO A q (.lst (rs.map V.ref))) (m : Pull A h B) : NdAt A q nd := ⟨rs, o, r.le (le1i m.mem)⟩
theorem nlenN {l : List Nat} (r : RL K A p (nats l)) (z : l.length ≤ 1000) (k : Φ (.int (dsf l)) A) : NLenS K Φ (.ref p) A := by
  have e : nats l = (l.map fun i : Nat => (i : Int)).map V.int := by unfold nats; rw [List.map_map]; rfl
  have e2 : dsf (l.map fun i : Nat => (i : Int)) = dsf l := dsf_cast l
  refine nlenI (e ▸ r) (by rw [List.length_map]; exact z) ?_
  rw [e2]
  exact k
local macro_rules | `(tactic| walk_at "rep") => `(tactic| first | (refine' nd_nil ?o_; (case o_ => walk_at "ro")) | (refine' nd_mk ?r_ ?o_ ?m_; (case r_ => with_reducible assumption); (case o_ => walk_at "ro"); (case m_ => walk_at "pull")) | (refine' NdAt.le ?l_ ?r_; (case r_ => assumption); (case l_ => walk_at "le")))
local macro_rules | `(tactic| walk_at "gr") => `(tactic| with_reducible first | (refine' gr_eq_nd ?h1 ?h2 ?_; (case h1 => walk_at "rep"); (case h2 => walk_at "rep")) | (refine' gr_ne_nd ?h1 ?h2 ?_; (case h1 => walk_at "rep"); (case h2 => walk_at "rep")))
local macro_rules | `(tactic| walk_at "nn") => `(tactic| with_reducible (refine' nlenN ?h1 ?h2 ?_; (case h1 => walk_at "rl"); (case h2 => omega)))
local macro_rules | `(tactic| walk_at "gr") => `(tactic| with_reducible first | (refine' gr_nd ?h1 ?h2 (fun _ _ => ?_); (case h1 => walk_at "rp"); (case h2 => omega)) | (refine' gr_modN ?h1 (fun _ _ => ?_); (case h1 => omega)) | (refine' gr_ix_natsI ?h1 ?h2 ?h3 (fun _ _ => ?_); (case h1 => walk_at "rl"); (case h2 => omega); (case h3 => omega)))
local macro_rules | `(tactic| walk_at "gc") => `(tactic| with_reducible (refine' gc_nd ?h1 ?_; (case h1 => walk_at "rp")))
local macro_rules | `(tactic| walk_at "nn") => `(tactic| with_reducible first | (refine' nd_in0 ?h1 ?_; (case h1 => walk_at "rd")) | (refine' nd_in1 ?h1 ?_; (case h1 => walk_at "rd")) | (refine' nd_put ?h1 ?h2 ?h3 ?_; (case h1 => walk_at "pull"); (case h2 => assumption); (case h3 => omega)))
local macro_rules | `(tactic| walk_at "ge") => `(tactic| with_reducible (refine' ge_dnewA ?_; intro _))
theorem w_law_is_least (T : Txt K mg a) (h : S_law_is_least K a vs A Φ Ψ) (hx : WPost Ψ' W) : GS (t_law_is_least K a W) (AEf Φ) (L2.start ["_law_found", "_law_needs_here", "_law_one", "_law_row", "_law_lacking", "_law_stands", "_law_place", "_law_less", "_law_other"] vs) A := by
  obtain ⟨q, p, nd, rfl, hf, hn, ok, full, hq⟩ := h
  have h40 := ok.1
  have bok := beg_ok nd
  have fl : (begF nd).length = nd.length := full
  show GS _ _ [some (.ref q), some (.ref p), none, none, none, none, none, none, none] A
  unfold t_law_is_least
  walk_at "go"
  · rename_i c
    exact absurd (by rw [nats_len, fl]) c
  refine glc_lstF (σw := [some (.ref q), some (.ref p), none, none, none, none, none, none, none]) (xs := nats (begF nd)) (fun _ => none) rfl (by rw [nats_len]; omega) (by walk_at "rl") ?_ ?_
  · intro i x hx1 D acc
    obtain ⟨e, he, rfl⟩ := nats_at hx1
    walk_at "go"
    refine ⟨rfl, ?_⟩
    walk_at "go"
    exact ⟨rfl, by walk_at "le"⟩
  intro D
  rw [show (nats (begF nd)).filterMap (fun _ => (none : Option V)) = [] from List.filterMap_eq_nil_iff.mpr (fun _ _ => rfl)]
  walk_at "go"
  obtain ⟨rs, hp, hl, hrows⟩ := hn
  have hn : NdAt A p nd := ⟨rs, hp, hl, hrows⟩
  rename_i z1
  refine nlist (xs := rs.map V.ref) (by walk_at "rl") ?_
  have row : ∀ (i : Nat) (r : Addr), rs[i]? = some r → i < nd.length ∧ RO A r (.lst (nats (nd.getD i []))) := fun i r h1 => by
    have h2 := (List.getElem?_eq_some_iff.mp h1).1
    have h3 : nd[i]? = some (nd[i]'(by omega)) := List.getElem?_eq_getElem _
    exact ⟨by omega, by rw [getD_of h3]; exact hrows i r _ h1 h3⟩
  refine glc_lstP (σw := [some (.ref q), some (.ref p), none, none, none, none, none, none, none]) (xs := rs.map V.ref) (fun i x y => y = .int ((dsf (nd.getD i []) : Nat) : Int)) rfl (by rw [List.length_map]; omega) (by walk_at "rl") ?_ ?_
  · intro i x hx1 D2 acc
    obtain ⟨r, hr, rfl⟩ := map_at hx1
    obtain ⟨h1, h2⟩ := row i r hr
    have h3 := (ok.at h1).1
    walk_at "go"
    refine ⟨rfl, ?_⟩
    walk_at "go"
    exact ⟨rfl, by walk_at "le"⟩
  intro lk ys yl hy
  have e1 : ys = nats ((List.range nd.length).map fun o => lackF (nd.getD o []) []) := by
    refine List.ext_getElem? fun i => ?_
    unfold nats
    rw [List.map_map, List.getElem?_map]
    by_cases c : i < nd.length
    · have h1 : ys[i]? = some (ys[i]'(by rw [yl, List.length_map, hl]; exact c)) := List.getElem?_eq_getElem _
      have h2 : (rs.map V.ref)[i]? = some ((rs.map V.ref)[i]'(by rw [List.length_map, hl]; exact c)) := List.getElem?_eq_getElem _
      rw [h1, List.getElem?_range c, hy i _ _ h2 h1]
      simp [lack_nil]
    · rw [List.getElem?_eq_none (by rw [yl, List.length_map, hl]; omega), List.getElem?_eq_none (by rw [List.length_range]; omega)]
      rfl
  rw [e1]
  walk_at "go"
  refine glc_lstF (σw := [some (.ref q), some (.ref p), none, none, some (.ref lk), none, none, none, none]) (xs := rs.map V.ref) (fun _ => some (.bl false)) rfl (by rw [List.length_map]; omega) (by walk_at "rl") ?_ ?_
  · intro i x hx1 D2 acc
    obtain ⟨r, hr, rfl⟩ := map_at hx1
    walk_at "go"
    refine ⟨rfl, ?_⟩
    walk_at "go"
    exact ⟨rfl, by walk_at "le"⟩
  intro sd
  have e2 : (rs.map V.ref).filterMap (fun _ => some (V.bl false)) = (List.range nd.length).map fun o => V.bl (decide (o ∈ ([] : List Nat))) := by
    rw [fm_map, fm_all]
    refine List.ext_getElem? fun i => ?_
    rw [List.getElem?_map, List.getElem?_map]
    by_cases c : i < nd.length
    · rw [List.getElem?_range c, List.getElem?_eq_getElem (by omega)]
      simp
    · rw [List.getElem?_eq_none (by omega), List.getElem?_eq_none (by rw [List.length_range]; omega)]
      rfl
  rw [e2]
  walk_at "go"
  refine gf_list (xs := nats (begF nd)) (fun i σ A' => (∃ u v w x, σ = [some (.ref q), some (.ref p), none, u, some (.ref lk), some (.ref sd), v, w, x]) ∧ A' = sg lk (.lst (nats ((List.range nd.length).map fun o => lackF (nd.getD o []) ((begF nd).take i)))) :: sg sd (.lst ((List.range nd.length).map fun o => V.bl (decide (o ∈ (begF nd).take i)))) :: A)
    (Cl.le (B := sg lk (.lst (nats ((List.range nd.length).map fun o => lackF (nd.getD o []) []))) :: sg sd (.lst ((List.range nd.length).map fun o => V.bl (decide (o ∈ ([] : List Nat))))) :: A) (by walk_at "le") ⟨⟨_, _, _, _, rfl⟩, rfl⟩) ?_ ?_ ?_
  · rintro i σ A' _ ⟨_, rfl⟩
    exact (RL.ro hf).tail.tail
  · rintro i x σ A' hx1 ⟨⟨u, v, w, x, rfl⟩, rfl⟩
    obtain ⟨e, he, rfl⟩ := nats_at hx1
    have hlt := (List.getElem?_eq_some_iff.mp he).1
    have hnx := bok.ord i e he
    obtain ⟨n1, n2, n3, n4⟩ := nxt_some hnx
    have s1 : ∀ k, k < nd.length → ((List.range nd.length).map fun o => V.bl (decide (o ∈ (begF nd).take i)))[k]? = some (.bl (decide (k ∈ (begF nd).take i))) := fun k hk => by rw [List.getElem?_map, List.getElem?_range hk]; rfl
    have g1 : ∀ (g : Nat → Nat) (k : Nat), k < nd.length → ((List.range nd.length).map g).getD k 0 = g k := fun g k hk => by rw [List.getD_eq_getElem?_getD, List.getElem?_map, List.getElem?_range hk]; rfl
    have z1 : lackF (nd.getD e []) ((begF nd).take i) = 0 := lack_zero.mpr n3
    walk_at "go"
    refine gr_ixN (n := e) (by walk_at "rl") (s1 e n1) ?_
    walk_at "go"
    refine gr_ix_nats (by walk_at "rl") (by rw [List.length_map, List.length_range]; exact n1) ?_
    rw [g1 _ e n1, z1]
    walk_at "go"
    refine gf_rngK (fun j σ => ∃ u w x, σ = [some (.ref q), some (.ref p), none, u, some (.ref lk), some (.ref sd), some (.int e), w, x]) ⟨_, _, _, rfl⟩ ?_ ?_
    · rintro j σ A' hj l ⟨u, w, x, rfl⟩
      have je : j < e := by omega
      have jn : j < nd.length := by omega
      rw [Int.zero_add]
      walk_at "go"
      refine gr_ixN (n := j) (by walk_at "rl") (s1 j jn) ?_
      walk_at "go"
      · rename_i c
        have z2 := n4 j je c
        have z3 : ¬ lackF (nd.getD j []) ((begF nd).take i) = 0 := fun z => z2 (lack_zero.mp z)
        refine gr_ix_nats (by walk_at "rl") (by rw [List.length_map, List.length_range]; exact jn) ?_
        rw [g1 _ j jn]
        walk_at "go"
        exact cl_le l ⟨_, _, _, rfl⟩
      · exact cl_le l ⟨_, _, _, rfl⟩
    · rintro σ A' l ⟨u, w, x, rfl⟩
      refine gs_as (Cl.le l ?_)
      walk_at "go"
      have g2 : ∀ j, (List.range nd.length).map (fun o => lackF (nd.getD o []) ((begF nd).take (if o < j then i + 1 else i))) = (List.range nd.length).map (fun o => lackF (nd.getD o []) ((begF nd).take (if o < j then i + 1 else i))) := fun _ => rfl
      have tk1 : (begF nd).take (i + 1) = (begF nd).take i ++ [e] := by rw [List.take_add_one, he]; rfl
      have sd1 : ((List.range nd.length).map fun o => V.bl (decide (o ∈ (begF nd).take i))).set (e : Int).toNat (.bl true) = (List.range nd.length).map fun o => V.bl (decide (o ∈ (begF nd).take (i + 1))) := by
        rw [Int.toNat_natCast, set_rng]
        refine List.map_congr_left fun o _ => ?_
        rw [tk1]
        by_cases c : o = e
        · subst c
          simp
        · simp [c]
      rw [sd1]
      refine gf_enum (xs := rs.map V.ref) (fun j σ A' => (∃ u v x, σ = [some (.ref q), some (.ref p), none, u, some (.ref lk), some (.ref sd), some (.int e), v, x]) ∧ A' = sg lk (.lst (nats ((List.range nd.length).map fun o => lackF (nd.getD o []) ((begF nd).take (if o < j then i + 1 else i))))) :: sg sd (.lst ((List.range nd.length).map fun o => V.bl (decide (o ∈ (begF nd).take (i + 1))))) :: A)
        (Cl.le (B := sg lk (.lst (nats ((List.range nd.length).map fun o => lackF (nd.getD o []) ((begF nd).take i)))) :: sg sd (.lst ((List.range nd.length).map fun o => V.bl (decide (o ∈ (begF nd).take (i + 1))))) :: A) (by walk_at "le") ⟨⟨_, _, _, rfl⟩, by congr 5⟩) ?_ ?_ ?_
      · rintro j σ A' _ ⟨_, rfl⟩
        exact (RL.ro hp).tail.tail
      · rintro j y σ A' T hy1 ⟨⟨u, v, x, rfl⟩, rfl⟩
        obtain ⟨r, hr, rfl⟩ := map_at hy1
        obtain ⟨jn, hrow⟩ := row j r hr
        have hrw : ∀ x : Nat, x ∈ nd.getD j [] ↔ x ∈ nd.getD j [] := fun _ => Iff.rfl
        have lm := lack_more (row := nd.getD j []) n2
        rw [← tk1] at lm
        have e5 : (List.range nd.length).map (fun o => lackF (nd.getD o []) ((begF nd).take (if o < j + 1 then i + 1 else i))) = (List.range nd.length).map (fun o => if o = j then lackF (nd.getD j []) ((begF nd).take (i + 1)) else lackF (nd.getD o []) ((begF nd).take (if o < j then i + 1 else i))) := by
          refine List.map_congr_left fun o _ => ?_
          by_cases c : o = j
          · subst c
            rw [if_pos (Nat.lt_succ_self _), if_pos rfl]
          · rw [if_neg c]
            by_cases c2 : o < j
            · rw [if_pos c2, if_pos (by omega)]
            · rw [if_neg c2, if_neg (by omega)]
        walk_at "go"
        · rename_i c
          rw [if_pos c] at lm
          refine gr_ix_nats (by walk_at "rl") (by rw [List.length_map, List.length_range]; exact jn) ?_
          rw [g1 _ j jn, if_neg (Nat.lt_irrefl j)]
          walk_at "go"
          refine Cl.le (B := sg lk (.lst (nats ((List.range nd.length).map fun o => lackF (nd.getD o []) ((begF nd).take (if o < j + 1 then i + 1 else i))))) :: sg sd (.lst ((List.range nd.length).map fun o => V.bl (decide (o ∈ (begF nd).take (i + 1))))) :: A) ?_ ⟨⟨_, _, _, rfl⟩, rfl⟩
          have e6 : (nats ((List.range nd.length).map fun o => lackF (nd.getD o []) ((begF nd).take (if o < j then i + 1 else i)))).set (j : Int).toNat (.int ((lackF (nd.getD j []) ((begF nd).take i) : Nat) - 1 : Int)) = nats ((List.range nd.length).map fun o => lackF (nd.getD o []) ((begF nd).take (if o < j + 1 then i + 1 else i))) := by
            rw [e5, Int.toNat_natCast]
            have e7 : ((lackF (nd.getD j []) ((begF nd).take i) : Nat) - 1 : Int) = ((lackF (nd.getD j []) ((begF nd).take (i + 1)) : Nat) : Int) := by omega
            rw [e7]
            unfold nats
            rw [List.map_map, set_rng, List.map_map]
            refine List.map_congr_left fun o _ => ?_
            by_cases c : o = j
            · subst c
              simp
            · simp [c]
          rw [e6]
          walk_at "le"
        · rename_i c
          rw [if_neg c, Nat.add_zero] at lm
          refine Cl.le (B := sg lk (.lst (nats ((List.range nd.length).map fun o => lackF (nd.getD o []) ((begF nd).take (if o < j + 1 then i + 1 else i))))) :: sg sd (.lst ((List.range nd.length).map fun o => V.bl (decide (o ∈ (begF nd).take (i + 1))))) :: A) ?_ ⟨⟨_, _, _, rfl⟩, rfl⟩
          have e6 : (List.range nd.length).map (fun o => lackF (nd.getD o []) ((begF nd).take (if o < j then i + 1 else i))) = (List.range nd.length).map (fun o => lackF (nd.getD o []) ((begF nd).take (if o < j + 1 then i + 1 else i))) := by
            rw [e5]
            refine List.map_congr_left fun o _ => ?_
            by_cases c : o = j
            · subst c
              rw [if_pos rfl, if_neg (Nat.lt_irrefl _), lm]
            · rw [if_neg c]
          rw [e6]
          walk_at "le"
      · rintro σ A' ⟨⟨u, v, x, rfl⟩, rfl⟩
        refine Cl.of ⟨⟨_, _, _, _, rfl⟩, ?_⟩
        congr 4
        refine List.map_congr_left fun o ho => ?_
        rw [if_pos (by rw [List.length_map, hl]; exact List.mem_range.mp ho)]
  · rintro σ A' ⟨⟨u, v, w, x, rfl⟩, rfl⟩
    walk_at "go"
end

section
variable {K : PySem.W.Frag} {mg : Str → Option Value} {a : Ad} {A : SH} {vs : List V} {Φ : V → SH → Prop} {Ψ : Value → Option Addr → SH → Prop} {Ψ' : Value → Option Addr → L2.St → SH → Prop} {W : WX} {p q : Addr} {nd : List (List Nat)} {f : List Nat} {k : Nat}
local macro_rules | `(tactic| walk_at "rep") => `(tactic| first | (refine' nd_nil ?o_; (case o_ => walk_at "ro")) | (refine' nd_mk ?r_ ?o_ ?m_; (case r_ => with_reducible assumption); (case o_ => walk_at "ro"); (case m_ => walk_at "pull")) | (refine' NdAt.le ?l_ ?r_; (case r_ => assumption); (case l_ => walk_at "le")))
local macro_rules | `(tactic| walk_at "gr") => `(tactic| with_reducible first | (refine' gr_eq_nd ?h1 ?h2 ?_; (case h1 => walk_at "rep"); (case h2 => walk_at "rep")) | (refine' gr_ne_nd ?h1 ?h2 ?_; (case h1 => walk_at "rep"); (case h2 => walk_at "rep")))
local macro_rules | `(tactic| walk_at "nn") => `(tactic| with_reducible (refine' nlenN ?h1 ?h2 ?_; (case h1 => walk_at "rl"); (case h2 => omega)))
local macro_rules | `(tactic| walk_at "gr") => `(tactic| with_reducible first | (refine' gr_nd ?h1 ?h2 (fun _ _ => ?_); (case h1 => walk_at "rp"); (case h2 => omega)) | (refine' gr_modN ?h1 (fun _ _ => ?_); (case h1 => omega)) | (refine' gr_ix_natsI ?h1 ?h2 ?h3 (fun _ _ => ?_); (case h1 => walk_at "rl"); (case h2 => omega); (case h3 => omega)))
local macro_rules | `(tactic| walk_at "gc") => `(tactic| with_reducible (refine' gc_nd ?h1 ?_; (case h1 => walk_at "rp")))
local macro_rules | `(tactic| walk_at "nn") => `(tactic| with_reducible first | (refine' nd_in0 ?h1 ?_; (case h1 => walk_at "rd")) | (refine' nd_in1 ?h1 ?_; (case h1 => walk_at "rd")) | (refine' nd_put ?h1 ?h2 ?h3 ?_; (case h1 => walk_at "pull"); (case h2 => assumption); (case h3 => omega)))
local macro_rules | `(tactic| walk_at "ge") => `(tactic| with_reducible (refine' ge_dnewA ?_; intro _))
theorem gc_minN {l : List Nat} (r : RL K A p (nats l)) (h : 0 < l.length) (c : ∀ m ∈ l, Φ (.int ((m : Nat) : Int)) A) : GC (rMin K) [.ref p] A Φ := fun H Q x ps => ⟨p, l.map fun i : Nat => (i : Int), rfl, by have := r H x; unfold nats at this; rw [List.map_map]; exact this, by rw [List.length_map]; exact h, fun m hm _ => by
  obtain ⟨n, hn, rfl⟩ := List.mem_map.mp hm
  exact ps _ A H x (c n hn)⟩
theorem gc_maxN {l : List Nat} (r : RL K A p (nats l)) (h : 0 < l.length) (c : ∀ m ∈ l, Φ (.int ((m : Nat) : Int)) A) : GC (rMax K) [.ref p] A Φ := fun H Q x ps => ⟨p, l.map fun i : Nat => (i : Int), rfl, by have := r H x; unfold nats at this; rw [List.map_map]; exact this, by rw [List.length_map]; exact h, fun m hm _ => by
  obtain ⟨n, hn, rfl⟩ := List.mem_map.mp hm
  exact ps _ A H x (c n hn)⟩
theorem w_law_is_ring (T : Txt K mg a) (h : S_law_is_ring K a vs A Φ Ψ) (hx : WPost Ψ' W) : GS (t_law_is_ring K a W) (AEf Φ) (L2.start ["_law_found", "_law_needs_here", "_law_one", "_law_k"] vs) A := by
  obtain ⟨q, p, r, nd, rfl, hf, hn, ok, ring, hq⟩ := h
  show GS _ _ [some (.ref q), some (.ref p), none, none] A
  unfold t_law_is_ring
  have rl : r.length ≤ nd.length := nodup_le _ _ ring.dup ring.lt
  have h40 := ok.1
  have rp : 0 < r.length := List.length_pos_iff.mpr ring.ne
  have rn : dsf r = r.length := (dsf_full r).mpr ring.dup
  walk_at "go"
  · rename_i c
    exact absurd c ring.ne
  refine glc_lstF (σw := [some (.ref q), some (.ref p), none, none]) (xs := nats r) (fun _ => none) rfl (by rw [nats_len]; omega) (by walk_at "rl") ?_ ?_
  · intro i x hx1 D acc
    obtain ⟨e, he, rfl⟩ := nats_at hx1
    walk_at "go"
    refine ⟨rfl, ?_⟩
    walk_at "go"
    exact ⟨rfl, by walk_at "le"⟩
  intro D
  rw [show (nats r).filterMap (fun _ => (none : Option V)) = [] from List.filterMap_eq_nil_iff.mpr (fun _ _ => rfl)]
  walk_at "go"
  · exfalso
    rename_i c
    rw [nats_len, rn] at c
    omega
  refine gc_minN (by walk_at "rl") rp fun m hm => ?_
  walk_at "go"
  refine gc_maxN (by walk_at "rl") rp fun m2 hm2 => ?_
  have m2l := ring.lt m2 hm2
  walk_at "go"
  refine glc_rngF (σw := [some (.ref q), some (.ref p), none, none]) (fun _ => none) rfl (by rw [nats_len]; omega) ?_ ?_
  · intro i hi D2 acc
    rw [nats_len, Int.toNat_natCast] at hi
    rw [Int.zero_add]
    obtain ⟨y, h1, h2⟩ := ring.go i r[i] (List.getElem?_eq_getElem hi)
    have il := ring.lt r[i] (List.getElem_mem hi)
    walk_at "go"
    refine ⟨rfl, ?_⟩
    walk_at "go"
    rw [nats_len]
    have e1 : ((i : Int) + 1) % (r.length : Int) = (((i + 1) % r.length : Nat) : Int) := by rw [Int.natCast_emod]; rfl
    rw [e1]
    refine gr_ix_nats (by walk_at "rl") (Nat.mod_lt _ rp) ?_
    rw [show r.getD ((i + 1) % r.length) 0 = y by rw [List.getD_eq_getElem?_getD, h1]; rfl]
    walk_at "go"
    rename_i x hx2
    have ex : r[i] = x := by
      rw [Int.toNat_natCast, List.getElem?_eq_getElem hi] at hx2
      exact Option.some.inj hx2
    rw [ex] at h2 il
    walk_at "go"
    exact ⟨rfl, by walk_at "le"⟩
  intro D2
  rw [show (List.range ((nats r).length : Int).toNat).filterMap (fun _ => (none : Option V)) = [] from List.filterMap_eq_nil_iff.mpr (fun _ _ => rfl)]
  walk_at "go"
theorem w_law_orders (T : Txt K mg a) (h : S_law_orders K a vs A Φ Ψ) (hx : WPost Ψ' W) : GS (t_law_orders K a W) (AEf Φ) (L2.start ["_law_needs_here", "_law_ends", "_law_handed", "_law_one", "_law_kept", "_law_other"] vs) A := by
  obtain ⟨p, nd, rfl, hn, ok, hq⟩ := h
  have h40 := ok.1
  have bl := (beg_ok nd).len
  show GS _ _ [some (.ref p), some (.bl (decide (Full nd))), none, none, none, none] A
  unfold t_law_orders
  walk_at "go"
  all_goals first | contradiction | exact absurd (show Full [] from rfl) ‹¬ Full []› | exact ⟨by simp, by simp⟩ | trace_state
theorem w_law_rings (T : Txt K mg a) (h : S_law_rings K a vs A Φ Ψ) (hx : WPost Ψ' W) : GS (t_law_rings K a W) (AEf Φ) (L2.start ["_law_needs_here", "_law_ends", "_law_handed", "_law_one", "_law_kept"] vs) A := by
  obtain ⟨p, nd, rfl, hn, ok, hq⟩ := h
  have h40 := ok.1
  have bl := (beg_ok nd).len
  show GS _ _ [some (.ref p), some (.bl (decide (Full nd))), none, none, none] A
  unfold t_law_rings
  walk_at "go"
  all_goals first | contradiction | exact absurd (show Full [] from rfl) ‹¬ Full []› | exact ⟨by simp, by simp⟩ | trace_state
theorem w_law (T : Txt K mg a) (h : S_law K a vs A Φ Ψ) (hx : WPost Ψ' W) : GS (t_law K a W) (AEf Φ) (L2.start ["_law_script", "_law_needs_here", "_law_ends"] vs) A := by
  obtain ⟨p, ns, rfl, hr, hn, hq⟩ := h
  show GS _ _ [some (.ref p), none, none] A
  unfold t_law
  walk_at "go"
end

theorem hd_some {K : PySem.W.Frag} {C : Addr} (h : PySem.W.hasDictIn K C = true) : (PySem.W.clsIn K C).isSome = true := by
  obtain ⟨cd, hc, _⟩ := PySem.W.any_some h
  rw [hc]
  rfl
theorem kit_mk {K : PySem.W.Frag} {D C : Addr} {b : Bool} (n : (Value.ref D == Value.ref C) = false) (c : (PySem.W.clsIn K C).isSome = true) (t : PySem.W.typeIn K (.ref C) = some (.type "type")) (s : PySem.W.subIn K (.ref D) (.ref C) = some b) : PySem.W.kitOne K (.ref D) (.ref C) = some b := by
  unfold PySem.W.kitOne
  rw [if_neg (by rw [n]; decide)]
  unfold PySem.W.kitCls
  simp only [c, t, s, Bool.true_and, beq_self_eq_true, if_true]
theorem len_ex {α : Sort _} {p : α → Prop} {q : Prop} (h : ∀ x, p x → q) : (∃ x, p x) → q := fun ⟨x, z⟩ => h x z
theorem len_or {p r q : Prop} (h : p → q) (k : r → q) : (p ∨ r) → q := fun z => z.elim h k
local macro_rules | `(tactic| walk_at "len") => `(tactic| first | exact False.elim | (rintro ⟨e, _⟩; subst e; rfl) | (intro e; subst e; rfl) | (refine len_ex ?_; intro _; walk_at "len") | (refine len_or ?_ ?_ <;> walk_at "len"))
theorem all_mk' {l : PySem.W.OpenLaw} {w : World} {K : PySem.W.Frag} {h : Heap} {mg : Str → Option Value} {fa : Addr} {a : Ad} {oc_can_stand : Value} {od_can_stand : Option Addr} {kV_can_stand : Value} {dc_can_stand : Value} {pm_can_stand : Value} {an_can_stand : Option Addr} {cd_can_stand : Value} {ct_can_stand : Value} {sl_can_stand : Array (Option Value)} {f_can_stand : Addr} {oc_next_place : Value} {od_next_place : Option Addr} {kV_next_place : Value} {dc_next_place : Value} {pm_next_place : Value} {an_next_place : Option Addr} {cd_next_place : Value} {ct_next_place : Value} {sl_next_place : Array (Option Value)} {f_next_place : Addr} {oc_beginning : Value} {od_beginning : Option Addr} {kV_beginning : Value} {dc_beginning : Value} {pm_beginning : Value} {an_beginning : Option Addr} {cd_beginning : Value} {ct_beginning : Value} {sl_beginning : Array (Option Value)} {f_beginning : Addr} {oc_order_of : Value} {od_order_of : Option Addr} {kV_order_of : Value} {dc_order_of : Value} {pm_order_of : Value} {an_order_of : Option Addr} {cd_order_of : Value} {ct_order_of : Value} {sl_order_of : Array (Option Value)} {f_order_of : Addr} {oc_ring_of : Value} {od_ring_of : Option Addr} {kV_ring_of : Value} {dc_ring_of : Value} {pm_ring_of : Value} {an_ring_of : Option Addr} {cd_ring_of : Value} {ct_ring_of : Value} {sl_ring_of : Array (Option Value)} {f_ring_of : Addr} {oc_law_mixed : Value} {od_law_mixed : Option Addr} {kV_law_mixed : Value} {dc_law_mixed : Value} {pm_law_mixed : Value} {an_law_mixed : Option Addr} {cd_law_mixed : Value} {ct_law_mixed : Value} {sl_law_mixed : Array (Option Value)} {f_law_mixed : Addr} {oc_law_line_up : Value} {od_law_line_up : Option Addr} {kV_law_line_up : Value} {dc_law_line_up : Value} {pm_law_line_up : Value} {an_law_line_up : Option Addr} {cd_law_line_up : Value} {ct_law_line_up : Value} {sl_law_line_up : Array (Option Value)} {f_law_line_up : Addr} {oc_law_freely : Value} {od_law_freely : Option Addr} {kV_law_freely : Value} {dc_law_freely : Value} {pm_law_freely : Value} {an_law_freely : Option Addr} {cd_law_freely : Value} {ct_law_freely : Value} {sl_law_freely : Array (Option Value)} {f_law_freely : Addr} {oc_law_in_line : Value} {od_law_in_line : Option Addr} {kV_law_in_line : Value} {dc_law_in_line : Value} {pm_law_in_line : Value} {an_law_in_line : Option Addr} {cd_law_in_line : Value} {ct_law_in_line : Value} {sl_law_in_line : Array (Option Value)} {f_law_in_line : Addr} {oc_law_needs : Value} {od_law_needs : Option Addr} {kV_law_needs : Value} {dc_law_needs : Value} {pm_law_needs : Value} {an_law_needs : Option Addr} {cd_law_needs : Value} {ct_law_needs : Value} {sl_law_needs : Array (Option Value)} {f_law_needs : Addr} {oc_law_copied : Value} {od_law_copied : Option Addr} {kV_law_copied : Value} {dc_law_copied : Value} {pm_law_copied : Value} {an_law_copied : Option Addr} {cd_law_copied : Value} {ct_law_copied : Value} {sl_law_copied : Array (Option Value)} {f_law_copied : Addr} {oc_law_can_end : Value} {od_law_can_end : Option Addr} {kV_law_can_end : Value} {dc_law_can_end : Value} {pm_law_can_end : Value} {an_law_can_end : Option Addr} {cd_law_can_end : Value} {ct_law_can_end : Value} {sl_law_can_end : Array (Option Value)} {f_law_can_end : Addr} {oc_law_whole : Value} {od_law_whole : Option Addr} {kV_law_whole : Value} {dc_law_whole : Value} {pm_law_whole : Value} {an_law_whole : Option Addr} {cd_law_whole : Value} {ct_law_whole : Value} {sl_law_whole : Array (Option Value)} {f_law_whole : Addr} {oc_law_is_least : Value} {od_law_is_least : Option Addr} {kV_law_is_least : Value} {dc_law_is_least : Value} {pm_law_is_least : Value} {an_law_is_least : Option Addr} {cd_law_is_least : Value} {ct_law_is_least : Value} {sl_law_is_least : Array (Option Value)} {f_law_is_least : Addr} {oc_law_is_ring : Value} {od_law_is_ring : Option Addr} {kV_law_is_ring : Value} {dc_law_is_ring : Value} {pm_law_is_ring : Value} {an_law_is_ring : Option Addr} {cd_law_is_ring : Value} {ct_law_is_ring : Value} {sl_law_is_ring : Array (Option Value)} {f_law_is_ring : Addr} {oc_law_orders : Value} {od_law_orders : Option Addr} {kV_law_orders : Value} {dc_law_orders : Value} {pm_law_orders : Value} {an_law_orders : Option Addr} {cd_law_orders : Value} {ct_law_orders : Value} {sl_law_orders : Array (Option Value)} {f_law_orders : Addr} {oc_law_rings : Value} {od_law_rings : Option Addr} {kV_law_rings : Value} {dc_law_rings : Value} {pm_law_rings : Value} {an_law_rings : Option Addr} {cd_law_rings : Value} {ct_law_rings : Value} {sl_law_rings : Array (Option Value)} {f_law_rings : Addr} {oc_law : Value} {od_law : Option Addr} {kV_law : Value} {dc_law : Value} {pm_law : Value} {an_law : Option Addr} {cd_law : Value} {ct_law : Value} {sl_law : Array (Option Value)} {f_law : Addr} (X : K.In h) (G : h.Ns mainGlobals mg) (hfa : mg "law" = some (.ref fa))
    (b_bool : PySem.W.nsIn K mainGlobals "bool" = some none)
    (b_enumerate : PySem.W.nsIn K mainGlobals "enumerate" = some none)
    (b_int : PySem.W.nsIn K mainGlobals "int" = some none)
    (b_isinstance : PySem.W.nsIn K mainGlobals "isinstance" = some none)
    (b_len : PySem.W.nsIn K mainGlobals "len" = some none)
    (b_list : PySem.W.nsIn K mainGlobals "list" = some none)
    (b_max : PySem.W.nsIn K mainGlobals "max" = some none)
    (b_min : PySem.W.nsIn K mainGlobals "min" = some none)
    (b_range : PySem.W.nsIn K mainGlobals "range" = some none)
    (b_set : PySem.W.nsIn K mainGlobals "set" = some none)
    (zz_n : PySem.W.specialIn K (.builtin "object.__class__") "__get__" = some (some (.builtin "getset_descriptor.__get__")))
    (zz_t : PySem.W.takesIn K (.builtin "object.__class__") = some true)
    (a_can_stand : PySem.W.nsIn K mainGlobals "can_stand" = some (some (.ref f_can_stand)))
    (l_can_stand : K.lookup f_can_stand = some ⟨oc_can_stand, od_can_stand, .func (PySem.W.fnOf "can_stand" "can_stand" (defArgs s_can_stand) (defBody s_can_stand) (defScope s_can_stand) .none kV_can_stand dc_can_stand pm_can_stand an_can_stand cd_can_stand ct_can_stand), sl_can_stand⟩)
    (c_can_stand : PySem.W.codeIn K cd_can_stand "can_stand" = true)
    (k_can_stand : PySem.W.keepIn K (.ref f_can_stand) = true)
    (a_next_place : PySem.W.nsIn K mainGlobals "next_place" = some (some (.ref f_next_place)))
    (l_next_place : K.lookup f_next_place = some ⟨oc_next_place, od_next_place, .func (PySem.W.fnOf "next_place" "next_place" (defArgs s_next_place) (defBody s_next_place) (defScope s_next_place) .none kV_next_place dc_next_place pm_next_place an_next_place cd_next_place ct_next_place), sl_next_place⟩)
    (c_next_place : PySem.W.codeIn K cd_next_place "next_place" = true)
    (k_next_place : PySem.W.keepIn K (.ref f_next_place) = true)
    (a_beginning : PySem.W.nsIn K mainGlobals "beginning" = some (some (.ref f_beginning)))
    (l_beginning : K.lookup f_beginning = some ⟨oc_beginning, od_beginning, .func (PySem.W.fnOf "beginning" "beginning" (defArgs s_beginning) (defBody s_beginning) (defScope s_beginning) .none kV_beginning dc_beginning pm_beginning an_beginning cd_beginning ct_beginning), sl_beginning⟩)
    (c_beginning : PySem.W.codeIn K cd_beginning "beginning" = true)
    (k_beginning : PySem.W.keepIn K (.ref f_beginning) = true)
    (a_order_of : PySem.W.nsIn K mainGlobals "order_of" = some (some (.ref f_order_of)))
    (l_order_of : K.lookup f_order_of = some ⟨oc_order_of, od_order_of, .func (PySem.W.fnOf "order_of" "order_of" (defArgs s_order_of) (defBody s_order_of) (defScope s_order_of) .none kV_order_of dc_order_of pm_order_of an_order_of cd_order_of ct_order_of), sl_order_of⟩)
    (c_order_of : PySem.W.codeIn K cd_order_of "order_of" = true)
    (k_order_of : PySem.W.keepIn K (.ref f_order_of) = true)
    (a_ring_of : PySem.W.nsIn K mainGlobals "ring_of" = some (some (.ref f_ring_of)))
    (l_ring_of : K.lookup f_ring_of = some ⟨oc_ring_of, od_ring_of, .func (PySem.W.fnOf "ring_of" "ring_of" (defArgs s_ring_of) (defBody s_ring_of) (defScope s_ring_of) .none kV_ring_of dc_ring_of pm_ring_of an_ring_of cd_ring_of ct_ring_of), sl_ring_of⟩)
    (c_ring_of : PySem.W.codeIn K cd_ring_of "ring_of" = true)
    (k_ring_of : PySem.W.keepIn K (.ref f_ring_of) = true)
    (a_law_mixed : PySem.W.nsIn K mainGlobals "_law_mixed" = some (some (.ref f_law_mixed)))
    (l_law_mixed : K.lookup f_law_mixed = some ⟨oc_law_mixed, od_law_mixed, .func (PySem.W.fnOf "_law_mixed" "_law_mixed" (defArgs s_law_mixed) (defBody s_law_mixed) (defScope s_law_mixed) .none kV_law_mixed dc_law_mixed pm_law_mixed an_law_mixed cd_law_mixed ct_law_mixed), sl_law_mixed⟩)
    (c_law_mixed : PySem.W.codeIn K cd_law_mixed "_law_mixed" = true)
    (k_law_mixed : PySem.W.keepIn K (.ref f_law_mixed) = true)
    (a_law_line_up : PySem.W.nsIn K mainGlobals "_law_line_up" = some (some (.ref f_law_line_up)))
    (l_law_line_up : K.lookup f_law_line_up = some ⟨oc_law_line_up, od_law_line_up, .func (PySem.W.fnOf "_law_line_up" "_law_line_up" (defArgs s_law_line_up) (defBody s_law_line_up) (defScope s_law_line_up) .none kV_law_line_up dc_law_line_up pm_law_line_up an_law_line_up cd_law_line_up ct_law_line_up), sl_law_line_up⟩)
    (c_law_line_up : PySem.W.codeIn K cd_law_line_up "_law_line_up" = true)
    (k_law_line_up : PySem.W.keepIn K (.ref f_law_line_up) = true)
    (a_law_freely : PySem.W.nsIn K mainGlobals "_law_freely" = some (some (.ref f_law_freely)))
    (l_law_freely : K.lookup f_law_freely = some ⟨oc_law_freely, od_law_freely, .func (PySem.W.fnOf "_law_freely" "_law_freely" (defArgs s_law_freely) (defBody s_law_freely) (defScope s_law_freely) .none kV_law_freely dc_law_freely pm_law_freely an_law_freely cd_law_freely ct_law_freely), sl_law_freely⟩)
    (c_law_freely : PySem.W.codeIn K cd_law_freely "_law_freely" = true)
    (k_law_freely : PySem.W.keepIn K (.ref f_law_freely) = true)
    (a_law_in_line : PySem.W.nsIn K mainGlobals "_law_in_line" = some (some (.ref f_law_in_line)))
    (l_law_in_line : K.lookup f_law_in_line = some ⟨oc_law_in_line, od_law_in_line, .func (PySem.W.fnOf "_law_in_line" "_law_in_line" (defArgs s_law_in_line) (defBody s_law_in_line) (defScope s_law_in_line) .none kV_law_in_line dc_law_in_line pm_law_in_line an_law_in_line cd_law_in_line ct_law_in_line), sl_law_in_line⟩)
    (c_law_in_line : PySem.W.codeIn K cd_law_in_line "_law_in_line" = true)
    (k_law_in_line : PySem.W.keepIn K (.ref f_law_in_line) = true)
    (a_law_needs : PySem.W.nsIn K mainGlobals "_law_needs" = some (some (.ref f_law_needs)))
    (l_law_needs : K.lookup f_law_needs = some ⟨oc_law_needs, od_law_needs, .func (PySem.W.fnOf "_law_needs" "_law_needs" (defArgs s_law_needs) (defBody s_law_needs) (defScope s_law_needs) .none kV_law_needs dc_law_needs pm_law_needs an_law_needs cd_law_needs ct_law_needs), sl_law_needs⟩)
    (c_law_needs : PySem.W.codeIn K cd_law_needs "_law_needs" = true)
    (k_law_needs : PySem.W.keepIn K (.ref f_law_needs) = true)
    (a_law_copied : PySem.W.nsIn K mainGlobals "_law_copied" = some (some (.ref f_law_copied)))
    (l_law_copied : K.lookup f_law_copied = some ⟨oc_law_copied, od_law_copied, .func (PySem.W.fnOf "_law_copied" "_law_copied" (defArgs s_law_copied) (defBody s_law_copied) (defScope s_law_copied) .none kV_law_copied dc_law_copied pm_law_copied an_law_copied cd_law_copied ct_law_copied), sl_law_copied⟩)
    (c_law_copied : PySem.W.codeIn K cd_law_copied "_law_copied" = true)
    (k_law_copied : PySem.W.keepIn K (.ref f_law_copied) = true)
    (a_law_can_end : PySem.W.nsIn K mainGlobals "_law_can_end" = some (some (.ref f_law_can_end)))
    (l_law_can_end : K.lookup f_law_can_end = some ⟨oc_law_can_end, od_law_can_end, .func (PySem.W.fnOf "_law_can_end" "_law_can_end" (defArgs s_law_can_end) (defBody s_law_can_end) (defScope s_law_can_end) .none kV_law_can_end dc_law_can_end pm_law_can_end an_law_can_end cd_law_can_end ct_law_can_end), sl_law_can_end⟩)
    (c_law_can_end : PySem.W.codeIn K cd_law_can_end "_law_can_end" = true)
    (k_law_can_end : PySem.W.keepIn K (.ref f_law_can_end) = true)
    (a_law_whole : PySem.W.nsIn K mainGlobals "_law_whole" = some (some (.ref f_law_whole)))
    (l_law_whole : K.lookup f_law_whole = some ⟨oc_law_whole, od_law_whole, .func (PySem.W.fnOf "_law_whole" "_law_whole" (defArgs s_law_whole) (defBody s_law_whole) (defScope s_law_whole) .none kV_law_whole dc_law_whole pm_law_whole an_law_whole cd_law_whole ct_law_whole), sl_law_whole⟩)
    (c_law_whole : PySem.W.codeIn K cd_law_whole "_law_whole" = true)
    (k_law_whole : PySem.W.keepIn K (.ref f_law_whole) = true)
    (a_law_is_least : PySem.W.nsIn K mainGlobals "_law_is_least" = some (some (.ref f_law_is_least)))
    (l_law_is_least : K.lookup f_law_is_least = some ⟨oc_law_is_least, od_law_is_least, .func (PySem.W.fnOf "_law_is_least" "_law_is_least" (defArgs s_law_is_least) (defBody s_law_is_least) (defScope s_law_is_least) .none kV_law_is_least dc_law_is_least pm_law_is_least an_law_is_least cd_law_is_least ct_law_is_least), sl_law_is_least⟩)
    (c_law_is_least : PySem.W.codeIn K cd_law_is_least "_law_is_least" = true)
    (k_law_is_least : PySem.W.keepIn K (.ref f_law_is_least) = true)
    (a_law_is_ring : PySem.W.nsIn K mainGlobals "_law_is_ring" = some (some (.ref f_law_is_ring)))
    (l_law_is_ring : K.lookup f_law_is_ring = some ⟨oc_law_is_ring, od_law_is_ring, .func (PySem.W.fnOf "_law_is_ring" "_law_is_ring" (defArgs s_law_is_ring) (defBody s_law_is_ring) (defScope s_law_is_ring) .none kV_law_is_ring dc_law_is_ring pm_law_is_ring an_law_is_ring cd_law_is_ring ct_law_is_ring), sl_law_is_ring⟩)
    (c_law_is_ring : PySem.W.codeIn K cd_law_is_ring "_law_is_ring" = true)
    (k_law_is_ring : PySem.W.keepIn K (.ref f_law_is_ring) = true)
    (a_law_orders : PySem.W.nsIn K mainGlobals "_law_orders" = some (some (.ref f_law_orders)))
    (l_law_orders : K.lookup f_law_orders = some ⟨oc_law_orders, od_law_orders, .func (PySem.W.fnOf "_law_orders" "_law_orders" (defArgs s_law_orders) (defBody s_law_orders) (defScope s_law_orders) .none kV_law_orders dc_law_orders pm_law_orders an_law_orders cd_law_orders ct_law_orders), sl_law_orders⟩)
    (c_law_orders : PySem.W.codeIn K cd_law_orders "_law_orders" = true)
    (k_law_orders : PySem.W.keepIn K (.ref f_law_orders) = true)
    (a_law_rings : PySem.W.nsIn K mainGlobals "_law_rings" = some (some (.ref f_law_rings)))
    (l_law_rings : K.lookup f_law_rings = some ⟨oc_law_rings, od_law_rings, .func (PySem.W.fnOf "_law_rings" "_law_rings" (defArgs s_law_rings) (defBody s_law_rings) (defScope s_law_rings) .none kV_law_rings dc_law_rings pm_law_rings an_law_rings cd_law_rings ct_law_rings), sl_law_rings⟩)
    (c_law_rings : PySem.W.codeIn K cd_law_rings "_law_rings" = true)
    (k_law_rings : PySem.W.keepIn K (.ref f_law_rings) = true)
    (a_law : PySem.W.nsIn K mainGlobals "law" = some (some (.ref f_law)))
    (l_law : K.lookup f_law = some ⟨oc_law, od_law, .func (PySem.W.fnOf "law" "law" (defArgs s_law) (defBody s_law) (defScope s_law) .none kV_law dc_law pm_law an_law cd_law ct_law), sl_law⟩)
    (c_law : PySem.W.codeIn K cd_law "law" = true)
    (k_law : PySem.W.keepIn K (.ref f_law) = true) :
    ∃ fd : FuncData, (∀ (s : Shared) (v : Value), BindsTo s fd ⟨[v], []⟩ [("_law_script", v)]) ∧ ∀ base : Heap, K.In base → base.Ns mainGlobals mg → FnOk l.prog w K mg base (L2.CX l.prog w) 6 fa fd ["_law_script"] (lift (S_law K a)) := by
  have e := hfa.symm.trans (PySem.W.mg_of X G a_law)
  cases e
  have T : Txt K mg a := {
    b_bool := PySem.W.mg_none_of X G b_bool
    b_enumerate := PySem.W.mg_none_of X G b_enumerate
    b_int := PySem.W.mg_none_of X G b_int
    b_isinstance := PySem.W.mg_none_of X G b_isinstance
    b_len := PySem.W.mg_none_of X G b_len
    b_list := PySem.W.mg_none_of X G b_list
    b_max := PySem.W.mg_none_of X G b_max
    b_min := PySem.W.mg_none_of X G b_min
    b_range := PySem.W.mg_none_of X G b_range
    b_set := PySem.W.mg_none_of X G b_set }
  have F_can_stand := funD_mk (st := s_can_stand) l_can_stand c_can_stand k_can_stand
  have B_can_stand := F_can_stand.bindsN (ps := ["needs", "place", "ahead"]) fun _ _ _ _ _ _ us hl => match us, hl with | [_, _, _], _ => rfl
  have F_next_place := funD_mk (st := s_next_place) l_next_place c_next_place k_next_place
  have B_next_place := F_next_place.bindsN (ps := ["needs", "ahead"]) fun _ _ _ _ _ _ us hl => match us, hl with | [_, _], _ => rfl
  have F_beginning := funD_mk (st := s_beginning) l_beginning c_beginning k_beginning
  have B_beginning := F_beginning.bindsN (ps := ["needs"]) fun _ _ _ _ _ _ us hl => match us, hl with | [_], _ => rfl
  have F_order_of := funD_mk (st := s_order_of) l_order_of c_order_of k_order_of
  have B_order_of := F_order_of.bindsN (ps := ["needs"]) fun _ _ _ _ _ _ us hl => match us, hl with | [_], _ => rfl
  have F_ring_of := funD_mk (st := s_ring_of) l_ring_of c_ring_of k_ring_of
  have B_ring_of := F_ring_of.bindsN (ps := ["needs"]) fun _ _ _ _ _ _ us hl => match us, hl with | [_], _ => rfl
  have F_law_mixed := funD_mk (st := s_law_mixed) l_law_mixed c_law_mixed k_law_mixed
  have B_law_mixed := F_law_mixed.bindsN (ps := ["_law_script", "_law_k"]) fun _ _ _ _ _ _ us hl => match us, hl with | [_, _], _ => rfl
  have F_law_line_up := funD_mk (st := s_law_line_up) l_law_line_up c_law_line_up k_law_line_up
  have B_law_line_up := F_law_line_up.bindsN (ps := ["_law_script", "_law_many"]) fun _ _ _ _ _ _ us hl => match us, hl with | [_, _], _ => rfl
  have F_law_freely := funD_mk (st := s_law_freely) l_law_freely c_law_freely k_law_freely
  have B_law_freely := F_law_freely.bindsN (ps := ["_law_script", "_law_many"]) fun _ _ _ _ _ _ us hl => match us, hl with | [_, _], _ => rfl
  have F_law_in_line := funD_mk (st := s_law_in_line) l_law_in_line c_law_in_line k_law_in_line
  have B_law_in_line := F_law_in_line.bindsN (ps := ["_law_script", "_law_many"]) fun _ _ _ _ _ _ us hl => match us, hl with | [_, _], _ => rfl
  have F_law_needs := funD_mk (st := s_law_needs) l_law_needs c_law_needs k_law_needs
  have B_law_needs := F_law_needs.bindsN (ps := ["_law_script"]) fun _ _ _ _ _ _ us hl => match us, hl with | [_], _ => rfl
  have F_law_copied := funD_mk (st := s_law_copied) l_law_copied c_law_copied k_law_copied
  have B_law_copied := F_law_copied.bindsN (ps := ["_law_needs_here"]) fun _ _ _ _ _ _ us hl => match us, hl with | [_], _ => rfl
  have F_law_can_end := funD_mk (st := s_law_can_end) l_law_can_end c_law_can_end k_law_can_end
  have B_law_can_end := F_law_can_end.bindsN (ps := ["_law_needs_here"]) fun _ _ _ _ _ _ us hl => match us, hl with | [_], _ => rfl
  have F_law_whole := funD_mk (st := s_law_whole) l_law_whole c_law_whole k_law_whole
  have B_law_whole := F_law_whole.bindsN (ps := ["_law_found"]) fun _ _ _ _ _ _ us hl => match us, hl with | [_], _ => rfl
  have F_law_is_least := funD_mk (st := s_law_is_least) l_law_is_least c_law_is_least k_law_is_least
  have B_law_is_least := F_law_is_least.bindsN (ps := ["_law_found", "_law_needs_here"]) fun _ _ _ _ _ _ us hl => match us, hl with | [_, _], _ => rfl
  have F_law_is_ring := funD_mk (st := s_law_is_ring) l_law_is_ring c_law_is_ring k_law_is_ring
  have B_law_is_ring := F_law_is_ring.bindsN (ps := ["_law_found", "_law_needs_here"]) fun _ _ _ _ _ _ us hl => match us, hl with | [_, _], _ => rfl
  have F_law_orders := funD_mk (st := s_law_orders) l_law_orders c_law_orders k_law_orders
  have B_law_orders := F_law_orders.bindsN (ps := ["_law_needs_here", "_law_ends"]) fun _ _ _ _ _ _ us hl => match us, hl with | [_, _], _ => rfl
  have F_law_rings := funD_mk (st := s_law_rings) l_law_rings c_law_rings k_law_rings
  have B_law_rings := F_law_rings.bindsN (ps := ["_law_needs_here", "_law_ends"]) fun _ _ _ _ _ _ us hl => match us, hl with | [_, _], _ => rfl
  have F_law := funD_mk (st := s_law) l_law c_law k_law
  have B_law := F_law.bindsN (ps := ["_law_script"]) fun _ _ _ _ _ _ us hl => match us, hl with | [_], _ => rfl
  refine ⟨PySem.W.fnOf "law" "law" (defArgs s_law) (defBody s_law) (defScope s_law) .none kV_law dc_law pm_law an_law cd_law ct_law, fun s v => .of_eq rfl, fun base hb hn => ?_⟩
  have O_can_stand := mk_fn (σ0 := fun _ => []) (P := l.prog) (w := w) (mg := mg) (base := base) (k := 0) (sp := S_can_stand K a) F_can_stand sc_can_stand (by intro vs A Φ Ψ; unfold S_can_stand; walk_at "len") (fun cdv A outer s H E hr => dv_can_stand T  hr) (fun vs A Φ Ψ E hx h => w_can_stand T h hx)
  have G_can_stand := defR_of F_can_stand (PySem.W.mg_of X G a_can_stand) B_can_stand O_can_stand
  have O_law_mixed := mk_fn (σ0 := fun _ => []) (P := l.prog) (w := w) (mg := mg) (base := base) (k := 0) (sp := S_law_mixed K a) F_law_mixed sc_law_mixed (by intro vs A Φ Ψ; unfold S_law_mixed; walk_at "len") (fun cdv A outer s H E hr => dv_law_mixed T  hr) (fun vs A Φ Ψ E hx h => w_law_mixed T h hx)
  have G_law_mixed := defR_of F_law_mixed (PySem.W.mg_of X G a_law_mixed) B_law_mixed O_law_mixed
  have O_law_copied := mk_fn (σ0 := fun _ => []) (P := l.prog) (w := w) (mg := mg) (base := base) (k := 0) (sp := S_law_copied K a) F_law_copied sc_law_copied (by intro vs A Φ Ψ; unfold S_law_copied; walk_at "len") (fun cdv A outer s H E hr => dv_law_copied T  hr) (fun vs A Φ Ψ E hx h => w_law_copied T h hx)
  have G_law_copied := defR_of F_law_copied (PySem.W.mg_of X G a_law_copied) B_law_copied O_law_copied
  have O_law_can_end := mk_fn (σ0 := fun _ => []) (P := l.prog) (w := w) (mg := mg) (base := base) (k := 0) (sp := S_law_can_end K a) F_law_can_end sc_law_can_end (by intro vs A Φ Ψ; unfold S_law_can_end; walk_at "len") (fun cdv A outer s H E hr => dv_law_can_end T  hr) (fun vs A Φ Ψ E hx h => w_law_can_end T h hx)
  have G_law_can_end := defR_of F_law_can_end (PySem.W.mg_of X G a_law_can_end) B_law_can_end O_law_can_end
  have O_law_whole := mk_fn (σ0 := fun _ => []) (P := l.prog) (w := w) (mg := mg) (base := base) (k := 0) (sp := S_law_whole K a) F_law_whole sc_law_whole (by intro vs A Φ Ψ; unfold S_law_whole; walk_at "len") (fun cdv A outer s H E hr => dv_law_whole T  hr) (fun vs A Φ Ψ E hx h => w_law_whole T h hx)
  have G_law_whole := defR_of F_law_whole (PySem.W.mg_of X G a_law_whole) B_law_whole O_law_whole
  have O_next_place := mk_fn (σ0 := fun _ => []) (P := l.prog) (w := w) (mg := mg) (base := base) (k := 1) (sp := S_next_place K a) F_next_place sc_next_place (by intro vs A Φ Ψ; unfold S_next_place; walk_at "len") (fun cdv A outer s H E hr => dv_next_place T G_can_stand hr) (fun vs A Φ Ψ E hx h => w_next_place T h hx)
  have G_next_place := defR_of F_next_place (PySem.W.mg_of X G a_next_place) B_next_place O_next_place
  have O_law_line_up := mk_fn (σ0 := fun _ => []) (P := l.prog) (w := w) (mg := mg) (base := base) (k := 1) (sp := S_law_line_up K a) F_law_line_up sc_law_line_up (by intro vs A Φ Ψ; unfold S_law_line_up; walk_at "len") (fun cdv A outer s H E hr => dv_law_line_up T G_law_mixed hr) (fun vs A Φ Ψ E hx h => w_law_line_up T h hx)
  have G_law_line_up := defR_of F_law_line_up (PySem.W.mg_of X G a_law_line_up) B_law_line_up O_law_line_up
  have O_law_freely := mk_fn (σ0 := fun _ => []) (P := l.prog) (w := w) (mg := mg) (base := base) (k := 1) (sp := S_law_freely K a) F_law_freely sc_law_freely (by intro vs A Φ Ψ; unfold S_law_freely; walk_at "len") (fun cdv A outer s H E hr => dv_law_freely T G_law_mixed hr) (fun vs A Φ Ψ E hx h => w_law_freely T h hx)
  have G_law_freely := defR_of F_law_freely (PySem.W.mg_of X G a_law_freely) B_law_freely O_law_freely
  have O_law_is_least := mk_fn (σ0 := fun _ => []) (P := l.prog) (w := w) (mg := mg) (base := base) (k := 1) (sp := S_law_is_least K a) F_law_is_least sc_law_is_least (by intro vs A Φ Ψ; unfold S_law_is_least; walk_at "len") (fun cdv A outer s H E hr => dv_law_is_least T G_law_whole hr) (fun vs A Φ Ψ E hx h => w_law_is_least T h hx)
  have G_law_is_least := defR_of F_law_is_least (PySem.W.mg_of X G a_law_is_least) B_law_is_least O_law_is_least
  have O_law_is_ring := mk_fn (σ0 := fun _ => []) (P := l.prog) (w := w) (mg := mg) (base := base) (k := 1) (sp := S_law_is_ring K a) F_law_is_ring sc_law_is_ring (by intro vs A Φ Ψ; unfold S_law_is_ring; walk_at "len") (fun cdv A outer s H E hr => dv_law_is_ring T G_law_whole hr) (fun vs A Φ Ψ E hx h => w_law_is_ring T h hx)
  have G_law_is_ring := defR_of F_law_is_ring (PySem.W.mg_of X G a_law_is_ring) B_law_is_ring O_law_is_ring
  have O_beginning := mk_fn (σ0 := fun _ => []) (P := l.prog) (w := w) (mg := mg) (base := base) (k := 2) (sp := S_beginning K a) F_beginning sc_beginning (by intro vs A Φ Ψ; unfold S_beginning; walk_at "len") (fun cdv A outer s H E hr => dv_beginning T G_next_place hr) (fun vs A Φ Ψ E hx h => w_beginning T h hx)
  have G_beginning := defR_of F_beginning (PySem.W.mg_of X G a_beginning) B_beginning O_beginning
  have O_law_in_line := mk_fn (σ0 := fun _ => []) (P := l.prog) (w := w) (mg := mg) (base := base) (k := 2) (sp := S_law_in_line K a) F_law_in_line sc_law_in_line (by intro vs A Φ Ψ; unfold S_law_in_line; walk_at "len") (fun cdv A outer s H E hr => dv_law_in_line T G_law_line_up G_law_mixed hr) (fun vs A Φ Ψ E hx h => w_law_in_line T h hx)
  have G_law_in_line := defR_of F_law_in_line (PySem.W.mg_of X G a_law_in_line) B_law_in_line O_law_in_line
  have O_order_of := mk_fn (σ0 := fun _ => []) (P := l.prog) (w := w) (mg := mg) (base := base) (k := 3) (sp := S_order_of K a) F_order_of sc_order_of (by intro vs A Φ Ψ; unfold S_order_of; walk_at "len") (fun cdv A outer s H E hr => dv_order_of T G_beginning hr) (fun vs A Φ Ψ E hx h => w_order_of T h hx)
  have G_order_of := defR_of F_order_of (PySem.W.mg_of X G a_order_of) B_order_of O_order_of
  have O_ring_of := mk_fn (σ0 := fun _ => []) (P := l.prog) (w := w) (mg := mg) (base := base) (k := 3) (sp := S_ring_of K a) F_ring_of sc_ring_of (by intro vs A Φ Ψ; unfold S_ring_of; walk_at "len") (fun cdv A outer s H E hr => dv_ring_of T G_beginning hr) (fun vs A Φ Ψ E hx h => w_ring_of T h hx)
  have G_ring_of := defR_of F_ring_of (PySem.W.mg_of X G a_ring_of) B_ring_of O_ring_of
  have O_law_needs := mk_fn (σ0 := fun _ => []) (P := l.prog) (w := w) (mg := mg) (base := base) (k := 3) (sp := S_law_needs K a) F_law_needs sc_law_needs (by intro vs A Φ Ψ; unfold S_law_needs; walk_at "len") (fun cdv A outer s H E hr => dv_law_needs T G_law_freely G_law_in_line G_law_mixed hr) (fun vs A Φ Ψ E hx h => w_law_needs T h hx)
  have G_law_needs := defR_of F_law_needs (PySem.W.mg_of X G a_law_needs) B_law_needs O_law_needs
  have O_law_orders := mk_fn (σ0 := fun _ => []) (P := l.prog) (w := w) (mg := mg) (base := base) (k := 4) (sp := S_law_orders K a) F_law_orders sc_law_orders (by intro vs A Φ Ψ; unfold S_law_orders; walk_at "len") (fun cdv A outer s H E hr => dv_law_orders T G_law_copied G_law_is_least G_order_of hr) (fun vs A Φ Ψ E hx h => w_law_orders T h hx)
  have G_law_orders := defR_of F_law_orders (PySem.W.mg_of X G a_law_orders) B_law_orders O_law_orders
  have O_law_rings := mk_fn (σ0 := fun _ => []) (P := l.prog) (w := w) (mg := mg) (base := base) (k := 4) (sp := S_law_rings K a) F_law_rings sc_law_rings (by intro vs A Φ Ψ; unfold S_law_rings; walk_at "len") (fun cdv A outer s H E hr => dv_law_rings T G_law_copied G_law_is_ring G_ring_of hr) (fun vs A Φ Ψ E hx h => w_law_rings T h hx)
  have G_law_rings := defR_of F_law_rings (PySem.W.mg_of X G a_law_rings) B_law_rings O_law_rings
  have O_law := mk_fn (σ0 := fun _ => []) (P := l.prog) (w := w) (mg := mg) (base := base) (k := 5) (sp := S_law K a) F_law sc_law (by intro vs A Φ Ψ; unfold S_law; walk_at "len") (fun cdv A outer s H E hr => dv_law T G_law_can_end G_law_mixed G_law_needs G_law_orders G_law_rings hr) (fun vs A Φ Ψ E hx h => w_law T h hx)
  exact O_law
theorem all_mk {l : PySem.W.OpenLaw} {w : World} {K : PySem.W.Frag} {h : Heap} {mg : Str → Option Value} {fa : Addr}  {oc_can_stand : Value} {od_can_stand : Option Addr} {kV_can_stand : Value} {dc_can_stand : Value} {pm_can_stand : Value} {an_can_stand : Option Addr} {cd_can_stand : Value} {ct_can_stand : Value} {sl_can_stand : Array (Option Value)} {f_can_stand : Addr} {oc_next_place : Value} {od_next_place : Option Addr} {kV_next_place : Value} {dc_next_place : Value} {pm_next_place : Value} {an_next_place : Option Addr} {cd_next_place : Value} {ct_next_place : Value} {sl_next_place : Array (Option Value)} {f_next_place : Addr} {oc_beginning : Value} {od_beginning : Option Addr} {kV_beginning : Value} {dc_beginning : Value} {pm_beginning : Value} {an_beginning : Option Addr} {cd_beginning : Value} {ct_beginning : Value} {sl_beginning : Array (Option Value)} {f_beginning : Addr} {oc_order_of : Value} {od_order_of : Option Addr} {kV_order_of : Value} {dc_order_of : Value} {pm_order_of : Value} {an_order_of : Option Addr} {cd_order_of : Value} {ct_order_of : Value} {sl_order_of : Array (Option Value)} {f_order_of : Addr} {oc_ring_of : Value} {od_ring_of : Option Addr} {kV_ring_of : Value} {dc_ring_of : Value} {pm_ring_of : Value} {an_ring_of : Option Addr} {cd_ring_of : Value} {ct_ring_of : Value} {sl_ring_of : Array (Option Value)} {f_ring_of : Addr} {oc_law_mixed : Value} {od_law_mixed : Option Addr} {kV_law_mixed : Value} {dc_law_mixed : Value} {pm_law_mixed : Value} {an_law_mixed : Option Addr} {cd_law_mixed : Value} {ct_law_mixed : Value} {sl_law_mixed : Array (Option Value)} {f_law_mixed : Addr} {oc_law_line_up : Value} {od_law_line_up : Option Addr} {kV_law_line_up : Value} {dc_law_line_up : Value} {pm_law_line_up : Value} {an_law_line_up : Option Addr} {cd_law_line_up : Value} {ct_law_line_up : Value} {sl_law_line_up : Array (Option Value)} {f_law_line_up : Addr} {oc_law_freely : Value} {od_law_freely : Option Addr} {kV_law_freely : Value} {dc_law_freely : Value} {pm_law_freely : Value} {an_law_freely : Option Addr} {cd_law_freely : Value} {ct_law_freely : Value} {sl_law_freely : Array (Option Value)} {f_law_freely : Addr} {oc_law_in_line : Value} {od_law_in_line : Option Addr} {kV_law_in_line : Value} {dc_law_in_line : Value} {pm_law_in_line : Value} {an_law_in_line : Option Addr} {cd_law_in_line : Value} {ct_law_in_line : Value} {sl_law_in_line : Array (Option Value)} {f_law_in_line : Addr} {oc_law_needs : Value} {od_law_needs : Option Addr} {kV_law_needs : Value} {dc_law_needs : Value} {pm_law_needs : Value} {an_law_needs : Option Addr} {cd_law_needs : Value} {ct_law_needs : Value} {sl_law_needs : Array (Option Value)} {f_law_needs : Addr} {oc_law_copied : Value} {od_law_copied : Option Addr} {kV_law_copied : Value} {dc_law_copied : Value} {pm_law_copied : Value} {an_law_copied : Option Addr} {cd_law_copied : Value} {ct_law_copied : Value} {sl_law_copied : Array (Option Value)} {f_law_copied : Addr} {oc_law_can_end : Value} {od_law_can_end : Option Addr} {kV_law_can_end : Value} {dc_law_can_end : Value} {pm_law_can_end : Value} {an_law_can_end : Option Addr} {cd_law_can_end : Value} {ct_law_can_end : Value} {sl_law_can_end : Array (Option Value)} {f_law_can_end : Addr} {oc_law_whole : Value} {od_law_whole : Option Addr} {kV_law_whole : Value} {dc_law_whole : Value} {pm_law_whole : Value} {an_law_whole : Option Addr} {cd_law_whole : Value} {ct_law_whole : Value} {sl_law_whole : Array (Option Value)} {f_law_whole : Addr} {oc_law_is_least : Value} {od_law_is_least : Option Addr} {kV_law_is_least : Value} {dc_law_is_least : Value} {pm_law_is_least : Value} {an_law_is_least : Option Addr} {cd_law_is_least : Value} {ct_law_is_least : Value} {sl_law_is_least : Array (Option Value)} {f_law_is_least : Addr} {oc_law_is_ring : Value} {od_law_is_ring : Option Addr} {kV_law_is_ring : Value} {dc_law_is_ring : Value} {pm_law_is_ring : Value} {an_law_is_ring : Option Addr} {cd_law_is_ring : Value} {ct_law_is_ring : Value} {sl_law_is_ring : Array (Option Value)} {f_law_is_ring : Addr} {oc_law_orders : Value} {od_law_orders : Option Addr} {kV_law_orders : Value} {dc_law_orders : Value} {pm_law_orders : Value} {an_law_orders : Option Addr} {cd_law_orders : Value} {ct_law_orders : Value} {sl_law_orders : Array (Option Value)} {f_law_orders : Addr} {oc_law_rings : Value} {od_law_rings : Option Addr} {kV_law_rings : Value} {dc_law_rings : Value} {pm_law_rings : Value} {an_law_rings : Option Addr} {cd_law_rings : Value} {ct_law_rings : Value} {sl_law_rings : Array (Option Value)} {f_law_rings : Addr} {oc_law : Value} {od_law : Option Addr} {kV_law : Value} {dc_law : Value} {pm_law : Value} {an_law : Option Addr} {cd_law : Value} {ct_law : Value} {sl_law : Array (Option Value)} {f_law : Addr} (X : K.In h) (G : h.Ns mainGlobals mg) (hfa : mg "law" = some (.ref fa))
    (b_bool : PySem.W.nsIn K mainGlobals "bool" = some none)
    (b_enumerate : PySem.W.nsIn K mainGlobals "enumerate" = some none)
    (b_int : PySem.W.nsIn K mainGlobals "int" = some none)
    (b_isinstance : PySem.W.nsIn K mainGlobals "isinstance" = some none)
    (b_len : PySem.W.nsIn K mainGlobals "len" = some none)
    (b_list : PySem.W.nsIn K mainGlobals "list" = some none)
    (b_max : PySem.W.nsIn K mainGlobals "max" = some none)
    (b_min : PySem.W.nsIn K mainGlobals "min" = some none)
    (b_range : PySem.W.nsIn K mainGlobals "range" = some none)
    (b_set : PySem.W.nsIn K mainGlobals "set" = some none)
    (zz_n : PySem.W.specialIn K (.builtin "object.__class__") "__get__" = some (some (.builtin "getset_descriptor.__get__")))
    (zz_t : PySem.W.takesIn K (.builtin "object.__class__") = some true)
    (a_can_stand : PySem.W.nsIn K mainGlobals "can_stand" = some (some (.ref f_can_stand)))
    (l_can_stand : K.lookup f_can_stand = some ⟨oc_can_stand, od_can_stand, .func (PySem.W.fnOf "can_stand" "can_stand" (defArgs s_can_stand) (defBody s_can_stand) (defScope s_can_stand) .none kV_can_stand dc_can_stand pm_can_stand an_can_stand cd_can_stand ct_can_stand), sl_can_stand⟩)
    (c_can_stand : PySem.W.codeIn K cd_can_stand "can_stand" = true)
    (k_can_stand : PySem.W.keepIn K (.ref f_can_stand) = true)
    (a_next_place : PySem.W.nsIn K mainGlobals "next_place" = some (some (.ref f_next_place)))
    (l_next_place : K.lookup f_next_place = some ⟨oc_next_place, od_next_place, .func (PySem.W.fnOf "next_place" "next_place" (defArgs s_next_place) (defBody s_next_place) (defScope s_next_place) .none kV_next_place dc_next_place pm_next_place an_next_place cd_next_place ct_next_place), sl_next_place⟩)
    (c_next_place : PySem.W.codeIn K cd_next_place "next_place" = true)
    (k_next_place : PySem.W.keepIn K (.ref f_next_place) = true)
    (a_beginning : PySem.W.nsIn K mainGlobals "beginning" = some (some (.ref f_beginning)))
    (l_beginning : K.lookup f_beginning = some ⟨oc_beginning, od_beginning, .func (PySem.W.fnOf "beginning" "beginning" (defArgs s_beginning) (defBody s_beginning) (defScope s_beginning) .none kV_beginning dc_beginning pm_beginning an_beginning cd_beginning ct_beginning), sl_beginning⟩)
    (c_beginning : PySem.W.codeIn K cd_beginning "beginning" = true)
    (k_beginning : PySem.W.keepIn K (.ref f_beginning) = true)
    (a_order_of : PySem.W.nsIn K mainGlobals "order_of" = some (some (.ref f_order_of)))
    (l_order_of : K.lookup f_order_of = some ⟨oc_order_of, od_order_of, .func (PySem.W.fnOf "order_of" "order_of" (defArgs s_order_of) (defBody s_order_of) (defScope s_order_of) .none kV_order_of dc_order_of pm_order_of an_order_of cd_order_of ct_order_of), sl_order_of⟩)
    (c_order_of : PySem.W.codeIn K cd_order_of "order_of" = true)
    (k_order_of : PySem.W.keepIn K (.ref f_order_of) = true)
    (a_ring_of : PySem.W.nsIn K mainGlobals "ring_of" = some (some (.ref f_ring_of)))
    (l_ring_of : K.lookup f_ring_of = some ⟨oc_ring_of, od_ring_of, .func (PySem.W.fnOf "ring_of" "ring_of" (defArgs s_ring_of) (defBody s_ring_of) (defScope s_ring_of) .none kV_ring_of dc_ring_of pm_ring_of an_ring_of cd_ring_of ct_ring_of), sl_ring_of⟩)
    (c_ring_of : PySem.W.codeIn K cd_ring_of "ring_of" = true)
    (k_ring_of : PySem.W.keepIn K (.ref f_ring_of) = true)
    (a_law_mixed : PySem.W.nsIn K mainGlobals "_law_mixed" = some (some (.ref f_law_mixed)))
    (l_law_mixed : K.lookup f_law_mixed = some ⟨oc_law_mixed, od_law_mixed, .func (PySem.W.fnOf "_law_mixed" "_law_mixed" (defArgs s_law_mixed) (defBody s_law_mixed) (defScope s_law_mixed) .none kV_law_mixed dc_law_mixed pm_law_mixed an_law_mixed cd_law_mixed ct_law_mixed), sl_law_mixed⟩)
    (c_law_mixed : PySem.W.codeIn K cd_law_mixed "_law_mixed" = true)
    (k_law_mixed : PySem.W.keepIn K (.ref f_law_mixed) = true)
    (a_law_line_up : PySem.W.nsIn K mainGlobals "_law_line_up" = some (some (.ref f_law_line_up)))
    (l_law_line_up : K.lookup f_law_line_up = some ⟨oc_law_line_up, od_law_line_up, .func (PySem.W.fnOf "_law_line_up" "_law_line_up" (defArgs s_law_line_up) (defBody s_law_line_up) (defScope s_law_line_up) .none kV_law_line_up dc_law_line_up pm_law_line_up an_law_line_up cd_law_line_up ct_law_line_up), sl_law_line_up⟩)
    (c_law_line_up : PySem.W.codeIn K cd_law_line_up "_law_line_up" = true)
    (k_law_line_up : PySem.W.keepIn K (.ref f_law_line_up) = true)
    (a_law_freely : PySem.W.nsIn K mainGlobals "_law_freely" = some (some (.ref f_law_freely)))
    (l_law_freely : K.lookup f_law_freely = some ⟨oc_law_freely, od_law_freely, .func (PySem.W.fnOf "_law_freely" "_law_freely" (defArgs s_law_freely) (defBody s_law_freely) (defScope s_law_freely) .none kV_law_freely dc_law_freely pm_law_freely an_law_freely cd_law_freely ct_law_freely), sl_law_freely⟩)
    (c_law_freely : PySem.W.codeIn K cd_law_freely "_law_freely" = true)
    (k_law_freely : PySem.W.keepIn K (.ref f_law_freely) = true)
    (a_law_in_line : PySem.W.nsIn K mainGlobals "_law_in_line" = some (some (.ref f_law_in_line)))
    (l_law_in_line : K.lookup f_law_in_line = some ⟨oc_law_in_line, od_law_in_line, .func (PySem.W.fnOf "_law_in_line" "_law_in_line" (defArgs s_law_in_line) (defBody s_law_in_line) (defScope s_law_in_line) .none kV_law_in_line dc_law_in_line pm_law_in_line an_law_in_line cd_law_in_line ct_law_in_line), sl_law_in_line⟩)
    (c_law_in_line : PySem.W.codeIn K cd_law_in_line "_law_in_line" = true)
    (k_law_in_line : PySem.W.keepIn K (.ref f_law_in_line) = true)
    (a_law_needs : PySem.W.nsIn K mainGlobals "_law_needs" = some (some (.ref f_law_needs)))
    (l_law_needs : K.lookup f_law_needs = some ⟨oc_law_needs, od_law_needs, .func (PySem.W.fnOf "_law_needs" "_law_needs" (defArgs s_law_needs) (defBody s_law_needs) (defScope s_law_needs) .none kV_law_needs dc_law_needs pm_law_needs an_law_needs cd_law_needs ct_law_needs), sl_law_needs⟩)
    (c_law_needs : PySem.W.codeIn K cd_law_needs "_law_needs" = true)
    (k_law_needs : PySem.W.keepIn K (.ref f_law_needs) = true)
    (a_law_copied : PySem.W.nsIn K mainGlobals "_law_copied" = some (some (.ref f_law_copied)))
    (l_law_copied : K.lookup f_law_copied = some ⟨oc_law_copied, od_law_copied, .func (PySem.W.fnOf "_law_copied" "_law_copied" (defArgs s_law_copied) (defBody s_law_copied) (defScope s_law_copied) .none kV_law_copied dc_law_copied pm_law_copied an_law_copied cd_law_copied ct_law_copied), sl_law_copied⟩)
    (c_law_copied : PySem.W.codeIn K cd_law_copied "_law_copied" = true)
    (k_law_copied : PySem.W.keepIn K (.ref f_law_copied) = true)
    (a_law_can_end : PySem.W.nsIn K mainGlobals "_law_can_end" = some (some (.ref f_law_can_end)))
    (l_law_can_end : K.lookup f_law_can_end = some ⟨oc_law_can_end, od_law_can_end, .func (PySem.W.fnOf "_law_can_end" "_law_can_end" (defArgs s_law_can_end) (defBody s_law_can_end) (defScope s_law_can_end) .none kV_law_can_end dc_law_can_end pm_law_can_end an_law_can_end cd_law_can_end ct_law_can_end), sl_law_can_end⟩)
    (c_law_can_end : PySem.W.codeIn K cd_law_can_end "_law_can_end" = true)
    (k_law_can_end : PySem.W.keepIn K (.ref f_law_can_end) = true)
    (a_law_whole : PySem.W.nsIn K mainGlobals "_law_whole" = some (some (.ref f_law_whole)))
    (l_law_whole : K.lookup f_law_whole = some ⟨oc_law_whole, od_law_whole, .func (PySem.W.fnOf "_law_whole" "_law_whole" (defArgs s_law_whole) (defBody s_law_whole) (defScope s_law_whole) .none kV_law_whole dc_law_whole pm_law_whole an_law_whole cd_law_whole ct_law_whole), sl_law_whole⟩)
    (c_law_whole : PySem.W.codeIn K cd_law_whole "_law_whole" = true)
    (k_law_whole : PySem.W.keepIn K (.ref f_law_whole) = true)
    (a_law_is_least : PySem.W.nsIn K mainGlobals "_law_is_least" = some (some (.ref f_law_is_least)))
    (l_law_is_least : K.lookup f_law_is_least = some ⟨oc_law_is_least, od_law_is_least, .func (PySem.W.fnOf "_law_is_least" "_law_is_least" (defArgs s_law_is_least) (defBody s_law_is_least) (defScope s_law_is_least) .none kV_law_is_least dc_law_is_least pm_law_is_least an_law_is_least cd_law_is_least ct_law_is_least), sl_law_is_least⟩)
    (c_law_is_least : PySem.W.codeIn K cd_law_is_least "_law_is_least" = true)
    (k_law_is_least : PySem.W.keepIn K (.ref f_law_is_least) = true)
    (a_law_is_ring : PySem.W.nsIn K mainGlobals "_law_is_ring" = some (some (.ref f_law_is_ring)))
    (l_law_is_ring : K.lookup f_law_is_ring = some ⟨oc_law_is_ring, od_law_is_ring, .func (PySem.W.fnOf "_law_is_ring" "_law_is_ring" (defArgs s_law_is_ring) (defBody s_law_is_ring) (defScope s_law_is_ring) .none kV_law_is_ring dc_law_is_ring pm_law_is_ring an_law_is_ring cd_law_is_ring ct_law_is_ring), sl_law_is_ring⟩)
    (c_law_is_ring : PySem.W.codeIn K cd_law_is_ring "_law_is_ring" = true)
    (k_law_is_ring : PySem.W.keepIn K (.ref f_law_is_ring) = true)
    (a_law_orders : PySem.W.nsIn K mainGlobals "_law_orders" = some (some (.ref f_law_orders)))
    (l_law_orders : K.lookup f_law_orders = some ⟨oc_law_orders, od_law_orders, .func (PySem.W.fnOf "_law_orders" "_law_orders" (defArgs s_law_orders) (defBody s_law_orders) (defScope s_law_orders) .none kV_law_orders dc_law_orders pm_law_orders an_law_orders cd_law_orders ct_law_orders), sl_law_orders⟩)
    (c_law_orders : PySem.W.codeIn K cd_law_orders "_law_orders" = true)
    (k_law_orders : PySem.W.keepIn K (.ref f_law_orders) = true)
    (a_law_rings : PySem.W.nsIn K mainGlobals "_law_rings" = some (some (.ref f_law_rings)))
    (l_law_rings : K.lookup f_law_rings = some ⟨oc_law_rings, od_law_rings, .func (PySem.W.fnOf "_law_rings" "_law_rings" (defArgs s_law_rings) (defBody s_law_rings) (defScope s_law_rings) .none kV_law_rings dc_law_rings pm_law_rings an_law_rings cd_law_rings ct_law_rings), sl_law_rings⟩)
    (c_law_rings : PySem.W.codeIn K cd_law_rings "_law_rings" = true)
    (k_law_rings : PySem.W.keepIn K (.ref f_law_rings) = true)
    (a_law : PySem.W.nsIn K mainGlobals "law" = some (some (.ref f_law)))
    (l_law : K.lookup f_law = some ⟨oc_law, od_law, .func (PySem.W.fnOf "law" "law" (defArgs s_law) (defBody s_law) (defScope s_law) .none kV_law dc_law pm_law an_law cd_law ct_law), sl_law⟩)
    (c_law : PySem.W.codeIn K cd_law "law" = true)
    (k_law : PySem.W.keepIn K (.ref f_law) = true) :
    ∃ fd : FuncData, (∀ (s : Shared) (v : Value), BindsTo s fd ⟨[v], []⟩ [("_law_script", v)]) ∧ ∀ base : Heap, K.In base → base.Ns mainGlobals mg → FnOk l.prog w K mg base (L2.CX l.prog w) 6 fa fd ["_law_script"] (lift (S_law K ⟨0⟩)) := by
  exact all_mk' (a := ⟨0⟩) X G hfa b_bool b_enumerate b_int b_isinstance b_len b_list b_max b_min b_range b_set zz_n zz_t a_can_stand l_can_stand c_can_stand k_can_stand a_next_place l_next_place c_next_place k_next_place a_beginning l_beginning c_beginning k_beginning a_order_of l_order_of c_order_of k_order_of a_ring_of l_ring_of c_ring_of k_ring_of a_law_mixed l_law_mixed c_law_mixed k_law_mixed a_law_line_up l_law_line_up c_law_line_up k_law_line_up a_law_freely l_law_freely c_law_freely k_law_freely a_law_in_line l_law_in_line c_law_in_line k_law_in_line a_law_needs l_law_needs c_law_needs k_law_needs a_law_copied l_law_copied c_law_copied k_law_copied a_law_can_end l_law_can_end c_law_can_end k_law_can_end a_law_whole l_law_whole c_law_whole k_law_whole a_law_is_least l_law_is_least c_law_is_least k_law_is_least a_law_is_ring l_law_is_ring c_law_is_ring k_law_is_ring a_law_orders l_law_orders c_law_orders k_law_orders a_law_rings l_law_rings c_law_rings k_law_rings a_law l_law c_law k_law
theorem walk {l : PySem.W.OpenLaw} {q : Program} {loose : List Str} {XP : (Str → Option Value) → Heap → Prop} {YP : World → Heap → Prop} {d : DefRec} {K : Params → PySem.W.Frag} (hn : l.most = some 63) (hdf : d.params.defaults = [])
    (hY : ∀ (w : World) (h : Heap), YP w h → (K w.params).In h)
    (F : ∀ (w : World) (mg : Str → Option Value) (fa : Addr) (h : Heap), (K w.params).In h → h.Ns mainGlobals mg → mg d.name = some (.ref fa) →
      ∃ fd : FuncData, (∀ (s : Shared) (u : Value), BindsTo s fd ⟨[u], []⟩ [("_law_script", u)]) ∧ ∀ base : Heap, (K w.params).In base → base.Ns mainGlobals mg → FnOk l.prog w (K w.params) mg base (L2.CX l.prog w) 6 fa fd ["_law_script"] (lift (S_law (K w.params) ⟨0⟩))) :
    PySem.W.WalkO q loose XP YP l.row.toRowW d [] (fun f vs => PySem.call f vs) :=
  L2.walk_of (n := 63) (k := 6) (x := "_law_script") (CX := fun w => L2.CX l.prog w) (sp := fun w => lift (S_law (K w.params) ⟨0⟩)) hn (by decide) hdf ⟨rfl, by decide, by decide⟩ hY F (fun w H a ns hl _ hS => law_in hS fun A hA => ⟨a, ns, rfl, hA, hl, rfl⟩) fun w H s e s' z => cx_no z

end S
open PySem PySem.W PyProof.Rows in
set_option maxRecDepth 100000 in
set_option maxHeartbeats 0 in
theorem PySem.Challenge.cw_buildhall_k05_rings_and_orders_holds : PySem.Challenge.rw_buildhall_k05_rings_and_orders.Holds := by
  w_on; o_law; k_head; (case hw => w_witness2)
  k_fill
  refine S.walk (l := PySem.Challenge.rw_buildhall_k05_rings_and_orders) rfl rfl (fun w h Y => PySem.W.kIn_of Y) ?F
  case F =>
    intro w mg fa h KX G hmg0
    have hmg : mg (PySem.Str.ofString "law") = some (.ref fa) := hmg0
    clear hmg0
    refine' S.all_mk KX G hmg ?b_bool ?b_enumerate ?b_int ?b_isinstance ?b_len ?b_list ?b_max ?b_min ?b_range ?b_set ?zz_n ?zz_t ?a_can_stand ?l_can_stand ?c_can_stand ?k_can_stand ?a_next_place ?l_next_place ?c_next_place ?k_next_place ?a_beginning ?l_beginning ?c_beginning ?k_beginning ?a_order_of ?l_order_of ?c_order_of ?k_order_of ?a_ring_of ?l_ring_of ?c_ring_of ?k_ring_of ?a_law_mixed ?l_law_mixed ?c_law_mixed ?k_law_mixed ?a_law_line_up ?l_law_line_up ?c_law_line_up ?k_law_line_up ?a_law_freely ?l_law_freely ?c_law_freely ?k_law_freely ?a_law_in_line ?l_law_in_line ?c_law_in_line ?k_law_in_line ?a_law_needs ?l_law_needs ?c_law_needs ?k_law_needs ?a_law_copied ?l_law_copied ?c_law_copied ?k_law_copied ?a_law_can_end ?l_law_can_end ?c_law_can_end ?k_law_can_end ?a_law_whole ?l_law_whole ?c_law_whole ?k_law_whole ?a_law_is_least ?l_law_is_least ?c_law_is_least ?k_law_is_least ?a_law_is_ring ?l_law_is_ring ?c_law_is_ring ?k_law_is_ring ?a_law_orders ?l_law_orders ?c_law_orders ?k_law_orders ?a_law_rings ?l_law_rings ?c_law_rings ?k_law_rings ?a_law ?l_law ?c_law ?k_law
    (case b_bool => k_is)
    (case b_enumerate => k_is)
    (case b_int => k_is)
    (case b_isinstance => k_is)
    (case b_len => k_is)
    (case b_list => k_is)
    (case b_max => k_is)
    (case b_min => k_is)
    (case b_range => k_is)
    (case b_set => k_is)
    (case zz_n => k_is)
    (case zz_t => k_is)
    (case a_can_stand => k_is)
    (case l_can_stand => k_is)
    (case c_can_stand => k_is)
    (case k_can_stand => k_is)
    (case a_next_place => k_is)
    (case l_next_place => k_is)
    (case c_next_place => k_is)
    (case k_next_place => k_is)
    (case a_beginning => k_is)
    (case l_beginning => k_is)
    (case c_beginning => k_is)
    (case k_beginning => k_is)
    (case a_order_of => k_is)
    (case l_order_of => k_is)
    (case c_order_of => k_is)
    (case k_order_of => k_is)
    (case a_ring_of => k_is)
    (case l_ring_of => k_is)
    (case c_ring_of => k_is)
    (case k_ring_of => k_is)
    (case a_law_mixed => k_is)
    (case l_law_mixed => k_is)
    (case c_law_mixed => k_is)
    (case k_law_mixed => k_is)
    (case a_law_line_up => k_is)
    (case l_law_line_up => k_is)
    (case c_law_line_up => k_is)
    (case k_law_line_up => k_is)
    (case a_law_freely => k_is)
    (case l_law_freely => k_is)
    (case c_law_freely => k_is)
    (case k_law_freely => k_is)
    (case a_law_in_line => k_is)
    (case l_law_in_line => k_is)
    (case c_law_in_line => k_is)
    (case k_law_in_line => k_is)
    (case a_law_needs => k_is)
    (case l_law_needs => k_is)
    (case c_law_needs => k_is)
    (case k_law_needs => k_is)
    (case a_law_copied => k_is)
    (case l_law_copied => k_is)
    (case c_law_copied => k_is)
    (case k_law_copied => k_is)
    (case a_law_can_end => k_is)
    (case l_law_can_end => k_is)
    (case c_law_can_end => k_is)
    (case k_law_can_end => k_is)
    (case a_law_whole => k_is)
    (case l_law_whole => k_is)
    (case c_law_whole => k_is)
    (case k_law_whole => k_is)
    (case a_law_is_least => k_is)
    (case l_law_is_least => k_is)
    (case c_law_is_least => k_is)
    (case k_law_is_least => k_is)
    (case a_law_is_ring => k_is)
    (case l_law_is_ring => k_is)
    (case c_law_is_ring => k_is)
    (case k_law_is_ring => k_is)
    (case a_law_orders => k_is)
    (case l_law_orders => k_is)
    (case c_law_orders => k_is)
    (case k_law_orders => k_is)
    (case a_law_rings => k_is)
    (case l_law_rings => k_is)
    (case c_law_rings => k_is)
    (case k_law_rings => k_is)
    (case a_law => k_is)
    (case l_law => k_is)
    (case c_law => k_is)
    (case k_law => k_is)
