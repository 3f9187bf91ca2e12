import PyProof.Rows.All
import Wide.All
import OpenK.AllK
import Wide.FinOn
import HandS.ForMost
import HandS.TupAny
import HandS.Wide
import KE.DataEq
import HandS.IsInst
import HandS.Flow
import HandS.TupMul
import HandS.Text
import KE.DataAny
import HandS.RaiseMore
import HandS.NoneIn
import HandS.Zip
import HandS.EndBits
import KE.KDictZip
import PyProof.ListNew
import PyProof.ReprBulk
import HandS.Style
import KE.GoesEnum
import PySem.Challenge.RW_crosslocks_k01_what_canals_are
set_option Elab.async false
set_option linter.all false
set_option maxRecDepth 100000
/-! Values as trees (D), who owns which list (Own), frames of slots (Slots). -/
namespace Cr
open PySem PySem.Spec PyProof.Rows L2

inductive D where
  | non | bl (b : Bool) | int (i : Int) | str (s : Str)
  | tup (xs : List D) | lst (xs : List D) | fl (xs : List D)

/-- a list that never changes: the script -/
def Fz (K : PySem.W.Frag) (H : Hp) (a : Addr) (xs : List V) : Prop := (∃ o, H a = some (.frz o (.lst xs))) ∨
    ∃ (o : Obj) (its : Array Value) (n : Nat), K.lookup a = some o ∧ o.cls = .type "list" ∧ o.dict = none ∧ o.data = .seq its n ∧ its.size ≤ sizeLine ∧ Vals xs its.toList
mutual
inductive Own (K : PySem.W.Frag) (H : Hp) : Nat → V → D → List Addr → List Addr → Prop
  | non {k} : Own K H k .non .non [] []
  | bl {k} (b : Bool) : Own K H k (.bl b) (.bl b) [] []
  | int {k} (i : Int) : Own K H k (.int i) (.int i) [] []
  | str {k} (x : Str) : Own K H k (.str x) (.str x) [] []
  | tup {k a xs ds G S} : SqT K H a xs → Owns K H k xs ds G S → Own K H k (.ref a) (.tup ds) G S
  | own {k a xs ds G S} : H a = some (.lst xs) → Owns K H k xs ds G S → Own K H (k + 1) (.ref a) (.lst ds) (a :: G) S
  | fl {k a xs ds G S} : Fz K H a xs → Owns K H k xs ds G S → Own K H k (.ref a) (.fl ds) G S
  | shr {a xs ds G S} : H a = some (.lst xs) → Owns K H 0 xs ds G S → Own K H 0 (.ref a) (.lst ds) G (a :: S)
inductive Owns (K : PySem.W.Frag) (H : Hp) : Nat → List V → List D → List Addr → List Addr → Prop
  | nil {k} : Owns K H k [] [] [] []
  | cons {k v d G S vs ds G' S'} : Own K H k v d G S → Owns K H k vs ds G' S' → Owns K H k (v :: vs) (d :: ds) (G ++ G') (S ++ S')
end

/-- all at F may be written -/
def Mu (H : Hp) (F : List Addr) : Prop := ∀ a ∈ F, Mut (H a)
/-- what is not at F is kept -/
def Kp (F : List Addr) (H H' : Hp) : Prop := ∀ a o, H a = some o → a ∉ F → H' a = some o

theorem Mut.some_of {o : Option HO} (h : Mut o) : ∃ u, o = some u := by
  cases o with
  | none => exact h.elim
  | some u => exact ⟨u, rfl⟩
theorem Rd.keepT {H H' : Hp} {F : List Addr} {a : Addr} {xs : List V} (k : Kp F H H') (m : Mu H F) (h : Rd H a (.tup xs)) : Rd H' a (.tup xs) := by
  rcases h with h | ⟨o, h⟩
  · exact .inl (k a _ h fun z => by have := m a z; rw [h] at this; exact this)
  · exact .inr ⟨o, k a _ h fun z => by have := m a z; rw [h] at this; exact this⟩
theorem SqT.keep {K : PySem.W.Frag} {H H' : Hp} {F : List Addr} {a : Addr} {xs : List V} (k : Kp F H H') (m : Mu H F) (h : SqT K H a xs) : SqT K H' a xs := by
  rcases h with h | h
  · exact .inl (Rd.keepT k m h)
  · exact .inr h
theorem Fz.keep {K : PySem.W.Frag} {H H' : Hp} {F : List Addr} {a : Addr} {xs : List V} (k : Kp F H H') (m : Mu H F) (h : Fz K H a xs) : Fz K H' a xs := by
  rcases h with ⟨o, h⟩ | h
  · exact .inl ⟨o, k a _ h fun z => by have := m a z; rw [h] at this; exact this⟩
  · exact .inr h
theorem Fz.sq {K : PySem.W.Frag} {H : Hp} {a : Addr} {xs : List V} (h : Fz K H a xs) : SqL K H a xs := by
  rcases h with ⟨o, h⟩ | h
  · exact .inl (.inr ⟨o, h⟩)
  · exact .inr h
theorem Rd.keepL {H H' : Hp} {F : List Addr} {a : Addr} {u : HO} (k : Kp F H H') (n : a ∉ F) (h : Rd H a u) : Rd H' a u := by
  rcases h with h | ⟨o, h⟩
  · exact .inl (k a _ h n)
  · exact .inr ⟨o, k a _ h n⟩
theorem Rd.some_of {H : Hp} {a : Addr} {u : HO} (h : Rd H a u) : ∃ o, H a = some o := by
  rcases h with h | ⟨o, h⟩
  · exact ⟨_, h⟩
  · exact ⟨_, h⟩

section
variable {K : PySem.W.Frag} {H H' : Hp} {F : List Addr}
mutual
theorem Own.frame (kp : Kp F H H') (mu : Mu H F) : ∀ (d : D) {k : Nat} {v : V} {G S : List Addr}, Own K H k v d G S → (∀ a ∈ G, a ∉ F) → (∀ a ∈ S, a ∉ F) → Own K H' k v d G S
  | .non, _, _, _, _, h, _, _ => by cases h; exact .non
  | .bl _, _, _, _, _, h, _, _ => by cases h; exact .bl _
  | .int _, _, _, _, _, h, _, _ => by cases h; exact .int _
  | .str _, _, _, _, _, h, _, _ => by cases h; exact .str _
  | .tup ds, _, _, _, _, h, hg, hs => by
    cases h with
    | tup h1 h2 => exact .tup (SqT.keep kp mu h1) (Owns.frame kp mu ds h2 hg hs)
  | .fl ds, _, _, _, _, h, hg, hs => by
    cases h with
    | fl h1 h2 => exact .fl (Fz.keep kp mu h1) (Owns.frame kp mu ds h2 hg hs)
  | .lst ds, _, _, _, _, h, hg, hs => by
    cases h with
    | own h1 h2 => exact .own (kp _ _ h1 (hg _ List.mem_cons_self)) (Owns.frame kp mu ds h2 (fun a z => hg a (List.mem_cons_of_mem _ z)) hs)
    | shr h1 h2 => exact .shr (kp _ _ h1 (hs _ List.mem_cons_self)) (Owns.frame kp mu ds h2 hg (fun a z => hs a (List.mem_cons_of_mem _ z)))
theorem Owns.frame (kp : Kp F H H') (mu : Mu H F) : ∀ (ds : List D) {k : Nat} {vs : List V} {G S : List Addr}, Owns K H k vs ds G S → (∀ a ∈ G, a ∉ F) → (∀ a ∈ S, a ∉ F) → Owns K H' k vs ds G S
  | [], _, _, _, _, h, _, _ => by cases h; exact .nil
  | d :: ds, _, _, _, _, h, hg, hs => by
    cases h with
    | cons h1 h2 => exact .cons (Own.frame kp mu d h1 (fun a z => hg a (List.mem_append_left _ z)) fun a z => hs a (List.mem_append_left _ z)) (Owns.frame kp mu ds h2 (fun a z => hg a (List.mem_append_right _ z)) fun a z => hs a (List.mem_append_right _ z))
end
mutual
theorem Own.g0 : ∀ (d : D) {v : V} {G S : List Addr}, Own K H 0 v d G S → G = []
  | .non, _, _, _, h => by cases h; rfl
  | .bl _, _, _, _, h => by cases h; rfl
  | .int _, _, _, _, h => by cases h; rfl
  | .str _, _, _, _, h => by cases h; rfl
  | .tup ds, _, _, _, h => by
    cases h with
    | tup h1 h2 => exact Owns.g0 ds h2
  | .fl ds, _, _, _, h => by
    cases h with
    | fl h1 h2 => exact Owns.g0 ds h2
  | .lst ds, _, _, _, h => by
    cases h with
    | shr h1 h2 => exact Owns.g0 ds h2
theorem Owns.g0 : ∀ (ds : List D) {vs : List V} {G S : List Addr}, Owns K H 0 vs ds G S → G = []
  | [], _, _, _, h => by cases h; rfl
  | d :: ds, _, _, _, h => by
    cases h with
    | cons h1 h2 => rw [Own.g0 d h1, Owns.g0 ds h2]; rfl
end
mutual
theorem Own.mu : ∀ (d : D) {k : Nat} {v : V} {G S : List Addr}, Own K H k v d G S → Mu H G
  | .non, _, _, _, _, h => by cases h; intro a z; cases z
  | .bl _, _, _, _, _, h => by cases h; intro a z; cases z
  | .int _, _, _, _, _, h => by cases h; intro a z; cases z
  | .str _, _, _, _, _, h => by cases h; intro a z; cases z
  | .tup ds, _, _, _, _, h => by
    cases h with
    | tup h1 h2 => exact Owns.mu ds h2
  | .fl ds, _, _, _, _, h => by
    cases h with
    | fl h1 h2 => exact Owns.mu ds h2
  | .lst ds, _, _, _, _, h => by
    cases h with
    | own h1 h2 =>
      intro a z
      rcases List.mem_cons.mp z with rfl | z
      · rw [h1]; trivial
      · exact Owns.mu ds h2 a z
    | shr h1 h2 => exact Owns.mu ds h2
theorem Owns.mu : ∀ (ds : List D) {k : Nat} {vs : List V} {G S : List Addr}, Owns K H k vs ds G S → Mu H G
  | [], _, _, _, _, h => by cases h; intro a z; cases z
  | d :: ds, _, _, _, _, h => by
    cases h with
    | cons h1 h2 =>
      intro a z
      rcases List.mem_append.mp z with z | z
      · exact Own.mu d h1 a z
      · exact Owns.mu ds h2 a z
end
mutual
theorem Own.stk : ∀ (d : D) {k : Nat} {v : V} {G S : List Addr}, Own K H k v d G S → ∀ a ∈ S, ∃ o, H a = some o
  | .non, _, _, _, _, h => by cases h; intro a z; cases z
  | .bl _, _, _, _, _, h => by cases h; intro a z; cases z
  | .int _, _, _, _, _, h => by cases h; intro a z; cases z
  | .str _, _, _, _, _, h => by cases h; intro a z; cases z
  | .tup ds, _, _, _, _, h => by
    cases h with
    | tup h1 h2 => exact Owns.stk ds h2
  | .fl ds, _, _, _, _, h => by
    cases h with
    | fl h1 h2 => exact Owns.stk ds h2
  | .lst ds, _, _, _, _, h => by
    cases h with
    | own h1 h2 => exact Owns.stk ds h2
    | shr h1 h2 =>
      intro a z
      rcases List.mem_cons.mp z with rfl | z
      · exact ⟨_, h1⟩
      · exact Owns.stk ds h2 a z
theorem Owns.stk : ∀ (ds : List D) {k : Nat} {vs : List V} {G S : List Addr}, Owns K H k vs ds G S → ∀ a ∈ S, ∃ o, H a = some o
  | [], _, _, _, _, h => by cases h; intro a z; cases z
  | d :: ds, _, _, _, _, h => by
    cases h with
    | cons h1 h2 =>
      intro a z
      rcases List.mem_append.mp z with z | z
      · exact Own.stk d h1 a z
      · exact Owns.stk ds h2 a z
end
/-- a lower mode: some owned ones are shared from now on -/
structure Low (G S G' S' : List Addr) : Prop where
  sub : G'.Sublist G
  sh : ∀ a ∈ S', a ∈ S ∨ (a ∈ G ∧ (G.Nodup → a ∉ G'))
theorem Low.refl {G S : List Addr} : Low G S G S := ⟨List.Sublist.refl _, fun a z => .inl z⟩
theorem Low.append {G S G' S' A B A' B' : List Addr} (h : Low G S G' S') (k : Low A B A' B') : Low (G ++ A) (S ++ B) (G' ++ A') (S' ++ B') := by
  refine ⟨h.sub.append k.sub, fun a z => ?_⟩
  rcases List.mem_append.mp z with z | z
  · rcases h.sh a z with z | ⟨z, n⟩
    · exact .inl (List.mem_append_left _ z)
    · refine .inr ⟨List.mem_append_left _ z, fun nd q => ?_⟩
      rw [List.nodup_append] at nd
      rcases List.mem_append.mp q with q | q
      · exact n nd.1 q
      · exact nd.2.2 a z a (k.sub.subset q) rfl
  · rcases k.sh a z with z | ⟨z, n⟩
    · exact .inl (List.mem_append_right _ z)
    · refine .inr ⟨List.mem_append_right _ z, fun nd q => ?_⟩
      rw [List.nodup_append] at nd
      rcases List.mem_append.mp q with q | q
      · exact nd.2.2 a (h.sub.subset q) a z rfl
      · exact n nd.2.1 q
mutual
theorem Own.lower : ∀ (d : D) {k j : Nat} {v : V} {G S : List Addr}, j ≤ k → Own K H k v d G S → ∃ G' S', Own K H j v d G' S' ∧ Low G S G' S'
  | .non, _, _, _, _, _, _, h => by cases h; exact ⟨_, _, .non, Low.refl⟩
  | .bl _, _, _, _, _, _, _, h => by cases h; exact ⟨_, _, .bl _, Low.refl⟩
  | .int _, _, _, _, _, _, _, h => by cases h; exact ⟨_, _, .int _, Low.refl⟩
  | .str _, _, _, _, _, _, _, h => by cases h; exact ⟨_, _, .str _, Low.refl⟩
  | .tup ds, _, _, _, _, _, le, h => by
    cases h with
    | tup h1 h2 =>
      obtain ⟨G', S', r, l⟩ := Owns.lower ds le h2
      exact ⟨_, _, .tup h1 r, l⟩
  | .fl ds, _, _, _, _, _, le, h => by
    cases h with
    | fl h1 h2 =>
      obtain ⟨G', S', r, l⟩ := Owns.lower ds le h2
      exact ⟨_, _, .fl h1 r, l⟩
  | .lst ds, _, j, _, _, _, le, h => by
    cases h with
    | own h1 h2 =>
      rename_i k a xs G
      cases j with
      | zero =>
        obtain ⟨G', S', r, l⟩ := Owns.lower ds (Nat.zero_le _) h2
        refine ⟨_, _, .shr h1 r, ?_, fun b z => ?_⟩
        · rw [Owns.g0 ds r]; exact List.nil_sublist _
        · rcases List.mem_cons.mp z with rfl | z
          · exact .inr ⟨List.mem_cons_self, fun _ q => by rw [Owns.g0 ds r] at q; cases q⟩
          · rcases l.sh b z with z | ⟨z, n⟩
            · exact .inl z
            · exact .inr ⟨List.mem_cons_of_mem _ z, fun _ q => by rw [Owns.g0 ds r] at q; cases q⟩
      | succ j =>
        obtain ⟨G', S', r, l⟩ := Owns.lower ds (Nat.le_of_succ_le_succ le) h2
        refine ⟨_, _, .own h1 r, l.sub.cons₂ _, fun b z => ?_⟩
        rcases l.sh b z with z | ⟨z, n⟩
        · exact .inl z
        · refine .inr ⟨List.mem_cons_of_mem _ z, fun nd q => ?_⟩
          rw [List.nodup_cons] at nd
          rcases List.mem_cons.mp q with rfl | q
          · exact nd.1 z
          · exact n nd.2 q
    | shr h1 h2 =>
      have : j = 0 := Nat.le_zero.mp le
      subst this
      exact ⟨_, _, .shr h1 h2, Low.refl⟩
theorem Owns.lower : ∀ (ds : List D) {k j : Nat} {vs : List V} {G S : List Addr}, j ≤ k → Owns K H k vs ds G S → ∃ G' S', Owns K H j vs ds G' S' ∧ Low G S G' S'
  | [], _, _, _, _, _, _, h => by cases h; exact ⟨_, _, .nil, Low.refl⟩
  | d :: ds, _, _, _, _, _, le, h => by
    cases h with
    | cons h1 h2 =>
      obtain ⟨G1, S1, r1, l1⟩ := Own.lower d le h1
      obtain ⟨G2, S2, r2, l2⟩ := Owns.lower ds le h2
      exact ⟨_, _, .cons r1 r2, l1.append l2⟩
end
mutual
/-- no list within -/
def at9 : D → Bool
  | .tup xs => at9s xs
  | .fl xs => at9s xs
  | .lst _ => false
  | .non => true
  | .bl _ => true
  | .int _ => true
  | .str _ => true
def at9s : List D → Bool
  | [] => true
  | d :: ds => at9 d && at9s ds
end
mutual
theorem Own.at9 : ∀ (d : D) {k : Nat} {v : V} {G S : List Addr}, Cr.at9 d = true → Own K H k v d G S → G = [] ∧ S = [] ∧ ∀ j, Own K H j v d [] []
  | .non, _, _, _, _, _, h => by cases h; exact ⟨rfl, rfl, fun j => .non⟩
  | .bl _, _, _, _, _, _, h => by cases h; exact ⟨rfl, rfl, fun j => .bl _⟩
  | .int _, _, _, _, _, _, h => by cases h; exact ⟨rfl, rfl, fun j => .int _⟩
  | .str _, _, _, _, _, _, h => by cases h; exact ⟨rfl, rfl, fun j => .str _⟩
  | .tup ds, _, _, _, _, e, h => by
    unfold Cr.at9 at e
    cases h with
    | tup h1 h2 =>
      obtain ⟨rfl, rfl, r⟩ := Owns.at9 ds e h2
      exact ⟨rfl, rfl, fun j => .tup h1 (r j)⟩
  | .fl ds, _, _, _, _, e, h => by
    unfold Cr.at9 at e
    cases h with
    | fl h1 h2 =>
      obtain ⟨rfl, rfl, r⟩ := Owns.at9 ds e h2
      exact ⟨rfl, rfl, fun j => .fl h1 (r j)⟩
  | .lst ds, _, _, _, _, e, h => by unfold Cr.at9 at e; cases e
theorem Owns.at9 : ∀ (ds : List D) {k : Nat} {vs : List V} {G S : List Addr}, at9s ds = true → Owns K H k vs ds G S → G = [] ∧ S = [] ∧ ∀ j, Owns K H j vs ds [] []
  | [], _, _, _, _, _, h => by cases h; exact ⟨rfl, rfl, fun j => .nil⟩
  | d :: ds, _, _, _, _, e, h => by
    unfold at9s at e
    rw [Bool.and_eq_true] at e
    cases h with
    | cons h1 h2 =>
      obtain ⟨rfl, rfl, r1⟩ := Own.at9 d e.1 h1
      obtain ⟨rfl, rfl, r2⟩ := Owns.at9 ds e.2 h2
      exact ⟨rfl, rfl, fun j => .cons (r1 j) (r2 j)⟩
end
theorem Owns.len : ∀ {ds : List D} {k : Nat} {vs : List V} {G S : List Addr}, Owns K H k vs ds G S → vs.length = ds.length
  | _, _, _, _, _, .nil => rfl
  | _, _, _, _, _, .cons _ t => congrArg (· + 1) (Owns.len t)
end
end Cr
set_option Elab.async false
set_option linter.all false
set_option maxRecDepth 100000
/-! Slots, states, steps; what an expression, a test, a list of operands, a statement are at the level of values. -/
namespace Cr
open PySem PySem.Spec PyProof.Rows L2

/-- one way or the other -/
structure Br (b : Bool) (P Q : Prop) : Prop where
  t : b = true → P
  f : b = false → Q
theorem Br.mono {b : Bool} {P Q P' Q' : Prop} (h : Br b P Q) (x : P → P') (y : Q → Q') : Br b P' Q' := ⟨fun e => x (h.t e), fun e => y (h.f e)⟩
theorem Br_if {b : Bool} {P Q : Prop} : Br b P Q = (if b = true then P else Q) := propext (by
  cases b
  · exact ⟨fun h => h.f rfl, fun h => ⟨fun e => (nomatch e), fun _ => h⟩⟩
  · exact ⟨fun h => h.t rfl, fun h => ⟨fun _ => h, fun e => nomatch e⟩⟩)
abbrev Slot := Option (Nat × D)
abbrev Env := List Slot
abbrev Sg := L2.St

inductive Slot1 (K : PySem.W.Frag) (H : Hp) : Slot → Option V → List Addr → List Addr → Prop
  | non {x} : Slot1 K H none x [] []
  | som {k d v G S} : Own K H k v d G S → Slot1 K H (some (k, d)) (some v) G S
inductive Slots (K : PySem.W.Frag) (H : Hp) : Env → Sg → List Addr → List Addr → Prop
  | nil : Slots K H [] [] [] []
  | cons {e x G S es xs G' S'} : Slot1 K H e x G S → Slots K H es xs G' S' → Slots K H (e :: es) (x :: xs) (G ++ G') (S ++ S')

section
variable {K : PySem.W.Frag} {H H' : Hp} {F : List Addr}
theorem Slot1.frame (kp : Kp F H H') (mu : Mu H F) {e : Slot} {x : Option V} {G S : List Addr} (h : Slot1 K H e x G S) (hg : ∀ a ∈ G, a ∉ F) (hs : ∀ a ∈ S, a ∉ F) : Slot1 K H' e x G S := by
  cases h with
  | non => exact .non
  | som h => exact .som (Own.frame kp mu _ h hg hs)
theorem Slots.frame (kp : Kp F H H') (mu : Mu H F) : ∀ {env : Env} {σ : Sg} {G S : List Addr}, Slots K H env σ G S → (∀ a ∈ G, a ∉ F) → (∀ a ∈ S, a ∉ F) → Slots K H' env σ G S
  | _, _, _, _, .nil, _, _ => .nil
  | _, _, _, _, .cons h1 h2, hg, hs => .cons (h1.frame kp mu (fun a z => hg a (List.mem_append_left _ z)) fun a z => hs a (List.mem_append_left _ z)) (Slots.frame kp mu h2 (fun a z => hg a (List.mem_append_right _ z)) fun a z => hs a (List.mem_append_right _ z))
theorem Slot1.mu {e : Slot} {x : Option V} {G S : List Addr} (h : Slot1 K H e x G S) : Mu H G := by
  cases h with
  | non => intro a z; cases z
  | som h => exact Own.mu _ h
theorem Slots.mu : ∀ {env : Env} {σ : Sg} {G S : List Addr}, Slots K H env σ G S → Mu H G
  | _, _, _, _, .nil => fun a z => by cases z
  | _, _, _, _, .cons h1 h2 => fun a z => by
    rcases List.mem_append.mp z with z | z
    · exact h1.mu a z
    · exact Slots.mu h2 a z
theorem Slot1.stk {e : Slot} {x : Option V} {G S : List Addr} (h : Slot1 K H e x G S) : ∀ a ∈ S, ∃ o, H a = some o := by
  cases h with
  | non => intro a z; cases z
  | som h => exact Own.stk _ h
theorem Slots.stk : ∀ {env : Env} {σ : Sg} {G S : List Addr}, Slots K H env σ G S → ∀ a ∈ S, ∃ o, H a = some o
  | _, _, _, _, .nil => fun a z => by cases z
  | _, _, _, _, .cons h1 h2 => fun a z => by
    rcases List.mem_append.mp z with z | z
    · exact h1.stk a z
    · exact Slots.stk h2 a z
theorem Slots.len : ∀ {env : Env} {σ : Sg} {G S : List Addr}, Slots K H env σ G S → env.length = σ.length
  | _, _, _, _, .nil => rfl
  | _, _, _, _, .cons _ h2 => congrArg (· + 1) (Slots.len h2)
/-- one slot, and what may stand in its place -/
theorem Slots.at : ∀ {env : Env} {σ : Sg} {G S : List Addr} (i : Nat) {e : Slot}, Slots K H env σ G S → env[i]? = some e →
    ∃ x Ga Gi Gb Sa Si Sb, σ[i]? = some x ∧ G = Ga ++ (Gi ++ Gb) ∧ S = Sa ++ (Si ++ Sb) ∧ Slot1 K H e x Gi Si ∧
      ∀ {e' : Slot} {x' : Option V} {G' S' F : List Addr} {H' : Hp}, Slot1 K H' e' x' G' S' → Kp F H H' → Mu H F → (∀ a, a ∈ Ga ∨ a ∈ Gb ∨ a ∈ Sa ∨ a ∈ Sb → a ∉ F) → Slots K H' (env.set i e') (σ.set i x') (Ga ++ (G' ++ Gb)) (Sa ++ (S' ++ Sb))
  | _, _, _, _, i, _, .nil, h => by simp at h
  | _, _, _, _, 0, e, .cons (e := e0) (x := x) (G := G1) (S := S1) (G' := G2) (S' := S2) h1 h2, h => by
    have q : e0 = e := by simpa using h
    subst q
    refine ⟨x, [], G1, G2, [], S1, S2, rfl, rfl, rfl, h1, fun {e' x' G' S' F H'} n kp mu nf => ?_⟩
    show Slots K H' _ _ (G' ++ G2) (S' ++ S2)
    exact .cons n (Slots.frame kp mu h2 (fun a z => nf a (.inr (.inl z))) fun a z => nf a (.inr (.inr (.inr z))))
  | _, _, _, _, i + 1, e, .cons (e := e0) (x := x0) (G := G1) (S := S1) (G' := G2) (S' := S2) h1 h2, h => by
    obtain ⟨x, Ga, Gi, Gb, Sa, Si, Sb, r1, r2, r3, r4, r5⟩ := Slots.at i h2 (by simpa using h)
    refine ⟨x, G1 ++ Ga, Gi, Gb, S1 ++ Sa, Si, Sb, by simpa using r1, by rw [r2, List.append_assoc], by rw [r3, List.append_assoc], r4, fun {e' x' G' S' F H'} n kp mu nf => ?_⟩
    rw [List.append_assoc, List.append_assoc]
    refine .cons (h1.frame kp mu (fun a z => nf a (.inl (List.mem_append_left _ z))) fun a z => nf a (.inr (.inr (.inl (List.mem_append_left _ z))))) (r5 n kp mu fun a z => nf a ?_)
    rcases z with z | z | z | z
    · exact .inl (List.mem_append_right _ z)
    · exact .inr (.inl z)
    · exact .inr (.inr (.inl (List.mem_append_right _ z)))
    · exact .inr (.inr (.inr z))
end

/-- the entry of a def: its heap, what it may write there, what is shared, the slots that it doesn't store to -/
structure Base where
  H : Hp
  G : List Addr
  S : List Addr
  pr : List (Nat × V)

/-- from one state to a later one -/
structure Stp (H : Hp) (G S : List Addr) (H' : Hp) (G' S' : List Addr) : Prop where
  keep : Kp G H H'
  sub : ∀ a ∈ G', a ∈ G ∨ H a = none
  ss : ∀ a ∈ S', a ∈ S ∨ a ∈ G ∨ H a = none
theorem Stp.refl {H : Hp} {G S : List Addr} : Stp H G S H G S := ⟨fun _ _ h _ => h, fun _ z => .inl z, fun _ z => .inl z⟩
theorem Stp.back {H H1 : Hp} {G S G1 S1 : List Addr} (a : Stp H G S H1 G1 S1) {x : Addr} (z : H1 x = none) : x ∈ G ∨ H x = none := by
  cases e : H x with
  | none => exact .inr rfl
  | some o =>
    by_cases q : x ∈ G
    · exact .inl q
    · rw [a.keep x o e q] at z; cases z
theorem Stp.trans {H H1 H2 : Hp} {G G1 G2 S S1 S2 : List Addr} (a : Stp H G S H1 G1 S1) (b : Stp H1 G1 S1 H2 G2 S2) : Stp H G S H2 G2 S2 := by
  refine ⟨fun x o h n => b.keep x o (a.keep x o h n) fun z => ?_, fun x z => ?_, fun x z => ?_⟩
  · rcases a.sub x z with z | z
    · exact n z
    · rw [h] at z; cases z
  · rcases b.sub x z with z | z
    · exact a.sub x z
    · exact a.back z
  · rcases b.ss x z with z | z | z
    · exact a.ss x z
    · exact .inr (a.sub x z)
    · exact .inr (a.back z)
theorem Stp.less {H H' : Hp} {G G' G2 S S' S2 : List Addr} (a : Stp H G S H' G' S') (h : ∀ x ∈ G2, x ∈ G') (hs : ∀ x ∈ S2, x ∈ S' ∨ x ∈ G') : Stp H G S H' G2 S2 :=
  ⟨a.keep, fun x z => a.sub x (h x z), fun x z => (hs x z).elim (a.ss x) fun q => .inr (a.sub x q)⟩

/-- a state: the slots, nothing owned twice, nothing owned shared; the entry's frame -/
structure Sta (K : PySem.W.Frag) (B : Base) (env : Env) (σ : Sg) (H : Hp) (G S : List Addr) : Prop where
  sl : Slots K H env σ G S
  nd : G.Nodup
  dj : ∀ a ∈ S, a ∉ G
  st : Stp B.H B.G B.S H G S
  pr : ∀ p ∈ B.pr, σ[p.1]? = some (some p.2)

/-- apart: a temporary (G1, S1) beside the slots (G2, S2) -/
structure Sep (G1 S1 G2 S2 : List Addr) : Prop where
  nd : (G1 ++ G2).Nodup
  s1 : ∀ a ∈ S1, a ∉ G1 ∧ a ∉ G2
  s2 : ∀ a ∈ S2, a ∉ G1
theorem Sep.nil {S1 G2 S2 : List Addr} (n : G2.Nodup) (h : ∀ a ∈ S1, a ∉ G2) : Sep [] S1 G2 S2 := ⟨n, fun a z => ⟨List.not_mem_nil, h a z⟩, fun _ _ => List.not_mem_nil⟩
theorem Sep.nn {G2 S2 : List Addr} (n : G2.Nodup) : Sep [] [] G2 S2 := ⟨n, fun a z => absurd z List.not_mem_nil, fun _ _ => List.not_mem_nil⟩
theorem Sep.apart {G1 S1 G2 S2 : List Addr} (s : Sep G1 S1 G2 S2) : ∀ a ∈ G1, a ∉ G2 := fun a z q => (List.nodup_append.mp s.nd).2.2 a z a q rfl
/-- a second temporary behind the first one -/
theorem Sep.more {H1 H2 : Hp} {G1 S1 G2 S2 G3 S3 G4 S4 : List Addr} (s : Sep G1 S1 G2 S2) (m : Mu H1 G1) (t : ∀ a ∈ S1, ∃ o, H1 a = some o) (s' : Sep G3 S3 G4 S4) (p : Stp H1 G2 S2 H2 (G3 ++ G4) (S3 ++ S4)) : Sep (G1 ++ G3) (S1 ++ S3) G4 S4 := by
  have g1 : ∀ a ∈ G1, a ∉ G3 ++ G4 := fun a z q => by
    rcases p.sub a q with q | q
    · exact s.apart a z q
    · have := m a z; rw [q] at this; exact this
  have g2 : ∀ a ∈ S1, a ∉ G3 ++ G4 := fun a z q => by
    rcases p.sub a q with q | q
    · exact (s.s1 a z).2 q
    · obtain ⟨o, e⟩ := t a z; rw [q] at e; cases e
  have g3 : ∀ a ∈ S3 ++ S4, a ∉ G1 := fun a z q => by
    rcases p.ss a z with z | z | z
    · exact s.s2 a z q
    · exact s.apart a q z
    · have := m a q; rw [z] at this; exact this
  refine ⟨?_, fun a z => ?_, fun a z q => ?_⟩
  · rw [List.append_assoc]
    exact List.nodup_append.mpr ⟨(List.nodup_append.mp s.nd).1, s'.nd, fun a z b q e => g1 a z (e ▸ q)⟩
  · rcases List.mem_append.mp z with z | z
    · refine ⟨fun q => ?_, fun q => g2 a z (List.mem_append_right _ q)⟩
      rcases List.mem_append.mp q with q | q
      · exact (s.s1 a z).1 q
      · exact g2 a z (List.mem_append_left _ q)
    · refine ⟨fun q => ?_, (s'.s1 a z).2⟩
      rcases List.mem_append.mp q with q | q
      · exact g3 a (List.mem_append_left _ z) q
      · exact (s'.s1 a z).1 q
  · rcases List.mem_append.mp q with q | q
    · exact g3 a (List.mem_append_right _ z) q
    · exact s'.s2 a z q
/-- .. and the step over both -/
theorem Stp.both {H H1 H2 : Hp} {G S G1 S1 G2 S2 G3 S3 G4 S4 : List Addr} (a : Stp H G S H1 (G1 ++ G2) (S1 ++ S2)) (b : Stp H1 G2 S2 H2 (G3 ++ G4) (S3 ++ S4)) : Stp H G S H2 ((G1 ++ G3) ++ G4) ((S1 ++ S3) ++ S4) := by
  refine ⟨fun x o h n => b.keep x o (a.keep x o h n) fun z => ?_, fun x z => ?_, fun x z => ?_⟩
  · rcases a.sub x (List.mem_append_right _ z) with z | z
    · exact n z
    · rw [h] at z; cases z
  · rw [List.append_assoc] at z
    rcases List.mem_append.mp z with z | z
    · exact a.sub x (List.mem_append_left _ z)
    · rcases b.sub x z with z | z
      · exact a.sub x (List.mem_append_right _ z)
      · exact (a.back z)
  · rw [List.append_assoc] at z
    rcases List.mem_append.mp z with z | z
    · exact a.ss x (List.mem_append_left _ z)
    · rcases b.ss x z with z | z | z
      · exact a.ss x (List.mem_append_right _ z)
      · exact .inr (a.sub x (List.mem_append_right _ z))
      · exact .inr (a.back z)

/-- an operand: a temporary value, or what a slot holds -/
inductive Item where
  | t (k : Nat) (d : D)
  | w (i : Nat)
inductive Hold (K : PySem.W.Frag) (env : Env) (σ : Sg) (H : Hp) : Item → V → List Addr → List Addr → Prop
  | t {k d v G S} : Own K H k v d G S → Hold K env σ H (.t k d) v G S
  | w {i v} : σ[i]? = some (some v) → Hold K env σ H (.w i) v [] []

abbrev WI := Env → (Item → Env → Prop) → Prop
abbrev WT := Env → (Bool → Env → Prop) → Prop
abbrev WA := Env → (List Item → Env → Prop) → Prop
structure WEnds where
  nx : Env → Prop
  rt : Nat → D → Env → Prop
  bk : Env → Prop := fun _ => False
  ct : Env → Prop := fun _ => False
abbrev WS := WEnds → Env → Prop

/-- what is wanted of an item at the level of values, as what is wanted of its V -/
def PostI (K : PySem.W.Frag) (B : Base) (σ : Sg) (H : Hp) (G S : List Addr) (Q : VK) (it : Item) (env' : Env) : Prop :=
  ∀ v H' G1 S1 G2 S2, Sta K B env' σ H' G2 S2 → Hold K env' σ H' it v G1 S1 → Sep G1 S1 G2 S2 → Stp H G S H' (G1 ++ G2) (S1 ++ S2) → Q v H'
def liftI (K : PySem.W.Frag) (B : Base) (w : WI) : TE := fun σ H Q => ∃ env G S, Sta K B env σ H G S ∧ w env (PostI K B σ H G S Q)
def PostT (K : PySem.W.Frag) (B : Base) (σ : Sg) (H : Hp) (G S : List Addr) (Q : Bool → Hp → Prop) (b : Bool) (env' : Env) : Prop :=
  ∀ H' G2 S2, Sta K B env' σ H' G2 S2 → Stp H G S H' G2 S2 → Q b H'
def liftT (K : PySem.W.Frag) (B : Base) (w : WT) : TT := fun σ H Q => ∃ env G S, Sta K B env σ H G S ∧ w env (PostT K B σ H G S Q)
/-- several items, from the left -/
inductive Holds (K : PySem.W.Frag) (env : Env) (σ : Sg) (H : Hp) : List Item → List V → List Addr → List Addr → Prop
  | nil : Holds K env σ H [] [] [] []
  | cons {it v G S is vs G' S'} : Hold K env σ H it v G S → Holds K env σ H is vs G' S' → Holds K env σ H (it :: is) (v :: vs) (G ++ G') (S ++ S')
def PostA (K : PySem.W.Frag) (B : Base) (σ : Sg) (H : Hp) (G S : List Addr) (Q : List V → Hp → Prop) (is : List Item) (env' : Env) : Prop :=
  ∀ vs H' G1 S1 G2 S2, Sta K B env' σ H' G2 S2 → Holds K env' σ H' is vs G1 S1 → Sep G1 S1 G2 S2 → Stp H G S H' (G1 ++ G2) (S1 ++ S2) → Q vs H'
def liftA (K : PySem.W.Frag) (B : Base) (w : WA) : TA := fun σ H Q => ∃ env G S, Sta K B env σ H G S ∧ w env (PostA K B σ H G S Q)
def PostN (K : PySem.W.Frag) (B : Base) (H : Hp) (G S : List Addr) (Q : Sg → Hp → Prop) (env' : Env) : Prop :=
  ∀ σ' H' G' S', Sta K B env' σ' H' G' S' → Stp H G S H' G' S' → Q σ' H'
def PostR (K : PySem.W.Frag) (B : Base) (H : Hp) (G S : List Addr) (Q : VK) (k : Nat) (d : D) (env' : Env) : Prop :=
  ∀ v σ' H' G1 S1 G2 S2, Sta K B env' σ' H' G2 S2 → Own K H' k v d G1 S1 → Sep G1 S1 G2 S2 → Stp H G S H' (G1 ++ G2) (S1 ++ S2) → Q v H'
def endsOf (K : PySem.W.Frag) (B : Base) (H : Hp) (G S : List Addr) (E : Ends) : WEnds :=
  ⟨PostN K B H G S E.nx, PostR K B H G S E.rt, PostN K B H G S E.bk, PostN K B H G S E.ct⟩
def liftS (K : PySem.W.Frag) (B : Base) (w : WS) : TS := fun E σ H => ∃ env G S, Sta K B env σ H G S ∧ w (endsOf K B H G S E) env

structure WEnds.le (a b : WEnds) : Prop where
  nx : ∀ e, a.nx e → b.nx e
  rt : ∀ k d e, a.rt k d e → b.rt k d e
  bk : ∀ e, a.bk e → b.bk e
  ct : ∀ e, a.ct e → b.ct e
def MonI (w : WI) : Prop := ∀ env P Q, (∀ i e, P i e → Q i e) → w env P → w env Q
def MonT (w : WT) : Prop := ∀ env P Q, (∀ i e, P i e → Q i e) → w env P → w env Q
def MonA (w : WA) : Prop := ∀ env P Q, (∀ i e, P i e → Q i e) → w env P → w env Q
def MonS (w : WS) : Prop := ∀ env P Q, WEnds.le P Q → w P env → w Q env

theorem PE.weak {X : Cx} {e : Expr} {t t' : TE} (h : PE X e t) (q : ∀ σ H Q, t' σ H Q → t σ H Q) : PE X e t' := ⟨fun pins s σ H Q I w => h.run pins s σ H Q I (q _ _ _ w)⟩
theorem PT.weak {X : Cx} {e : Expr} {t t' : TT} (h : PT X e t) (q : ∀ σ H Q, t' σ H Q → t σ H Q) : PT X e t' := ⟨fun pins s σ H Q I w => h.run pins s σ H Q I (q _ _ _ w)⟩
theorem PW.weak {X : Cx} {e : Expr} {t t' : TT} (h : PW X e t) (q : ∀ σ H Q, t' σ H Q → t σ H Q) : PW X e t' := ⟨fun wh pins s σ H Q I w => h.run wh pins s σ H Q I (q _ _ _ w)⟩
theorem PA.weak {X : Cx} {e : List Expr} {t t' : TA} (h : PA X e t) (q : ∀ σ H Q, t' σ H Q → t σ H Q) : PA X e t' := ⟨fun pos pins s σ H Q I w => h.run pos pins s σ H Q I (q _ _ _ w)⟩
theorem PS.weak {X : Cx} {e : Stmt} {t t' : TS} (h : PS X e t) (q : ∀ D σ H, t' D σ H → t D σ H) : PS X e t' := ⟨fun pins s σ H D I w => h.run pins s σ H D I (q _ _ _ w)⟩
theorem PSs.weak {X : Cx} {e : List Stmt} {t t' : TS} (h : PSs X e t) (q : ∀ D σ H, t' D σ H → t D σ H) : PSs X e t' := ⟨fun pins s σ H D I w => h.run pins s σ H D I (q _ _ _ w)⟩

structure VI (X : Cx) (B : Base) (e : Expr) (w : WI) : Prop where
  p : PE X e (liftI X.K B w)
  m : MonI w
structure VT (X : Cx) (B : Base) (e : Expr) (w : WT) : Prop where
  p : PT X e (liftT X.K B w)
  m : MonT w
structure VA (X : Cx) (B : Base) (es : List Expr) (w : WA) : Prop where
  p : PA X es (liftA X.K B w)
  m : MonA w
structure VS (X : Cx) (B : Base) (st : Stmt) (w : WS) : Prop where
  p : PS X st (liftS X.K B w)
  m : MonS w
structure VSs (X : Cx) (B : Base) (st : List Stmt) (w : WS) : Prop where
  p : PSs X st (liftS X.K B w)
  m : MonS w
end Cr
set_option Elab.async false
set_option linter.all false
set_option maxRecDepth 100000
/-! Operands: reading, giving away; names, constants, lists of operands. -/
namespace Cr
open PySem PySem.Spec PyProof.Rows L2

def fits (n : Nat) : Prop := n ≤ sizeLine
theorem fits_of {n : Nat} (h : n ≤ 1000000) : fits n := by unfold fits; rw [sizeLine_eq]; omega
theorem fits_le {n m : Nat} (h : n ≤ m) (f : fits m) : fits n := Nat.le_trans h f

/-- what an operand is worth -/
def wVal (it : Item) (env : Env) : Option D :=
  match it with
  | .t _ d => some d
  | .w i => match env[i]? with
    | some (some (_, d)) => some d
    | _ => none
/-- an operand is given away: what a slot holds is shared from now on -/
def wGive (it : Item) (env : Env) (Q : Nat → D → Env → Prop) : Prop :=
  match it with
  | .t k d => Q k d env
  | .w i => match env[i]? with
    | some (some (k, d)) => Br (at9 d) (Q 9 d env) (Br (decide (k = 0)) (Q 0 d env) (Q 0 d (env.set i (some (0, d)))))
    | _ => False
theorem wGive_mono {it : Item} {env : Env} {P Q : Nat → D → Env → Prop} (h : ∀ k d e, P k d e → Q k d e) (w : wGive it env P) : wGive it env Q := by
  unfold wGive at *
  cases it with
  | t k d => exact h _ _ _ w
  | w i =>
    simp only [Br_if, decide_eq_true_eq] at w ⊢
    split at w
    · split at w
      · rename_i h1; rw [if_pos h1]; exact h _ _ _ w
      · rename_i h1; rw [if_neg h1]
        split at w
        · rename_i h2; rw [if_pos h2]; exact h _ _ _ w
        · rename_i h2; rw [if_neg h2]; exact h _ _ _ w
    · exact w

section
variable {K : PySem.W.Frag} {B : Base} {env env' : Env} {σ : Sg} {H : Hp} {G S G1 S1 G2 S2 : List Addr} {it : Item} {v : V}
theorem Slots.get (h : Slots K H env σ G S) {i : Nat} {k : Nat} {d : D} (e : env[i]? = some (some (k, d))) : ∃ v G1 S1, σ[i]? = some (some v) ∧ Own K H k v d G1 S1 ∧ (∀ a ∈ G1, a ∈ G) ∧ (∀ a ∈ S1, a ∈ S) := by
  obtain ⟨x, Ga, Gi, Gb, Sa, Si, Sb, r1, r2, r3, r4, _⟩ := h.at i e
  cases r4 with
  | som o => exact ⟨_, _, _, r1, o, fun a z => by rw [r2]; simp [z], fun a z => by rw [r3]; simp [z]⟩
theorem kp_refl {F : List Addr} {H : Hp} : Kp F H H := fun _ _ h _ => h
theorem mu_nil {H : Hp} : Mu H [] := fun a z => by cases z
theorem val_own (st : Slots K H env σ G S) (h : Hold K env σ H it v G1 S1) {d : D} (e : wVal it env = some d) : ∃ k G' S', Own K H k v d G' S' := by
  cases h with
  | t o => cases e; exact ⟨_, _, _, o⟩
  | w hv =>
    unfold wVal at e
    simp only at e
    split at e
    · rename_i i k d' he
      cases e
      obtain ⟨v', A, A', r1, o, _⟩ := st.get he
      rw [hv] at r1; cases r1
      exact ⟨_, _, _, o⟩
    · cases e
theorem set_self {α : Type} {l : List α} {i : Nat} {x : α} (h : l[i]? = some x) : l.set i x = l := by
  induction l generalizing i with
  | nil => rfl
  | cons a r ih =>
    cases i with
    | zero => simp at h; subst h; rfl
    | succ i => rw [List.set_cons_succ, ih (by simpa using h)]
/-- giving an operand away -/
theorem give_ok {Q : Nat → D → Env → Prop} (st : Sta K B env σ H G2 S2) (h : Hold K env σ H it v G1 S1) (sp : Sep G1 S1 G2 S2) (w : wGive it env Q) :
    ∃ k d env' A SA G' S', Q k d env' ∧ Sta K B env' σ H G' S' ∧ Own K H k v d A SA ∧ Sep A SA G' S' ∧ Stp H (G1 ++ G2) (S1 ++ S2) H (A ++ G') (SA ++ S') ∧ (∀ i, i < env.length → it ≠ .w i → env'[i]? = env[i]?) := by
  cases h with
  | t o => exact ⟨_, _, env, _, _, _, _, w, st, o, sp, Stp.refl, fun _ _ _ => rfl⟩
  | w hv =>
    rename_i i
    unfold wGive at w
    simp only [Br_if, decide_eq_true_eq] at w
    split at w
    · rename_i k d he
      obtain ⟨x, Ga, Gi, Gb, Sa, Si, Sb, r1, r2, r3, r4, r5⟩ := st.sl.at i he
      cases r4 with
      | som o =>
        rename_i v'
        rw [hv] at r1
        have ev : v = v' := by simpa using r1
        subst ev
        split at w
        · rename_i h9
          obtain ⟨_, _, r⟩ := Own.at9 _ h9 o
          exact ⟨_, _, env, _, _, _, _, w, st, r 9, Sep.nn st.nd, Stp.refl, fun _ _ _ => rfl⟩
        · split at w
          · rename_i hk
            subst hk
            have g0 := Own.g0 _ o
            subst g0
            refine ⟨_, _, env, _, Si, _, _, w, st, o, Sep.nil st.nd fun a z => st.dj a (by rw [r3]; simp [z]), ⟨kp_refl, fun a z => .inl z, fun a z => ?_⟩, fun _ _ _ => rfl⟩
            rcases List.mem_append.mp z with z | z
            · exact .inl (by rw [r3]; simp [z])
            · exact .inl (by simpa using z)
          · obtain ⟨G', S', o', lo⟩ := Own.lower _ (Nat.zero_le k) o
            have g0 := Own.g0 _ o'
            subst g0
            have nd := st.nd
            rw [r2] at nd
            have hS : ∀ a ∈ S', a ∈ Si ∨ a ∈ Gi := fun a z => (lo.sh a z).imp id fun q => q.1
            have nGi : ∀ a ∈ Gi, a ∉ Ga ++ Gb := fun a z q => by
              rw [List.nodup_append] at nd
              rcases List.mem_append.mp q with q | q
              · exact nd.2.2 a q a (List.mem_append_left _ z) rfl
              · exact (List.nodup_append.mp nd.2.1).2.2 a z a q rfl
            have nSi : ∀ a ∈ Si, a ∉ Ga ++ Gb := fun a z q => st.dj a (by rw [r3]; simp [z]) (by
              rw [r2]
              rcases List.mem_append.mp q with q | q
              · exact List.mem_append_left _ q
              · exact List.mem_append_right _ (List.mem_append_right _ q))
            have sl' := r5 (F := []) (.som o') kp_refl mu_nil (fun _ _ => List.not_mem_nil)
            rw [set_self hv] at sl'
            have nd' : (Ga ++ ([] ++ Gb)).Nodup := by
              rw [List.nil_append]
              rw [List.nodup_append] at nd ⊢
              refine ⟨nd.1, (List.nodup_append.mp nd.2.1).2.1, fun a z b q => nd.2.2 a z b (List.mem_append_right _ q)⟩
            have dj' : ∀ a ∈ Sa ++ (S' ++ Sb), a ∉ Ga ++ ([] ++ Gb) := fun a z q => by
              rw [List.nil_append] at q
              rcases List.mem_append.mp z with z | z
              · refine st.dj a (by rw [r3]; simp [z]) (by rw [r2]; rcases List.mem_append.mp q with q | q <;> simp [q])
              · rcases List.mem_append.mp z with z | z
                · rcases hS a z with z | z
                  · exact nSi a z q
                  · exact nGi a z q
                · refine st.dj a (by rw [r3]; simp [z]) (by rw [r2]; rcases List.mem_append.mp q with q | q <;> simp [q])
            have stp : Stp H ([] ++ G2) ([] ++ S2) H ([] ++ (Ga ++ ([] ++ Gb))) (S' ++ (Sa ++ (S' ++ Sb))) := by
              refine ⟨kp_refl, fun a z => .inl ?_, fun a z => ?_⟩
              · rw [r2]
                simp at z ⊢
                rcases z with z | z <;> simp [z]
              · have key : ∀ a, a ∈ S' → a ∈ [] ++ S2 ∨ a ∈ [] ++ G2 := fun a z => by
                  rcases hS a z with z | z
                  · exact .inl (by rw [r3]; simp [z])
                  · exact .inr (by rw [r2]; simp [z])
                rcases List.mem_append.mp z with z | z
                · exact (key a z).imp id .inl
                · rcases List.mem_append.mp z with z | z
                  · exact .inl (by rw [r3]; simp [z])
                  · rcases List.mem_append.mp z with z | z
                    · exact (key a z).imp id .inl
                    · exact .inl (by rw [r3]; simp [z])
            refine ⟨0, d, _, _, S', _, _, w, ⟨sl', nd', dj', ?_, st.pr⟩, o', Sep.nil nd' (fun a z => dj' a (List.mem_append_right _ (List.mem_append_left _ z))), stp, fun j _ hj => ?_⟩
            · refine Stp.trans st.st ⟨kp_refl, fun a z => stp.sub a (by simpa using z), fun a z => stp.ss a (List.mem_append_right _ z)⟩
            · by_cases e : j = i
              · subst e; exact absurd rfl hj
              · exact List.getElem?_set_ne (Ne.symm e)
    · exact w.elim
end
end Cr
set_option Elab.async false
set_option linter.all false
set_option maxRecDepth 100000
/-! Regions apart; several operands given away. -/
namespace Cr
open PySem PySem.Spec PyProof.Rows L2

structure Ap (G1 S1 G2 S2 : List Addr) : Prop where
  g : ∀ a ∈ G1, a ∉ G2
  s1 : ∀ a ∈ S1, a ∉ G2
  s2 : ∀ a ∈ S2, a ∉ G1
structure Gd (G S : List Addr) : Prop where
  nd : G.Nodup
  dj : ∀ a ∈ S, a ∉ G
section
variable {G S G1 S1 G2 S2 G3 S3 G4 S4 : List Addr} {H H' : Hp}
theorem Sep.gd (s : Sep G1 S1 G2 S2) : Gd G1 S1 := ⟨(List.nodup_append.mp s.nd).1, fun a z => (s.s1 a z).1⟩
theorem Sep.n2 (s : Sep G1 S1 G2 S2) : G2.Nodup := (List.nodup_append.mp s.nd).2.1
theorem Sep.ap (s : Sep G1 S1 G2 S2) : Ap G1 S1 G2 S2 := ⟨s.apart, fun a z => (s.s1 a z).2, s.s2⟩
theorem Sep.of (a : Gd G1 S1) (b : G2.Nodup) (c : Ap G1 S1 G2 S2) : Sep G1 S1 G2 S2 :=
  ⟨List.nodup_append.mpr ⟨a.nd, b, fun x z y q e => c.g x z (e ▸ q)⟩, fun x z => ⟨a.dj x z, c.s1 x z⟩, c.s2⟩
theorem Ap.symm (h : Ap G1 S1 G2 S2) : Ap G2 S2 G1 S1 := ⟨fun a z q => h.g a q z, h.s2, h.s1⟩
theorem Ap.nil : Ap [] [] G2 S2 := ⟨fun a z => absurd z List.not_mem_nil, fun a z => absurd z List.not_mem_nil, fun _ _ => List.not_mem_nil⟩
theorem Gd.nil : Gd [] [] := ⟨List.nodup_nil, fun a z => absurd z List.not_mem_nil⟩
theorem Gd.app (a : Gd G1 S1) (b : Gd G2 S2) (c : Ap G1 S1 G2 S2) : Gd (G1 ++ G2) (S1 ++ S2) :=
  ⟨List.nodup_append.mpr ⟨a.nd, b.nd, fun x z y q e => c.g x z (e ▸ q)⟩, fun x z q => by
    rcases List.mem_append.mp z with z | z <;> rcases List.mem_append.mp q with q | q
    · exact a.dj x z q
    · exact c.s1 x z q
    · exact c.s2 x z q
    · exact b.dj x z q⟩
theorem Gd.l (h : Gd (G1 ++ G2) (S1 ++ S2)) : Gd G1 S1 := ⟨(List.nodup_append.mp h.nd).1, fun a z q => h.dj a (List.mem_append_left _ z) (List.mem_append_left _ q)⟩
theorem Gd.r (h : Gd (G1 ++ G2) (S1 ++ S2)) : Gd G2 S2 := ⟨(List.nodup_append.mp h.nd).2.1, fun a z q => h.dj a (List.mem_append_right _ z) (List.mem_append_right _ q)⟩
theorem Gd.ap (h : Gd (G1 ++ G2) (S1 ++ S2)) : Ap G1 S1 G2 S2 := ⟨fun a z q => (List.nodup_append.mp h.nd).2.2 a z a q rfl, fun a z q => h.dj a (List.mem_append_left _ z) (List.mem_append_right _ q), fun a z q => h.dj a (List.mem_append_right _ z) (List.mem_append_left _ q)⟩
theorem Ap.appL (a : Ap G1 S1 G3 S3) (b : Ap G2 S2 G3 S3) : Ap (G1 ++ G2) (S1 ++ S2) G3 S3 :=
  ⟨fun x z => (List.mem_append.mp z).elim (a.g x) (b.g x), fun x z => (List.mem_append.mp z).elim (a.s1 x) (b.s1 x), fun x z q => (List.mem_append.mp q).elim (a.s2 x z) (b.s2 x z)⟩
theorem Ap.appR (a : Ap G1 S1 G2 S2) (b : Ap G1 S1 G3 S3) : Ap G1 S1 (G2 ++ G3) (S2 ++ S3) := (a.symm.appL b.symm).symm
theorem Ap.l (h : Ap (G1 ++ G2) (S1 ++ S2) G3 S3) : Ap G1 S1 G3 S3 := ⟨fun a z => h.g a (List.mem_append_left _ z), fun a z => h.s1 a (List.mem_append_left _ z), fun a z q => h.s2 a z (List.mem_append_left _ q)⟩
theorem Ap.r (h : Ap (G1 ++ G2) (S1 ++ S2) G3 S3) : Ap G2 S2 G3 S3 := ⟨fun a z => h.g a (List.mem_append_right _ z), fun a z => h.s1 a (List.mem_append_right _ z), fun a z q => h.s2 a z (List.mem_append_right _ q)⟩
theorem Ap.subL (h : Ap G1 S1 G2 S2) (g : ∀ a ∈ G, a ∈ G1) (s : ∀ a ∈ S, a ∈ S1 ∨ a ∈ G1) : Ap G S G2 S2 :=
  ⟨fun a z => h.g a (g a z), fun a z => (s a z).elim (h.s1 a) (h.g a), fun a z q => h.s2 a z (g a q)⟩
/-- what stands beside is not touched -/
theorem Ap.frame (h : Ap G1 S1 G2 S2) (m : Mu H G1) (t : ∀ a ∈ S1, ∃ o, H a = some o) (p : Stp H G2 S2 H' G3 S3) : Ap G1 S1 G3 S3 := by
  refine ⟨fun a z q => ?_, fun a z q => ?_, fun a z q => ?_⟩
  · rcases p.sub a q with q | q
    · exact h.g a z q
    · have := m a z; rw [q] at this; exact this
  · rcases p.sub a q with q | q
    · exact h.s1 a z q
    · obtain ⟨o, e⟩ := t a z; rw [q] at e; cases e
  · rcases p.ss a z with z | z | z
    · exact h.s2 a z q
    · exact h.g a q z
    · have := m a q; rw [z] at this; exact this
end

def wGives : List Item → Env → (List (Nat × D) → Env → Prop) → Prop
  | [], env, Q => Q [] env
  | it :: is, env, Q => wGive it env fun k d e1 => wGives is e1 fun kds e2 => Q ((k, d) :: kds) e2
theorem wGives_mono : ∀ {is : List Item} {env : Env} {P Q : List (Nat × D) → Env → Prop}, (∀ k e, P k e → Q k e) → wGives is env P → wGives is env Q
  | [], _, _, _, h, w => h _ _ w
  | _ :: _, _, _, _, h, w => wGive_mono (fun _ _ _ q => wGives_mono (fun _ _ z => h _ _ z) q) w

inductive OwnsM (K : PySem.W.Frag) (H : Hp) : List (Nat × D) → List V → List Addr → List Addr → Prop
  | nil : OwnsM K H [] [] [] []
  | cons {k d v G S kds vs G' S'} : Own K H k v d G S → OwnsM K H kds vs G' S' → OwnsM K H ((k, d) :: kds) (v :: vs) (G ++ G') (S ++ S')
def minM : List (Nat × D) → Nat
  | [] => 9
  | p :: r => min p.1 (minM r)
section
variable {K : PySem.W.Frag} {B : Base} {env env' : Env} {σ : Sg} {H H' : Hp} {G S G1 S1 G2 S2 F : List Addr} {it : Item} {v : V}
theorem OwnsM.mu : ∀ {kds : List (Nat × D)} {vs : List V} {G S : List Addr}, OwnsM K H kds vs G S → Mu H G
  | _, _, _, _, .nil => fun a z => by cases z
  | _, _, _, _, .cons h t => fun a z => (List.mem_append.mp z).elim (Own.mu _ h a) (OwnsM.mu t a)
theorem OwnsM.stk : ∀ {kds : List (Nat × D)} {vs : List V} {G S : List Addr}, OwnsM K H kds vs G S → ∀ a ∈ S, ∃ o, H a = some o
  | _, _, _, _, .nil => fun a z => by cases z
  | _, _, _, _, .cons h t => fun a z => (List.mem_append.mp z).elim (Own.stk _ h a) (OwnsM.stk t a)
theorem OwnsM.len : ∀ {kds : List (Nat × D)} {vs : List V} {G S : List Addr}, OwnsM K H kds vs G S → vs.length = kds.length
  | _, _, _, _, .nil => rfl
  | _, _, _, _, .cons _ t => congrArg (· + 1) (OwnsM.len t)
theorem OwnsM.low {kds : List (Nat × D)} {vs : List V} {G S : List Addr} (j : Nat) (le : j ≤ minM kds) (h : OwnsM K H kds vs G S) : ∃ G' S', Owns K H j vs (kds.map (·.2)) G' S' ∧ Low G S G' S' := by
  induction h with
  | nil => exact ⟨_, _, .nil, Low.refl⟩
  | cons h t ih =>
    obtain ⟨A, SA, o, la⟩ := Own.lower _ (Nat.le_trans le (Nat.min_le_left _ _)) h
    obtain ⟨A', SA', o', la'⟩ := ih (Nat.le_trans le (Nat.min_le_right _ _))
    exact ⟨_, _, .cons o o', la.append la'⟩
theorem Hold.mu (h : Hold K env σ H it v G S) : Mu H G := by
  cases h with
  | t o => exact Own.mu _ o
  | w _ => exact mu_nil
theorem Hold.stk (h : Hold K env σ H it v G S) : ∀ a ∈ S, ∃ o, H a = some o := by
  cases h with
  | t o => exact Own.stk _ o
  | w _ => exact fun a z => absurd z List.not_mem_nil
theorem Hold.env2 (h : Hold K env σ H it v G S) : Hold K env' σ H it v G S := by
  cases h with
  | t o => exact .t o
  | w e => exact .w e
theorem Hold.frame (h : Hold K env σ H it v G1 S1) (kp : Kp F H H') (mu : Mu H F) (a : ∀ x ∈ G1, x ∉ F) (b : ∀ x ∈ S1, x ∉ F) : Hold K env' σ H' it v G1 S1 := by
  cases h with
  | t o => exact .t (Own.frame kp mu _ o a b)
  | w e => exact .w e
theorem Holds.mu : ∀ {is : List Item} {vs : List V} {G S : List Addr}, Holds K env σ H is vs G S → Mu H G
  | _, _, _, _, .nil => fun a z => by cases z
  | _, _, _, _, .cons h t => fun a z => (List.mem_append.mp z).elim (h.mu a) (Holds.mu t a)
theorem Holds.stk : ∀ {is : List Item} {vs : List V} {G S : List Addr}, Holds K env σ H is vs G S → ∀ a ∈ S, ∃ o, H a = some o
  | _, _, _, _, .nil => fun a z => by cases z
  | _, _, _, _, .cons h t => fun a z => (List.mem_append.mp z).elim (h.stk a) (Holds.stk t a)
theorem Holds.env2 : ∀ {is : List Item} {vs : List V} {G S : List Addr}, Holds K env σ H is vs G S → Holds K env' σ H is vs G S
  | _, _, _, _, .nil => .nil
  | _, _, _, _, .cons h t => .cons h.env2 (Holds.env2 t)
theorem Holds.len : ∀ {is : List Item} {vs : List V} {G S : List Addr}, Holds K env σ H is vs G S → vs.length = is.length
  | _, _, _, _, .nil => rfl
  | _, _, _, _, .cons _ t => congrArg (· + 1) (Holds.len t)
theorem OwnsM.frame (kp : Kp F H H') (mu : Mu H F) : ∀ {kds : List (Nat × D)} {vs : List V} {G S : List Addr}, OwnsM K H kds vs G S → (∀ a ∈ G, a ∉ F) → (∀ a ∈ S, a ∉ F) → OwnsM K H' kds vs G S
  | _, _, _, _, .nil, _, _ => .nil
  | _, _, _, _, .cons h t, a, b => .cons (Own.frame kp mu _ h (fun x z => a x (List.mem_append_left _ z)) fun x z => b x (List.mem_append_left _ z)) (OwnsM.frame kp mu t (fun x z => a x (List.mem_append_right _ z)) fun x z => b x (List.mem_append_right _ z))
theorem gives_ok : ∀ {is : List Item} {vs : List V} {env : Env} {G1 S1 G2 S2 : List Addr} {Q : List (Nat × D) → Env → Prop}, Sta K B env σ H G2 S2 → Holds K env σ H is vs G1 S1 → Sep G1 S1 G2 S2 → wGives is env Q →
    ∃ kds env' A SA G' S', Q kds env' ∧ Sta K B env' σ H G' S' ∧ OwnsM K H kds vs A SA ∧ Sep A SA G' S' ∧ Stp H (G1 ++ G2) (S1 ++ S2) H (A ++ G') (SA ++ S') ∧ kds.length = is.length
  | _, _, env, _, _, G2, S2, Q, st, .nil, sp, w => ⟨[], env, [], [], G2, S2, w, st, .nil, sp, Stp.refl, rfl⟩
  | _, _, env, _, _, G2, S2, Q, st, .cons (G := Ga) (S := Sa) (G' := Gb) (S' := Sb) h t, sp, w => by
    have w : wGive _ env _ := w
    have gd := sp.gd
    have ab := gd.ap
    have a2 := sp.ap.l
    have b2 := sp.ap.r
    obtain ⟨k, d, e1, A1, SA1, G', S', w1, st1, o1, sp1, p1, _⟩ := give_ok st h (Sep.of gd.l sp.n2 a2) w
    -- the others beside
    have bb : Ap Gb Sb (A1 ++ G') (SA1 ++ S') := (ab.symm.appR b2).frame t.mu t.stk p1
    have bA := bb.symm.l.symm
    have bG := bb.symm.r.symm
    obtain ⟨kds, e2, A2, SA2, G'', S'', q, st2, o2, sp2, p2, len⟩ := gives_ok st1 t.env2 (Sep.of gd.r st1.nd bG) w1
    have x : Ap A1 SA1 (A2 ++ G'') (SA2 ++ S'') := (bA.symm.appR sp1.ap).frame (Own.mu _ o1) (Own.stk _ o1) p2
    have xA := x.symm.l.symm
    have xG := x.symm.r.symm
    refine ⟨_, e2, _, _, G'', S'', q, st2, .cons o1 o2, Sep.of (sp1.gd.app sp2.gd xA) st2.nd (xG.appL sp2.ap), ⟨kp_refl, fun a z => ?_, fun a z => ?_⟩, by simp [len]⟩
    · have hA1 : a ∈ A1 → a ∈ (Ga ++ Gb) ++ G2 ∨ H a = none := fun z => (p1.sub a (List.mem_append_left _ z)).imp (fun q => by simp at q ⊢; rcases q with q | q <;> simp [q]) id
      have hG' : a ∈ G' → a ∈ (Ga ++ Gb) ++ G2 ∨ H a = none := fun z => (p1.sub a (List.mem_append_right _ z)).imp (fun q => by simp at q ⊢; rcases q with q | q <;> simp [q]) id
      rw [List.append_assoc] at z
      rcases List.mem_append.mp z with z | z
      · exact hA1 z
      · rcases p2.sub a z with z | z
        · rcases List.mem_append.mp z with z | z
          · exact .inl (by simp [z])
          · exact hG' z
        · exact .inr z
    · have conv : ∀ a, (a ∈ Sa ++ S2 ∨ a ∈ Ga ++ G2 ∨ H a = none) → (a ∈ (Sa ++ Sb) ++ S2 ∨ a ∈ (Ga ++ Gb) ++ G2 ∨ H a = none) := fun a q => by
        rcases q with q | q | q
        · simp at q; rcases q with q | q <;> simp [q]
        · simp at q; rcases q with q | q <;> simp [q]
        · exact .inr (.inr q)
      rw [List.append_assoc] at z
      rcases List.mem_append.mp z with z | z
      · exact conv a (p1.ss a (List.mem_append_left _ z))
      · rcases p2.ss a z with z | z | z
        · rcases List.mem_append.mp z with z | z
          · exact .inl (by simp [z])
          · exact conv a (p1.ss a (List.mem_append_right _ z))
        · rcases List.mem_append.mp z with z | z
          · exact .inr (.inl (by simp [z]))
          · rcases p1.sub a (List.mem_append_right _ z) with q | q
            · refine .inr (.inl ?_); simp at q ⊢; rcases q with q | q <;> simp [q]
            · exact .inr (.inr q)
        · exact .inr (.inr z)
end
end Cr
set_option Elab.async false
set_option linter.all false
set_option maxRecDepth 100000
/-! Rules: names, constants, lists of operands, displays, pure operators. -/
namespace Cr
open PySem PySem.Spec PyProof.Rows L2
section
variable {X : Cx} {B : Base} {pos : Pos}
/-! ### names, constants -/
def wName (i : Nat) : WI := fun env Q => match env[i]? with
  | some (some _) => Q (.w i) env
  | _ => False
def wCon (d : D) : WI := fun env Q => Q (.t 9 d) env
theorem wName_mono (i : Nat) : MonI (wName i) := fun env P Q h w => by
  unfold wName at *
  split at w
  · exact h _ _ w
  · exact w
theorem vi_name {i : Nat} {x : Str} (hN : X.N[i]? = some x) (hv : Vis X.env.scope x) (hd : (x == ("__debug__" : Str)) = false := by decide) (hcd : (x == ("__classdict__" : Str)) = false := by decide) : VI X B (.Name x pos) (wName i) := by
  refine ⟨PE.weak (pe_var hN hv hd hcd) fun σ H Q ⟨env, G, S, st, w⟩ => ?_, wName_mono i⟩
  unfold wName at w
  split at w
  · rename_i kd he
    obtain ⟨k, d⟩ := kd
    obtain ⟨v, _, _, e1, _⟩ := st.sl.get he
    exact ⟨v, e1, w v H [] [] G S st (.w e1) (Sep.nn st.nd) Stp.refl⟩
  · exact w.elim
theorem con_of {e : Expr} {v : V} {d : D} (h : PE X e (tC v)) (o : ∀ K H, Own K H 9 v d [] []) : VI X B e (wCon d) := by
  refine ⟨PE.weak h fun σ H Q ⟨env, G, S, st, w⟩ => ?_, fun env P Q h w => h _ _ w⟩
  exact w v H [] [] G S st (.t (o _ _)) (Sep.nn st.nd) Stp.refl
theorem vi_int {i j} : VI X B (.Constant (.int i) j pos) (wCon (.int i)) := con_of pe_int fun _ _ => .int i
theorem vi_bl {b j} : VI X B (.Constant (.bool b) j pos) (wCon (.bl b)) := con_of pe_bl fun _ _ => .bl b
theorem vi_non {j} : VI X B (.Constant .none j pos) (wCon .non) := con_of pe_non fun _ _ => .non
theorem vi_str {x j} : VI X B (.Constant (.str x) j pos) (wCon (.str x)) := con_of pe_str fun _ _ => .str x
/-! ### lists of operands -/
def wNil : WA := fun env Q => Q [] env
def wCons (w : WI) (u : WA) : WA := fun env Q => w env fun it e1 => u e1 fun is e2 => Q (it :: is) e2
theorem va_nil : VA X B [] wNil := by
  refine ⟨PA.weak pa_nil fun σ H Q ⟨env, G, S, st, w⟩ => ?_, fun env P Q h w => h _ _ w⟩
  exact w [] H [] [] G S st .nil (Sep.nn st.nd) Stp.refl
/-- two evaluations in a row -/
theorem seqP {K : PySem.W.Frag} {env e1 : Env} {σ : Sg} {H H1 H2 : Hp} {G S G1 S1 G2 S2 G3 S3 G4 S4 : List Addr} {it : Item} {v : V}
    (st : Sta K B e1 σ H1 G2 S2) (h : Hold K e1 σ H1 it v G1 S1) (sp : Sep G1 S1 G2 S2) (p : Stp H G S H1 (G1 ++ G2) (S1 ++ S2)) (sp2 : Sep G3 S3 G4 S4) (p2 : Stp H1 G2 S2 H2 (G3 ++ G4) (S3 ++ S4)) :
    Hold K env σ H2 it v G1 S1 ∧ Sep (G1 ++ G3) (S1 ++ S3) G4 S4 ∧ Stp H G S H2 ((G1 ++ G3) ++ G4) ((S1 ++ S3) ++ S4) :=
  ⟨h.frame p2.keep st.sl.mu sp.apart fun a z => (sp.s1 a z).2, sp.more h.mu h.stk sp2 p2, p.both p2⟩
theorem va_cons {e : Expr} {es : List Expr} {w : WI} {u : WA} (h : VI X B e w) (k : VA X B es u) (hs : starEach (e :: es) X.env = (false, eval e X.env) :: starEach es X.env := by rfl) : VA X B (e :: es) (wCons w u) := by
  refine ⟨PA.weak (pa_cons h.p k.p hs) fun σ H Q ⟨env, G, S, st, ww⟩ => ?_, fun env P Q q ww => h.m _ _ _ (fun _ _ z => k.m _ _ _ (fun _ _ z' => q _ _ z') z) ww⟩
  refine ⟨env, G, S, st, h.m _ _ _ (fun it e1 w1 => ?_) ww⟩
  intro v H1 G1 S1 G2 S2 st1 h1 sp1 p1
  refine ⟨e1, G2, S2, st1, k.m _ _ _ (fun is e2 w2 => ?_) w1⟩
  intro vs H2 G3 S3 G4 S4 st2 h2 sp2 p2
  obtain ⟨a, b, c⟩ := seqP (env := e2) st1 h1 sp1 p1 sp2 p2
  exact w2 (v :: vs) H2 _ _ G4 S4 st2 (.cons a h2) b c
/-! ### new objects -/
theorem kp_new {F : List Addr} {H : Hp} {p : Addr} {o : HO} (h : H p = none) : Kp F H (upd H p o) := fun a u e _ => by rw [upd_ne (ne_of_none e h)]; exact e
theorem Gd.low {G S G' S' : List Addr} (g : Gd G S) (l : Low G S G' S') : Gd G' S' := ⟨g.nd.sublist l.sub, fun a z q => by
  rcases l.sh a z with z | ⟨z, n⟩
  · exact g.dj a z (l.sub.subset q)
  · exact n g.nd q⟩
theorem Ap.low {G S G' S' G2 S2 : List Addr} (g : Ap G S G2 S2) (l : Low G S G' S') : Ap G' S' G2 S2 := g.subL (fun a z => l.sub.subset z) fun a z => (l.sh a z).imp id fun q => q.1
theorem Stp.low {H H' : Hp} {G S G1 S1 G2 S2 G' S' : List Addr} (p : Stp H G S H' (G1 ++ G2) (S1 ++ S2)) (l : Low G1 S1 G' S') : Stp H G S H' (G' ++ G2) (S' ++ S2) :=
  p.less (fun a z => by simp at z ⊢; rcases z with z | z; exact .inl (l.sub.subset z); exact .inr z) fun a z => by
    simp at z ⊢
    rcases z with z | z
    · rcases l.sh a z with z | z
      · exact .inl (.inl z)
      · exact .inr (.inl z.1)
    · exact .inl (.inr z)
theorem Sta.new {K : PySem.W.Frag} {env : Env} {σ : Sg} {H : Hp} {G S : List Addr} {p : Addr} {o : HO} (st : Sta K B env σ H G S) (h : H p = none) : Sta K B env σ (upd H p o) G S :=
  ⟨st.sl.frame (kp_new (F := []) h) mu_nil (fun _ _ => List.not_mem_nil) (fun _ _ => List.not_mem_nil), st.nd, st.dj, st.st.trans ⟨kp_new h, fun _ z => .inl z, fun _ z => .inl z⟩, st.pr⟩
theorem Stp.new {H0 H : Hp} {G0 S0 G S : List Addr} {p : Addr} {o : HO} (a : Stp H0 G0 S0 H G S) (h : H p = none) : Stp H0 G0 S0 (upd H p o) (p :: G) S :=
  a.trans ⟨kp_new h, fun x z => (List.mem_cons.mp z).elim (fun e => .inr (by rw [e]; exact h)) .inl, fun _ z => .inl z⟩
theorem not_mem_new {K : PySem.W.Frag} {H : Hp} {p : Addr} {G : List Addr} (m : Mu H G) (h : H p = none) : p ∉ G := fun z => by have := m p z; rw [h] at this; exact this
theorem Sep.new {H : Hp} {G1 S1 G2 S2 : List Addr} {p : Addr} (s : Sep G1 S1 G2 S2) (h : H p = none) (m1 : Mu H G1) (m2 : Mu H G2) (t1 : ∀ a ∈ S1, ∃ o, H a = some o) (t2 : ∀ a ∈ S2, ∃ o, H a = some o) : Sep (p :: G1) S1 G2 S2 := by
  have n1 : p ∉ G1 := fun z => by have := m1 p z; rw [h] at this; exact this
  have n2 : p ∉ G2 := fun z => by have := m2 p z; rw [h] at this; exact this
  have n3 : p ∉ S1 := fun z => by obtain ⟨o, e⟩ := t1 p z; rw [h] at e; cases e
  have n4 : p ∉ S2 := fun z => by obtain ⟨o, e⟩ := t2 p z; rw [h] at e; cases e
  refine ⟨?_, fun a z => ⟨fun q => ?_, (s.s1 a z).2⟩, fun a z q => ?_⟩
  · rw [List.cons_append, List.nodup_cons]
    exact ⟨fun z => (List.mem_append.mp z).elim n1 n2, s.nd⟩
  · rcases List.mem_cons.mp q with rfl | q
    · exact n3 z
    · exact (s.s1 a z).1 q
  · rcases List.mem_cons.mp q with rfl | q
    · exact n4 z
    · exact s.s2 a z q
/-- a new list of what was given -/
theorem new_lst {K : PySem.W.Frag} {e2 : Env} {σ : Sg} {H0 H : Hp} {G0 S0 A SA G S : List Addr} {Q : VK} {j : Nat} {vs : List V} {ds : List D} (st : Sta K B e2 σ H G S) (o : Owns K H j vs ds A SA) (sp : Sep A SA G S) (p : Stp H0 G0 S0 H (A ++ G) (SA ++ S))
    (w : PostI K B σ H0 G0 S0 Q (.t (j + 1) (.lst ds)) e2) {q : Addr} (hq : H q = none) : Q (.ref q) (upd H q (.lst vs)) := by
  refine w _ _ (q :: A) SA G S (st.new hq) (.t (.own upd_same (Owns.frame (kp_new (F := []) hq) mu_nil _ o (fun _ _ => List.not_mem_nil) fun _ _ => List.not_mem_nil))) (sp.new hq (Owns.mu _ o) st.sl.mu (Owns.stk _ o) st.sl.stk) ?_
  exact p.new hq
theorem new_tup {K : PySem.W.Frag} {e2 : Env} {σ : Sg} {H0 H : Hp} {G0 S0 A SA G S : List Addr} {Q : VK} {j : Nat} {vs : List V} {ds : List D} (st : Sta K B e2 σ H G S) (o : Owns K H j vs ds A SA) (sp : Sep A SA G S) (p : Stp H0 G0 S0 H (A ++ G) (SA ++ S))
    (w : PostI K B σ H0 G0 S0 Q (.t j (.tup ds)) e2) {q : Addr} (hq : H q = none) : Q (.ref q) (upd H q (.tup vs)) := by
  refine w _ _ A SA G S (st.new hq) (.t (.tup (SqT.of upd_same) (Owns.frame (kp_new (F := []) hq) mu_nil _ o (fun _ _ => List.not_mem_nil) fun _ _ => List.not_mem_nil))) sp ?_
  exact p.trans ⟨kp_new hq, fun _ z => .inl z, fun _ z => .inl z⟩
def wList (wa : WA) : WI := fun env Q => wa env fun is e1 => wGives is e1 fun kds e2 => fits kds.length ∧ Q (.t (minM kds + 1) (.lst (kds.map (·.2)))) e2
def wTup (wa : WA) : WI := fun env Q => wa env fun is e1 => wGives is e1 fun kds e2 => fits kds.length ∧ Q (.t (minM kds) (.tup (kds.map (·.2)))) e2
theorem vi_list {es : List Expr} {wa : WA} (h : VA X B es wa) : VI X B (.List es pos) (wList wa) := by
  refine ⟨PE.weak (pe_lst h.p) fun σ H Q ⟨env, G, S, st, w⟩ => ?_, fun env P Q q w => h.m _ _ _ (fun _ _ z => wGives_mono (fun _ _ z' => ⟨z'.1, q _ _ z'.2⟩) z) w⟩
  refine ⟨env, G, S, st, h.m _ _ _ (fun is e1 w1 => ?_) w⟩
  intro vs H1 G1 S1 G2 S2 st1 h1 sp1 p1
  obtain ⟨kds, e2, A, SA, G', S', ⟨f, w2⟩, st2, o2, sp2, p2, _⟩ := gives_ok st1 h1 sp1 w1
  obtain ⟨A', SA', o3, lo⟩ := o2.low _ (Nat.le_refl _)
  refine ⟨by rw [o2.len]; exact f, fun q hq => ?_⟩
  exact new_lst st2 o3 (Sep.of (sp2.gd.low lo) st2.nd (sp2.ap.low lo)) ((p1.trans p2).low lo) w2 hq
theorem vi_tup {es : List Expr} {wa : WA} {x1} (h : VA X B es wa) : VI X B (.Tuple es x1 pos) (wTup wa) := by
  refine ⟨PE.weak (pe_tup h.p) fun σ H Q ⟨env, G, S, st, w⟩ => ?_, fun env P Q q w => h.m _ _ _ (fun _ _ z => wGives_mono (fun _ _ z' => ⟨z'.1, q _ _ z'.2⟩) z) w⟩
  refine ⟨env, G, S, st, h.m _ _ _ (fun is e1 w1 => ?_) w⟩
  intro vs H1 G1 S1 G2 S2 st1 h1 sp1 p1
  obtain ⟨kds, e2, A, SA, G', S', ⟨f, w2⟩, st2, o2, sp2, p2, _⟩ := gives_ok st1 h1 sp1 w1
  obtain ⟨A', SA', o3, lo⟩ := o2.low _ (Nat.le_refl _)
  refine ⟨by rw [o2.len]; exact f, fun q hq => ?_⟩
  exact new_tup st2 o3 (Sep.of (sp2.gd.low lo) st2.nd (sp2.ap.low lo)) ((p1.trans p2).low lo) w2 hq
/-! ### two operands, an atom told -/
inductive Atom : V → D → Prop
  | non : Atom .non .non
  | bl (b : Bool) : Atom (.bl b) (.bl b)
  | int (i : Int) : Atom (.int i) (.int i)
  | str (x : Str) : Atom (.str x) (.str x)
theorem Atom.own {v : V} {d : D} (a : Atom v d) (K : PySem.W.Frag) (H : Hp) (k : Nat) : Own K H k v d [] [] := by
  cases a with
  | non => exact .non
  | bl b => exact .bl b
  | int i => exact .int i
  | str x => exact .str x
/-- a value may be read as d -/
def Rdb (K : PySem.W.Frag) (H : Hp) (v : V) (d : D) : Prop := ∃ k G S, Own K H k v d G S
abbrev G2 := D → D → (D → Prop) → Prop
/-- the rule of values keeps to the rule of trees -/
def Br2 (K : PySem.W.Frag) (g : G2) (r : R2) : Prop := ∀ x y H d1 d2 (P : D → Prop) (Q : VK), Rdb K H x d1 → Rdb K H y d2 → g d1 d2 P → (∀ v d, P d → Atom v d → Q v H) → r x y H Q
def Mon2 (g : G2) : Prop := ∀ a b P Q, (∀ d, P d → Q d) → g a b P → g a b Q
def wOp2 (g : G2) (wa wb : WI) : WI := fun env Q => wa env fun i1 e1 => wb e1 fun i2 e2 => match wVal i1 e2, wVal i2 e2 with
  | some d1, some d2 => g d1 d2 fun d => Q (.t 9 d) e2
  | _, _ => False
theorem wOp2_mono {g : G2} {wa wb : WI} (mg : Mon2 g) (ma : MonI wa) (mb : MonI wb) : MonI (wOp2 g wa wb) := fun env P Q h w =>
  ma _ _ _ (fun i1 e1 z => mb _ _ _ (fun i2 e2 z' => by
    split at z'
    · exact mg _ _ _ _ (fun d q => h _ _ q) z'
    · exact z'.elim) z) w
theorem op2 {a b : Expr} {wa wb : WI} {g : G2} {r : R2} (ha : VI X B a wa) (hb : VI X B b wb) (br : Br2 X.K g r) {σ : Sg} {H : Hp} {Q : VK} (h : liftI X.K B (wOp2 g wa wb) σ H Q) : tOp r (liftI X.K B wa) (liftI X.K B wb) σ H Q := by
  obtain ⟨env, G, S, st, w⟩ := h
  refine ⟨env, G, S, st, ha.m _ _ _ (fun i1 e1 w1 => ?_) w⟩
  intro v H1 G1 S1 G2 S2 st1 h1 sp1 p1
  refine ⟨e1, G2, S2, st1, hb.m _ _ _ (fun i2 e2 w2 => ?_) w1⟩
  intro u H2 G3 S3 G4 S4 st2 h2 sp2 p2
  obtain ⟨a', _, c⟩ := seqP (env := e2) st1 h1 sp1 p1 sp2 p2
  split at w2
  · rename_i d1 d2 x1 x2
    refine br v u H2 d1 d2 _ Q (val_own st2.sl a' x1) (val_own st2.sl h2 x2) w2 fun y d q at9 => ?_
    refine q y H2 [] [] G4 S4 st2 (.t (at9.own _ _ _)) (Sep.nn st2.nd) (c.less (fun a z => by simp at z ⊢; simp [z]) fun a z => by simp at z ⊢; simp [z])
  · exact w2.elim
theorem vi_op2 {a b : Expr} {wa wb : WI} {g : G2} {r : R2} {op : Operator} (ho : OpR X (binaryOp op) r) (br : Br2 X.K g r) (mg : Mon2 g) (ha : VI X B a wa) (hb : VI X B b wb) : VI X B (.BinOp a op b pos) (wOp2 g wa wb) :=
  ⟨PE.weak (pe_op ho ha.p hb.p) fun _ _ _ h => op2 ha hb br h, wOp2_mono mg ha.m hb.m⟩
theorem vi_cmp {a b : Expr} {wa wb : WI} {g : G2} {r : R2} {op : CmpOp} (ho : OpR X (compareOp op) r) (br : Br2 X.K g r) (mg : Mon2 g) (hm : behindInMarks op b = false) (ha : VI X B a wa) (hb : VI X B b wb) : VI X B (.Compare a [op] [b] pos) (wOp2 g wa wb) :=
  ⟨PE.weak (pe_cmpR ho ha.p hb.p hm) fun _ _ _ h => op2 ha hb br h, wOp2_mono mg ha.m hb.m⟩
end
end Cr
set_option Elab.async false
set_option linter.all false
set_option maxRecDepth 100000
/-! The items of a sequence given away; +, *, slices, list(..), tuple(..). -/
namespace Cr
open PySem PySem.Spec PyProof.Rows L2
inductive Kd where
  | l | t | f
  deriving DecidableEq
def SeqV (K : PySem.W.Frag) (H : Hp) : Kd → Addr → List V → Prop
  | .l, a, xs => H a = some (.lst xs)
  | .t, a, xs => SqT K H a xs
  | .f, a, xs => Fz K H a xs
/-- the items of a sequence -/
def seqD : D → Option (Kd × List D)
  | .lst xs => some (.l, xs)
  | .tup xs => some (.t, xs)
  | .fl xs => some (.f, xs)
  | _ => none
def kdK : Kd → Nat → Nat
  | .l, k => k - 1
  | _, k => k
def wElems (it : Item) (env : Env) (Q : Kd → Nat → List D → Env → Prop) : Prop :=
  match it with
  | .t k d => match seqD d with
    | some (kd, xs) => Q kd (if at9s xs = true then 9 else kdK kd k) xs env
    | none => False
  | .w i => match env[i]? with
    | some (some (k, d)) => match seqD d with
      | some (kd, xs) => Br (at9s xs) (Q kd 9 xs env) (Br (decide (k = 0)) (Q kd 0 xs env) (Q kd 0 xs (env.set i (some (0, d)))))
      | none => False
    | _ => False
theorem wElems_mono {it : Item} {env : Env} {P Q : Kd → Nat → List D → Env → Prop} (h : ∀ kd k d e, P kd k d e → Q kd k d e) (w : wElems it env P) : wElems it env Q := by
  unfold wElems at *
  cases it with
  | t k d =>
    simp only at w ⊢
    split at w
    · exact h _ _ _ _ w
    · exact w
  | w i =>
    simp only [Br_if, decide_eq_true_eq] at w ⊢
    split at w
    · split at w
      · split at w
        · rename_i h1; rw [if_pos h1]; exact h _ _ _ _ w
        · rename_i h1; rw [if_neg h1]
          split at w
          · rename_i h2; rw [if_pos h2]; exact h _ _ _ _ w
          · rename_i h2; rw [if_neg h2]; exact h _ _ _ _ w
      · exact w
    · exact w
section
variable {K : PySem.W.Frag} {B : Base} {env env' : Env} {σ : Sg} {H H' : Hp} {G S G1 S1 G2 S2 F : List Addr} {it : Item} {v : V}
/-- a sequence's items -/
theorem Own.seq {k : Nat} {d : D} {kd : Kd} {xs : List D} (h : Own K H k v d G S) (e : seqD d = some (kd, xs)) : ∃ a vs G' S', v = .ref a ∧ SeqV K H kd a vs ∧ Owns K H (kdK kd k) vs xs G' S' ∧ Low G S G' S' := by
  cases h with
  | tup h1 h2 => cases e; exact ⟨_, _, _, _, rfl, h1, h2, Low.refl⟩
  | fl h1 h2 => cases e; exact ⟨_, _, _, _, rfl, h1, h2, Low.refl⟩
  | own h1 h2 => cases e; exact ⟨_, _, _, _, rfl, h1, h2, List.sublist_cons_self _ _, fun a z => .inl z⟩
  | shr h1 h2 => cases e; exact ⟨_, _, _, _, rfl, h1, h2, List.Sublist.refl _, fun a z => .inl (List.mem_cons_of_mem _ z)⟩
  | _ => cases e
theorem elems_ok {Q : Kd → Nat → List D → Env → Prop} (st : Sta K B env σ H G2 S2) (h : Hold K env σ H it v G1 S1) (sp : Sep G1 S1 G2 S2) (w : wElems it env Q) :
    ∃ kd k xs env' a vs A SA G' S', Q kd k xs env' ∧ Sta K B env' σ H G' S' ∧ v = .ref a ∧ SeqV K H kd a vs ∧ Owns K H k vs xs A SA ∧ Sep A SA G' S' ∧ Stp H (G1 ++ G2) (S1 ++ S2) H (A ++ G') (SA ++ S') := by
  cases h with
  | t o =>
    unfold wElems at w
    simp only at w
    split at w
    · rename_i kd xs e
      obtain ⟨a, vs, G', S', rfl, sv, os, lo⟩ := Own.seq o e
      split at w
      · rename_i h9
        obtain ⟨_, _, r⟩ := Owns.at9 _ h9 os
        refine ⟨_, _, _, env, a, vs, [], [], _, _, w, st, rfl, sv, r 9, Sep.nn st.nd, ⟨kp_refl, fun a z => .inl (List.mem_append_right _ z), fun a z => .inl (List.mem_append_right _ z)⟩⟩
      · refine ⟨_, _, _, env, a, vs, _, _, _, _, w, st, rfl, sv, os, Sep.of (sp.gd.low lo) st.nd (sp.ap.low lo), Stp.refl.low lo⟩
    · exact w.elim
  | w hv =>
    rename_i i
    unfold wElems at w
    simp only [Br_if, decide_eq_true_eq] at w
    split at w
    · rename_i k d he
      split at w
      · rename_i kd xs e
        split at w
        · rename_i h9
          obtain ⟨v', A, A', r1, o, _⟩ := st.sl.get he
          rw [hv] at r1
          have ev : v = v' := by simpa using r1
          subst ev
          obtain ⟨a, vs, G', S', rfl, sv, os, lo⟩ := Own.seq o e
          obtain ⟨_, _, r⟩ := Owns.at9 _ h9 os
          exact ⟨_, _, _, env, a, vs, [], [], _, _, w, st, rfl, sv, r 9, Sep.nn st.nd, Stp.refl⟩
        · rename_i n9
          have n9d : at9 d = true → False := by
            intro z
            cases d <;> first | (cases e; unfold at9 at z; first | exact n9 z | cases z) | cases e
          have gv : wGive (.w i) env fun k d' e' => k = 0 ∧ d' = d ∧ Q kd 0 xs e' := by
            unfold wGive
            simp only [he, Br_if, decide_eq_true_eq]
            rw [if_neg n9d]
            split at w
            · rename_i hk; rw [if_pos hk]; exact ⟨trivial, trivial, w⟩
            · rename_i hk; rw [if_neg hk]; exact ⟨trivial, trivial, w⟩
          obtain ⟨k', d', env', A, SA, G', S', ⟨rfl, rfl, q⟩, st', o, sp', p', _⟩ := give_ok (G1 := []) (S1 := []) st (.w hv) sp gv
          obtain ⟨a, vs, A', SA', rfl, sv, os, lo⟩ := Own.seq o e
          have e0 : kdK kd 0 = 0 := by cases kd <;> rfl
          rw [e0] at os
          exact ⟨_, _, _, env', a, vs, _, _, _, _, q, st', rfl, sv, os, Sep.of (sp'.gd.low lo) st'.nd (sp'.ap.low lo), p'.low lo⟩
      · exact w.elim
    · exact w.elim
/-- two givings in a row, the heap as it is -/
theorem two_ok {Ga Sa Gb Sb A1 SA1 A2 SA2 G' S' G'' S'' : List Addr} (gd : Gd (Ga ++ Gb) (Sa ++ Sb)) (mb : Mu H Gb) (tb : ∀ a ∈ Sb, ∃ o, H a = some o) (b2 : Ap Gb Sb G2 S2)
    (m1 : Mu H A1) (t1 : ∀ a ∈ SA1, ∃ o, H a = some o) (sp1 : Sep A1 SA1 G' S') (p1 : Stp H (Ga ++ G2) (Sa ++ S2) H (A1 ++ G') (SA1 ++ S')) (n1 : G'.Nodup) :
    Sep Gb Sb G' S' ∧ ((Sep A2 SA2 G'' S'') → G''.Nodup → Stp H (Gb ++ G') (Sb ++ S') H (A2 ++ G'') (SA2 ++ S'') → Sep (A1 ++ A2) (SA1 ++ SA2) G'' S'' ∧ Stp H ((Ga ++ Gb) ++ G2) ((Sa ++ Sb) ++ S2) H ((A1 ++ A2) ++ G'') ((SA1 ++ SA2) ++ S'')) := by
  have ab := gd.ap
  have bb : Ap Gb Sb (A1 ++ G') (SA1 ++ S') := (ab.symm.appR b2).frame mb tb p1
  have bA := bb.symm.l.symm
  have bG := bb.symm.r.symm
  refine ⟨Sep.of gd.r n1 bG, fun sp2 n2 p2 => ?_⟩
  have x : Ap A1 SA1 (A2 ++ G'') (SA2 ++ S'') := (bA.symm.appR sp1.ap).frame m1 t1 p2
  have xA := x.symm.l.symm
  have xG := x.symm.r.symm
  refine ⟨Sep.of (sp1.gd.app sp2.gd xA) n2 (xG.appL sp2.ap), ⟨kp_refl, fun a z => ?_, fun a z => ?_⟩⟩
  · have hA1 : a ∈ A1 → a ∈ (Ga ++ Gb) ++ G2 ∨ H a = none := fun z => (p1.sub a (List.mem_append_left _ z)).imp (fun q => by simp at q ⊢; rcases q with q | q <;> simp [q]) id
    have hG' : a ∈ G' → a ∈ (Ga ++ Gb) ++ G2 ∨ H a = none := fun z => (p1.sub a (List.mem_append_right _ z)).imp (fun q => by simp at q ⊢; rcases q with q | q <;> simp [q]) id
    rw [List.append_assoc] at z
    rcases List.mem_append.mp z with z | z
    · exact hA1 z
    · rcases p2.sub a z with z | z
      · rcases List.mem_append.mp z with z | z
        · exact .inl (by simp [z])
        · exact hG' z
      · exact .inr z
  · have conv : ∀ a, (a ∈ Sa ++ S2 ∨ a ∈ Ga ++ G2 ∨ H a = none) → (a ∈ (Sa ++ Sb) ++ S2 ∨ a ∈ (Ga ++ Gb) ++ G2 ∨ H a = none) := fun a q => by
      rcases q with q | q | q
      · simp at q; rcases q with q | q <;> simp [q]
      · simp at q; rcases q with q | q <;> simp [q]
      · exact .inr (.inr q)
    rw [List.append_assoc] at z
    rcases List.mem_append.mp z with z | z
    · exact conv a (p1.ss a (List.mem_append_left _ z))
    · rcases p2.ss a z with z | z | z
      · rcases List.mem_append.mp z with z | z
        · exact .inl (by simp [z])
        · exact conv a (p1.ss a (List.mem_append_right _ z))
      · rcases List.mem_append.mp z with z | z
        · exact .inr (.inl (by simp [z]))
        · rcases p1.sub a (List.mem_append_right _ z) with q | q
          · refine .inr (.inl ?_); simp at q ⊢; rcases q with q | q <;> simp [q]
          · exact .inr (.inr q)
      · exact .inr (.inr z)
end
theorem Owns.append {K : PySem.W.Frag} {H : Hp} {k : Nat} : ∀ {vs us : List V} {ds es : List D} {G S G' S' : List Addr}, Owns K H k vs ds G S → Owns K H k us es G' S' → Owns K H k (vs ++ us) (ds ++ es) (G ++ G') (S ++ S')
  | _, _, _, _, _, _, _, _, .nil, h => h
  | _, _, _, _, _, _, _, _, .cons h t, k => by rw [List.append_assoc, List.append_assoc]; exact .cons h (Owns.append t k)
section
variable {X : Cx} {B : Base} {pos : Pos}
/-- a + b -/
def wAdd (wa wb : WI) : WI := fun env Q => wa env fun i1 e1 => wb e1 fun i2 e2 => match wVal i1 e2, wVal i2 e2 with
  | some (.int a), some (.int b) => Q (.t 9 (.int (a + b))) e2
  | some (.str a), some (.str b) => fits (a.length + b.length) ∧ Q (.t 9 (.str (a ++ b))) e2
  | some (.tup _), some (.tup _) => wElems i1 e2 fun kd k1 xs e3 => wElems i2 e3 fun kd' k2 ys e4 => (kd = .t ∧ kd' = .t) ∧ fits (xs.length + ys.length) ∧ Q (.t (min k1 k2) (.tup (xs ++ ys))) e4
  | some (.lst _), some (.lst _) => wElems i1 e2 fun kd k1 xs e3 => wElems i2 e3 fun kd' k2 ys e4 => (kd = .l ∧ kd' = .l) ∧ fits (xs.length + ys.length) ∧ Q (.t (min k1 k2 + 1) (.lst (xs ++ ys))) e4
  | _, _ => False
theorem wAdd_mono {wa wb : WI} (ma : MonI wa) (mb : MonI wb) : MonI (wAdd wa wb) := fun env P Q h w =>
  ma _ _ _ (fun i1 e1 z => mb _ _ _ (fun i2 e2 z' => by
    split at z'
    · exact h _ _ z'
    · exact ⟨z'.1, h _ _ z'.2⟩
    · exact wElems_mono (fun _ _ _ _ z => wElems_mono (fun _ _ _ _ z => ⟨z.1, z.2.1, h _ _ z.2.2⟩) z) z'
    · exact wElems_mono (fun _ _ _ _ z => wElems_mono (fun _ _ _ _ z => ⟨z.1, z.2.1, h _ _ z.2.2⟩) z) z'
    · exact z'.elim) z) w
def rAddAll (K : PySem.W.Frag) : R2 := fun x y H Q => (∃ i j, x = .int i ∧ y = .int j ∧ Q (.int (i + j)) H) ∨ (∃ i j, x = .str i ∧ y = .str j ∧ i.length + j.length ≤ sizeLine ∧ Q (.str (i ++ j)) H) ∨ rCatA K x y H Q ∨ rCat x y H Q
theorem op_addAll : OpR X (binaryOp .Add) (rAddAll X.K) := OpR.or op_add (OpR.or op_add_str (OpR.or op_catA op_cat))
theorem Owns.lowT {K : PySem.W.Frag} {H : Hp} {k j : Nat} {vs : List V} {ds : List D} {G S : List Addr} (o : Owns K H k vs ds G S) (h : j ≤ k) : ∃ G' S', Owns K H j vs ds G' S' ∧ Low G S G' S' := Owns.lower _ h o
/-- the items of two sequences -/
theorem elems2_ok {K : PySem.W.Frag} {env : Env} {σ : Sg} {H : Hp} {Ga Sa Gb Sb G2 S2 : List Addr} {i1 i2 : Item} {v u : V} {Q : Kd → Nat → List D → Kd → Nat → List D → Env → Prop} (st : Sta K B env σ H G2 S2) (h1 : Hold K env σ H i1 v Ga Sa) (h2 : Hold K env σ H i2 u Gb Sb) (sp : Sep (Ga ++ Gb) (Sa ++ Sb) G2 S2)
    (w : wElems i1 env fun kd k xs e3 => wElems i2 e3 fun kd' k' ys e4 => Q kd k xs kd' k' ys e4) :
    ∃ kd k xs kd' k' ys env' a vs b us A SA G' S', Q kd k xs kd' k' ys env' ∧ Sta K B env' σ H G' S' ∧ v = .ref a ∧ SeqV K H kd a vs ∧ u = .ref b ∧ SeqV K H kd' b us ∧ Owns K H (min k k') (vs ++ us) (xs ++ ys) A SA ∧ vs.length = xs.length ∧ us.length = ys.length ∧ Sep A SA G' S' ∧ Stp H ((Ga ++ Gb) ++ G2) ((Sa ++ Sb) ++ S2) H (A ++ G') (SA ++ S') := by
  obtain ⟨kd, k, xs, e3, a, vs, A1, SA1, G', S', w1, st1, ev, sv, o1, sp1, p1⟩ := elems_ok st h1 (Sep.of sp.gd.l sp.n2 sp.ap.l) w
  have t := two_ok (A2 := []) (SA2 := []) (G'' := []) (S'' := []) sp.gd h2.mu h2.stk sp.ap.r (Owns.mu _ o1) (Owns.stk _ o1) sp1 p1 st1.nd
  obtain ⟨kd', k', ys, e4, b, us, A2, SA2, G'', S'', w2, st2, eu, su, o2, sp2, p2⟩ := elems_ok st1 h2.env2 t.1 w1
  obtain ⟨q1, q2⟩ := (two_ok sp.gd h2.mu h2.stk sp.ap.r (Owns.mu _ o1) (Owns.stk _ o1) sp1 p1 st1.nd).2 sp2 st2.nd p2
  obtain ⟨B1, SB1, r1, l1⟩ := Owns.lowT o1 (Nat.min_le_left k k')
  obtain ⟨B2, SB2, r2, l2⟩ := Owns.lowT o2 (Nat.min_le_right k k')
  have lo := l1.append l2
  exact ⟨kd, k, xs, kd', k', ys, e4, a, vs, b, us, _, _, _, _, w2, st2, ev, sv, eu, su, r1.append r2, Owns.len o1, Owns.len o2, Sep.of (q1.gd.low lo) st2.nd (q1.ap.low lo), q2.low lo⟩
theorem own_int {K : PySem.W.Frag} {H : Hp} {k : Nat} {v : V} {i : Int} {G S : List Addr} (h : Own K H k v (.int i) G S) : v = .int i := by cases h; rfl
theorem own_str {K : PySem.W.Frag} {H : Hp} {k : Nat} {v : V} {i : Str} {G S : List Addr} (h : Own K H k v (.str i) G S) : v = .str i := by cases h; rfl
theorem own_bl {K : PySem.W.Frag} {H : Hp} {k : Nat} {v : V} {i : Bool} {G S : List Addr} (h : Own K H k v (.bl i) G S) : v = .bl i := by cases h; rfl
theorem wp_atom {K : PySem.W.Frag} {B : Base} {e2 : Env} {σ : Sg} {H0 H : Hp} {G0 S0 A SA G S : List Addr} {Q : VK} {v : V} {d : D} (a : Atom v d) (st : Sta K B e2 σ H G S) (p : Stp H0 G0 S0 H (A ++ G) (SA ++ S))
    (w : PostI K B σ H0 G0 S0 Q (.t 9 d) e2) : Q v H :=
  w v H [] [] G S st (.t (a.own _ _ _)) (Sep.nn st.nd) (p.less (fun a z => by simp at z ⊢; simp [z]) fun a z => by simp at z ⊢; simp [z])
theorem vi_add {a b : Expr} {wa wb : WI} (ha : VI X B a wa) (hb : VI X B b wb) : VI X B (.BinOp a .Add b pos) (wAdd wa wb) := by
  refine ⟨PE.weak (pe_op op_addAll ha.p hb.p) fun σ H Q ⟨env, G, S, st, w⟩ => ?_, wAdd_mono ha.m hb.m⟩
  refine ⟨env, G, S, st, ha.m _ _ _ (fun i1 e1 w1 => ?_) w⟩
  intro v H1 G1 S1 G2 S2 st1 h1 sp1 p1
  refine ⟨e1, G2, S2, st1, hb.m _ _ _ (fun i2 e2 w2 => ?_) w1⟩
  intro u H2 G3 S3 G4 S4 st2 h2 sp2 p2
  obtain ⟨a', sp, c⟩ := seqP (env := e2) st1 h1 sp1 p1 sp2 p2
  split at w2
  · rename_i i j x1 x2
    obtain ⟨_, _, _, o1⟩ := val_own st2.sl a' x1
    obtain ⟨_, _, _, o2⟩ := val_own st2.sl h2 x2
    exact .inl ⟨i, j, own_int o1, own_int o2, wp_atom (.int _) st2 c w2⟩
  · rename_i i j x1 x2
    obtain ⟨_, _, _, o1⟩ := val_own st2.sl a' x1
    obtain ⟨_, _, _, o2⟩ := val_own st2.sl h2 x2
    exact .inr (.inl ⟨i, j, own_str o1, own_str o2, w2.1, wp_atom (.str _) st2 c w2.2⟩)
  · obtain ⟨kd, k, xs, kd', k', ys, e4, p, vs, q, us, A, SA, G', S', ⟨⟨rfl, rfl⟩, f, w5⟩, st5, rfl, sv, rfl, su, o5, l1, l2, sp5, p5⟩ := elems2_ok st2 a' h2 sp w2
    refine .inr (.inr (.inl ⟨p, q, vs, us, rfl, rfl, sv, su, by rw [l1, l2]; exact f, fun e => ?_, fun e e' => ?_, fun e e' r hr => ?_⟩))
    · subst e
      exact w5 _ H2 _ _ _ _ st5 (.t (.tup su o5)) sp5 (c.trans p5)
    · subst e'
      rw [List.append_nil] at o5
      exact w5 _ H2 _ _ _ _ st5 (.t (.tup sv o5)) sp5 (c.trans p5)
    · exact new_tup st5 o5 sp5 (c.trans p5) w5 hr
  · obtain ⟨kd, k, xs, kd', k', ys, e4, p, vs, q, us, A, SA, G', S', ⟨⟨rfl, rfl⟩, f, w5⟩, st5, rfl, sv, rfl, su, o5, l1, l2, sp5, p5⟩ := elems2_ok st2 a' h2 sp w2
    refine .inr (.inr (.inr ⟨p, q, vs, us, rfl, rfl, sv, su, by rw [l1, l2]; exact f, fun r hr => ?_⟩))
    exact new_lst st5 o5 sp5 (c.trans p5) w5 hr
  · exact w2.elim
end
end Cr
set_option Elab.async false
set_option linter.all false
set_option maxRecDepth 100000
/-! Pure operators: data compared, ints, membership, len, isinstance .. -/
namespace Cr
open PySem PySem.Spec PyProof.Rows L2
mutual
def py : D → PyData
  | .non => .none
  | .bl b => .bool b
  | .int i => .int i
  | .str x => .str x
  | .tup xs => .tuple (pys xs)
  | .lst xs => .list (pys xs)
  | .fl xs => .list (pys xs)
def pys : List D → List PyData
  | [] => []
  | d :: ds => py d :: pys ds
end
mutual
def dep : D → Nat
  | .tup xs => deps xs + 1
  | .lst xs => deps xs + 1
  | .fl xs => deps xs + 1
  | _ => 0
def deps : List D → Nat
  | [] => 0
  | d :: ds => max (dep d) (deps ds)
end
/-- == -/
def deq (a b : D) : Bool := PyData.eqv (py a) (py b)
mutual
theorem py_plain : ∀ d : D, (py d).plain = true
  | .non => rfl
  | .bl _ => rfl
  | .int _ => rfl
  | .str _ => rfl
  | .tup xs => by rw [py, PyData.plain]; exact pys_plain xs
  | .lst xs => by rw [py, PyData.plain]; exact pys_plain xs
  | .fl xs => by rw [py, PyData.plain]; exact pys_plain xs
theorem pys_plain : ∀ ds : List D, PyData.plainAll (pys ds) = true
  | [] => rfl
  | d :: ds => by rw [pys, PyData.plainAll, py_plain d, pys_plain ds]; rfl
end
mutual
theorem py_depth : ∀ d : D, (py d).depth = dep d
  | .non => rfl
  | .bl _ => rfl
  | .int _ => rfl
  | .str _ => rfl
  | .tup xs => by rw [py, PyData.depth, pys_depth xs, dep]
  | .lst xs => by rw [py, PyData.depth, pys_depth xs, dep]
  | .fl xs => by rw [py, PyData.depth, pys_depth xs, dep]
theorem pys_depth : ∀ ds : List D, PyData.depthAll (pys ds) = deps ds
  | [] => rfl
  | d :: ds => by rw [pys, PyData.depthAll, py_depth d, pys_depth ds, deps]
end
theorem SeqV.sq {K : PySem.W.Frag} {H : Hp} {a : Addr} {xs : List V} : ∀ {kd : Kd}, SeqV K H kd a xs → SqL K H a xs ∨ SqT K H a xs
  | .l, h => .inl (SqL.of h)
  | .t, h => .inr h
  | .f, h => .inl (Fz.sq h)
section
variable {K : PySem.W.Frag} {H : Hp}
mutual
theorem Own.dp : ∀ (d : D) {k : Nat} {v : V} {G S : List Addr}, Own K H k v d G S → Dp K H v (py d)
  | .non, _, _, _, _, h => by cases h; exact .non
  | .bl _, _, _, _, _, h => by cases h; exact .bl _
  | .int _, _, _, _, _, h => by cases h; exact .int _
  | .str _, _, _, _, _, h => by cases h; exact .str _
  | .tup ds, _, _, _, _, h => by
    cases h with
    | tup h1 h2 => rw [py]; exact .tup h1 (Owns.dp ds h2)
  | .fl ds, _, _, _, _, h => by
    cases h with
    | fl h1 h2 => rw [py]; exact .lst (Fz.sq h1) (Owns.dp ds h2)
  | .lst ds, _, _, _, _, h => by
    cases h with
    | own h1 h2 => rw [py]; exact .lst (SqL.of h1) (Owns.dp ds h2)
    | shr h1 h2 => rw [py]; exact .lst (SqL.of h1) (Owns.dp ds h2)
theorem Owns.dp : ∀ (ds : List D) {k : Nat} {vs : List V} {G S : List Addr}, Owns K H k vs ds G S → DpAll K H vs (pys ds)
  | [], _, _, _, _, h => by cases h; exact .nil
  | d :: ds, _, _, _, _, h => by
    cases h with
    | cons h1 h2 => rw [pys]; exact .cons (Own.dp d h1) (Owns.dp ds h2)
end
theorem Rdb.dp {v : V} {d : D} (h : Rdb K H v d) : Dp K H v (py d) := by obtain ⟨_, _, _, o⟩ := h; exact Own.dp _ o
theorem Rdb.int {v : V} {i : Int} (h : Rdb K H v (.int i)) : v = .int i := by obtain ⟨_, _, _, o⟩ := h; exact own_int o
theorem Rdb.str {v : V} {i : Str} (h : Rdb K H v (.str i)) : v = .str i := by obtain ⟨_, _, _, o⟩ := h; exact own_str o
theorem Rdb.bl {v : V} {i : Bool} (h : Rdb K H v (.bl i)) : v = .bl i := by obtain ⟨_, _, _, o⟩ := h; exact own_bl o
theorem Rdb.seq {v : V} {d : D} {kd : Kd} {xs : List D} (h : Rdb K H v d) (e : seqD d = some (kd, xs)) : ∃ a vs k G S, v = .ref a ∧ SeqV K H kd a vs ∧ Owns K H k vs xs G S := by
  obtain ⟨_, _, _, o⟩ := h
  obtain ⟨a, vs, G, S, r1, r2, r3, _⟩ := Own.seq o e
  exact ⟨a, vs, _, G, S, r1, r2, r3⟩
end
section
variable {X : Cx} {B : Base} {pos : Pos}
/-! ### == and != -/
def rEqP (K : PySem.W.Frag) : R2 := fun x y H Q => ∃ d e, Dp K H x d ∧ Dp K H y e ∧ d.plain = true ∧ e.plain = true ∧ min d.depth e.depth ≤ 60 ∧ Q (.bl (PyData.eqv d e)) H
def rNeP (K : PySem.W.Frag) : R2 := fun x y H Q => ∃ d e, Dp K H x d ∧ Dp K H y e ∧ d.plain = true ∧ e.plain = true ∧ min d.depth e.depth ≤ 60 ∧ Q (.bl (!PyData.eqv d e)) H
theorem op_eqP (hu : X.A.units + 64 < cLine) : OpR X (compareOp .Eq) (rEqP X.K) := by
  intro pins s σ H x y v u Q I rx ry h
  obtain ⟨d, e, hd, he, sd, se, dl, q⟩ := h
  obtain ⟨as, r1⟩ := Dp.reads I d x v hd rx
  obtain ⟨bs, r2⟩ := Dp.reads I e y u he ry
  exact SeqAt.eq_plain r1 r2 sd se (by omega) ⟨.bl _, H, I, rfl, q⟩
theorem op_neP (hu : X.A.units + 64 < cLine) : OpR X (compareOp .NotEq) (rNeP X.K) := by
  intro pins s σ H x y v u Q I rx ry h
  obtain ⟨d, e, hd, he, sd, se, dl, q⟩ := h
  obtain ⟨as, r1⟩ := Dp.reads I d x v hd rx
  obtain ⟨bs, r2⟩ := Dp.reads I e y u he ry
  exact SeqAt.ne_plain r1 r2 sd se (by omega) ⟨.bl _, H, I, rfl, q⟩
def gEq : G2 := fun a b P => min (dep a) (dep b) ≤ 60 ∧ P (.bl (deq a b))
def gNe : G2 := fun a b P => min (dep a) (dep b) ≤ 60 ∧ P (.bl (!deq a b))
theorem br_eq {K : PySem.W.Frag} : Br2 K gEq (rEqP K) := fun x y H a b P Q ra rb g q =>
  ⟨py a, py b, ra.dp, rb.dp, py_plain a, py_plain b, by rw [py_depth, py_depth]; exact g.1, q _ _ g.2 (.bl _)⟩
theorem br_ne {K : PySem.W.Frag} : Br2 K gNe (rNeP K) := fun x y H a b P Q ra rb g q =>
  ⟨py a, py b, ra.dp, rb.dp, py_plain a, py_plain b, by rw [py_depth, py_depth]; exact g.1, q _ _ g.2 (.bl _)⟩
variable {a b : Expr} {wa wb : WI}
theorem vi_eq (hu : X.A.units + 64 < cLine) (ha : VI X B a wa) (hb : VI X B b wb) : VI X B (.Compare a [.Eq] [b] pos) (wOp2 gEq wa wb) := vi_cmp (op_eqP hu) br_eq (fun _ _ _ _ h w => ⟨w.1, h _ w.2⟩) (nomark _) ha hb
theorem vi_ne (hu : X.A.units + 64 < cLine) (ha : VI X B a wa) (hb : VI X B b wb) : VI X B (.Compare a [.NotEq] [b] pos) (wOp2 gNe wa wb) := vi_cmp (op_neP hu) br_ne (fun _ _ _ _ h w => ⟨w.1, h _ w.2⟩) (nomark _) ha hb
/-! ### ints -/
def gInt (c : Int → Int → Prop) (f : Int → Int → Int) : G2 := fun a b P => match a, b with
  | .int i, .int j => c i j ∧ P (.int (f i j))
  | _, _ => False
def gCmp (f : Int → Int → Bool) : G2 := fun a b P => match a, b with
  | .int i, .int j => P (.bl (f i j))
  | _, _ => False
theorem gInt_mono {c f} : Mon2 (gInt c f) := fun a b P Q h w => by
  unfold gInt at *
  split at w
  · exact ⟨w.1, h _ w.2⟩
  · exact w
theorem gCmp_mono {f} : Mon2 (gCmp f) := fun a b P Q h w => by
  unfold gCmp at *
  split at w
  · exact h _ w
  · exact w
theorem br_int {K : PySem.W.Frag} {c C : Int → Int → Prop} {f : Int → Int → Int} {g : Int → Int → V} (hc : ∀ i j, c i j → C i j ∧ g i j = .int (f i j)) : Br2 K (gInt c f) (rI C g) := fun x y H a b P Q ra rb w q => by
  unfold gInt at w
  split at w
  · rename_i i j
    obtain ⟨h1, h2⟩ := hc i j w.1
    exact ⟨i, j, ra.int, rb.int, h1, by rw [h2]; exact q _ _ w.2 (.int _)⟩
  · exact w.elim
theorem br_cmp {K : PySem.W.Frag} {f : Int → Int → Bool} : Br2 K (gCmp f) (rI0 fun i j => .bl (f i j)) := fun x y H a b P Q ra rb w q => by
  unfold gCmp at w
  split at w
  · rename_i i j
    exact ⟨i, j, ra.int, rb.int, q _ _ w (.bl _)⟩
  · exact w.elim
theorem rI_true {f : Int → Int → V} : (rI0 f) = rI (fun _ _ => True) f := by
  funext x y H Q
  unfold rI0 rI
  apply propext
  constructor
  · rintro ⟨i, j, a, b, c⟩; exact ⟨i, j, a, b, trivial, c⟩
  · rintro ⟨i, j, a, b, _, c⟩; exact ⟨i, j, a, b, c⟩
theorem vi_sub (ha : VI X B a wa) (hb : VI X B b wb) : VI X B (.BinOp a .Sub b pos) (wOp2 (gInt (fun _ _ => True) fun i j => i - j) wa wb) :=
  vi_op2 (r := rI (fun _ _ => True) fun i j => .int (i - j)) (by rw [← rI_true]; exact op_sub) (br_int fun _ _ _ => ⟨trivial, rfl⟩) gInt_mono ha hb
theorem vi_fdiv (ha : VI X B a wa) (hb : VI X B b wb) : VI X B (.BinOp a .FloorDiv b pos) (wOp2 (gInt (fun _ j => 0 < j ∧ j.natAbs.log2 < 9000) fun i j => i / j) wa wb) := vi_op2 op_fdivW (br_int fun _ _ h => ⟨h, rfl⟩) gInt_mono ha hb
theorem vi_mod (ha : VI X B a wa) (hb : VI X B b wb) : VI X B (.BinOp a .Mod b pos) (wOp2 (gInt (fun _ j => 0 < j) fun i j => i % j) wa wb) := vi_op2 op_mod (br_int fun _ _ h => ⟨h, rfl⟩) gInt_mono ha hb
theorem vi_pow (ha : VI X B a wa) (hb : VI X B b wb) : VI X B (.BinOp a .Pow b pos) (wOp2 (gInt (fun i j => 0 ≤ j ∧ j ≤ 1000000 ∧ i.natAbs < 2 ^ 64) fun i j => i ^ j.toNat) wa wb) := vi_op2 op_pow (br_int fun _ _ h => ⟨h, rfl⟩) gInt_mono ha hb
theorem vi_lt (ha : VI X B a wa) (hb : VI X B b wb) : VI X B (.Compare a [.Lt] [b] pos) (wOp2 (gCmp fun i j => decide (i < j)) wa wb) := vi_cmp op_lt br_cmp gCmp_mono (nomark _) ha hb
theorem vi_le (ha : VI X B a wa) (hb : VI X B b wb) : VI X B (.Compare a [.LtE] [b] pos) (wOp2 (gCmp fun i j => decide (i ≤ j)) wa wb) := vi_cmp op_le br_cmp gCmp_mono (nomark _) ha hb
theorem vi_gt (ha : VI X B a wa) (hb : VI X B b wb) : VI X B (.Compare a [.Gt] [b] pos) (wOp2 (gCmp fun i j => decide (j < i)) wa wb) := vi_cmp op_gt br_cmp gCmp_mono (nomark _) ha hb
theorem vi_ge (ha : VI X B a wa) (hb : VI X B b wb) : VI X B (.Compare a [.GtE] [b] pos) (wOp2 (gCmp fun i j => decide (j ≤ i)) wa wb) := vi_cmp op_ge br_cmp gCmp_mono (nomark _) ha hb
/-! ### is None -/
def isNon : D → Bool
  | .non => true
  | _ => false
def gIsN (neg : Bool) : G2 := fun a b P => match b with
  | .non => P (.bl (neg != isNon a))
  | _ => False
theorem gIsN_mono {n} : Mon2 (gIsN n) := fun a b P Q h w => by
  unfold gIsN at *
  split at w
  · exact h _ w
  · exact w
theorem Rdb.isN {K : PySem.W.Frag} {H : Hp} {v : V} {d : D} (h : Rdb K H v d) : decide (v = .non) = isNon d := by
  obtain ⟨_, _, _, o⟩ := h
  cases o <;> rfl
theorem Rdb.non {K : PySem.W.Frag} {H : Hp} {v : V} (h : Rdb K H v .non) : v = .non := by
  obtain ⟨_, _, _, o⟩ := h
  cases o; rfl
theorem vi_isN (ha : VI X B a wa) (hb : VI X B b wb) : VI X B (.Compare a [.Is] [b] pos) (wOp2 (gIsN false) wa wb) := vi_cmp op_isN (fun x y H a b P Q ra rb w q => by
  unfold gIsN at w
  split at w
  · refine ⟨rb.non, q _ _ w ?_⟩
    rw [ra.isN]; simp only [Bool.false_bne]; exact .bl _
  · exact w.elim) gIsN_mono (nomark _) ha hb
theorem vi_notN (ha : VI X B a wa) (hb : VI X B b wb) : VI X B (.Compare a [.IsNot] [b] pos) (wOp2 (gIsN true) wa wb) := vi_cmp op_notN (fun x y H a b P Q ra rb w q => by
  unfold gIsN at w
  split at w
  · refine ⟨rb.non, q _ _ w ?_⟩
    rw [ra.isN]; simp only [Bool.true_bne]; exact .bl _
  · exact w.elim) gIsN_mono (nomark _) ha hb
/-! ### in, not in -/
theorem pys_any (f : PyData → Bool) : ∀ xs : List D, (pys xs).any f = xs.any fun y => f (py y)
  | [] => rfl
  | d :: ds => by rw [pys, List.any_cons, List.any_cons, pys_any f ds]
def gIn (neg : Bool) : G2 := fun a b P => match seqD b with
  | some (_, xs) => min (deps xs) (dep a) ≤ 60 ∧ P (.bl (neg != xs.any fun y => deq y a))
  | none => False
theorem gIn_mono {n} : Mon2 (gIn n) := fun a b P Q h w => by
  unfold gIn at *
  split at w
  · exact ⟨w.1, h _ w.2⟩
  · exact w
def rInP (K : PySem.W.Frag) (neg : Bool) : R2 := fun x y H Q => ∃ d xs, Dp K H x d ∧ (Dp K H y (.list xs) ∨ Dp K H y (.tuple xs)) ∧ d.plain = true ∧ PyData.plainAll xs = true ∧ min (PyData.depthAll xs) d.depth ≤ 60 ∧ Q (.bl (neg != xs.any fun y => PyData.eqv y d)) H
theorem op_inP (hu : X.A.units + 64 < cLine) : OpR X (compareOp .In) (rInP X.K false) := by
  intro pins s σ H x y v u Q I rx ry h
  obtain ⟨d, xs, hd, he, sd, se, dl, q⟩ := h
  obtain ⟨as, r1⟩ := Dp.reads I d x v hd rx
  rw [Bool.false_bne] at q
  rcases he with he | he
  · obtain ⟨bs, r2⟩ := Dp.reads I _ y u he ry
    exact SeqAt.in_list_data r2 r1 se sd (by omega) ⟨.bl _, H, I, rfl, q⟩
  · obtain ⟨bs, r2⟩ := Dp.reads I _ y u he ry
    exact SeqAt.in_tuple_data r2 r1 se sd (by omega) ⟨.bl _, H, I, rfl, q⟩
theorem op_notInP (hu : X.A.units + 64 < cLine) : OpR X (compareOp .NotIn) (rInP X.K true) := by
  intro pins s σ H x y v u Q I rx ry h
  obtain ⟨d, xs, hd, he, sd, se, dl, q⟩ := h
  obtain ⟨as, r1⟩ := Dp.reads I d x v hd rx
  rw [Bool.true_bne] at q
  rcases he with he | he
  · obtain ⟨bs, r2⟩ := Dp.reads I _ y u he ry
    exact SeqAt.notIn_list_data r2 r1 se sd (by omega) ⟨.bl _, H, I, rfl, q⟩
  · obtain ⟨bs, r2⟩ := Dp.reads I _ y u he ry
    exact SeqAt.notIn_tuple_data r2 r1 se sd (by omega) ⟨.bl _, H, I, rfl, q⟩
theorem br_in {K : PySem.W.Frag} {n : Bool} : Br2 K (gIn n) (rInP K n) := fun x y H a b P Q ra rb w q => by
  unfold gIn at w
  split at w
  · rename_i kd xs e
    refine ⟨py a, pys xs, ra.dp, ?_, py_plain a, pys_plain xs, by rw [pys_depth, py_depth]; exact w.1, ?_⟩
    · have := rb.dp
      cases b <;> cases e
      · exact .inr (by rw [py] at this; exact this)
      · exact .inl (by rw [py] at this; exact this)
      · exact .inl (by rw [py] at this; exact this)
    · rw [pys_any]
      exact q _ _ w.2 (.bl _)
  · exact w.elim
theorem vi_in (hu : X.A.units + 64 < cLine) (hm : behindInMarks .In b = false) (ha : VI X B a wa) (hb : VI X B b wb) : VI X B (.Compare a [.In] [b] pos) (wOp2 (gIn false) wa wb) := vi_cmp (op_inP hu) br_in gIn_mono hm ha hb
theorem vi_notIn (hu : X.A.units + 64 < cLine) (hm : behindInMarks .NotIn b = false) (ha : VI X B a wa) (hb : VI X B b wb) : VI X B (.Compare a [.NotIn] [b] pos) (wOp2 (gIn true) wa wb) := vi_cmp (op_notInP hu) br_in gIn_mono hm ha hb
end
end Cr
set_option Elab.async false
set_option linter.all false
set_option maxRecDepth 100000
/-! Tests, and or not, chains, conditional expressions; * of ints, lists; items, slices; calls of built-ins. -/
namespace Cr
open PySem PySem.Spec PyProof.Rows L2
section
variable {X : Cx} {B : Base} {pos : Pos} {a b c : Expr} {wa wb wc : WI}
/-! ### truth -/
def tru : D → Bool
  | .non => false
  | .bl b => b
  | .int i => i != 0
  | .str x => (x.length : Int) != 0
  | .tup xs => !xs.isEmpty
  | .lst xs => !xs.isEmpty
  | .fl xs => !xs.isEmpty
def truOk : D → Prop
  | .str x => fits x.length
  | _ => True
theorem isEmpty_len {α β : Type} {xs : List α} {ys : List β} (h : xs.length = ys.length) : xs.isEmpty = ys.isEmpty := by
  cases xs <;> cases ys <;> first | rfl | simp at h
theorem tru_own {K : PySem.W.Frag} {H : Hp} {v : V} {d : D} (h : Rdb K H v d) (ok : truOk d) : TruV K v H (tru d) := by
  obtain ⟨k, G, S, o⟩ := h
  cases o with
  | non => rfl
  | bl b => rfl
  | int i => rfl
  | str x => exact ⟨ok, rfl⟩
  | tup h1 h2 => exact .inr (.inl ⟨_, h1, by rw [tru, isEmpty_len (Owns.len h2)]⟩)
  | own h1 h2 => exact .inl ⟨_, SqL.of h1, by rw [tru, isEmpty_len (Owns.len h2)]⟩
  | shr h1 h2 => exact .inl ⟨_, SqL.of h1, by rw [tru, isEmpty_len (Owns.len h2)]⟩
  | fl h1 h2 => exact .inl ⟨_, Fz.sq h1, by rw [tru, isEmpty_len (Owns.len h2)]⟩
/-- an expression's truth -/
def wTruth (w : WI) : WT := fun env Q => w env fun it e => match wVal it e with
  | some d => truOk d ∧ Q (tru d) e
  | none => False
theorem item_less {K : PySem.W.Frag} {e2 : Env} {σ : Sg} {H0 H : Hp} {G0 S0 A SA G S : List Addr} (st : Sta K B e2 σ H G S) (p : Stp H0 G0 S0 H (A ++ G) (SA ++ S)) : Stp H0 G0 S0 H G S :=
  p.less (fun a z => by simp [z]) fun a z => by simp [z]
theorem vt_truth (h : VI X B a wa) (he : ∀ whole, isTrue a X.env whole = (do let v ← whole; standAt a.pos; holding [v] (truthy v)) := by intro _; rfl) : VT X B a (wTruth wa) := by
  refine ⟨PT.weak (pt_truth h.p he) fun σ H Q ⟨env, G, S, st, w⟩ => ?_, fun env P Q q w => h.m _ _ _ (fun it e z => ?_) w⟩
  · refine ⟨env, G, S, st, h.m _ _ _ (fun it e1 w1 => ?_) w⟩
    intro v H1 G1 S1 G2 S2 st1 h1 sp1 p1
    split at w1
    · rename_i d hd
      exact ⟨tru d, tru_own (val_own st1.sl h1 hd) w1.1, w1.2 H1 G2 S2 st1 (item_less st1 p1)⟩
    · exact w1.elim
  · split at z
    · exact ⟨z.1, q _ _ z.2⟩
    · exact z
/-- an expression that tells a truth value, as a test -/
def wTestI (w : WI) : WT := fun env Q => w env fun it e => match it with
  | .t _ (.bl k) => Q k e
  | _ => False
theorem wTestI_mono {w : WI} (m : MonI w) : MonT (wTestI w) := fun env P Q q w => m _ _ _ (fun it e z => by
  split at z
  · exact q _ _ z
  · exact z) w
theorem testI {K : PySem.W.Frag} {w : WI} (m : MonI w) {σ : Sg} {H : Hp} {Q : Bool → Hp → Prop} (h : liftT K B (wTestI w) σ H Q) : liftI K B w σ H fun x H' => ∃ k, x = .bl k ∧ Q k H' := by
  obtain ⟨env, G, S, st, w⟩ := h
  refine ⟨env, G, S, st, m _ _ _ (fun it e1 w1 => ?_) w⟩
  intro v H1 G1 S1 G2 S2 st1 h1 sp1 p1
  split at w1
  · rename_i k
    cases h1 with
    | t o => exact ⟨k, own_bl o, w1 H1 G2 S2 st1 (item_less st1 p1)⟩
  · exact w1.elim
/-! ### comparisons, packed -/
structure CR (X : Cx) (op : CmpOp) (g : G2) : Prop where
  x : ∃ r, OpR X (compareOp op) r ∧ Br2 X.K g r
  m : Mon2 g
theorem cr_eq (hu : X.A.units + 64 < cLine) : CR X .Eq gEq := ⟨⟨_, op_eqP hu, br_eq⟩, fun _ _ _ _ h w => ⟨w.1, h _ w.2⟩⟩
theorem cr_ne (hu : X.A.units + 64 < cLine) : CR X .NotEq gNe := ⟨⟨_, op_neP hu, br_ne⟩, fun _ _ _ _ h w => ⟨w.1, h _ w.2⟩⟩
theorem cr_lt : CR X .Lt (gCmp fun i j => decide (i < j)) := ⟨⟨_, op_lt, br_cmp⟩, gCmp_mono⟩
theorem cr_le : CR X .LtE (gCmp fun i j => decide (i ≤ j)) := ⟨⟨_, op_le, br_cmp⟩, gCmp_mono⟩
theorem cr_gt : CR X .Gt (gCmp fun i j => decide (j < i)) := ⟨⟨_, op_gt, br_cmp⟩, gCmp_mono⟩
theorem cr_ge : CR X .GtE (gCmp fun i j => decide (j ≤ i)) := ⟨⟨_, op_ge, br_cmp⟩, gCmp_mono⟩
theorem cr_in (hu : X.A.units + 64 < cLine) : CR X .In (gIn false) := ⟨⟨_, op_inP hu, br_in⟩, gIn_mono⟩
theorem cr_notIn (hu : X.A.units + 64 < cLine) : CR X .NotIn (gIn true) := ⟨⟨_, op_notInP hu, br_in⟩, gIn_mono⟩
theorem br_isN {K : PySem.W.Frag} : Br2 K (gIsN false) fun x y H Q => y = .non ∧ Q (.bl (decide (x = .non))) H := fun x y H a b P Q ra rb w q => by
  unfold gIsN at w
  split at w
  · refine ⟨rb.non, q _ _ w ?_⟩
    rw [ra.isN]; simp only [Bool.false_bne]; exact .bl _
  · exact w.elim
theorem br_notN {K : PySem.W.Frag} : Br2 K (gIsN true) fun x y H Q => y = .non ∧ Q (.bl (!decide (x = .non))) H := fun x y H a b P Q ra rb w q => by
  unfold gIsN at w
  split at w
  · refine ⟨rb.non, q _ _ w ?_⟩
    rw [ra.isN]; simp only [Bool.true_bne]; exact .bl _
  · exact w.elim
theorem cr_isN : CR X .Is (gIsN false) := ⟨⟨_, op_isN, br_isN⟩, gIsN_mono⟩
theorem cr_notN : CR X .IsNot (gIsN true) := ⟨⟨_, op_notN, br_notN⟩, gIsN_mono⟩
theorem vi_c {op : CmpOp} {g : G2} (r : CR X op g) (ha : VI X B a wa) (hb : VI X B b wb) (hm : behindInMarks op b = false := by rfl) : VI X B (.Compare a [op] [b] pos) (wOp2 g wa wb) := by
  obtain ⟨⟨r, ho, br⟩, m⟩ := r
  exact vi_cmp ho br m hm ha hb
theorem vt_c {op : CmpOp} {g : G2} (r : CR X op g) (ha : VI X B a wa) (hb : VI X B b wb) (hm : behindInMarks op b = false := by rfl) : VT X B (.Compare a [op] [b] pos) (wTestI (wOp2 g wa wb)) := by
  obtain ⟨⟨r, ho, br⟩, m⟩ := r
  exact ⟨PT.weak (pt_cmpR ho ha.p hb.p hm) fun σ H Q h => op2 ha hb br (testI (wOp2_mono m ha.m hb.m) h), wTestI_mono (wOp2_mono m ha.m hb.m)⟩
/-- a < b < c -/
def wChain (g g' : G2) (wa wb wc : WI) : WI := fun env Q => wa env fun i1 e1 => wb e1 fun i2 e2 => match wVal i1 e2, wVal i2 e2 with
  | some d1, some d2 => g d1 d2 fun d => match d with
    | .bl b => Br b (wc e2 fun i3 e3 => match wVal i2 e3, wVal i3 e3 with
      | some d2, some d3 => g' d2 d3 fun d => Q (.t 9 d) e3
      | _, _ => False) (Q (.t 9 (.bl false)) e2)
    | _ => False
  | _, _ => False
theorem wChain_mono {g g' : G2} (mg : Mon2 g) (mg' : Mon2 g') (ma : MonI wa) (mb : MonI wb) (mc : MonI wc) : MonI (wChain g g' wa wb wc) := fun env P Q h w =>
  ma _ _ _ (fun i1 e1 z => mb _ _ _ (fun i2 e2 z' => by
    split at z'
    · refine mg _ _ _ _ (fun d q => ?_) z'
      split at q
      · refine q.mono (fun q => mc _ _ _ (fun i3 e3 y => ?_) q) fun q => h _ _ q
        split at y
        · exact mg' _ _ _ _ (fun d q => h _ _ q) y
        · exact y
      · exact q
    · exact z'.elim) z) w
theorem chainP {g g' : G2} {r r' : R2} (br : Br2 X.K g r) (br' : Br2 X.K g' r') (mg : Mon2 g) (mg' : Mon2 g') (ha : VI X B a wa) (hb : VI X B b wb) (hc : VI X B c wc) {σ : Sg} {H : Hp} {Q : VK} (h : liftI X.K B (wChain g g' wa wb wc) σ H Q) :
    tChain r r' (liftI X.K B wa) (liftI X.K B wb) (liftI X.K B wc) σ H Q := by
  obtain ⟨env, G, S, st, w⟩ := h
  refine ⟨env, G, S, st, ha.m _ _ _ (fun i1 e1 w1 => ?_) w⟩
  intro v H1 G1 S1 G2 S2 st1 h1 sp1 p1
  refine ⟨e1, G2, S2, st1, hb.m _ _ _ (fun i2 e2 w2 => ?_) w1⟩
  intro u H2 G3 S3 G4 S4 st2 h2 sp2 p2
  obtain ⟨a', sp, cc⟩ := seqP (env := e2) st1 h1 sp1 p1 sp2 p2
  split at w2
  · rename_i d1 d2 x1 x2
    refine br v u H2 d1 d2 _ _ (val_own st2.sl a' x1) (val_own st2.sl h2 x2) w2 fun y d q at9 => ?_
    split at q
    · rename_i bb
      cases at9
      cases bb with
      | false => exact ⟨false, rfl, wp_atom (.bl _) st2 cc (q.f rfl)⟩
      | true =>
      refine ⟨true, rfl, e2, G4, S4, st2, hc.m _ _ _ (fun i3 e3 w3 => ?_) (q.t rfl)⟩
      intro t H3 G5 S5 G6 S6 st3 h3 sp3 p3
      obtain ⟨b', _, c3⟩ := seqP (env := e3) st2 h2 sp2 (Stp.refl.trans (p2)) sp3 p3
      split at w3
      · rename_i d2' d3 y1 y2
        refine br' u t H3 d2' d3 _ Q (val_own st3.sl b' y1) (val_own st3.sl h3 y2) w3 fun y d q at9 => ?_
        refine wp_atom (A := []) (SA := []) at9 st3 ?_ q
        have c4 : Stp H1 G2 S2 H3 G6 S6 := item_less st3 c3
        exact (item_less st1 p1).trans c4
      · exact w3.elim
    · exact q.elim
  · exact w2.elim
theorem vi_chain {op op' : CmpOp} {g g' : G2} (r : CR X op g) (r' : CR X op' g') (ha : VI X B a wa) (hb : VI X B b wb) (hc : VI X B c wc) (hm : lastMarks [op, op'] [b, c] = false := by with_unfolding_all rfl) : VI X B (.Compare a [op, op'] [b, c] pos) (wChain g g' wa wb wc) := by
  obtain ⟨⟨r, ho, br⟩, m⟩ := r
  obtain ⟨⟨r', ho', br'⟩, m'⟩ := r'
  exact ⟨PE.weak (pe_chain ho ho' ha.p hb.p hc.p hm) fun σ H Q h => chainP br br' m m' ha hb hc h, wChain_mono m m' ha.m hb.m hc.m⟩
theorem vt_chain {op op' : CmpOp} {g g' : G2} (r : CR X op g) (r' : CR X op' g') (ha : VI X B a wa) (hb : VI X B b wb) (hc : VI X B c wc) (hm : lastMarks [op, op'] [b, c] = false := by with_unfolding_all rfl) : VT X B (.Compare a [op, op'] [b, c] pos) (wTestI (wChain g g' wa wb wc)) := by
  obtain ⟨⟨r, ho, br⟩, m⟩ := r
  obtain ⟨⟨r', ho', br'⟩, m'⟩ := r'
  exact ⟨PT.weak (pt_chain ho ho' ha.p hb.p hc.p hm) fun σ H Q h => chainP br br' m m' ha hb hc (testI (wChain_mono m m' ha.m hb.m hc.m) h), wTestI_mono (wChain_mono m m' ha.m hb.m hc.m)⟩
/-! ### and, or, not -/
structure VW (X : Cx) (B : Base) (e : Expr) (w : WT) : Prop where
  p : PW X e (liftT X.K B w)
  m : MonT w
variable {ta tb : WT} {rest : List Expr}
theorem VW.vt {e : Expr} (h : VW X B e ta) : VT X B e ta := ⟨h.p.pt, h.m⟩
def wAndT (ta tb : WT) : WT := fun env Q => ta env fun k e => Br k (tb e Q) (Q false e)
def wOrT (ta tb : WT) : WT := fun env Q => ta env fun k e => Br k (Q true e) (tb e Q)
def wNotT (ta : WT) : WT := fun env Q => ta env fun k e => Q (!k) e
theorem vw_and1 (ha : VT X B a ta) : VW X B (.BoolOp .And [a] pos) ta := ⟨pw_and1 ha.p, ha.m⟩
theorem vw_or1 (ha : VT X B a ta) : VW X B (.BoolOp .Or [a] pos) ta := ⟨pw_or1 ha.p, ha.m⟩
theorem thenT {K : PySem.W.Frag} {H : Hp} {G S : List Addr} {σ : Sg} {Q : Bool → Hp → Prop} {H1 : Hp} {G2 S2 : List Addr} {b : Bool} {e : Env} (p : Stp H G S H1 G2 S2) (w : PostT K B σ H G S Q b e) : PostT K B σ H1 G2 S2 Q b e :=
  fun H' G' S' st' p' => w H' G' S' st' (p.trans p')
theorem vw_and (ha : VT X B a ta) (hb : VW X B (.BoolOp .And (b :: rest) pos) tb) : VW X B (.BoolOp .And (a :: b :: rest) pos) (wAndT ta tb) := by
  refine ⟨PW.weak (pw_and ha.p hb.p) fun σ H Q ⟨env, G, S, st, w⟩ => ?_, fun env P Q q w => ha.m _ _ _ (fun k e z => ?_) w⟩
  · refine ⟨env, G, S, st, ha.m _ _ _ (fun k e1 w1 => ?_) w⟩
    intro H1 G2 S2 st1 p1
    cases k with
    | true => exact ⟨e1, G2, S2, st1, hb.m _ _ _ (fun _ _ z => thenT p1 z) (w1.t rfl)⟩
    | false => exact w1.f rfl H1 G2 S2 st1 p1
  · exact z.mono (fun z => hb.m _ _ _ q z) fun z => q _ _ z
theorem vw_or (ha : VT X B a ta) (hb : VW X B (.BoolOp .Or (b :: rest) pos) tb) : VW X B (.BoolOp .Or (a :: b :: rest) pos) (wOrT ta tb) := by
  refine ⟨PW.weak (pw_or ha.p hb.p) fun σ H Q ⟨env, G, S, st, w⟩ => ?_, fun env P Q q w => ha.m _ _ _ (fun k e z => ?_) w⟩
  · refine ⟨env, G, S, st, ha.m _ _ _ (fun k e1 w1 => ?_) w⟩
    intro H1 G2 S2 st1 p1
    cases k with
    | false => exact ⟨e1, G2, S2, st1, hb.m _ _ _ (fun _ _ z => thenT p1 z) (w1.f rfl)⟩
    | true => exact w1.t rfl H1 G2 S2 st1 p1
  · exact z.mono (fun z => q _ _ z) fun z => hb.m _ _ _ q z
theorem vt_not (ha : VT X B a ta) : VT X B (.UnaryOp .Not a pos) (wNotT ta) := by
  refine ⟨PT.weak (pt_not ha.p) fun σ H Q ⟨env, G, S, st, w⟩ => ?_, fun env P Q q w => ha.m _ _ _ (fun k e z => q _ _ z) w⟩
  exact ⟨env, G, S, st, w⟩
/-- as values -/
def wAndV (wa wb : WI) : WI := fun env Q => wa env fun it e => match wVal it e with
  | some d => truOk d ∧ Br (tru d) (wb e Q) (Q it e)
  | none => False
def wOrV (wa wb : WI) : WI := fun env Q => wa env fun it e => match wVal it e with
  | some d => truOk d ∧ Br (tru d) (Q it e) (wb e Q)
  | none => False
def wNotV (wa : WI) : WI := fun env Q => wa env fun it e => match wVal it e with
  | some d => truOk d ∧ Q (.t 9 (.bl (!tru d))) e
  | none => False
theorem thenI {K : PySem.W.Frag} {H : Hp} {G S : List Addr} {σ : Sg} {Q : VK} {H1 : Hp} {G2 S2 : List Addr} {b : Item} {e : Env} (p : Stp H G S H1 G2 S2) (w : PostI K B σ H G S Q b e) : PostI K B σ H1 G2 S2 Q b e :=
  fun v H' G1 S1 G' S' st' h sp p' => w v H' G1 S1 G' S' st' h sp (p.trans p')
theorem vi_one {op} {w : WI} (h : VI X B a w) : VI X B (.BoolOp op [a] pos) w := ⟨pe_one h.p, h.m⟩
theorem vi_and (ha : VI X B a wa) (hb : VI X B (.BoolOp .And (b :: rest) pos) wb) : VI X B (.BoolOp .And (a :: b :: rest) pos) (wAndV wa wb) := by
  refine ⟨PE.weak (pe_andT ha.p hb.p) fun σ H Q ⟨env, G, S, st, w⟩ => ?_, fun env P Q q w => ha.m _ _ _ (fun it e z => ?_) w⟩
  · refine ⟨env, G, S, st, ha.m _ _ _ (fun it e1 w1 => ?_) w⟩
    intro v H1 G1 S1 G2 S2 st1 h1 sp1 p1
    split at w1
    · rename_i d hd
      refine ⟨tru d, tru_own (val_own st1.sl h1 hd) w1.1, ?_⟩
      have w2 := w1.2
      cases htr : tru d with
      | true => exact ⟨e1, G2, S2, st1, hb.m _ _ _ (fun _ _ z => thenI (item_less st1 p1) z) (w2.t htr)⟩
      | false => exact w2.f htr v H1 G1 S1 G2 S2 st1 h1 sp1 p1
    · exact w1.elim
  · split at z
    · exact ⟨z.1, z.2.mono (fun z => hb.m _ _ _ q z) fun z => q _ _ z⟩
    · exact z
theorem vi_or (ha : VI X B a wa) (hb : VI X B (.BoolOp .Or (b :: rest) pos) wb) : VI X B (.BoolOp .Or (a :: b :: rest) pos) (wOrV wa wb) := by
  refine ⟨PE.weak (pe_orT ha.p hb.p) fun σ H Q ⟨env, G, S, st, w⟩ => ?_, fun env P Q q w => ha.m _ _ _ (fun it e z => ?_) w⟩
  · refine ⟨env, G, S, st, ha.m _ _ _ (fun it e1 w1 => ?_) w⟩
    intro v H1 G1 S1 G2 S2 st1 h1 sp1 p1
    split at w1
    · rename_i d hd
      refine ⟨tru d, tru_own (val_own st1.sl h1 hd) w1.1, ?_⟩
      have w2 := w1.2
      cases htr : tru d with
      | false => exact ⟨e1, G2, S2, st1, hb.m _ _ _ (fun _ _ z => thenI (item_less st1 p1) z) (w2.f htr)⟩
      | true => exact w2.t htr v H1 G1 S1 G2 S2 st1 h1 sp1 p1
    · exact w1.elim
  · split at z
    · exact ⟨z.1, z.2.mono (fun z => q _ _ z) fun z => hb.m _ _ _ q z⟩
    · exact z
theorem vi_not (ha : VI X B a wa) : VI X B (.UnaryOp .Not a pos) (wNotV wa) := by
  refine ⟨PE.weak (pe_notT ha.p) fun σ H Q ⟨env, G, S, st, w⟩ => ?_, fun env P Q q w => ha.m _ _ _ (fun it e z => ?_) w⟩
  · refine ⟨env, G, S, st, ha.m _ _ _ (fun it e1 w1 => ?_) w⟩
    intro v H1 G1 S1 G2 S2 st1 h1 sp1 p1
    split at w1
    · rename_i d hd
      exact ⟨tru d, tru_own (val_own st1.sl h1 hd) w1.1, wp_atom (.bl _) st1 p1 w1.2⟩
    · exact w1.elim
  · split at z
    · exact ⟨z.1, q _ _ z.2⟩
    · exact z
def wIf (t : WT) (wa wb : WI) : WI := fun env Q => t env fun k e => Br k (wa e Q) (wb e Q)
theorem vi_if (hc : VT X B c ta) (ha : VI X B a wa) (hb : VI X B b wb) : VI X B (.IfExp c a b pos) (wIf ta wa wb) := by
  refine ⟨PE.weak (pe_ifExp hc.p ha.p hb.p) fun σ H Q ⟨env, G, S, st, w⟩ => ?_, fun env P Q q w => hc.m _ _ _ (fun k e z => ?_) w⟩
  · refine ⟨env, G, S, st, hc.m _ _ _ (fun k e1 w1 => ?_) w⟩
    intro H1 G2 S2 st1 p1
    cases k with
    | true => exact ⟨e1, G2, S2, st1, ha.m _ _ _ (fun _ _ z => thenI p1 z) (w1.t rfl)⟩
    | false => exact ⟨e1, G2, S2, st1, hb.m _ _ _ (fun _ _ z => thenI p1 z) (w1.f rfl)⟩
  · exact z.mono (fun z => ha.m _ _ _ q z) fun z => hb.m _ _ _ q z
def wNeg (wa : WI) : WI := fun env Q => wa env fun it e => match wVal it e with
  | some (.int i) => Q (.t 9 (.int (-i))) e
  | _ => False
theorem vi_neg (ha : VI X B a wa) : VI X B (.UnaryOp .USub a pos) (wNeg wa) := by
  refine ⟨PE.weak (pe_un un_neg ha.p) fun σ H Q ⟨env, G, S, st, w⟩ => ?_, fun env P Q q w => ha.m _ _ _ (fun it e z => ?_) w⟩
  · refine ⟨env, G, S, st, ha.m _ _ _ (fun it e1 w1 => ?_) w⟩
    intro v H1 G1 S1 G2 S2 st1 h1 sp1 p1
    split at w1
    · rename_i i hd
      exact ⟨i, Rdb.int (val_own st1.sl h1 hd), wp_atom (.int _) st1 p1 w1⟩
    · exact w1.elim
  · split at z
    · exact q _ _ z
    · exact z
end
end Cr
set_option Elab.async false
set_option linter.all false
set_option maxRecDepth 100000
/-! * ; items, slices; calls of built-ins. -/
namespace Cr
open PySem PySem.Spec PyProof.Rows L2
theorem Owns.get {K : PySem.W.Frag} {H : Hp} {k : Nat} : ∀ {ds : List D} {vs : List V} {G S : List Addr} {i : Nat} {d : D}, Owns K H k vs ds G S → ds[i]? = some d → ∃ v G' S', vs[i]? = some v ∧ Own K H k v d G' S' ∧ G'.Sublist G ∧ (∀ a ∈ S', a ∈ S)
  | _, _, _, _, i, _, .nil, e => by simp at e
  | _, _, _, _, 0, d, .cons (G := G1) (S := S1) (G' := G2) (S' := S2) h t, e => by
    simp at e; subst e
    exact ⟨_, _, _, rfl, h, List.sublist_append_left _ _, fun a z => List.mem_append_left _ z⟩
  | _, _, _, _, i + 1, d, .cons (G := G1) (S := S1) (G' := G2) (S' := S2) h t, e => by
    obtain ⟨v, G', S', e1, o, s1, s2⟩ := Owns.get (i := i) t (by simpa using e)
    exact ⟨v, G', S', by simpa using e1, o, s1.trans (List.sublist_append_right _ _), fun a z => List.mem_append_right _ (s2 a z)⟩
theorem atI_map {α β : Type} {xs : List α} {ys : List β} (h : xs.length = ys.length) {i : Int} {v : α} (e : atI xs i = some v) : ∃ j, xs[j]? = some v ∧ atI ys i = ys[j]? ∧ j < ys.length := by
  unfold atI at *
  cases q : ixN xs.length i with
  | none => rw [q] at e; cases e
  | some j =>
    rw [q] at e
    rw [← h, q]
    have e' : xs[j]? = some v := e
    exact ⟨j, e', rfl, (List.getElem?_eq_some_iff.mp e').1⟩
theorem at9s_get : ∀ {ds : List D} {i : Nat} {d : D}, at9s ds = true → ds[i]? = some d → at9 d = true
  | [], _, _, _, e => by simp at e
  | d :: ds, 0, _, h, e => by simp at e; subst e; unfold at9s at h; simp at h; exact h.1
  | d :: ds, i + 1, _, h, e => by unfold at9s at h; simp at h; exact at9s_get h.2 (by simpa using e)
section
variable {X : Cx} {B : Base} {pos : Pos} {a b c : Expr} {wa wb wc : WI}
/-! ### xs[i] -/
/-- the item itself is given: a part of a temporary, or shared with a slot -/
def wOut (it : Item) (env : Env) (Q : Nat → Env → Prop) : Prop :=
  match it with
  | .t k d => wElems (.t k d) env fun _ k _ e' => Q k e'
  | .w i => match env[i]? with
    | some (some (k + 1, .lst ds)) => Q 0 (env.set i (some (1, .lst ds)))
    | _ => wElems (.w i) env fun _ k _ e' => Q k e'
theorem wOut_mono {it : Item} {env : Env} {P Q : Nat → Env → Prop} (h : ∀ k e, P k e → Q k e) (w : wOut it env P) : wOut it env Q := by
  unfold wOut at *
  split at w
  · exact wElems_mono (fun _ _ _ _ z => h _ _ z) w
  · split at w
    · exact h _ _ w
    · exact wElems_mono (fun _ _ _ _ z => h _ _ z) w
def wItem (it : Item) (i : Int) (env : Env) (Q : Item → Env → Prop) : Prop :=
  match wVal it env with
  | some (.str z) => fits z.length ∧ match atI z.cps.toList i with
    | some c => Q (.t 9 (.str ⟨#[c]⟩)) env
    | none => False
  | some d => match seqD d with
    | some (_, xs) => match atI xs i with
      | some y => Br (at9 y) (Q (.t 9 y) env) (wOut it env fun k e' => Q (.t k y) e')
      | none => False
    | none => False
  | none => False
def wIx (wa wb : WI) : WI := fun env Q => wa env fun i1 e1 => wb e1 fun i2 e2 => match wVal i2 e2 with
  | some (.int i) => wItem i1 i e2 Q
  | _ => False
theorem wItem_mono {it : Item} {i : Int} {env : Env} {P Q : Item → Env → Prop} (h : ∀ i e, P i e → Q i e) (w : wItem it i env P) : wItem it i env Q := by
  unfold wItem at *
  simp only [Br_if] at w ⊢
  split at w
  · refine ⟨w.1, ?_⟩
    have w2 := w.2
    split at w2
    · exact h _ _ w2
    · exact w2
  · split at w
    · split at w
      · split at w
        · rename_i h1; rw [if_pos h1]; exact h _ _ w
        · rename_i h1; rw [if_neg h1]; exact wOut_mono (fun _ _ z => h _ _ z) w
      · exact w
    · exact w
  · exact w
theorem wIx_mono (ma : MonI wa) (mb : MonI wb) : MonI (wIx wa wb) := fun env P Q h w =>
  ma _ _ _ (fun i1 e1 z => mb _ _ _ (fun i2 e2 z' => by
    split at z'
    · exact wItem_mono h z'
    · exact z') z) w
theorem elems_same {it : Item} {env : Env} {kd0 : Kd} {xs0 : List D} {d : D} {Q : Kd → Nat → List D → Env → Prop} (e : wVal it env = some d) (hs : seqD d = some (kd0, xs0)) (w : wElems it env Q) : wElems it env fun kd k xs e => (kd = kd0 ∧ xs = xs0) ∧ Q kd k xs e := by
  unfold wElems at *
  unfold wVal at e
  cases it with
  | t k d' =>
    simp only at w e ⊢
    cases e
    rw [hs] at w ⊢
    exact ⟨⟨rfl, rfl⟩, w⟩
  | w i =>
    simp only at w e ⊢
    split at e
    · rename_i k d' he
      cases e
      simp only [he, hs, Br_if, decide_eq_true_eq] at w ⊢
      split at w
      · rename_i h1; rw [if_pos h1]; exact ⟨⟨trivial, trivial⟩, w⟩
      · rename_i h1; rw [if_neg h1]
        split at w
        · rename_i h2; rw [if_pos h2]; exact ⟨⟨trivial, trivial⟩, w⟩
        · rename_i h2; rw [if_neg h2]; exact ⟨⟨trivial, trivial⟩, w⟩
    · cases e
theorem out_ok {K : PySem.W.Frag} {B : Base} {env : Env} {σ : Sg} {H : Hp} {G1 S1 G2 S2 : List Addr} {it : Item} {v : V} {kd : Kd} {xs : List D} {d : D} {Q : Nat → Env → Prop} (st : Sta K B env σ H G2 S2) (h : Hold K env σ H it v G1 S1) (sp : Sep G1 S1 G2 S2) (hd : wVal it env = some d) (hs : seqD d = some (kd, xs)) (w : wOut it env Q) :
    ∃ k env' a vs A SA G' S', Q k env' ∧ Sta K B env' σ H G' S' ∧ v = .ref a ∧ SeqV K H kd a vs ∧ Owns K H k vs xs A SA ∧ Sep A SA G' S' ∧ Stp H (G1 ++ G2) (S1 ++ S2) H (A ++ G') (SA ++ S') := by
  have old : (wElems it env fun _ k _ e' => Q k e') → ∃ k env' a vs A SA G' S', Q k env' ∧ Sta K B env' σ H G' S' ∧ v = .ref a ∧ SeqV K H kd a vs ∧ Owns K H k vs xs A SA ∧ Sep A SA G' S' ∧ Stp H (G1 ++ G2) (S1 ++ S2) H (A ++ G') (SA ++ S') := fun w => by
    obtain ⟨kd', k, xs', e5, a0, vs, A, SA, G', S', ⟨⟨rfl, rfl⟩, q⟩, r⟩ := elems_ok st h sp (elems_same hd hs w)
    exact ⟨k, e5, a0, vs, A, SA, G', S', q, r⟩
  unfold wOut at w
  cases h with
  | t o => exact old w
  | w hv =>
    rename_i i
    simp only at w
    split at w
    · rename_i k ds he
      unfold wVal at hd
      simp only [he] at hd
      cases hd
      cases hs
      obtain ⟨x, Ga, Gi, Gb, Sa, Si, Sb, r1, r2, r3, r4, r5⟩ := st.sl.at i he
      cases r4 with
      | som o =>
        rename_i v'
        rw [hv] at r1
        have ev : v = v' := by simpa using r1
        subst ev
        obtain ⟨G', S', o', lo⟩ := Own.lower _ (show 1 ≤ k + 1 by omega) o
        have nd := st.nd
        rw [r2] at nd
        have gdi : Gd Gi Si := ⟨(List.nodup_append.mp (List.nodup_append.mp nd).2.1).1, fun a z q => st.dj a (by rw [r3]; simp [z]) (by rw [r2]; simp [q])⟩
        have gdl := gdi.low lo
        cases o' with
        | own h1 h2 =>
          rename_i a vs Gl
          have g0 := Owns.g0 _ h2
          subst g0
          have hS : ∀ b ∈ S', b ∈ Si ∨ b ∈ Gi := fun b z => (lo.sh b z).imp id fun q => q.1
          have hG : ∀ b ∈ [a], b ∈ Gi := fun b z => lo.sub.subset z
          have nGi : ∀ b ∈ Gi, b ∉ Ga ∧ b ∉ Gb := fun b z => by
            rw [List.nodup_append] at nd
            exact ⟨fun q => nd.2.2 b q b (List.mem_append_left _ z) rfl, fun q => (List.nodup_append.mp nd.2.1).2.2 b z b q rfl⟩
          have nSi : ∀ b ∈ Si, b ∉ Ga ∧ b ∉ Gb := fun b z => ⟨fun q => st.dj b (by rw [r3]; simp [z]) (by rw [r2]; simp [q]), fun q => st.dj b (by rw [r3]; simp [z]) (by rw [r2]; simp [q])⟩
          have nS : ∀ b ∈ S', b ∉ Ga ∧ b ∉ Gb := fun b z => (hS b z).elim (nSi b) (nGi b)
          have sl' := r5 (F := []) (.som (.own h1 h2)) kp_refl mu_nil (fun _ _ => List.not_mem_nil)
          rw [set_self hv] at sl'
          have nd' : (Ga ++ ([a] ++ Gb)).Nodup := nd.sublist (List.Sublist.append (List.Sublist.refl _) (List.Sublist.append lo.sub (List.Sublist.refl _)))
          have sub2 : ∀ b ∈ Ga ++ ([a] ++ Gb), b ∈ G2 := fun b z => by
            rw [r2]
            rcases List.mem_append.mp z with z | z
            · exact List.mem_append_left _ z
            · rcases List.mem_append.mp z with z | z
              · exact List.mem_append_right _ (List.mem_append_left _ (hG b z))
              · exact List.mem_append_right _ (List.mem_append_right _ z)
          have dS : ∀ b ∈ S', b ∉ Ga ++ ([a] ++ Gb) := fun b z q => by
            rcases List.mem_append.mp q with q | q
            · exact (nS b z).1 q
            · rcases List.mem_append.mp q with q | q
              · exact gdl.dj b z q
              · exact (nS b z).2 q
          have dj' : ∀ b ∈ Sa ++ (S' ++ Sb), b ∉ Ga ++ ([a] ++ Gb) := fun b z q => by
            rcases List.mem_append.mp z with z | z
            · exact st.dj b (by rw [r3]; simp [z]) (sub2 b q)
            · rcases List.mem_append.mp z with z | z
              · exact dS b z q
              · exact st.dj b (by rw [r3]; simp [z]) (sub2 b q)
          have keyS : ∀ b ∈ S', b ∈ S2 ∨ b ∈ G2 := fun b z => (hS b z).imp (fun z => by rw [r3]; simp [z]) fun z => by rw [r2]; simp [z]
          have stp : Stp H ([] ++ G2) ([] ++ S2) H ([] ++ (Ga ++ ([a] ++ Gb))) (S' ++ (Sa ++ (S' ++ Sb))) := by
            refine ⟨kp_refl, fun b z => .inl (sub2 b z), fun b z => ?_⟩
            rcases List.mem_append.mp z with z | z
            · exact (keyS b z).imp id .inl
            · rcases List.mem_append.mp z with z | z
              · exact .inl (show b ∈ S2 by rw [r3]; simp [z])
              · rcases List.mem_append.mp z with z | z
                · exact (keyS b z).imp id .inl
                · exact .inl (show b ∈ S2 by rw [r3]; simp [z])
          refine ⟨0, _, a, vs, [], S', _, _, w, ⟨sl', nd', dj', st.st.trans ⟨kp_refl, fun b z => .inl (sub2 b z), fun b z => stp.ss b (List.mem_append_right _ z)⟩, st.pr⟩, rfl, h1, h2, Sep.nil nd' dS, stp⟩
    · exact old w
theorem vi_ix (ha : VI X B a wa) (hb : VI X B b wb) (hs : PlainIx b := by exact fun _ _ => rfl) : VI X B (.Subscript a b pos) (wIx wa wb) := by
  refine ⟨PE.weak (pe_ix ix_seq ha.p hb.p hs) fun σ H Q ⟨env, G, S, st, w⟩ => ?_, wIx_mono ha.m hb.m⟩
  refine ⟨env, G, S, st, ha.m _ _ _ (fun i1 e1 w1 => ?_) w⟩
  intro v H1 G1 S1 G2 S2 st1 h1 sp1 p1
  refine ⟨e1, G2, S2, st1, hb.m _ _ _ (fun i2 e2 w2 => ?_) w1⟩
  intro u H2 G3 S3 G4 S4 st2 h2 sp2 p2
  obtain ⟨a', sp, cc⟩ := seqP (env := e2) st1 h1 sp1 p1 sp2 p2
  split at w2
  · rename_i i hi
    have ei : u = .int i := Rdb.int (val_own st2.sl h2 hi)
    subst ei
    unfold wItem at w2
    simp only [Br_if] at w2
    split at w2
    · rename_i z hz
      have ev : v = .str z := Rdb.str (val_own st2.sl a' hz)
      subst ev
      have w3 := w2.2
      split at w3
      · rename_i ch hc
        exact .inr (.inr ⟨z, i, ch, rfl, rfl, w2.1, hc, wp_atom (.str _) st2 cc w3⟩)
      · exact w3.elim
    · rename_i d hnd hd
      split at w2
      · rename_i kd xs hs
        split at w2
        · rename_i y hy
          -- the V of the item
          split at w2
          · rename_i h9
            obtain ⟨a0, vs, k, A, SA, rfl, sv, os⟩ := Rdb.seq (val_own st2.sl a' hd) hs
            obtain ⟨j, e1, e2', lt⟩ := atI_map (Owns.len os).symm hy
            obtain ⟨x, A', SA', e3, o, _, _⟩ := Owns.get os e1
            obtain ⟨_, _, r⟩ := Own.at9 _ h9 o
            have fin : Q x H2 := w2 x H2 [] [] G4 S4 st2 (.t (r 9)) (Sep.nn st2.nd) (item_less st2 cc)
            have e4 : atI vs i = some x := by rw [e2', e3]
            cases kd with
            | l => exact .inl ⟨a0, vs, i, x, rfl, rfl, SqL.of sv, e4, fin⟩
            | t => exact .inr (.inl ⟨a0, vs, i, x, rfl, rfl, sv, e4, fin⟩)
            | f => exact .inl ⟨a0, vs, i, x, rfl, rfl, Fz.sq sv, e4, fin⟩
          · have h1' : Hold X.K e2 σ H2 i1 v G1 S1 := a'
            have sp' : Sep G1 S1 G4 S4 := Sep.of sp.gd.l sp.n2 sp.ap.l
            obtain ⟨k, e5, a0, vs, A, SA, G', S', q, st5, rfl, sv, os, sp5, p5⟩ := out_ok st2 h1' sp' hd hs w2
            obtain ⟨j, e1, e2', lt⟩ := atI_map (Owns.len os).symm hy
            obtain ⟨x, A', SA', e3, o, sub, ssub⟩ := Owns.get os e1
            have e4 : atI vs i = some x := by rw [e2', e3]
            have lo : Low A SA A' SA' := ⟨sub, fun a z => .inl (ssub a z)⟩
            have cc' : Stp H G S H2 (G1 ++ G4) (S1 ++ S4) := cc.less (fun a z => by simp at z ⊢; rcases z with z | z <;> simp [z]) fun a z => by simp at z ⊢; rcases z with z | z <;> simp [z]
            have fin : Q x H2 := q x H2 A' SA' G' S' st5 (.t o) (Sep.of (sp5.gd.low lo) st5.nd (sp5.ap.low lo)) ((cc'.trans p5).low lo)
            cases kd with
            | l => exact .inl ⟨a0, vs, i, x, rfl, rfl, SqL.of sv, e4, fin⟩
            | t => exact .inr (.inl ⟨a0, vs, i, x, rfl, rfl, sv, e4, fin⟩)
            | f => exact .inl ⟨a0, vs, i, x, rfl, rfl, Fz.sq sv, e4, fin⟩
        · exact w2.elim
      · exact w2.elim
    · exact w2.elim
  · exact w2.elim
/-! ### slices -/
def cutL {α : Type} (xs : List α) (lo hi : Option Int) : List α := (xs.drop (HT.sIx xs.length 0 lo)).take (HT.sIx xs.length xs.length hi - HT.sIx xs.length 0 lo)
theorem Owns.drop {K : PySem.W.Frag} {H : Hp} {k : Nat} : ∀ {ds : List D} {vs : List V} {G S : List Addr} (n : Nat), Owns K H k vs ds G S → ∃ G' S', Owns K H k (vs.drop n) (ds.drop n) G' S' ∧ G'.Sublist G ∧ (∀ a ∈ S', a ∈ S)
  | _, _, _, _, 0, h => ⟨_, _, h, List.Sublist.refl _, fun _ z => z⟩
  | _, _, _, _, n + 1, .nil => ⟨_, _, .nil, List.Sublist.refl _, fun _ z => z⟩
  | _, _, _, _, n + 1, .cons h t => by
    obtain ⟨G', S', o, s1, s2⟩ := Owns.drop n t
    exact ⟨G', S', o, s1.trans (List.sublist_append_right _ _), fun a z => List.mem_append_right _ (s2 a z)⟩
theorem Owns.take {K : PySem.W.Frag} {H : Hp} {k : Nat} : ∀ {ds : List D} {vs : List V} {G S : List Addr} (n : Nat), Owns K H k vs ds G S → ∃ G' S', Owns K H k (vs.take n) (ds.take n) G' S' ∧ G'.Sublist G ∧ (∀ a ∈ S', a ∈ S)
  | _, _, _, _, 0, h => ⟨[], [], by rw [List.take_zero, List.take_zero]; exact .nil, List.nil_sublist _, fun _ z => absurd z List.not_mem_nil⟩
  | _, _, _, _, n + 1, .nil => ⟨_, _, .nil, List.Sublist.refl _, fun _ z => z⟩
  | _, _, _, _, n + 1, .cons h t => by
    obtain ⟨G', S', o, s1, s2⟩ := Owns.take n t
    exact ⟨_, _, .cons h o, (List.Sublist.refl _).append s1, fun a z => (List.mem_append.mp z).elim (fun q => List.mem_append_left _ q) fun q => List.mem_append_right _ (s2 a q)⟩
theorem Owns.cut {K : PySem.W.Frag} {H : Hp} {k : Nat} {ds : List D} {vs : List V} {G S : List Addr} (lo hi : Option Int) (h : Owns K H k vs ds G S) : ∃ G' S', Owns K H k (cutV vs lo hi) (cutL ds lo hi) G' S' ∧ Low G S G' S' := by
  unfold cutV cutL
  rw [Owns.len h]
  obtain ⟨G1, S1, o1, a1, b1⟩ := Owns.drop (HT.sIx ds.length 0 lo) h
  obtain ⟨G2, S2, o2, a2, b2⟩ := Owns.take (HT.sIx ds.length ds.length hi - HT.sIx ds.length 0 lo) o1
  exact ⟨G2, S2, o2, a2.trans a1, fun a z => .inl (b1 a (b2 a z))⟩
abbrev WO := Env → (Option Int → Env → Prop) → Prop
def PostO (K : PySem.W.Frag) (B : Base) (σ : Sg) (H : Hp) (G S : List Addr) (Q : Option Int → Hp → Prop) (b : Option Int) (env' : Env) : Prop :=
  ∀ H' G2 S2, Sta K B env' σ H' G2 S2 → Stp H G S H' G2 S2 → Q b H'
def liftO (K : PySem.W.Frag) (B : Base) (w : WO) : TO := fun σ H Q => ∃ env G S, Sta K B env σ H G S ∧ w env (PostO K B σ H G S Q)
structure VO (X : Cx) (B : Base) (e : Option Expr) (w : WO) : Prop where
  p : PO X e (liftO X.K B w)
  m : ∀ env P Q, (∀ i e, P i e → Q i e) → w env P → w env Q
def wNoP : WO := fun env Q => Q none env
def wSoP (w : WI) : WO := fun env Q => w env fun it e => match wVal it e with
  | some (.int i) => Q (some i) e
  | _ => False
theorem PO.weak {X : Cx} {e : Option Expr} {t t' : TO} (h : PO X e t) (q : ∀ σ H Q, t' σ H Q → t σ H Q) : PO X e t' := ⟨fun pins s σ H Q I w => h.run pins s σ H Q I (q _ _ _ w)⟩
theorem vo_none : VO X B none wNoP := ⟨PO.weak po_none fun σ H Q ⟨env, G, S, st, w⟩ => w H G S st Stp.refl, fun env P Q q w => q _ _ w⟩
theorem vo_some (ha : VI X B a wa) : VO X B (some a) (wSoP wa) := by
  refine ⟨PO.weak (po_some ha.p) fun σ H Q ⟨env, G, S, st, w⟩ => ?_, fun env P Q q w => ha.m _ _ _ (fun it e z => ?_) w⟩
  · refine ⟨env, G, S, st, ha.m _ _ _ (fun it e1 w1 => ?_) w⟩
    intro v H1 G1 S1 G2 S2 st1 h1 sp1 p1
    split at w1
    · rename_i i hd
      exact ⟨i, Rdb.int (val_own st1.sl h1 hd), w1 H1 G2 S2 st1 (item_less st1 p1)⟩
    · exact w1.elim
  · split at z
    · exact q _ _ z
    · exact z
/-- xs[lo:hi] -/
def wSlice (wa : WI) (wl wh : WO) : WI := fun env Q => wa env fun i1 e1 => wl e1 fun lo e2 => wh e2 fun hi e3 => match wVal i1 e3 with
  | some (.str z) => fits z.length ∧ Q (.t 9 (.str (cutS z lo hi))) e3
  | _ => wElems i1 e3 fun kd k xs e4 => match kd with
    | .t => Q (.t k (.tup (cutL xs lo hi))) e4
    | _ => Q (.t (k + 1) (.lst (cutL xs lo hi))) e4
def rSlAll (K : PySem.W.Frag) : V → Option Int → Option Int → Hp → VK → Prop := fun x lo hi H Q => rSlL K x lo hi H Q ∨ rSlA K x lo hi H Q ∨ rSlS x lo hi H Q
theorem sl_all : SlR X (rSlAll X.K) := SlR.or sl_list (SlR.or sl_tupA sl_str)
theorem cutL_whole {α : Type} {xs : List α} {lo hi : Option Int} (h : HT.sIx xs.length 0 lo = 0 ∧ HT.sIx xs.length xs.length hi = xs.length) : cutL xs lo hi = xs := by
  unfold cutL
  rw [h.1, h.2]
  simp
theorem vi_slice {lo hi : Option Expr} {wl wh : WO} {p2 : Pos} (ha : VI X B a wa) (hl : VO X B lo wl) (hh : VO X B hi wh) : VI X B (.Subscript a (.Slice lo hi none p2) pos) (wSlice wa wl wh) := by
  refine ⟨PE.weak (pe_slice sl_all ha.p hl.p hh.p) fun σ H Q ⟨env, G, S, st, w⟩ => ?_, fun env P Q q w => ha.m _ _ _ (fun i1 e1 z => hl.m _ _ _ (fun lo e2 z => hh.m _ _ _ (fun hi e3 z => ?_) z) z) w⟩
  · refine ⟨env, G, S, st, ha.m _ _ _ (fun i1 e1 w1 => ?_) w⟩
    intro v H1 G1 S1 G2 S2 st1 h1 sp1 p1
    refine ⟨e1, G2, S2, st1, hl.m _ _ _ (fun lo e2 w2 => ?_) w1⟩
    intro H2 G3 S3 st2 p2
    refine ⟨e2, G3, S3, st2, hh.m _ _ _ (fun hi e3 w3 => ?_) w2⟩
    intro H3 G4 S4 st3 p3
    have p23 : Stp H1 G2 S2 H3 ([] ++ G4) ([] ++ S4) := p2.trans p3
    obtain ⟨a', sp, cc⟩ := seqP (env := e3) (G3 := []) (S3 := []) st1 h1 sp1 p1 (Sep.nn st3.nd) p23
    rw [List.append_nil, List.append_nil] at sp cc
    split at w3
    · rename_i z hz
      have ev : v = .str z := Rdb.str (val_own st3.sl a' hz)
      subst ev
      exact .inr (.inr ⟨z, rfl, w3.1, wp_atom (.str _) st3 cc w3.2⟩)
    · obtain ⟨kd, k, xs, e5, a0, vs, A, SA, G', S', q, st5, rfl, sv, os, sp5, p5⟩ := elems_ok st3 a' sp w3
      obtain ⟨A', SA', o', lw⟩ := Owns.cut lo hi os
      have sp6 := Sep.of (sp5.gd.low lw) st5.nd (sp5.ap.low lw)
      have p6 := (cc.trans p5).low lw
      cases kd with
      | l => exact .inl ⟨a0, vs, rfl, SqL.of sv, fun r hr => new_lst st5 o' sp6 p6 q hr⟩
      | f => exact .inl ⟨a0, vs, rfl, Fz.sq sv, fun r hr => new_lst st5 o' sp6 p6 q hr⟩
      | t =>
        refine .inr (.inl ⟨a0, vs, rfl, sv, fun hw => ?_, fun hw r hr => new_tup st5 o' sp6 p6 q hr⟩)
        rw [Owns.len os] at hw
        have q' : PostI X.K B σ H G S Q (.t k (.tup (cutL xs lo hi))) e5 := q
        rw [cutL_whole hw] at q'
        exact q' _ H3 A SA G' S' st5 (.t (.tup sv os)) sp5 (cc.trans p5)
  · split at z
    · exact ⟨z.1, q _ _ z.2⟩
    · refine wElems_mono (fun kd k xs e4 z => ?_) z
      split at z
      · exact q _ _ z
      · exact q _ _ z
/-! ### a * b -/
def repD (n : Int) (xs : List D) : List D := (List.replicate n.toNat xs).flatten
def wMul (wa wb : WI) : WI := fun env Q => wa env fun i1 e1 => wb e1 fun i2 e2 => match wVal i1 e2, wVal i2 e2 with
  | some (.int i), some (.int j) => i.natAbs.log2 + j.natAbs.log2 < 100000000 ∧ Q (.t 9 (.int (i * j))) e2
  | some (.lst _), some (.int n) => wElems i1 e2 fun kd k xs e3 => kd = .l ∧ (-(2 ^ 63) ≤ n ∧ n < 2 ^ 63) ∧ fits (xs.length * n.toNat) ∧ Q (.t (if at9s xs = true then 9 else 1) (.lst (repD n xs))) e3
  | _, _ => False
theorem Owns.rep9 {K : PySem.W.Frag} {H : Hp} {k : Nat} {ds : List D} {vs : List V} (h : Owns K H k vs ds [] []) : ∀ n : Nat, Owns K H k (List.replicate n vs).flatten (List.replicate n ds).flatten [] []
  | 0 => .nil
  | n + 1 => by
    have := h.append (Owns.rep9 h n)
    exact this
theorem Owns.rep {K : PySem.W.Frag} {H : Hp} {ds : List D} {vs : List V} {S : List Addr} (h : Owns K H 0 vs ds [] S) : ∀ n : Nat, ∃ S', Owns K H 0 (List.replicate n vs).flatten (List.replicate n ds).flatten [] S' ∧ ∀ a ∈ S', a ∈ S
  | 0 => ⟨[], .nil, fun a z => by cases z⟩
  | n + 1 => by
    obtain ⟨S', o, q⟩ := Owns.rep h n
    have := h.append o
    exact ⟨_, this, fun a z => (List.mem_append.mp z).elim id (q a)⟩
/-- * of two factors of together less than a hundred million bits -/
def CMulX (i j : Int) : Prop := i.natAbs.log2 + j.natAbs.log2 < 100000000
theorem CMulX.ok {i j : Int} (h : CMulX i j) : IntMulOk i j := by
  have bits : ∀ x : Int, Builtin.Int.intBits x ≤ x.natAbs.log2 + 1 := fun x => by
    unfold Builtin.Int.intBits
    split <;> omega
  have bi := bits i
  have bj := bits j
  have lim : bitsLine = 134217728 := by decide
  have hh : i.natAbs.log2 + j.natAbs.log2 < 100000000 := h
  unfold IntMulOk
  intro z
  rw [Bool.and_eq_true] at z
  have big := z.2
  unfold Builtin.Int.intTooBig at big
  have big := of_decide_eq_true big
  rw [lim] at big
  omega
theorem op_mulX : OpR X (binaryOp .Mult) (rI CMulX fun i j => .int (i * j)) := opI fun _ _ _ _ _ _ _ hc q => mul_int q hc.ok
def rMulAll : R2 := fun x y H Q => rI CMulX (fun i j => .int (i * j)) x y H Q ∨ rRep x y H Q
theorem op_mulAll : OpR X (binaryOp .Mult) rMulAll := OpR.or op_mulX op_rep
theorem vi_mul (ha : VI X B a wa) (hb : VI X B b wb) : VI X B (.BinOp a .Mult b pos) (wMul wa wb) := by
  refine ⟨PE.weak (pe_op op_mulAll ha.p hb.p) fun σ H Q ⟨env, G, S, st, w⟩ => ?_, fun env P Q q w => ha.m _ _ _ (fun i1 e1 z => hb.m _ _ _ (fun i2 e2 z => ?_) z) w⟩
  · refine ⟨env, G, S, st, ha.m _ _ _ (fun i1 e1 w1 => ?_) w⟩
    intro v H1 G1 S1 G2 S2 st1 h1 sp1 p1
    refine ⟨e1, G2, S2, st1, hb.m _ _ _ (fun i2 e2 w2 => ?_) w1⟩
    intro u H2 G3 S3 G4 S4 st2 h2 sp2 p2
    obtain ⟨a', sp, cc⟩ := seqP (env := e2) st1 h1 sp1 p1 sp2 p2
    split at w2
    · rename_i i j x1 x2
      exact .inl ⟨i, j, Rdb.int (val_own st2.sl a' x1), Rdb.int (val_own st2.sl h2 x2), w2.1, wp_atom (.int _) st2 cc w2.2⟩
    · rename_i xs0 n x1 x2
      have eu : u = .int n := Rdb.int (val_own st2.sl h2 x2)
      subst eu
      have sp' : Sep G1 S1 G4 S4 := Sep.of sp.gd.l sp.n2 sp.ap.l
      obtain ⟨kd, k, xs, e5, a0, vs, A, SA, G', S', ⟨rfl, hb, f, q⟩, st5, rfl, sv, os, sp5, p5⟩ := elems_ok st2 a' sp' w2
      have cc' : Stp H G S H2 (G1 ++ G4) (S1 ++ S4) := cc.less (fun a z => by simp at z ⊢; rcases z with z | z <;> simp [z]) fun a z => by simp at z ⊢; rcases z with z | z <;> simp [z]
      refine .inr ⟨a0, n, vs, rfl, rfl, sv, hb.1, hb.2, by rw [Owns.len os]; exact f, fun r hr => ?_⟩
      split at q
      · rename_i h9
        obtain ⟨_, _, o9⟩ := Owns.at9 _ h9 os
        exact new_lst st5 (Owns.rep9 (o9 8) n.toNat) (Sep.nn st5.nd) (item_less st5 (cc'.trans p5)) q hr
      · obtain ⟨A', SA', o', lw⟩ := Owns.lowT os (Nat.zero_le k)
        have g0 := Owns.g0 _ o'
        subst g0
        obtain ⟨S'', o'', sub⟩ := Owns.rep o' n.toNat
        have lw2 : Low A SA [] S'' := ⟨lw.sub, fun a z => lw.sh a (sub a z)⟩
        exact new_lst st5 o'' (Sep.of (sp5.gd.low lw2) st5.nd (sp5.ap.low lw2)) ((cc'.trans p5).low lw2) q hr
    · exact w2.elim
  · split at z
    · exact ⟨z.1, q _ _ z.2⟩
    · exact wElems_mono (fun kd k xs e z => ⟨z.1, z.2.1, z.2.2.1, q _ _ z.2.2.2⟩) z
    · exact z
end
end Cr
set_option Elab.async false
set_option linter.all false
set_option maxRecDepth 100000
/-! Calls of built-ins. -/
namespace Cr
open PySem PySem.Spec PyProof.Rows L2
def wVals : List Item → Env → Option (List D)
  | [], _ => some []
  | it :: is, env => match wVal it env, wVals is env with
    | some d, some ds => some (d :: ds)
    | _, _ => none
inductive RdbAll (K : PySem.W.Frag) (H : Hp) : List V → List D → Prop
  | nil : RdbAll K H [] []
  | cons {v d vs ds} : Rdb K H v d → RdbAll K H vs ds → RdbAll K H (v :: vs) (d :: ds)
theorem vals_own {K : PySem.W.Frag} {env : Env} {σ : Sg} {H : Hp} {G S : List Addr} (st : Slots K H env σ G S) : ∀ {is : List Item} {vs : List V} {ds : List D} {G1 S1 : List Addr}, Holds K env σ H is vs G1 S1 → wVals is env = some ds → RdbAll K H vs ds
  | _, _, _, _, _, .nil, e => by cases e; exact .nil
  | _, _, _, _, _, .cons h t, e => by
    unfold wVals at e
    split at e
    · rename_i d ds h1 h2
      cases e
      exact .cons (val_own st h h1) (vals_own st t h2)
    · cases e
abbrev GN := List D → (D → Prop) → Prop
def BrN (K : PySem.W.Frag) (g : GN) (r : List V → Hp → VK → Prop) : Prop := ∀ vs H ds (P : D → Prop) (Q : VK), RdbAll K H vs ds → g ds P → (∀ v d, P d → Atom v d → Q v H) → r vs H Q
def MonN (g : GN) : Prop := ∀ ds P Q, (∀ d, P d → Q d) → g ds P → g ds Q
def wFn (g : GN) (wa : WA) : WI := fun env Q => wa env fun is e => match wVals is e with
  | some ds => g ds fun d => Q (.t 9 d) e
  | none => False
section
variable {X : Cx} {B : Base} {pos p : Pos} {x : Str} {e : Expr} {es : List Expr} {wa : WA} {g : GN} {r : List V → Hp → VK → Prop}
theorem fn_mono (mg : MonN g) (ma : MonA wa) : MonI (wFn g wa) := fun env P Q q w => ma _ _ _ (fun is e z => by
  split at z
  · exact mg _ _ _ (fun d y => q _ _ y) z
  · exact z) w
theorem fnP (br : BrN X.K g r) (ha : VA X B (e :: es) wa) {σ : Sg} {H : Hp} {Q : VK} (h : liftI X.K B (wFn g wa) σ H Q) : tCB r (liftA X.K B wa) σ H Q := by
  obtain ⟨env, G, S, st, w⟩ := h
  refine ⟨env, G, S, st, ha.m _ _ _ (fun is e1 w1 => ?_) w⟩
  intro vs H1 G1 S1 G2 S2 st1 h1 sp1 p1
  split at w1
  · rename_i ds hd
    exact br vs H1 ds _ Q (vals_own st1.sl h1 hd) w1 fun v d q a => wp_atom a st1 p1 q
  · exact w1.elim
structure FB (X : Cx) (x : Str) (g : GN) : Prop where
  ex : ∃ (id : String) (r : List V → Hp → VK → Prop), CallR X (.builtin id) r ∧ BrN X.K g r ∧ bootBuiltins x = some (.builtin id)
  m : MonN g
  n : x ≠ "__name__"
  d : (x == ("__debug__" : Str)) = false
structure FT (X : Cx) (x : Str) (g : GN) : Prop where
  ex : ∃ (T : String) (r : List V → Hp → VK → Prop), CallR X (.type T) r ∧ BrN X.K g r ∧ bootBuiltins x = some (.type T)
  m : MonN g
  n : x ≠ "__name__"
  d : (x == ("__debug__" : Str)) = false
theorem vi_fb (F : FB X x g) (hm : X.mg x = none) (ha : VA X B (e :: es) wa) (hg : Gl X x := by rfl)
    (he : starEach (e :: es) X.env = (false, eval e X.env) :: starEach es X.env := by rfl) (hpl : (backTo pos (starEach es X.env)).any (·.1) = false := by rfl) : VI X B (.Call (.Name x p) (e :: es) [] pos) (wFn g wa) := by
  obtain ⟨id, r, hc, br, hv⟩ := F.ex
  exact ⟨PE.weak (pe_callB hc hg hm hv ha.p F.n F.d he hpl) fun σ H Q h => fnP br ha h, fn_mono F.m ha.m⟩
theorem vi_ft (F : FT X x g) (hm : X.mg x = none) (ha : VA X B (e :: es) wa) (hg : Gl X x := by rfl)
    (he : starEach (e :: es) X.env = (false, eval e X.env) :: starEach es X.env := by rfl) (hpl : (backTo pos (starEach es X.env)).any (·.1) = false := by rfl) : VI X B (.Call (.Name x p) (e :: es) [] pos) (wFn g wa) := by
  obtain ⟨id, r, hc, br, hv⟩ := F.ex
  exact ⟨PE.weak (pe_callTy hc hg hm hv ha.p F.n F.d he hpl) fun σ H Q h => fnP br ha h, fn_mono F.m ha.m⟩
/-! ### the functions -/
def gLen : GN := fun ds P => match ds with
  | [.str z] => fits z.length ∧ P (.int z.length)
  | [.lst xs] => P (.int xs.length)
  | [.tup xs] => P (.int xs.length)
  | [.fl xs] => P (.int xs.length)
  | _ => False
theorem fb_len : FB X "len" gLen := by
  refine ⟨⟨"len", _, CallR.or call_len_seq call_len_str, ?_, PySem.boot_len⟩, ?_, by decide, by decide⟩
  · intro vs H ds P Q rd gg q
    unfold gLen at gg
    split at gg
    · cases rd with
      | cons h t =>
        cases t
        exact .inr ⟨_, by rw [h.str], gg.1, q _ _ gg.2 (.int _)⟩
    all_goals first
      | exact gg.elim
      | (cases rd with
        | cons h t =>
          cases t
          obtain ⟨a, us, k, G, S, rfl, sv, os⟩ := Rdb.seq h rfl
          exact .inl ⟨a, us, rfl, SeqV.sq sv, by rw [Owns.len os]; exact q _ _ gg (.int _)⟩)
  · intro ds P Q q w
    unfold gLen at *
    split at w
    · exact ⟨w.1, q _ w.2⟩
    all_goals first | exact q _ w | exact w
def gAbs : GN := fun ds P => match ds with
  | [.int i] => P (.int i.natAbs)
  | _ => False
theorem abs_eq (i : Int) : (if i < 0 then -i else i) = (i.natAbs : Int) := by split <;> omega
theorem fb_abs : FB X "abs" gAbs := by
  refine ⟨⟨"abs", _, call_abs, ?_, PyProof.Rows.boot_abs⟩, ?_, by decide, by decide⟩
  · intro vs H ds P Q rd gg q
    unfold gAbs at gg
    split at gg
    · cases rd with
      | cons h t => cases t; exact ⟨_, by rw [h.int], by rw [abs_eq]; exact q _ _ gg (.int _)⟩
    · exact gg.elim
  · intro ds P Q q w
    unfold gAbs at *
    split at w
    · exact q _ w
    · exact w
def gInt1 : GN := fun ds P => match ds with
  | [.int i] => P (.int i)
  | [.bl b] => P (.int (if b = true then 1 else 0))
  | _ => False
theorem ft_int : FT X "int" gInt1 := by
  refine ⟨⟨"int", _, call_int1, ?_, PyProof.Rows.boot_int⟩, ?_, by decide, by decide⟩
  · intro vs H ds P Q rd gg q
    unfold gInt1 at gg
    split at gg
    · cases rd with
      | cons h t => cases t; exact .inl ⟨_, by rw [h.int], q _ _ gg (.int _)⟩
    · cases rd with
      | cons h t => cases t; exact .inr ⟨_, by rw [h.bl], q _ _ gg (.int _)⟩
    · exact gg.elim
  · intro ds P Q q w
    unfold gInt1 at *
    split at w
    · exact q _ w
    · exact q _ w
    · exact w
def gStr1 : GN := fun ds P => match ds with
  | [.int i] => i.natAbs.log2 < 1920 ∧ P (.str (toString i))
  | _ => False
theorem ft_str : FT X "str" gStr1 := by
  refine ⟨⟨"str", _, call_str_int, ?_, PyProof.Rows.boot_str⟩, ?_, by decide, by decide⟩
  · intro vs H ds P Q rd gg q
    unfold gStr1 at gg
    split at gg
    · cases rd with
      | cons h t => cases t; exact ⟨_, by rw [h.int], gg.1, q _ _ gg.2 (.str _)⟩
    · exact gg.elim
  · intro ds P Q q w
    unfold gStr1 at *
    split at w
    · exact ⟨w.1, q _ w.2⟩
    · exact w
/-! all, any -/
theorem py_truthy (d : D) : (py d).truthy = tru d := by
  cases d <;> first | rfl | (rename_i xs; cases xs <;> rfl)
theorem pys_len : ∀ xs : List D, (pys xs).length = xs.length
  | [] => rfl
  | _ :: ds => by rw [pys, List.length_cons, List.length_cons, pys_len ds]
theorem truthies : ∀ xs : List D, (pys xs).all PyData.truthy = xs.all tru
  | [] => rfl
  | d :: ds => by rw [pys, List.all_cons, List.all_cons, py_truthy, truthies ds]
theorem truthies_any (xs : List D) : (pys xs).any PyData.truthy = xs.any tru := by
  rw [pys_any]
  congr 1
  funext d
  exact py_truthy d
/-- each length is small -/
def sz63 : D → Prop
  | .str x => (x.length : Int) < 2 ^ 63
  | .tup xs => (xs.length : Int) < 2 ^ 63
  | .lst xs => (xs.length : Int) < 2 ^ 63
  | .fl xs => (xs.length : Int) < 2 ^ 63
  | _ => True
theorem py_63 {d : D} (h : sz63 d) : (py d).fits63 := by
  cases d with
  | non => trivial
  | bl _ => trivial
  | int _ => trivial
  | str x => exact h
  | tup xs => rw [py, PyData.fits63, pys_len]; exact h
  | lst xs => rw [py, PyData.fits63, pys_len]; exact h
  | fl xs => rw [py, PyData.fits63, pys_len]; exact h
theorem pys_63 : ∀ {xs : List D}, (∀ d ∈ xs, sz63 d) → ∀ x ∈ pys xs, x.fits63
  | [], _, x, hx => by rw [pys] at hx; cases hx
  | d :: ds, h, x, hx => by
    rw [pys] at hx
    rcases List.mem_cons.mp hx with rfl | hx
    · exact py_63 (h d List.mem_cons_self)
    · exact pys_63 (fun e he => h e (List.mem_cons_of_mem _ he)) x hx
def gAll : GN := fun ds P => match ds with
  | [.lst xs] => (∀ d ∈ xs, sz63 d) ∧ P (.bl (xs.all tru))
  | _ => False
def gAny : GN := fun ds P => match ds with
  | [.lst xs] => (∀ d ∈ xs, sz63 d) ∧ P (.bl (xs.any tru))
  | _ => False
def rAllP (K : PySem.W.Frag) : List V → Hp → VK → Prop := fun vs H Q => ∃ (a : Addr) (us : List V) (ds : List PyData), vs = [V.ref a] ∧ SqL K H a us ∧ DpAll K H us ds ∧ PyData.plainAll ds = true ∧ (∀ x ∈ ds, x.fits63) ∧ Q (.bl (ds.all PyData.truthy)) H
def rAnyP (K : PySem.W.Frag) : List V → Hp → VK → Prop := fun vs H Q => ∃ (a : Addr) (us : List V) (ds : List PyData), vs = [V.ref a] ∧ SqL K H a us ∧ DpAll K H us ds ∧ PyData.plainAll ds = true ∧ (∀ x ∈ ds, x.fits63) ∧ Q (.bl (ds.any PyData.truthy)) H
theorem cr_allP (hc : X.calm = true) : CallR X (.builtin "all") (rAllP X.K) := by
  intro pins s σ H vs us Q I r h
  obtain ⟨a, ws, ds, rfl, hl, hd, hp, hf, q⟩ := h
  obtain ⟨its, rv, pl, _⟩ := I.list hl
  obtain ⟨as, rr⟩ := Dp.readsAll I ds ws its hd rv
  cases r with
  | cons r t =>
    cases t
    cases r
    exact PySem.W.all_list_data (I.ok.hd hc) pl.isList rr hp hf fun h' tk k => ⟨.bl _, H, I.kept k, rfl, q⟩
theorem cr_anyP (hc : X.calm = true) : CallR X (.builtin "any") (rAnyP X.K) := by
  intro pins s σ H vs us Q I r h
  obtain ⟨a, ws, ds, rfl, hl, hd, hp, hf, q⟩ := h
  obtain ⟨its, rv, pl, _⟩ := I.list hl
  obtain ⟨as, rr⟩ := Dp.readsAll I ds ws its hd rv
  cases r with
  | cons r t =>
    cases t
    cases r
    exact PySem.W.any_list_data (I.ok.hd hc) pl.isList rr hp hf fun h' tk k => ⟨.bl _, H, I.kept k, rfl, q⟩
theorem Rdb.lst {K : PySem.W.Frag} {H : Hp} {v : V} {xs : List D} (h : Rdb K H v (.lst xs)) : ∃ a us, v = .ref a ∧ SqL K H a us ∧ DpAll K H us (pys xs) := by
  obtain ⟨a, us, k, G, S, rfl, sv, os⟩ := Rdb.seq h rfl
  exact ⟨a, us, rfl, SqL.of sv, Owns.dp _ os⟩
theorem fb_all (hc : X.calm = true) : FB X "all" gAll := by
  refine ⟨⟨"all", _, cr_allP hc, ?_, PyProof.Rows.boot_all⟩, ?_, by decide, by decide⟩
  · intro vs H ds P Q rd gg q
    unfold gAll at gg
    split at gg
    · cases rd with
      | cons h t =>
        cases t
        obtain ⟨a, us, rfl, hl, hd⟩ := h.lst
        exact ⟨a, us, _, rfl, hl, hd, pys_plain _, pys_63 gg.1, by rw [truthies]; exact q _ _ gg.2 (.bl _)⟩
    · exact gg.elim
  · intro ds P Q q w
    unfold gAll at *
    split at w
    · exact ⟨w.1, q _ w.2⟩
    · exact w
theorem fb_any (hc : X.calm = true) : FB X "any" gAny := by
  refine ⟨⟨"any", _, cr_anyP hc, ?_, PyProof.Rows.boot_any⟩, ?_, by decide, by decide⟩
  · intro vs H ds P Q rd gg q
    unfold gAny at gg
    split at gg
    · cases rd with
      | cons h t =>
        cases t
        obtain ⟨a, us, rfl, hl, hd⟩ := h.lst
        exact ⟨a, us, _, rfl, hl, hd, pys_plain _, pys_63 gg.1, by rw [truthies_any]; exact q _ _ gg.2 (.bl _)⟩
    · exact gg.elim
  · intro ds P Q q w
    unfold gAny at *
    split at w
    · exact ⟨w.1, q _ w.2⟩
    · exact w
/-! repr -/
def rRepr (K : PySem.W.Frag) : List V → Hp → VK → Prop := fun vs H Q => ∃ (x : V) (d : PyData), vs = [x] ∧ Dp K H x d ∧ (∃ a, x = .ref a) ∧ d.showable = true ∧ d.hasDict = false ∧ d.depth ≤ 60 ∧ d.shown.length ≤ sizeLine ∧ Q (.str d.shown) H
theorem cr_repr (hg : X.A.guards = some []) (hu : X.A.units + 64 < cLine) : CallR X (.builtin "repr") (rRepr X.K) := by
  intro pins s σ H vs us Q I r h
  obtain ⟨x, d, rfl, hd, ⟨a, rfl⟩, sh, nd, dl, sz, q⟩ := h
  cases r with
  | cons r t =>
    cases t
    cases r
    obtain ⟨as, rr⟩ := Dp.reads I d (.ref a) (.ref a) hd rfl
    exact repr_of_reads' rr sh (fun e => by rw [nd] at e; cases e) hg (by omega) (fun _ _ e => e) (fun h' u tk k => ⟨.str _, H, I.kept k, ⟨_, rfl⟩, q⟩) sz
mutual
theorem py_noDict : ∀ d : D, (py d).hasDict = false
  | .non => by rw [py, PyData.hasDict]
  | .bl _ => by rw [py, PyData.hasDict]
  | .int _ => by rw [py, PyData.hasDict]
  | .str _ => by rw [py, PyData.hasDict]
  | .tup xs => by rw [py, PyData.hasDict]; exact pys_noDict xs
  | .lst xs => by rw [py, PyData.hasDict]; exact pys_noDict xs
  | .fl xs => by rw [py, PyData.hasDict]; exact pys_noDict xs
theorem pys_noDict : ∀ ds : List D, PyData.hasDictAll (pys ds) = false
  | [] => by rw [pys, PyData.hasDictAll]
  | d :: ds => by rw [pys, PyData.hasDictAll, py_noDict d, pys_noDict ds]; rfl
end
/-- repr(d), of a list or tuple -/
def shownD (d : D) : Str := (py d).shown
def gRepr : GN := fun ds P => match ds with
  | [d] => (seqD d).isSome = true ∧ (py d).showable = true ∧ dep d ≤ 60 ∧ fits (shownD d).length ∧ P (.str (shownD d))
  | _ => False
theorem fb_repr (hg : X.A.guards = some []) (hu : X.A.units + 64 < cLine) : FB X "repr" gRepr := by
  refine ⟨⟨"repr", _, cr_repr hg hu, ?_, PyProof.Rows.boot_repr⟩, ?_, by decide, by decide⟩
  · intro vs H ds P Q rd gg q
    unfold gRepr at gg
    split at gg
    · rename_i d
      cases rd with
      | cons h t =>
        cases t
        obtain ⟨kx, e⟩ := Option.isSome_iff_exists.mp gg.1
        obtain ⟨a, us, k, G, S, rfl, sv, os⟩ := Rdb.seq h e
        exact ⟨_, py d, rfl, h.dp, ⟨a, rfl⟩, gg.2.1, py_noDict d, by rw [py_depth]; exact gg.2.2.1, gg.2.2.2.1, q _ _ gg.2.2.2.2 (.str _)⟩
    · exact gg.elim
  · intro ds P Q q w
    unfold gRepr at *
    split at w
    · exact ⟨w.1, w.2.1, w.2.2.1, w.2.2.2.1, q _ w.2.2.2.2⟩
    · exact w
end
end Cr
set_option Elab.async false
set_option linter.all false
set_option maxRecDepth 100000
/-! list(..), tuple(..), isinstance; targets and statements. -/
namespace Cr
open PySem PySem.Spec PyProof.Rows L2
section
variable {X : Cx} {B : Base} {pos p : Pos} {e : Expr} {wa : WI}
/-! ### list(xs), tuple(xs) -/
def wListOf (wa : WI) : WI := fun env Q => wa env fun it e => wElems it e fun _ k xs e' => Q (.t (k + 1) (.lst xs)) e'
def wTupOf (wa : WI) : WI := fun env Q => wa env fun it e => wElems it e fun _ k xs e' => Q (.t k (.tup xs)) e'
theorem one_arg {t : TE} {r : List V → Hp → VK → Prop} {σ : Sg} {H : Hp} {Q : VK} (h : t σ H fun x H1 => r [x] H1 Q) : tCB r (tCons t tNil) σ H Q := h
theorem vi_listOf (hm : X.mg "list" = none) (ha : VI X B e wa) (hg : Gl X "list" := by rfl)
    (he : starEach (e :: []) X.env = (false, eval e X.env) :: starEach [] X.env := by rfl) (hpl : (backTo pos (starEach [] X.env)).any (·.1) = false := by rfl) : VI X B (.Call (.Name "list" p) [e] [] pos) (wListOf wa) := by
  refine ⟨PE.weak (pe_callTy call_list_of hg hm PyProof.Rows.boot_list (pa_cons ha.p pa_nil he) (by decide) (by decide) he hpl) fun σ H Q ⟨env, G, S, st, w⟩ => ?_, fun env P Q q w => ha.m _ _ _ (fun it e z => wElems_mono (fun _ _ _ _ y => q _ _ y) z) w⟩
  refine one_arg ⟨env, G, S, st, ha.m _ _ _ (fun it e1 w1 => ?_) w⟩
  intro v H1 G1 S1 G2 S2 st1 h1 sp1 p1
  obtain ⟨kd, k, xs, e5, a0, vs, A, SA, G', S', q, st5, rfl, sv, os, sp5, p5⟩ := elems_ok st1 h1 sp1 w1
  exact ⟨a0, vs, rfl, SeqV.sq sv, fun l hl => new_lst st5 os sp5 (p1.trans p5) q hl⟩
theorem vi_tupOf (hm : X.mg "tuple" = none) (ha : VI X B e wa) (hg : Gl X "tuple" := by rfl)
    (he : starEach (e :: []) X.env = (false, eval e X.env) :: starEach [] X.env := by rfl) (hpl : (backTo pos (starEach [] X.env)).any (·.1) = false := by rfl) : VI X B (.Call (.Name "tuple" p) [e] [] pos) (wTupOf wa) := by
  refine ⟨PE.weak (pe_callTy call_tuple_of hg hm PyProof.Rows.boot_tuple (pa_cons ha.p pa_nil he) (by decide) (by decide) he hpl) fun σ H Q ⟨env, G, S, st, w⟩ => ?_, fun env P Q q w => ha.m _ _ _ (fun it e z => wElems_mono (fun _ _ _ _ y => q _ _ y) z) w⟩
  refine one_arg ⟨env, G, S, st, ha.m _ _ _ (fun it e1 w1 => ?_) w⟩
  intro v H1 G1 S1 G2 S2 st1 h1 sp1 p1
  obtain ⟨kd, k, xs, e5, a0, vs, A, SA, G', S', q, st5, rfl, sv, os, sp5, p5⟩ := elems_ok st1 h1 sp1 w1
  refine ⟨a0, vs, rfl, ?_⟩
  cases kd with
  | l => exact .inl ⟨SqL.of sv, fun l hl => new_tup st5 os sp5 (p1.trans p5) q hl⟩
  | f => exact .inl ⟨Fz.sq sv, fun l hl => new_tup st5 os sp5 (p1.trans p5) q hl⟩
  | t => exact .inr ⟨sv, q _ H1 _ _ _ _ st5 (.t (.tup sv os)) sp5 (p1.trans p5)⟩
/-! ### isinstance -/
inductive Ty where
  | int | bool | str | list | tuple
def Ty.nm : Ty → String
  | .int => "int"
  | .bool => "bool"
  | .str => "str"
  | .list => "list"
  | .tuple => "tuple"
def dty : D → String
  | .non => "NoneType"
  | .bl _ => "bool"
  | .int _ => "int"
  | .str _ => "str"
  | .tup _ => "tuple"
  | .lst _ => "list"
  | .fl _ => "list"
def isD : Ty → D → Bool
  | .int, .int _ => true
  | .int, .bl _ => true
  | .bool, .bl _ => true
  | .str, .str _ => true
  | .list, .lst _ => true
  | .list, .fl _ => true
  | .tuple, .tup _ => true
  | _, _ => false
theorem kit_isD (T : Ty) (d : D) : kitB (dty d) T.nm = some (isD T d) := by
  cases d with
  | non => cases T <;> decide +kernel
  | bl b => cases T <;> (show kitB "bool" _ = _; first | (show _ = some true; decide +kernel) | (show _ = some false; decide +kernel))
  | int b => cases T <;> (show kitB "int" _ = _; first | (show _ = some true; decide +kernel) | (show _ = some false; decide +kernel))
  | str b => cases T <;> (show kitB "str" _ = _; first | (show _ = some true; decide +kernel) | (show _ = some false; decide +kernel))
  | tup b => cases T <;> (show kitB "tuple" _ = _; first | (show _ = some true; decide +kernel) | (show _ = some false; decide +kernel))
  | lst b => cases T <;> (show kitB "list" _ = _; first | (show _ = some true; decide +kernel) | (show _ = some false; decide +kernel))
  | fl b => cases T <;> (show kitB "list" _ = _; first | (show _ = some true; decide +kernel) | (show _ = some false; decide +kernel))
theorem Rdb.tyX {K : PySem.W.Frag} {H : Hp} {v : V} {d : D} (h : Rdb K H v d) : TyX K H v (.type (dty d)) := by
  obtain ⟨k, G, S, o⟩ := h
  cases o with
  | non => exact .base .non
  | bl b => exact .base (.bl b)
  | int i => exact .base (.int i)
  | str x => exact .base (.str x)
  | own h1 h2 => exact .base (.lst h1)
  | shr h1 h2 => exact .base (.lst h1)
  | tup h1 h2 =>
    rcases h1 with (h1 | ⟨o, h1⟩) | ⟨o, its, n, h1, h3, _⟩
    · exact .base (.tup h1)
    · exact .fTuple h1
    · exact .kTuple h1 h3
  | fl h1 h2 =>
    rcases h1 with ⟨o, h1⟩ | ⟨o, its, n, h1, h3, _⟩
    · exact .base (.frz h1)
    · exact .kList h1 h3
def wIsi (Ts : List Ty) (wa : WI) : WI := fun env Q => wa env fun it e => match wVal it e with
  | some d => Q (.t 9 (.bl (Ts.any fun T => isD T d))) e
  | none => False
theorem wIsi_mono {Ts : List Ty} (ma : MonI wa) : MonI (wIsi Ts wa) := fun env P Q q w => ma _ _ _ (fun it e z => by
  split at z
  · exact q _ _ z
  · exact z) w
theorem boot_Ty (T : Ty) : bootBuiltins T.nm = some (.type T.nm) := by cases T <;> decide +kernel
theorem Ty.nn (T : Ty) : (T.nm : Str) ≠ "__name__" := by cases T <;> decide
theorem Ty.nd (T : Ty) : ((T.nm : Str) == ("__debug__" : Str)) = false := by cases T <;> decide
/-- isinstance(e, T) -/
theorem vi_isi1 {n : Str} (T : Ty) (hn : n = T.nm) (hm : X.mg "isinstance" = none) (hmT : X.mg n = none) (ha : VI X B e wa) {p2 : Pos} (hg : Gl X "isinstance" := by rfl) (hgT : Gl X n := by rfl)
    (he : starEach [e, .Name n p2] X.env = (false, eval e X.env) :: starEach [.Name n p2] X.env := by rfl) (he2 : starEach [.Name n p2] X.env = (false, eval (.Name n p2) X.env) :: starEach [] X.env := by rfl)
    (hpl : (backTo pos (starEach [.Name n p2] X.env)).any (·.1) = false := by rfl) : VI X B (.Call (.Name "isinstance" p) [e, .Name n p2] [] pos) (wIsi [T] wa) := by
  subst hn
  refine ⟨PE.weak (pe_callB call_isi hg hm PyProof.Rows.boot_isinstance (pa_cons ha.p (pa_cons (pe_bltn (v := .ty T.nm) hgT hmT (boot_Ty T) rfl T.nn T.nd) pa_nil he2) he) (by decide) (by decide) he hpl) fun σ H Q ⟨env, G, S, st, w⟩ => ?_, wIsi_mono ha.m⟩
  refine ⟨env, G, S, st, ha.m _ _ _ (fun it e1 w1 => ?_) w⟩
  intro v H1 G1 S1 G2 S2 st1 h1 sp1 p1
  split at w1
  · rename_i d hd
    refine ⟨v, .ty T.nm, _, _, isD T d, rfl, .ty _, Rdb.tyX (val_own st1.sl h1 hd), kit_ty (kit_isD T d), ?_⟩
    refine wp_atom (.bl _) st1 p1 ?_
    rw [List.any_cons, List.any_nil, Bool.or_false] at w1
    exact w1
  · exact w1.elim
/-- isinstance(e, (T, U)) -/
theorem vi_isi2 {n m : Str} (T U : Ty) (hn : n = T.nm) (hmn : m = U.nm) (hm : X.mg "isinstance" = none) (hmT : X.mg n = none) (hmU : X.mg m = none) (ha : VI X B e wa) {p2 p3 p4 : Pos} {kk} (hg : Gl X "isinstance" := by rfl) (hgT : Gl X n := by rfl) (hgU : Gl X m := by rfl)
    (he : starEach [e, .Tuple [.Name n p2, .Name m p3] kk p4] X.env = (false, eval e X.env) :: starEach [.Tuple [.Name n p2, .Name m p3] kk p4] X.env := by rfl)
    (he2 : starEach [.Tuple [.Name n p2, .Name m p3] kk p4] X.env = (false, eval (.Tuple [.Name n p2, .Name m p3] kk p4) X.env) :: starEach [] X.env := by rfl)
    (he3 : starEach [.Name n p2, .Name m p3] X.env = (false, eval (.Name n p2) X.env) :: starEach [.Name m p3] X.env := by rfl) (he4 : starEach [.Name m p3] X.env = (false, eval (.Name m p3) X.env) :: starEach [] X.env := by rfl)
    (hpl : (backTo pos (starEach [.Tuple [.Name n p2, .Name m p3] kk p4] X.env)).any (·.1) = false := by rfl) : VI X B (.Call (.Name "isinstance" p) [e, .Tuple [.Name n p2, .Name m p3] kk p4] [] pos) (wIsi [T, U] wa) := by
  subst hn hmn
  refine ⟨PE.weak (pe_callB call_isiT hg hm PyProof.Rows.boot_isinstance (pa_cons ha.p (pa_cons (pe_tup (pa_cons (pe_bltn (v := .ty T.nm) hgT hmT (boot_Ty T) rfl T.nn T.nd) (pa_cons (pe_bltn (v := .ty U.nm) hgU hmU (boot_Ty U) rfl U.nn U.nd) pa_nil he4) he3)) pa_nil he2) he) (by decide) (by decide) he hpl) fun σ H Q ⟨env, G, S, st, w⟩ => ?_, wIsi_mono ha.m⟩
  refine ⟨env, G, S, st, ha.m _ _ _ (fun it e1 w1 => ?_) w⟩
  intro v H1 G1 S1 G2 S2 st1 h1 sp1 p1
  refine ⟨by show 2 ≤ sizeLine; decide, fun q hq => ?_⟩
  split at w1
  · rename_i d hd
    have st2 := st1.new (o := .tup [.ty T.nm, .ty U.nm]) hq
    have h2 : Hold X.K e1 σ (upd H1 q (.tup [.ty T.nm, .ty U.nm])) it v G1 S1 := h1.frame (kp_new (F := []) hq) mu_nil (fun _ _ => List.not_mem_nil) fun _ _ => List.not_mem_nil
    refine ⟨v, q, _, _, _, (isD T d || isD U d), rfl, upd_same, .cons (.ty _) (.cons (.ty _) .nil), Rdb.tyX (val_own st2.sl h2 hd), ?_, ?_⟩
    · refine kitAny_cons (kit_ty (kit_isD T d)) (fun ef => kitAny_cons (kit_ty (kit_isD U d)) (fun eg => ?_) fun eg => ?_) fun ef => ?_
      · rw [ef, eg]; exact kitAny_nil
      · rw [eg, Bool.or_true]
      · rw [ef, Bool.true_or]
    · refine wp_atom (.bl _) st2 (p1.trans ⟨kp_new hq, fun _ z => .inl z, fun _ z => .inl z⟩) ?_
      rw [List.any_cons, List.any_cons, List.any_nil, Bool.or_false] at w1
      exact w1
  · exact w1.elim
end
/-! ### targets -/
abbrev WG := Nat → D → Env → (Env → Prop) → Prop
/-- nothing but the slots ws has changed -/
def But (ws : List Nat) (σ σ' : Sg) : Prop := σ'.length = σ.length ∧ ∀ j : Nat, j ∉ ws → σ'[j]? = σ[j]?
theorem But.refl {ws : List Nat} {σ : Sg} : But ws σ σ := ⟨rfl, fun _ _ => rfl⟩
theorem But.trans {ws us : List Nat} {σ τ ρ : Sg} (a : But ws σ τ) (b : But us τ ρ) : But (ws ++ us) σ ρ := ⟨b.1.trans a.1, fun j n => (b.2 j fun z => n (List.mem_append_right _ z)).trans (a.2 j fun z => n (List.mem_append_left _ z))⟩
def liftG (K : PySem.W.Frag) (B : Base) (ws : List Nat) (w : WG) (v : V) (σ : Sg) (H : Hp) (Q : Sg → Hp → Prop) : Prop :=
  ∃ k d env G S G1 S1, Sta K B env σ H G S ∧ Own K H k v d G1 S1 ∧ Sep G1 S1 G S ∧ Stp B.H B.G B.S H (G1 ++ G) (S1 ++ S) ∧ w k d env fun env' => ∀ σ' H' G' S', Sta K B env' σ' H' G' S' → Stp H (G1 ++ G) (S1 ++ S) H' G' S' → But ws σ σ' → Q σ' H'
structure VG (X : Cx) (B : Base) (t : Expr) (ws : List Nat) (w : WG) : Prop where
  p : PG X t (liftG X.K B ws w)
  m : ∀ k d env P Q, (∀ e, P e → Q e) → w k d env P → w k d env Q
theorem PG.weak {X : Cx} {t : Expr} {g g' : TG} (h : PG X t g) (q : ∀ v σ H Q, g' v σ H Q → g v σ H Q) : PG X t g' := ⟨fun pins s σ H v u Q I r w => h.run pins s σ H v u Q I r (q _ _ _ _ w)⟩
theorem PGs.weak {X : Cx} {t : List Expr} {g g' : TGs} (h : PGs X t g) (q : ∀ v σ H Q, g' v σ H Q → g v σ H Q) : PGs X t g' := ⟨fun pins s σ H v u Q I r w => h.run pins s σ H v u Q I r (q _ _ _ _ w)⟩
/-- the slot i holds d from now on -/
def wSet (i : Nat) : WG := fun k d env Q => i < env.length ∧ Q (env.set i (some (k, d)))
theorem set_ok {K : PySem.W.Frag} {B : Base} {env : Env} {σ : Sg} {H : Hp} {G S G1 S1 : List Addr} {k : Nat} {d : D} {v : V} {i : Nat} (st : Sta K B env σ H G S) (o : Own K H k v d G1 S1) (sp : Sep G1 S1 G S) (bp : Stp B.H B.G B.S H (G1 ++ G) (S1 ++ S)) (hi : i < env.length) (hp : ∀ q ∈ B.pr, q.1 ≠ i) :
    ∃ G' S', Sta K B (env.set i (some (k, d))) (σ.set i (some v)) H G' S' ∧ Stp H (G1 ++ G) (S1 ++ S) H G' S' := by
  obtain ⟨x, Ga, Gi, Gb, Sa, Si, Sb, r1, r2, r3, r4, r5⟩ := st.sl.at i (List.getElem?_eq_getElem hi)
  have sl' := r5 (e' := some (k, d)) (x' := some v) (F := []) (.som o) kp_refl mu_nil (fun _ _ => List.not_mem_nil)
  have nd := st.nd
  rw [r2] at nd
  have ap := sp.apart
  have hG : ∀ a, a ∈ Ga ∨ a ∈ Gb → a ∈ G := fun a z => by rw [r2]; rcases z with z | z <;> simp [z]
  have hS : ∀ a, a ∈ Sa ∨ a ∈ Sb → a ∈ S := fun a z => by rw [r3]; rcases z with z | z <;> simp [z]
  have n1 : (Ga ++ (G1 ++ Gb)).Nodup := by
    rw [List.nodup_append] at nd ⊢
    refine ⟨nd.1, List.nodup_append.mpr ⟨sp.gd.nd, (List.nodup_append.mp nd.2.1).2.1, fun a z b q e => ap a z (hG a (.inr (e ▸ q)))⟩, fun a z b q e => ?_⟩
    rcases List.mem_append.mp q with q | q
    · exact ap b q (hG b (.inl (e ▸ z)))
    · exact nd.2.2 a z b (List.mem_append_right _ q) e
  have d1 : ∀ a ∈ Sa ++ (S1 ++ Sb), a ∉ Ga ++ (G1 ++ Gb) := fun a z q => by
    have q' : (a ∈ Ga ∨ a ∈ Gb) ∨ a ∈ G1 := by simp at q; rcases q with q | q | q <;> simp [q]
    have z' : (a ∈ Sa ∨ a ∈ Sb) ∨ a ∈ S1 := by simp at z; rcases z with z | z | z <;> simp [z]
    rcases z' with z' | z' <;> rcases q' with q' | q'
    · exact st.dj a (hS a z') (hG a q')
    · exact sp.s2 a (hS a z') q'
    · exact (sp.s1 a z').2 (hG a q')
    · exact (sp.s1 a z').1 q'
  have stp : Stp H (G1 ++ G) (S1 ++ S) H (Ga ++ (G1 ++ Gb)) (Sa ++ (S1 ++ Sb)) := by
    refine ⟨kp_refl, fun a z => .inl ?_, fun a z => .inl ?_⟩
    · simp at z ⊢
      rcases z with z | z | z
      · exact .inr (hG a (.inl z))
      · exact .inl z
      · exact .inr (hG a (.inr z))
    · simp at z ⊢
      rcases z with z | z | z
      · exact .inr (hS a (.inl z))
      · exact .inl z
      · exact .inr (hS a (.inr z))
  refine ⟨_, _, ⟨sl', n1, d1, ?_, fun q hq => ?_⟩, stp⟩
  · exact bp.trans stp
  · rw [List.getElem?_set_ne (Ne.symm (hp q hq))]
    exact st.pr q hq
section
variable {X : Cx} {B : Base} {pos p : Pos} {e : Expr} {wa : WI}
theorem vg_name {i : Nat} {x : Str} (hN : X.N.Nodup) (hi : X.N[i]? = some x) (hx : Loc X.env.scope x) (hp : ∀ q ∈ B.pr, q.1 ≠ i) (hf : X.fn x = true ∨ X.env.scope.names.lookup x = some .local := by first | exact .inl rfl | exact .inr rfl | assumption) : VG X B (.Name x pos) [i] (wSet i) := by
  refine ⟨PG.weak (pg_name hN hi hx hf) fun v σ H Q ⟨k, d, env, G, S, G1, S1, st, o, sp, bp, hl, w⟩ => ?_, fun k d env P Q q w => ⟨w.1, q _ w.2⟩⟩
  obtain ⟨G', S', st', stp⟩ := set_ok st o sp bp hl hp
  exact w _ H G' S' st' stp ⟨List.length_set, fun j n => List.getElem?_set_ne (by intro e; subst e; exact n List.mem_cons_self)⟩
abbrev WGs := Nat → List D → Env → (Env → Prop) → Prop
def liftGs (K : PySem.W.Frag) (B : Base) (ws : List Nat) (w : WGs) (vs : List V) (σ : Sg) (H : Hp) (Q : Sg → Hp → Prop) : Prop :=
  ∃ k ds env G S G1 S1, Sta K B env σ H G S ∧ Owns K H k vs ds G1 S1 ∧ Sep G1 S1 G S ∧ Stp B.H B.G B.S H (G1 ++ G) (S1 ++ S) ∧ w k ds env fun env' => ∀ σ' H' G' S', Sta K B env' σ' H' G' S' → Stp H (G1 ++ G) (S1 ++ S) H' G' S' → But ws σ σ' → Q σ' H'
structure VGs (X : Cx) (B : Base) (ts : List Expr) (ws : List Nat) (w : WGs) : Prop where
  p : PGs X ts (liftGs X.K B ws w)
  m : ∀ k d env P Q, (∀ e, P e → Q e) → w k d env P → w k d env Q
def wGNil : WGs := fun k ds env Q => ds = [] ∧ Q env
def wGCons (w : WG) (u : WGs) : WGs := fun k ds env Q => match ds with
  | [] => False
  | d :: ds => w k d env fun e => u k ds e Q
theorem vgs_nil : VGs X B [] [] wGNil := by
  refine ⟨PGs.weak pgs_nil fun vs σ H Q ⟨k, ds, env, G, S, G1, S1, st, o, sp, bp, e, w⟩ => ?_, fun k d env P Q q w => ⟨w.1, q _ w.2⟩⟩
  subst e
  cases o
  exact ⟨rfl, w σ H G S st Stp.refl But.refl⟩
theorem vgs_cons {e : Expr} {es : List Expr} {w : WG} {u : WGs} {ws us : List Nat} (h1 : VG X B e ws w) (h2 : VGs X B es us u) (hs : (assignEach (e :: es) X.env).map (·.2) = assign e X.env :: (assignEach es X.env).map (·.2) := by rfl) : VGs X B (e :: es) (ws ++ us) (wGCons w u) := by
  refine ⟨PGs.weak (pgs_cons h1.p h2.p hs) fun vs σ H Q ⟨k, ds, env, G, S, G1, S1, st, o, sp, bp, w⟩ => ?_, fun k ds env P Q q w => ?_⟩
  · cases o with
    | nil => exact w.elim
    | @cons _ v d Ga Sa vs ds Gb Sb o1 o2 =>
      refine ⟨v, vs, rfl, k, d, env, G, S, Ga, Sa, st, o1, Sep.of sp.gd.l sp.n2 sp.ap.l, bp.less (fun a z => by simp at z ⊢; rcases z with z | z <;> simp [z]) (fun a z => by simp at z ⊢; rcases z with z | z <;> simp [z]), h1.m _ _ _ _ _ (fun e1 w1 => ?_) w⟩
      intro σ' H' G' S' st' p' bt
      refine ⟨k, ds, e1, G', S', Gb, Sb, st', ?_⟩
      have bA : Ap Gb Sb (Ga ++ G) (Sa ++ S) := sp.gd.ap.symm.appR sp.ap.r
      have mu : Mu H (Ga ++ G) := fun a z => (List.mem_append.mp z).elim (Own.mu _ o1 a) (st.sl.mu a)
      have o2' : Owns X.K H' k vs ds Gb Sb := Owns.frame p'.keep mu _ o2 bA.g bA.s1
      have bB : Ap Gb Sb G' S' := bA.frame (Owns.mu _ o2) (Owns.stk _ o2) p'
      have sp' : Sep Gb Sb G' S' := Sep.of sp.gd.r st'.nd bB
      have p2 : Stp H ((Ga ++ Gb) ++ G) ((Sa ++ Sb) ++ S) H' (Gb ++ G') (Sb ++ S') := by
        refine ⟨fun a o e n => p'.keep a o e fun z => n (by simp at z ⊢; rcases z with z | z <;> simp [z]), fun a z => ?_, fun a z => ?_⟩
        · rcases List.mem_append.mp z with z | z
          · exact .inl (by simp [z])
          · rcases p'.sub a z with z | z
            · exact .inl (by simp at z ⊢; rcases z with z | z <;> simp [z])
            · exact .inr z
        · rcases List.mem_append.mp z with z | z
          · exact .inl (by simp [z])
          · rcases p'.ss a z with z | z | z
            · exact .inl (by simp at z ⊢; rcases z with z | z <;> simp [z])
            · exact .inr (.inl (by simp at z ⊢; rcases z with z | z <;> simp [z]))
            · exact .inr (.inr z)
      exact ⟨o2', sp', bp.trans p2, h2.m _ _ _ _ _ (fun e2 w2 σ2 H2 G2 S2 st2 q2 bt2 => w2 σ2 H2 G2 S2 st2 (p2.trans q2) (bt.trans bt2)) w1⟩
  · cases ds with
    | nil => exact w
    | cons d ds => exact h1.m _ _ _ _ _ (fun e z => h2.m _ _ _ _ _ q z) w
/-- (a, b, ..) = a tuple or a list -/
def wGTup (n : Nat) (u : WGs) : WG := fun k d env Q => match seqD d with
  | some (kd, ds) => ds.length = n ∧ u (kdK kd k) ds env Q
  | none => False
theorem pg_seq {es : List Expr} {kk : Nat} {t : TGs} {n : Nat} (hc : X.calm = true) (h : PGs X es t) (hn : (assignEach es X.env).length = n) (hst : (assignEach es X.env).findIdx? (·.1) = none) :
    PG X (.Tuple es kk pos) fun v σ H Q => gTup X.K n t v σ H Q ∨ gUnl X.K n t v σ H Q := ⟨fun pins s σ H v u Q I r w => w.elim (fun w => (pg_tup hc h hn hst).run pins s σ H v u Q I r w) fun w => (pg_unl hc h hn hst).run pins s σ H v u Q I r w⟩
theorem vg_tup {es : List Expr} {kk : Nat} {u : WGs} {n : Nat} {ws : List Nat} (hc : X.calm = true) (h : VGs X B es ws u) (hn : (assignEach es X.env).length = n := by rfl) (hst : (assignEach es X.env).findIdx? (·.1) = none := by rfl) : VG X B (.Tuple es kk pos) ws (wGTup n u) := by
  refine ⟨PG.weak (pg_seq hc h.p hn hst) fun v σ H Q ⟨k, d, env, G, S, G1, S1, st, o, sp, bp, w⟩ => ?_, fun k d env P Q q w => ?_⟩
  · unfold wGTup at w
    split at w
    · rename_i kd ds e
      obtain ⟨a, vs, G', S', rfl, sv, os, lo⟩ := Own.seq o e
      have sp' : Sep G' S' G S := Sep.of (sp.gd.low lo) sp.n2 (sp.ap.low lo)
      have r0 : Stp H (G1 ++ G) (S1 ++ S) H (G' ++ G) (S' ++ S) := Stp.refl.low lo
      have done : liftGs X.K B ws u vs σ H Q := ⟨kdK kd k, ds, env, G, S, G', S', st, os, sp', bp.low lo, h.m _ _ _ _ _ (fun e2 w2 σ' H' G2 S2 st2 q2 bt2 => w2 σ' H' G2 S2 st2 (r0.trans q2) bt2) w.2⟩
      have hl : vs.length = n := by rw [Owns.len os]; exact w.1
      cases kd with
      | l => exact .inr ⟨a, vs, rfl, SqL.of sv, hl, done⟩
      | t => exact .inl ⟨a, vs, rfl, sv, hl, done⟩
      | f => exact .inr ⟨a, vs, rfl, Fz.sq sv, hl, done⟩
    · exact w.elim
  · unfold wGTup at *
    split at w
    · exact ⟨w.1, h.m _ _ _ _ _ q w.2⟩
    · exact w
/-! ### statements -/
def wAsg (wa : WI) (g : WG) : WS := fun E env => wa env fun it e => wGive it e fun k d e' => g k d e' E.nx
theorem asgP {K : PySem.W.Frag} {g : WG} {gg : TG} {ws : List Nat} (mg : ∀ k d env P Q, (∀ e, P e → Q e) → g k d env P → g k d env Q) (lg : ∀ v σ H Q, liftG K B ws g v σ H Q → gg v σ H Q) (ma : MonI wa) {σ : Sg} {H : Hp} {E : Ends} (h : liftS K B (wAsg wa g) E σ H) :
    liftI K B wa σ H fun x H1 => gg x σ H1 E.nx := by
  obtain ⟨env, G, S, st, w⟩ := h
  refine ⟨env, G, S, st, ma _ _ _ (fun it e1 w1 => ?_) w⟩
  intro v H1 G1 S1 G2 S2 st1 h1 sp1 p1
  obtain ⟨k, d, e2, A, SA, G', S', w2, st2, o2, sp2, p2, _⟩ := give_ok st1 h1 sp1 w1
  refine lg _ _ _ _ ⟨k, d, e2, G', S', A, SA, st2, o2, sp2, st.st.trans (p1.trans p2), mg _ _ _ _ _ (fun e3 w3 σ' H' G3 S3 st3 p3 _ => ?_) w2⟩
  exact w3 σ' H' G3 S3 st3 ((p1.trans p2).trans p3)
theorem wAsg_mono {g : WG} (ma : MonI wa) (mg : ∀ k d env P Q, (∀ e, P e → Q e) → g k d env P → g k d env Q) : MonS (wAsg wa g) := fun env P Q q w => ma _ _ _ (fun it e z => wGive_mono (fun k d e y => mg _ _ _ _ _ (fun e x => q.nx e x) y) z) w
theorem vs_asg {tg e : Expr} {g : WG} {ws : List Nat} (ha : VI X B e wa) (hg : VG X B tg ws g) (hs : swapsWithSole [tg] e pos.line X.env = pure false := by rfl) (hw : swappedStores [tg] e X.env = pure none := by rfl)
    (h1 : (assignEach [tg] X.env).map (·.2) = [assign tg X.env] := by rfl) : VS X B (.Assign [tg] e pos) (wAsg wa g) := by
  exact ⟨PS.weak (ps_asg ha.p hg.p hs hw h1) fun E σ H h => asgP hg.m (fun _ _ _ _ q => q) ha.m h, wAsg_mono ha.m hg.m⟩
/-- name = e -/
theorem vs_set {i : Nat} {x : Str} {e : Expr} {pos' : Pos} (hN : X.N.Nodup) (hi : X.N[i]? = some x) (hx : Loc X.env.scope x) (hp : ∀ q ∈ B.pr, q.1 ≠ i) (ha : VI X B e wa) (hs : swapsWith e (some (.Name x pos')) pos.line X.env = pure false := by rfl) (hf : X.fn x = true ∨ X.env.scope.names.lookup x = some .local := by first | exact .inl rfl | exact .inr rfl | assumption) :
    VS X B (.Assign [.Name x pos'] e pos) (wAsg wa (wSet i)) := by
  have mg : ∀ k d env P Q, (∀ e, P e → Q e) → wSet i k d env P → wSet i k d env Q := fun k d env P Q q w => ⟨w.1, q _ w.2⟩
  refine ⟨PS.weak (ps_set (i := i) hN hi hx ha.p hs hf) fun E σ H h => ?_, wAsg_mono ha.m mg⟩
  refine asgP (gg := gName i) (ws := [i]) mg (fun v σ H Q ⟨k, d, env, G, S, G1, S1, st, o, sp, bp, hl, w⟩ => ?_) ha.m h
  obtain ⟨G', S', st', stp⟩ := set_ok st o sp bp hl hp
  exact w _ H G' S' st' stp ⟨List.length_set, fun j n => List.getElem?_set_ne (by intro e; subst e; exact n List.mem_cons_self)⟩
def wDrop (wa : WI) : WS := fun E env => wa env fun it e => E.nx e
theorem vs_expr (ha : VI X B e wa) (hs : swapsWith e none pos.line X.env = pure false := by rfl) : VS X B (.Expr e pos) (wDrop wa) := by
  refine ⟨PS.weak (ps_expr ha.p hs) fun E σ H ⟨env, G, S, st, w⟩ => ?_, fun env P Q q w => ha.m _ _ _ (fun _ e z => q.nx e z) w⟩
  refine ⟨env, G, S, st, ha.m _ _ _ (fun it e1 w1 => ?_) w⟩
  intro v H1 G1 S1 G2 S2 st1 h1 sp1 p1
  exact w1 σ H1 G2 S2 st1 (item_less st1 p1)
/-- return e: a slot's value goes with its ownership, but a protected one's -/
def wRet (wa : WI) : WS := fun E env => wa env fun it e => wGive it e fun k d e' => E.rt k d e'
theorem vs_ret (ha : VI X B e wa) : VS X B (.Return (some e) pos) (wRet wa) := by
  refine ⟨PS.weak (ps_ret ha.p) fun E σ H ⟨env, G, S, st, w⟩ => ?_, fun env P Q q w => ha.m _ _ _ (fun _ e z => wGive_mono (fun k d e y => q.rt k d e y) z) w⟩
  refine ⟨env, G, S, st, ha.m _ _ _ (fun it e1 w1 => ?_) w⟩
  intro v H1 G1 S1 G2 S2 st1 h1 sp1 p1
  obtain ⟨k, d, e2, A, SA, G', S', w2, st2, o2, sp2, p2, _⟩ := give_ok st1 h1 sp1 w1
  exact w2 v σ H1 A SA G' S' st2 o2 sp2 (p1.trans p2)
def wRetN : WS := fun E env => E.rt 9 .non env
theorem vs_retN : VS X B (.Return none pos) wRetN := by
  refine ⟨PS.weak ps_retN fun E σ H ⟨env, G, S, st, w⟩ => ?_, fun env P Q q w => q.rt _ _ _ w⟩
  exact w .non σ H [] [] G S st .non (Sep.nn st.nd) Stp.refl
def wNext : WS := fun E env => E.nx env
def wSeq (a b : WS) : WS := fun E env => a { E with nx := b E } env
theorem vss_nil : VSs X B [] wNext := ⟨PSs.weak pss_nil fun E σ H ⟨env, G, S, st, w⟩ => w σ H G S st Stp.refl, fun env P Q q w => q.nx _ w⟩
theorem postN_st {K : PySem.W.Frag} {H H1 : Hp} {G S G1 S1 : List Addr} {Q : Sg → Hp → Prop} {e : Env} (p : Stp H G S H1 G1 S1) (w : PostN K B H G S Q e) : PostN K B H1 G1 S1 Q e := fun σ' H' G' S' st' p' => w σ' H' G' S' st' (p.trans p')
theorem postR_st {K : PySem.W.Frag} {H H1 : Hp} {G S G1 S1 : List Addr} {Q : VK} {k : Nat} {d : D} {e : Env} (p : Stp H G S H1 G1 S1) (w : PostR K B H G S Q k d e) : PostR K B H1 G1 S1 Q k d e := fun v σ' H' G1 S1 G2 S2 st' o sp p' => w v σ' H' G1 S1 G2 S2 st' o sp (p.trans p')
theorem ends_st {K : PySem.W.Frag} {H H1 : Hp} {G S G1 S1 : List Addr} {E : Ends} (p : Stp H G S H1 G1 S1) : WEnds.le (endsOf K B H G S E) (endsOf K B H1 G1 S1 E) :=
  ⟨fun _ => postN_st p, fun _ _ _ => postR_st p, fun _ => postN_st p, fun _ => postN_st p⟩
theorem seq_le {w u : WS} (mu : MonS u) {P Q : WEnds} (h : WEnds.le P Q) : WEnds.le { P with nx := u P } { Q with nx := u Q } := ⟨fun e z => mu _ _ _ h z, h.rt, h.bk, h.ct⟩
theorem vss_cons {s : Stmt} {ss : List Stmt} {w u : WS} (h1 : VS X B s w) (h2 : VSs X B ss u) : VSs X B (s :: ss) (wSeq w u) := by
  refine ⟨PSs.weak (pss_cons h1.p h2.p) fun E σ H ⟨env, G, S, st, ww⟩ => ?_, fun env P Q q ww => h1.m _ _ _ (seq_le (w := w) h2.m q) ww⟩
  refine ⟨env, G, S, st, h1.m env { endsOf X.K B H G S E with nx := u (endsOf X.K B H G S E) } _ ⟨fun e1 w1 => ?_, fun _ _ _ z => z, fun _ z => z, fun _ z => z⟩ ww⟩
  intro σ' H' G' S' st' p'
  exact ⟨e1, G', S', st', h2.m _ _ _ (ends_st p') w1⟩
theorem vss_one {s : Stmt} {w : WS} (h1 : VS X B s w) : VSs X B [s] w := ⟨pss_one h1.p, h1.m⟩
def wIfS (t : WT) (a b : WS) : WS := fun E env => t env fun k e => Br k (a E e) (b E e)
theorem vs_if {c : Expr} {a b : List Stmt} {t : WT} {w u : WS} (hc : VT X B c t) (ha : VSs X B a w) (hb : VSs X B b u) : VS X B (.If c a b pos) (wIfS t w u) := by
  refine ⟨PS.weak (ps_if hc.p ha.p hb.p) fun E σ H ⟨env, G, S, st, ww⟩ => ?_, fun env P Q q ww => hc.m _ _ _ (fun k e z => ?_) ww⟩
  · refine ⟨env, G, S, st, hc.m _ _ _ (fun k e1 w1 => ?_) ww⟩
    intro H1 G2 S2 st1 p1
    cases k with
    | true => exact ⟨e1, G2, S2, st1, ha.m _ _ _ (ends_st p1) (w1.t rfl)⟩
    | false => exact ⟨e1, G2, S2, st1, hb.m _ _ _ (ends_st p1) (w1.f rfl)⟩
  · exact z.mono (fun z => ha.m _ _ _ q z) fun z => hb.m _ _ _ q z
theorem vs_pass : VS X B (.Pass pos) wNext := ⟨PS.weak ps_pass fun E σ H ⟨env, G, S, st, w⟩ => w σ H G S st Stp.refl, fun env P Q q w => q.nx _ w⟩
def wBrk : WS := fun E env => E.bk env
def wCnt : WS := fun E env => E.ct env
theorem vs_break : VS X B (.Break pos) wBrk := ⟨PS.weak ps_break fun E σ H ⟨env, G, S, st, w⟩ => w σ H G S st Stp.refl, fun env P Q q w => q.bk _ w⟩
theorem vs_continue : VS X B (.Continue pos) wCnt := ⟨PS.weak ps_continue fun E σ H ⟨env, G, S, st, w⟩ => w σ H G S st Stp.refl, fun env P Q q w => q.ct _ w⟩
end
end Cr
set_option Elab.async false
set_option linter.all false
set_option maxRecDepth 100000
/-! What a loop walks; for, while. -/
namespace Cr
open PySem PySem.Spec PyProof.Rows L2
/-- J gives the items ds, as long as the heap keeps all but G -/
structure Sv (K : PySem.W.Frag) (H0 : Hp) (G S1 : List Addr) (J : It) (ds : List D) : Prop where
  go : ∀ i H, Kp G H0 H → i < ds.length → J.go i H
  yl : ∀ i H x H' d, Kp G H0 H → ds[i]? = some d → J.yld i H x H' → Kp [] H H' ∧ ∃ S', Own K H' 0 x d [] S' ∧ ∀ a ∈ S', a ∈ S1
  st : ∀ i H, Kp G H0 H → ds.length ≤ i → J.stop i H
abbrev WIt := Env → (List D → Env → Prop) → Prop
def PostIt (K : PySem.W.Frag) (B : Base) (σ : Sg) (H : Hp) (G S : List Addr) (R : It → Hp → Prop) (ds : List D) (env' : Env) : Prop :=
  ∀ J H' G2 S2 S1, Sta K B env' σ H' G2 S2 → (∀ a ∈ S1, a ∉ G2) → (∀ a ∈ S1, ∃ o, H' a = some o) → Stp H G S H' G2 (S1 ++ S2) → Sv K H' G2 S1 J ds → R J H'
def liftIt (K : PySem.W.Frag) (B : Base) (w : WIt) : TI := fun σ H R => ∃ env G S, Sta K B env σ H G S ∧ w env (PostIt K B σ H G S R)
structure VIt (X : Cx) (B : Base) (tg iter : Expr) (w : WIt) : Prop where
  p : PI X tg iter (liftIt X.K B w)
  m : ∀ env P Q, (∀ ds e, P ds e → Q ds e) → w env P → w env Q
theorem PI.weak {X : Cx} {tg iter : Expr} {t t' : TI} (h : PI X tg iter t) (q : ∀ σ H R, t' σ H R → t σ H R) : PI X tg iter t' := ⟨fun pins s σ H R I w => h.run pins s σ H R I (q _ _ _ w)⟩
section
variable {X : Cx} {B : Base} {pos p : Pos} {tg e e2 : Expr} {wa wb : WI}
/-! ### a list or a tuple -/
def iSeq (K : PySem.W.Frag) (tl : TE) : TI := fun σ H R => tl σ H fun x H1 => ∃ a, x = .ref a ∧ (((∃ xs, SqL K H1 a xs) ∧ R (Itl K a) H1) ∨ ((∃ xs, SqT K H1 a xs) ∧ R (Itt K a) H1))
theorem pi_seq {l : Expr} {tl : TE} (hl : PE X l tl) : PI X tg l (iSeq X.K tl) := by
  constructor
  intro pins s σ H R I h
  refine thn (hl.run pins s σ H _ I h) fun v s1 ⟨x, H1, I1, r1, a, ex, q⟩ => ?_
  subst ex
  cases r1
  have fp : ∀ b ∈ [s1.heap.objs.size], FpOk X pins H1 b := fun b hb => by
    have eb := List.mem_singleton.mp hb
    subst eb
    exact I1.fpOk (Nat.le_refl _) (I1.hok.fresh (Nat.le_refl _))
  rcases q with ⟨⟨xs, hq⟩, q⟩ | ⟨⟨xs, hq⟩, q⟩
  · obtain ⟨its, _, pl, _⟩ := I1.list hq
    refine wpAny_pyIter_list pl.isList ⟨_, [s1.heap.objs.size], _, _, H1, rfl, ?_, turn_list a _, ⟨_, Heap.get?_push_size _ rfl, rfl, rfl⟩, fp, q⟩
    exact I1.kept (t' := s1.toks) fun b o eo => Heap.get?_push_of_some _ eo
  · obtain ⟨its, _, pl, _⟩ := I1.tuple hq
    refine wpAny_pyIter_tuple (show s1.heap.IsTuple a its.toArray from pl) ⟨_, [s1.heap.objs.size], _, _, H1, rfl, ?_, turn_tuple a _, ⟨_, Heap.get?_push_size _ rfl, rfl, rfl⟩, fp, q⟩
    exact I1.kept (t' := s1.toks) fun b o eo => Heap.get?_push_of_some _ eo
theorem SeqV.keep {K : PySem.W.Frag} {H H' : Hp} {F : List Addr} {a : Addr} {xs : List V} {kd : Kd} (k : Kp F H H') (m : Mu H F) (n : kd = .l → a ∉ F) (h : SeqV K H kd a xs) : SeqV K H' kd a xs := by
  cases kd with
  | l => exact k a _ h (n rfl)
  | t => exact SqT.keep k m h
  | f => exact Fz.keep k m h
/-- the items of a sequence, shared -/
theorem share_ok {K : PySem.W.Frag} {env : Env} {σ : Sg} {H : Hp} {G1 S1 G2 S2 : List Addr} {it : Item} {v : V} {Q : Kd → Nat → List D → Env → Prop} (st : Sta K B env σ H G2 S2) (h : Hold K env σ H it v G1 S1) (sp : Sep G1 S1 G2 S2) (w : wGive it env fun k d e => match seqD d with
    | some (kd, xs) => Q kd k xs e
    | none => False) :
    ∃ kd k xs env' a vs S1' G' S', Q kd k xs env' ∧ Sta K B env' σ H G' S' ∧ v = .ref a ∧ SeqV K H kd a vs ∧ (kd = .l → a ∈ S1') ∧ (∃ S'', Owns K H 0 vs xs [] S'' ∧ ∀ a ∈ S'', a ∈ S1') ∧ (∀ a ∈ S1', a ∉ G') ∧ (∀ a ∈ S1', ∃ o, H a = some o) ∧ Stp H (G1 ++ G2) (S1 ++ S2) H G' (S1' ++ S') := by
  obtain ⟨k, d, env', A, SA, G', S', w', st', o, sp', p', _⟩ := give_ok st h sp w
  split at w'
  · rename_i kd xs e
    obtain ⟨A', SA', o0, lo⟩ := Own.lower _ (Nat.zero_le k) o
    have g0 := Own.g0 _ o0
    subst g0
    obtain ⟨a, vs, GG, S'', rfl, sv, os, lo2⟩ := Own.seq o0 e
    have e0 : kdK kd 0 = 0 := by cases kd <;> rfl
    rw [e0] at os
    have g1 := Owns.g0 _ os
    subst g1
    have ap := sp'.ap.low lo
    refine ⟨kd, k, xs, env', a, vs, SA', G', S', w', st', rfl, sv, fun ek => ?_, ⟨S'', os, fun b z => ?_⟩, ap.s1, Own.stk _ o0, ?_⟩
    · subst ek
      cases o0 with
      | shr h1 h2 => exact List.mem_cons_self
      | tup h1 h2 => cases e
      | fl h1 h2 => cases e
    · rcases lo2.sh b z with z | z
      · exact z
      · exact absurd z.1 List.not_mem_nil
    · have := p'.low lo
      exact this
  · exact w'.elim
def wSeqIt (wa : WI) : WIt := fun env Q => wa env fun it e => wGive it e fun _ d e' => match seqD d with
  | some (_, xs) => Q xs e'
  | none => False
theorem vit_seq (ha : VI X B e wa) : VIt X B tg e (wSeqIt wa) := by
  refine ⟨PI.weak (pi_seq ha.p) fun σ H R ⟨env, G, S, st, w⟩ => ?_, fun env P Q q w => ha.m _ _ _ (fun it e z => wGive_mono (fun k d e y => ?_) z) w⟩
  · refine ⟨env, G, S, st, ha.m _ _ _ (fun it e1 w1 => ?_) w⟩
    intro v H1 G1 S1 G2 S2 st1 h1 sp1 p1
    obtain ⟨kd, k, xs, e2, a, vs, T, G', S', q, st', rfl, sv, mem, ⟨S'', os, sub⟩, tn, tk, p2⟩ := share_ok (Q := fun _ _ xs e => PostIt X.K B σ H G S R xs e) st1 h1 sp1 w1
    have mu := st'.sl.mu
    have at_ : ∀ H2, Kp G' H1 H2 → SeqV X.K H2 kd a vs ∧ Owns X.K H2 0 vs xs [] S'' := fun H2 kp =>
      ⟨SeqV.keep kp mu (fun ek => tn a (mem ek)) sv, Owns.frame kp mu _ os (fun _ z => absurd z List.not_mem_nil) fun b z => tn b (sub b z)⟩
    refine ⟨a, rfl, ?_⟩
    cases kd with
    | t =>
      refine .inr ⟨⟨vs, sv⟩, q _ H1 G' S' T st' tn tk (p1.trans p2) ⟨fun i H2 kp hi => ?_, fun i H2 x H3 d kp hd hy => ?_, fun i H2 kp hi => ?_⟩⟩
      · obtain ⟨s2, o2⟩ := at_ H2 kp
        have lt : i < vs.length := by rw [Owns.len o2]; exact hi
        exact ⟨vs, vs[i], s2, List.getElem?_eq_getElem lt⟩
      · obtain ⟨s2, o2⟩ := at_ H2 kp
        obtain ⟨rfl, f⟩ := hy
        obtain ⟨y, A, SS, e3, o3, ss1, ss2⟩ := Owns.get o2 hd
        have ey : y = x := Option.some.inj (e3.symm.trans (f vs s2))
        subst ey
        have gn : A = [] := List.sublist_nil.mp ss1
        subst gn
        exact ⟨kp_refl, SS, o3, fun b z => sub b (ss2 b z)⟩
      · obtain ⟨s2, o2⟩ := at_ H2 kp
        exact ⟨vs, s2, by rw [Owns.len o2]; exact hi⟩
    | l =>
      refine .inl ⟨⟨vs, SqL.of sv⟩, q _ H1 G' S' T st' tn tk (p1.trans p2) ⟨fun i H2 kp hi => ?_, fun i H2 x H3 d kp hd hy => ?_, fun i H2 kp hi => ?_⟩⟩
      · obtain ⟨s2, o2⟩ := at_ H2 kp
        have lt : i < vs.length := by rw [Owns.len o2]; exact hi
        exact ⟨vs, vs[i], SqL.of s2, List.getElem?_eq_getElem lt⟩
      · obtain ⟨s2, o2⟩ := at_ H2 kp
        obtain ⟨rfl, f⟩ := hy
        obtain ⟨y, A, SS, e3, o3, ss1, ss2⟩ := Owns.get o2 hd
        have ey : y = x := Option.some.inj (e3.symm.trans (f vs (SqL.of s2)))
        subst ey
        have gn : A = [] := List.sublist_nil.mp ss1
        subst gn
        exact ⟨kp_refl, SS, o3, fun b z => sub b (ss2 b z)⟩
      · obtain ⟨s2, o2⟩ := at_ H2 kp
        exact ⟨vs, SqL.of s2, by rw [Owns.len o2]; exact hi⟩
    | f =>
      refine .inl ⟨⟨vs, Fz.sq sv⟩, q _ H1 G' S' T st' tn tk (p1.trans p2) ⟨fun i H2 kp hi => ?_, fun i H2 x H3 d kp hd hy => ?_, fun i H2 kp hi => ?_⟩⟩
      · obtain ⟨s2, o2⟩ := at_ H2 kp
        have lt : i < vs.length := by rw [Owns.len o2]; exact hi
        exact ⟨vs, vs[i], Fz.sq s2, List.getElem?_eq_getElem lt⟩
      · obtain ⟨s2, o2⟩ := at_ H2 kp
        obtain ⟨rfl, f⟩ := hy
        obtain ⟨y, A, SS, e3, o3, ss1, ss2⟩ := Owns.get o2 hd
        have ey : y = x := Option.some.inj (e3.symm.trans (f vs (Fz.sq s2)))
        subst ey
        have gn : A = [] := List.sublist_nil.mp ss1
        subst gn
        exact ⟨kp_refl, SS, o3, fun b z => sub b (ss2 b z)⟩
      · obtain ⟨s2, o2⟩ := at_ H2 kp
        exact ⟨vs, Fz.sq s2, by rw [Owns.len o2]; exact hi⟩
  · split at y
    · exact q _ _ y
    · exact y
/-! ### ranges -/
def rangeD (lo : Int) (n : Nat) : List D := (List.range n).map fun i : Nat => .int (lo + i)
theorem sv_range {K : PySem.W.Frag} {H0 : Hp} {G : List Addr} {lo : Int} {n : Nat} : Sv K H0 G [] (Itr lo n) (rangeD lo n) := by
  have len : (rangeD lo n).length = n := by unfold rangeD; simp
  refine ⟨fun i H _ hi => by rw [len] at hi; exact hi, fun i H x H' d _ hd hy => ?_, fun i H _ hi => by rw [len] at hi; exact hi⟩
  obtain ⟨rfl, rfl⟩ := hy
  have hi : i < n := by rw [← len]; exact (List.getElem?_eq_some_iff.mp hd).1
  have ed : d = .int (lo + i) := by
    unfold rangeD at hd
    rw [List.getElem?_map, List.getElem?_range hi] at hd
    exact (Option.some.inj hd).symm
  subst ed
  exact ⟨kp_refl, [], .int _, fun a z => z⟩
def wRange1 (wa : WI) : WIt := fun env Q => wa env fun it e => match wVal it e with
  | some (.int n) => (-(2 ^ 62) ≤ n ∧ n < 2 ^ 62) ∧ Q (rangeD 0 n.toNat) e
  | _ => False
theorem vit_range1 (hm : X.mg "range" = none) (ha : VI X B e wa) (hg : Gl X "range" := by rfl) (hs : starEach [e] X.env = [(false, eval e X.env)] := by rfl) (he : starEach (e :: []) X.env = (false, eval e X.env) :: starEach [] X.env := by rfl) : VIt X B tg (.Call (.Name "range" p) [e] [] pos) (wRange1 wa) := by
  refine ⟨PI.weak (pi_range1 hg hm (pa_cons ha.p pa_nil he) hs) fun σ H R ⟨env, G, S, st, w⟩ => ?_, fun env P Q q w => ha.m _ _ _ (fun it e z => ?_) w⟩
  · refine ⟨env, G, S, st, ha.m _ _ _ (fun it e1 w1 => ?_) w⟩
    intro v H1 G1 S1 G2 S2 st1 h1 sp1 p1
    split at w1
    · rename_i n hn
      refine ⟨n, by rw [Rdb.int (val_own st1.sl h1 hn)], w1.1.1, w1.1.2, ?_⟩
      exact w1.2 _ H1 G2 S2 [] st1 (fun a z => absurd z List.not_mem_nil) (fun a z => absurd z List.not_mem_nil) (item_less st1 p1) sv_range
    · exact w1.elim
  · split at z
    · exact ⟨z.1, q _ _ z.2⟩
    · exact z
def wRange2 (wa wb : WI) : WIt := fun env Q => wa env fun i1 e1 => wb e1 fun i2 e2 => match wVal i1 e2, wVal i2 e2 with
  | some (.int m), some (.int n) => (-(2 ^ 62) ≤ m ∧ m < 2 ^ 62 ∧ -(2 ^ 62) ≤ n ∧ n < 2 ^ 62) ∧ Q (rangeD m (n - m).toNat) e2
  | _, _ => False
theorem vit_range2 (hm : X.mg "range" = none) (ha : VI X B e wa) (hb : VI X B e2 wb) (hg : Gl X "range" := by rfl) (hs : starEach [e, e2] X.env = [(false, eval e X.env), (false, eval e2 X.env)] := by rfl) (hs2 : starEach [e2] X.env = [(false, eval e2 X.env)] := by rfl)
    (he : starEach (e :: [e2]) X.env = (false, eval e X.env) :: starEach [e2] X.env := by rfl) (he2 : starEach (e2 :: []) X.env = (false, eval e2 X.env) :: starEach [] X.env := by rfl) : VIt X B tg (.Call (.Name "range" p) [e, e2] [] pos) (wRange2 wa wb) := by
  refine ⟨PI.weak (pi_range2 hg hm (pa_cons ha.p (pa_cons hb.p pa_nil he2) he) hs hs2) fun σ H R ⟨env, G, S, st, w⟩ => ?_, fun env P Q q w => ha.m _ _ _ (fun i1 e1 z => hb.m _ _ _ (fun i2 e2 z => ?_) z) w⟩
  · refine ⟨env, G, S, st, ha.m _ _ _ (fun i1 e1 w1 => ?_) w⟩
    intro v H1 G1 S1 G2 S2 st1 h1 sp1 p1
    refine ⟨e1, G2, S2, st1, hb.m _ _ _ (fun i2 e2 w2 => ?_) w1⟩
    intro u H2 G3 S3 G4 S4 st2 h2 sp2 p2
    obtain ⟨a', sp, cc⟩ := seqP (env := e2) st1 h1 sp1 p1 sp2 p2
    split at w2
    · rename_i m n x1 x2
      refine ⟨m, n, by rw [Rdb.int (val_own st2.sl a' x1), Rdb.int (val_own st2.sl h2 x2)], w2.1, ?_⟩
      exact w2.2 _ H2 G4 S4 [] st2 (fun a z => absurd z List.not_mem_nil) (fun a z => absurd z List.not_mem_nil) (item_less st2 cc) sv_range
    · exact w2.elim
  · split at z
    · exact ⟨z.1, q _ _ z.2⟩
    · exact z
end
end Cr
set_option Elab.async false
set_option linter.all false
set_option maxRecDepth 100000
/-! for, while, list comprehensions. -/
namespace Cr
open PySem PySem.Spec PyProof.Rows L2
/-- the mode of a shared item -/
def md (d : D) : Nat := if at9 d = true then 9 else 0
theorem own_md {K : PySem.W.Frag} {H : Hp} {v : V} {d : D} {S : List Addr} (o : Own K H 0 v d [] S) : ∃ S', Own K H (md d) v d [] S' ∧ ∀ a ∈ S', a ∈ S := by
  unfold md
  split
  · rename_i h
    obtain ⟨_, _, r⟩ := Own.at9 _ h o
    exact ⟨[], r 9, fun a z => by cases z⟩
  · exact ⟨S, o, fun a z => z⟩
def wForL (g : WG) (b : WS) (E : WEnds) : List D → Env → Prop
  | [], env => E.nx env
  | d :: ds, env => g (md d) d env fun e' => b { nx := wForL g b E ds, ct := wForL g b E ds, bk := E.nx, rt := E.rt } e'
structure ForW (g : WG) (b : WS) (E : WEnds) (ds : List D) (env : Env) : Prop where
  go : wForL g b E ds env
def wFor (w : WIt) (g : WG) (b : WS) : WS := fun E env => w env fun ds e => ForW g b E ds e
section
variable {X : Cx} {B : Base} {pos p : Pos} {tg iter e : Expr} {wi : WIt} {g : WG} {b : WS} {ws : List Nat}
theorem forL_mono (mg : ∀ k d env P Q, (∀ e, P e → Q e) → g k d env P → g k d env Q) (mb : MonS b) {P Q : WEnds} (q : WEnds.le P Q) : ∀ (ds : List D) (env : Env), wForL g b P ds env → wForL g b Q ds env
  | [], env, w => q.nx _ w
  | d :: ds, env, w => mg _ _ _ _ _ (fun e z => mb _ { nx := wForL g b P ds, ct := wForL g b P ds, bk := P.nx, rt := P.rt } _ ⟨fun e => forL_mono mg mb q ds e, fun k d e => q.rt k d e, fun e => q.nx e, fun e => forL_mono mg mb q ds e⟩ z) w
theorem Stp.tmp {H H' : Hp} {G S G' S1 S' : List Addr} (a : Stp H G S H' G' (S1 ++ S')) : Stp H G S H' G' S' := a.less (fun _ z => z) fun _ z => .inl (List.mem_append_right _ z)
theorem Sta.grow {K : PySem.W.Frag} {env : Env} {σ : Sg} {H H' : Hp} {G S : List Addr} (st : Sta K B env σ H G S) (k : Kp [] H H') : Sta K B env σ H' G S :=
  ⟨st.sl.frame k mu_nil (fun _ _ => List.not_mem_nil) (fun _ _ => List.not_mem_nil), st.nd, st.dj, st.st.trans ⟨fun a o e _ => k a o e List.not_mem_nil, fun _ z => .inl z, fun _ z => .inl z⟩, st.pr⟩
theorem Kp.wide {F : List Addr} {H H' : Hp} (k : Kp [] H H') : Kp F H H' := fun a o e _ => k a o e List.not_mem_nil
theorem Stp.grow {H H1 H' : Hp} {G S G' S' : List Addr} (a : Stp H G S H1 G' S') (k : Kp [] H1 H') : Stp H G S H' G' S' := a.trans ⟨Kp.wide k, fun _ z => .inl z, fun _ z => .inl z⟩
/-- one item of a walk, as a temporary beside a later state -/
theorem item_at {K : PySem.W.Frag} {env : Env} {σ σ' : Sg} {H1 H2 H3 : Hp} {G2 S2 S1 G3 S3 : List Addr} {J : It} {ds : List D} {i : Nat} {x : V} {d : D}
    (tn : ∀ a ∈ S1, a ∉ G2) (tk : ∀ a ∈ S1, ∃ o, H1 a = some o) (bp : Stp B.H B.G B.S H1 G2 (S1 ++ S2)) (sv : Sv K H1 G2 S1 J ds)
    {env3 : Env} (st3 : Sta K B env3 σ' H2 G3 S3) (p3 : Stp H1 G2 (S1 ++ S2) H2 G3 S3) (hd : ds[i]? = some d) (hy : J.yld i H2 x H3) :
    ∃ T, Own K H3 (md d) x d [] T ∧ Sep [] T G3 S3 ∧ Sta K B env3 σ' H3 G3 S3 ∧ Stp H1 G2 (S1 ++ S2) H3 ([] ++ G3) (T ++ S3) ∧ Kp [] H2 H3 ∧ (∀ a ∈ T, a ∈ S1) := by
  obtain ⟨k, S', o, sub⟩ := sv.yl i H2 x H3 d p3.keep hd hy
  obtain ⟨T, o', sub'⟩ := own_md o
  have hT : ∀ a ∈ T, a ∈ S1 := fun a z => sub a (sub' a z)
  have nT : ∀ a ∈ T, a ∉ G3 := fun a z q => by
    rcases p3.sub a q with q | q
    · exact tn a (hT a z) q
    · obtain ⟨u, e⟩ := tk a (hT a z); rw [q] at e; cases e
  have p4 := p3.grow k
  refine ⟨T, o', Sep.nil st3.nd nT, st3.grow k, ⟨p4.keep, fun a z => p4.sub a (by simpa using z), fun a z => ?_⟩, k, hT⟩
  rcases List.mem_append.mp z with z | z
  · exact .inl (List.mem_append_left _ (hT a z))
  · exact p4.ss a z
theorem vs_for {body : List Stmt} (hp : PassesOwn (model X.prog X.w) X.A X.env X.xe) (hc : X.calm = true) (hi : VIt X B tg iter wi) (hg : VG X B tg ws g) (hb : VSs X B body b) (hs : ∀ x, foldedSetIterable iter X.env x = pure x := by intro _; rfl) :
    VS X B (.For tg iter body [] pos) (wFor wi g b) := by
  refine ⟨PS.weak (ps_for hp hc hi.p hg.p hb.p hs) fun E σ H ⟨env, G, S, st, w⟩ => ?_, fun env P Q q w => hi.m _ _ _ (fun ds e z => ⟨forL_mono hg.m hb.m q ds e z.go⟩) w⟩
  refine ⟨env, G, S, st, hi.m _ _ _ (fun ds e1 w1 => ?_) w⟩
  intro J H1 G2 S2 S1 st1 tn tk p1 sv
  have bp := st.st.trans p1
  refine ⟨fun i m σ' H' => ∃ env' G' S', Sta X.K B env' σ' H' G' S' ∧ Stp H1 G2 (S1 ++ S2) H' G' S' ∧ (m = ds.length - i ∧ i ≤ ds.length) ∧ wForL g b (endsOf X.K B H G S E) (ds.drop i) env',
    ⟨_, e1, G2, S2, st1, ⟨kp_refl, fun _ z => .inl z, fun _ z => .inl (List.mem_append_right _ z)⟩, ⟨rfl, Nat.zero_le _⟩, w1.go⟩, fun i m σ' H' ⟨env', G', S', st', p', ⟨em, le⟩, w'⟩ => ?_⟩
  by_cases lt : i < ds.length
  · rw [List.drop_eq_getElem_cons lt] at w'
    refine .inr ⟨sv.go i H' p'.keep lt, fun σ'' H'' => ∃ env' G' S', Sta X.K B env' σ'' H'' G' S' ∧ Stp H1 G2 (S1 ++ S2) H'' G' S' ∧ wForL g b (endsOf X.K B H G S E) (ds.drop (i + 1)) env', fun σ'' H'' ⟨e2, G3, S3, a1, a2, a3⟩ => ⟨m - 1, by omega, e2, G3, S3, a1, a2, by omega, a3⟩, fun x H'' hy => ?_⟩
    obtain ⟨T, o, sp, st2, p2, _⟩ := item_at (env := e1) (σ := σ) tn tk bp sv st' p' (List.getElem?_eq_getElem lt) hy
    refine ⟨md ds[i], ds[i], env', G', S', [], T, st2, o, sp, bp.trans p2, hg.m _ _ _ _ _ (fun e2 w2 => ?_) w'⟩
    intro σ2 H2 G3 S3 st3 p3 _
    have p4 := p2.trans p3
    refine ⟨e2, G3, S3, st3, hb.m _ _ _ ⟨fun e3 w3 σ3 H3 G4 S4 st4 q4 => ?_, fun kk d e3 w3 => postR_st (p1.trans p4) w3, fun e3 w3 => postN_st (p1.trans p4) w3, fun e3 w3 σ3 H3 G4 S4 st4 q4 => ?_⟩ w2⟩
    · exact ⟨e3, G4, S4, st4, p4.trans q4, w3⟩
    · exact ⟨e3, G4, S4, st4, p4.trans q4, w3⟩
  · have ei : i = ds.length := by omega
    subst ei
    rw [List.drop_length] at w'
    exact .inl ⟨sv.st _ H' p'.keep (Nat.le_refl _), w' σ' H' G' S' st' (p1.trans p')⟩
/-! ### while -/
def wWhileN (c : WT) (b : WS) (E : WEnds) : Nat → Env → Prop
  | 0, _ => False
  | n + 1, env => c env fun t e => Br t (b { nx := wWhileN c b E n, ct := wWhileN c b E n, bk := E.nx, rt := E.rt } e) (E.nx e)
def wWhile (c : WT) (b : WS) : WS := fun E env => ∃ n, wWhileN c b E n env
theorem whileN_mono {c : WT} (mc : MonT c) (mb : MonS b) {P Q : WEnds} (q : WEnds.le P Q) : ∀ (n : Nat) (env : Env), wWhileN c b P n env → wWhileN c b Q n env
  | 0, env, w => w
  | n + 1, env, w => mc _ _ _ (fun t e z => by
    refine z.mono (fun z => ?_) fun z => ?_
    · exact mb _ { nx := wWhileN c b P n, ct := wWhileN c b P n, bk := P.nx, rt := P.rt } _ ⟨fun e => whileN_mono mc mb q n e, fun k d e => q.rt k d e, fun e => q.nx e, fun e => whileN_mono mc mb q n e⟩ z
    · exact q.nx e z) w
theorem vs_while {c : Expr} {body : List Stmt} {t : WT} (hp : PassesOwn (model X.prog X.w) X.A X.env X.xe) (hc : VT X B c t) (hb : VSs X B body b) : VS X B (.While c body [] pos) (wWhile t b) := by
  refine ⟨PS.weak (ps_while hp hc.p hb.p) fun E σ H ⟨env, G, S, st, n, w⟩ => ?_, fun env P Q q ⟨n, w⟩ => ⟨n, whileN_mono hc.m hb.m q n env w⟩⟩
  refine ⟨fun m σ' H' => ∃ env' G' S', Sta X.K B env' σ' H' G' S' ∧ Stp H G S H' G' S' ∧ wWhileN t b (endsOf X.K B H G S E) m env', ⟨n, env, G, S, st, Stp.refl, w⟩, fun m σ' H' ⟨env', G', S', st', p', w'⟩ => ?_⟩
  cases m with
  | zero => exact w'.elim
  | succ m =>
    refine ⟨env', G', S', st', hc.m _ _ _ (fun k e1 w1 => ?_) w'⟩
    intro H1 G2 S2 st1 p1
    cases k with
    | true =>
      refine ⟨fun σ'' H'' => ∃ env' G' S', Sta X.K B env' σ'' H'' G' S' ∧ Stp H G S H'' G' S' ∧ wWhileN t b (endsOf X.K B H G S E) m env', fun σ'' H'' h => ⟨m, Nat.lt_succ_self _, h⟩, ?_⟩
      have p2 := p'.trans p1
      refine ⟨e1, G2, S2, st1, hb.m _ _ _ ⟨fun e3 w3 σ3 H3 G4 S4 st4 q4 => ⟨e3, G4, S4, st4, p2.trans q4, w3⟩, fun kk d e3 w3 => postR_st p2 w3, fun e3 w3 => postN_st p2 w3, fun e3 w3 σ3 H3 G4 S4 st4 q4 => ⟨e3, G4, S4, st4, p2.trans q4, w3⟩⟩ (w1.t rfl)⟩
    | false => exact w1.f rfl σ' H1 G2 S2 st1 (p'.trans p1)
end
end Cr
set_option Elab.async false
set_option linter.all false
set_option maxRecDepth 100000
/-! List comprehensions. -/
namespace Cr
open PySem PySem.Spec PyProof.Rows L2
/-- the own slots forgotten -/
def wipeE (env : Env) : List Nat → Env
  | [] => env
  | v :: vs => (wipeE env vs).set v none
theorem wipeE_len (env : Env) : ∀ vs, (wipeE env vs).length = env.length
  | [] => rfl
  | v :: vs => by unfold wipeE; rw [List.length_set, wipeE_len env vs]
theorem set_none {K : PySem.W.Frag} {B : Base} {env : Env} {σ : Sg} {H : Hp} {G S : List Addr} {v : Nat} (st : Sta K B env σ H G S) (x' : Option V) (hx : x' = none ∨ σ[v]? = some x') (hp : ∀ q ∈ B.pr, q.1 ≠ v ∨ σ[v]? = some x') :
    ∃ G' S', Sta K B (env.set v none) (σ.set v x') H G' S' ∧ (∀ a ∈ G', a ∈ G) ∧ (∀ a ∈ S', a ∈ S) := by
  by_cases hv : v < env.length
  · obtain ⟨x, Ga, Gi, Gb, Sa, Si, Sb, r1, r2, r3, r4, r5⟩ := st.sl.at v (List.getElem?_eq_getElem hv)
    have sl' := r5 (e' := none) (x' := x') (F := []) .non kp_refl mu_nil (fun _ _ => List.not_mem_nil)
    have hG : ∀ a ∈ Ga ++ ([] ++ Gb), a ∈ G := fun a z => by rw [r2]; simp at z ⊢; rcases z with z | z <;> simp [z]
    have hS : ∀ a ∈ Sa ++ ([] ++ Sb), a ∈ S := fun a z => by rw [r3]; simp at z ⊢; rcases z with z | z <;> simp [z]
    refine ⟨_, _, ⟨sl', ?_, fun a z q => st.dj a (hS a z) (hG a q), st.st.less hG fun a z => .inl (hS a z), fun q hq => ?_⟩, hG, hS⟩
    · have nd := st.nd
      rw [r2] at nd
      rw [List.nil_append]
      rw [List.nodup_append] at nd ⊢
      exact ⟨nd.1, (List.nodup_append.mp nd.2.1).2.1, fun a z b q => nd.2.2 a z b (List.mem_append_right _ q)⟩
    · rcases hp q hq with h | h
      · rw [List.getElem?_set_ne (Ne.symm h)]; exact st.pr q hq
      · rw [set_self h]; exact st.pr q hq
  · have hv2 : σ.length ≤ v := by rw [← st.sl.len]; omega
    have e1 : env.set v none = env := List.set_eq_of_length_le (by omega)
    have e2 : σ.set v x' = σ := List.set_eq_of_length_le hv2
    rw [e1, e2]
    exact ⟨G, S, st, fun _ z => z, fun _ z => z⟩
theorem wipe_sta {K : PySem.W.Frag} {B : Base} {env : Env} {σ : Sg} {H : Hp} {G S : List Addr} (st : Sta K B env σ H G S) : ∀ vs : List Nat, (∀ q ∈ B.pr, q.1 ∉ vs) → ∃ G' S', Sta K B (wipeE env vs) (wipe σ vs) H G' S' ∧ (∀ a ∈ G', a ∈ G) ∧ (∀ a ∈ S', a ∈ S)
  | [], _ => ⟨G, S, st, fun _ z => z, fun _ z => z⟩
  | v :: vs, hp => by
    obtain ⟨G1, S1, st1, g1, s1⟩ := wipe_sta st vs fun q hq z => hp q hq (List.mem_cons_of_mem _ z)
    obtain ⟨G2, S2, st2, g2, s2⟩ := set_none (v := v) st1 none (.inl rfl) fun q hq => .inl fun e => hp q hq (by rw [e]; exact List.mem_cons_self)
    exact ⟨G2, S2, st2, fun a z => g1 a (g2 a z), fun a z => s1 a (s2 a z)⟩
/-- forgotten in the state alone -/
theorem wipe_env {K : PySem.W.Frag} {B : Base} {env : Env} {σ : Sg} {H : Hp} {G S : List Addr} (st : Sta K B env σ H G S) : ∀ vs : List Nat, ∃ G' S', Sta K B (wipeE env vs) σ H G' S' ∧ (∀ a ∈ G', a ∈ G) ∧ (∀ a ∈ S', a ∈ S)
  | [] => ⟨G, S, st, fun _ z => z, fun _ z => z⟩
  | v :: vs => by
    obtain ⟨G1, S1, st1, g1, s1⟩ := wipe_env st vs
    cases hx : σ[v]? with
    | none =>
      have hl : σ.length ≤ v := List.getElem?_eq_none_iff.mp hx
      have e1 : (wipeE env vs).set v none = wipeE env vs := List.set_eq_of_length_le (by rw [st1.sl.len]; exact hl)
      refine ⟨G1, S1, ?_, g1, s1⟩
      show Sta K B ((wipeE env vs).set v none) σ H G1 S1
      rw [e1]; exact st1
    | some x =>
      obtain ⟨G2, S2, st2, g2, s2⟩ := set_none (v := v) st1 x (.inr hx) fun q hq => .inr hx
      rw [set_self hx] at st2
      exact ⟨G2, S2, st2, fun a z => g1 a (g2 a z), fun a z => s1 a (s2 a z)⟩
/-- slots that hold nothing may hold anything -/
theorem Slots.other {K : PySem.W.Frag} {H : Hp} : ∀ {env : Env} {σ τ : Sg} {G S : List Addr}, Slots K H env σ G S → τ.length = σ.length → (∀ (j : Nat) (kd : Nat × D), env[j]? = some (some kd) → τ[j]? = σ[j]?) → Slots K H env τ G S
  | _, _, [], _, _, .nil, _, _ => .nil
  | _, _, _ :: _, _, _, .nil, hl, _ => by simp at hl
  | _, _, [], _, _, .cons _ _, hl, _ => by simp at hl
  | _, _, y :: ys, _, _, .cons (e := e) (x := x) (G := G1) (S := S1) (es := es) (xs := xs) h t, hl, hj => by
    have t' := Slots.other (τ := ys) t (by simpa using hl) fun j kd q => by simpa using hj (j + 1) kd (by simpa using q)
    cases h with
    | non => exact .cons .non t'
    | som o =>
      have e0 := hj 0 _ rfl
      simp at e0
      subst e0
      exact .cons (.som o) t'
theorem wipe_get {σ : Sg} {j : Nat} : ∀ {vs : List Nat}, j ∉ vs → (wipe σ vs)[j]? = σ[j]?
  | [], _ => rfl
  | v :: vs, h => by
    unfold wipe
    rw [List.getElem?_set_ne (by intro e; subst e; exact h List.mem_cons_self)]
    exact wipe_get fun z => h (List.mem_cons_of_mem _ z)
theorem wipe_hit {σ : Sg} {j : Nat} : ∀ {vs : List Nat}, j ∈ vs → j < σ.length → (wipe σ vs)[j]? = some none
  | [], h, _ => by cases h
  | v :: vs, h, hl => by
    unfold wipe
    by_cases e : v = j
    · subst e
      exact List.getElem?_set_self (by rw [wipe_length]; exact hl)
    · rw [List.getElem?_set_ne e]
      rcases List.mem_cons.mp h with z | z
      · exact absurd z.symm e
      · exact wipe_hit z hl
/-- what was told of own slots alone is forgotten -/
theorem wipe_but {σ τ : Sg} {vs ws : List Nat} (b : But ws (wipe σ vs) τ) (h : ∀ i ∈ ws, i ∈ vs) : wipe τ vs = wipe σ vs := by
  apply List.ext_getElem?
  intro j
  by_cases hj : j ∈ vs
  · by_cases hl : j < τ.length
    · rw [wipe_hit hj hl, wipe_hit hj (by rw [b.1, wipe_length] at hl; exact hl)]
    · rw [List.getElem?_eq_none (by rw [wipe_length]; omega), List.getElem?_eq_none (by rw [wipe_length]; rw [b.1, wipe_length] at hl; omega)]
  · rw [wipe_get hj, b.2 j (fun z => hj (h j z)), wipe_get hj]
theorem wipeE_hit {env : Env} {j : Nat} {kd : Nat × D} : ∀ {vs : List Nat}, (wipeE env vs)[j]? = some (some kd) → j ∉ vs
  | [], _ => List.not_mem_nil
  | v :: vs, h => by
    unfold wipeE at h
    intro z
    by_cases e : v = j
    · subst e
      by_cases hl : v < (wipeE env vs).length
      · rw [List.getElem?_set_self hl] at h; cases h
      · rw [List.getElem?_eq_none (by rw [List.length_set]; omega)] at h; cases h
    · rw [List.getElem?_set_ne e] at h
      rcases List.mem_cons.mp z with q | q
      · exact e q.symm
      · exact wipeE_hit h q
def wLcL (g : WG) (c : WT) (w : WI) (vs : List Nat) : List D → Nat → List D → Env → (Nat → List D → Env → Prop) → Prop
  | [], k, acc, env, Q => Q k acc env
  | d :: ds, k, acc, env, Q => g (md d) d env fun e1 => c e1 fun b e2 => Br b
      (w e2 fun it e3 => wGive it e3 fun k' y e4 => fits (acc.length + 1) ∧ wLcL g c w vs ds (min k k') (acc ++ [y]) (wipeE e4 vs) Q)
      (wLcL g c w vs ds k acc (wipeE e2 vs) Q)
structure LcW (g : WG) (c : WT) (w : WI) (vs : List Nat) (ds : List D) (env : Env) (Q : Nat → List D → Env → Prop) : Prop where
  go : wLcL g c w vs ds 9 [] env Q
def wLc (wi : WIt) (g : WG) (c : WT) (w : WI) (vs : List Nat) : WI := fun env Q => wi env fun ds e => LcW g c w vs ds (wipeE e vs) fun k acc e' => Q (.t (k + 1) (.lst acc)) e'
structure VTs (X : Cx) (B : Base) (ifs : List Expr) (w : WT) : Prop where
  p : PTs X ifs (liftT X.K B w)
  m : MonT w
def wYes : WT := fun env Q => Q true env
theorem PTs.weak {X : Cx} {e : List Expr} {t t' : TT} (h : PTs X e t) (q : ∀ σ H Q, t' σ H Q → t σ H Q) : PTs X e t' := ⟨fun pins s σ H Q I w => h.run pins s σ H Q I (q _ _ _ w)⟩
theorem vts_nil {X : Cx} {B : Base} : VTs X B [] wYes := ⟨PTs.weak pts_nil fun σ H Q ⟨env, G, S, st, w⟩ => w H G S st Stp.refl, fun env P Q q w => q _ _ w⟩
theorem vts_one {X : Cx} {B : Base} {c : Expr} {w : WT} (h : VT X B c w) : VTs X B [c] w := ⟨pts_one h.p, h.m⟩
theorem lcL_mono {g : WG} {c : WT} {w : WI} {vs : List Nat} (mg : ∀ k d env P Q, (∀ e, P e → Q e) → g k d env P → g k d env Q) (mc : MonT c) (mw : MonI w) {P Q : Nat → List D → Env → Prop} (q : ∀ k a e, P k a e → Q k a e) :
    ∀ (ds : List D) (k : Nat) (acc : List D) (env : Env), wLcL g c w vs ds k acc env P → wLcL g c w vs ds k acc env Q
  | [], k, acc, env, h => q _ _ _ h
  | d :: ds, k, acc, env, h => mg _ _ _ _ _ (fun e1 z => mc _ _ _ (fun b e2 y => by
      refine y.mono (fun y => ?_) fun y => ?_
      · exact mw _ _ _ (fun it e3 x => wGive_mono (fun k' y' e4 v => ⟨v.1, lcL_mono mg mc mw q ds _ _ _ v.2⟩) x) y
      · exact lcL_mono mg mc mw q ds _ _ _ y) z) h
theorem wLc_mono {wi : WIt} {g : WG} {c : WT} {w : WI} {vs : List Nat} (mi : ∀ env P Q, (∀ ds e, P ds e → Q ds e) → wi env P → wi env Q) (mg : ∀ k d env P Q, (∀ e, P e → Q e) → g k d env P → g k d env Q) (mc : MonT c) (mw : MonI w) : MonI (wLc wi g c w vs) :=
  fun env P Q q h => mi _ _ _ (fun ds e z => ⟨lcL_mono mg mc mw (fun k a e' y => q _ _ y) ds _ _ _ z.go⟩) h
section
variable {K : PySem.W.Frag} {B : Base}
/-- one more item at the new list's end -/
theorem acc_more {H : Hp} {p : Addr} {us : List V} {acc : List D} {k k' : Nat} {y : V} {d : D} {A SA A2 SA2 G S : List Addr} (hp : H p = some (.lst us)) (oa : Owns K H k us acc A SA) (oy : Own K H k' y d A2 SA2) (gd : Gd (p :: A) SA) (a12 : Ap (p :: A) SA A2 SA2) (g2 : Gd A2 SA2) (a1 : Ap (p :: A) SA G S) (a2 : Ap A2 SA2 G S) :
    ∃ A' SA', Owns K (upd H p (.lst (us ++ [y]))) (min k k') (us ++ [y]) (acc ++ [d]) A' SA' ∧ Gd (p :: A') SA' ∧ Ap (p :: A') SA' G S ∧ (∀ a ∈ A', a ∈ A ∨ a ∈ A2) ∧ (∀ a ∈ SA', a ∈ SA ∨ a ∈ SA2 ∨ a ∈ A ∨ a ∈ A2) := by
  obtain ⟨A', SA', o1, l1⟩ := Owns.lowT oa (Nat.min_le_left k k')
  obtain ⟨A2', SA2', o2, l2⟩ := Own.lower _ (Nat.min_le_right k k') oy
  have o3 : Owns K H (min k k') (us ++ [y]) (acc ++ [d]) (A' ++ (A2' ++ [])) (SA' ++ (SA2' ++ [])) := o1.append (.cons o2 .nil)
  rw [List.append_nil, List.append_nil] at o3
  have lp : Low (p :: A) SA (p :: A') SA' := ⟨l1.sub.cons₂ _, fun a z => (l1.sh a z).imp id fun q => ⟨List.mem_cons_of_mem _ q.1, fun nd r => by
    rcases List.mem_cons.mp r with e | r
    · subst e; exact (List.nodup_cons.mp nd).1 q.1
    · exact q.2 (List.nodup_cons.mp nd).2 r⟩⟩
  have g1' := gd.low lp
  have g2' := g2.low l2
  have ap : Ap (p :: A') SA' A2' SA2' := ((a12.low lp).symm.low l2).symm
  have gg : Gd ((p :: A') ++ A2') (SA' ++ SA2') := g1'.app g2' ap
  have np : ∀ a ∈ A' ++ A2', a ∉ [p] := fun a z q => by
    have e := List.mem_singleton.mp q
    subst e
    rw [List.cons_append] at gg
    exact (List.nodup_cons.mp gg.nd).1 z
  have nps : ∀ a ∈ SA' ++ SA2', a ∉ [p] := fun a z q => by
    have e := List.mem_singleton.mp q
    subst e
    exact gg.dj a z List.mem_cons_self
  refine ⟨A' ++ A2', SA' ++ SA2', Owns.frame (F := [p]) (fun a o e n => by rw [upd_ne (by intro z; exact n (List.mem_singleton.mpr z))]; exact e) (fun a z => by rw [List.mem_singleton.mp z, hp]; trivial) _ o3 np nps, gg, (a1.low lp).appL (a2.low l2), fun a z => ?_, fun a z => ?_⟩
  · exact (List.mem_append.mp z).imp (fun q => l1.sub.subset q) fun q => l2.sub.subset q
  · rcases List.mem_append.mp z with z | z
    · rcases l1.sh a z with z | z
      · exact .inl z
      · exact .inr (.inr (.inl z.1))
    · rcases l2.sh a z with z | z
      · exact .inr (.inl z)
      · exact .inr (.inr (.inr z.1))
theorem Stp.beside2 {H1 H2 H3 H4 : Hp} {G2 Y A SA G' S' T X Z : List Addr} (a : Stp H1 G2 Y H2 (A ++ G') (SA ++ S')) (k : Kp [] H2 H3) (b : Stp H3 G' (T ++ S') H4 X Z) (hT : ∀ x ∈ T, x ∈ Y) : Stp H1 G2 Y H4 (A ++ X) (SA ++ Z) := by
  have bk : ∀ x, H3 x = none → x ∈ G2 ∨ H1 x = none := fun x z => a.back (by
    cases e : H2 x with
    | none => rfl
    | some o => rw [k x o e List.not_mem_nil] at z; cases z)
  refine ⟨fun x o h n => b.keep x o (k x o (a.keep x o h n) List.not_mem_nil) fun z => ?_, fun x z => ?_, fun x z => ?_⟩
  · rcases a.sub x (List.mem_append_right _ z) with z | z
    · exact n z
    · rw [h] at z; cases z
  · rcases List.mem_append.mp z with z | z
    · exact a.sub x (List.mem_append_left _ z)
    · rcases b.sub x z with z | z
      · exact a.sub x (List.mem_append_right _ z)
      · exact bk x z
  · rcases List.mem_append.mp z with z | z
    · exact a.ss x (List.mem_append_left _ z)
    · rcases b.ss x z with z | z | z
      · rcases List.mem_append.mp z with z | z
        · exact .inl (hT x z)
        · exact a.ss x (List.mem_append_right _ z)
      · exact .inr (a.sub x (List.mem_append_right _ z))
      · exact .inr (bk x z)
/-- an object that is owned beside the slots is written -/
theorem Sta.wrote {env : Env} {σ : Sg} {H : Hp} {G S : List Addr} {p : Addr} {o : HO} (st : Sta K B env σ H G S) (hm : Mut (H p)) (g : p ∉ G) (s : p ∉ S) (bp : Stp B.H B.G B.S (upd H p o) G S) : Sta K B env σ (upd H p o) G S :=
  ⟨st.sl.frame (F := [p]) (fun a u e n => by rw [upd_ne (by intro z; exact n (List.mem_singleton.mpr z))]; exact e) (fun a z => by rw [List.mem_singleton.mp z]; exact hm) (fun a z q => g (by rw [← List.mem_singleton.mp q]; exact z)) (fun a z q => s (by rw [← List.mem_singleton.mp q]; exact z)), st.nd, st.dj, bp, st.pr⟩
theorem lcP {wi : WIt} {g : WG} {c : WT} {w : WI} {vs ws : List Nat} (mi : ∀ env P Q, (∀ ds e, P ds e → Q ds e) → wi env P → wi env Q) (mg : ∀ k d env P Q, (∀ e, P e → Q e) → g k d env P → g k d env Q) (mc : MonT c) (mw : MonI w) (hw : ∀ i ∈ ws, i ∈ vs)
    (hpr : ∀ q ∈ B.pr, q.1 ∉ vs) {σ : Sg} {H : Hp} {Q : VK} (h : liftI K B (wLc wi g c w vs) σ H Q) : tLc (liftIt K B wi) (liftG K B ws g) (liftT K B c) (liftI K B w) vs σ H Q := by
  obtain ⟨env, G, S, st, w0⟩ := h
  refine ⟨env, G, S, st, mi _ _ _ (fun ds e1 w1 => ?_) w0⟩
  have w1 := w1.go
  intro J H1 G2 S2 S1 st1 tn tk p1 sv p hp
  have bp := st.st.trans p1
  -- what each turn begins with
  refine ⟨fun i m H' => ∃ e0 G' S' us acc k A SA, Sta K B (wipeE e0 vs) (wipe σ vs) H' G' S' ∧ H' p = some (.lst us) ∧ Owns K H' k us acc A SA ∧ Gd (p :: A) SA ∧ Ap (p :: A) SA G' S' ∧ Stp H1 G2 (S1 ++ S2) H' ((p :: A) ++ G') (SA ++ S') ∧ (m = ds.length - i ∧ i ≤ ds.length) ∧
    wLcL g c w vs (ds.drop i) k acc (wipeE e0 vs) (fun k acc e' => PostI K B σ H G S Q (.t (k + 1) (.lst acc)) e'), ?_, ?_⟩
  · obtain ⟨G', S', stw, hg, hs⟩ := wipe_sta st1 vs hpr
    have n1 : p ∉ G' := fun z => by have := stw.sl.mu p z; rw [hp] at this; exact this
    have n2 : p ∉ S' := fun z => by obtain ⟨o, e⟩ := stw.sl.stk p z; rw [hp] at e; cases e
    refine ⟨_, e1, G', S', [], [], 9, [], [], stw.new hp, upd_same, .nil, ⟨List.nodup_cons.mpr ⟨List.not_mem_nil, List.nodup_nil⟩, fun a z => absurd z List.not_mem_nil⟩, ⟨fun a z => by rw [List.mem_singleton.mp z]; exact n1, fun a z => absurd z List.not_mem_nil, fun a z q => n2 (by rw [← List.mem_singleton.mp q]; exact z)⟩, ?_, ⟨rfl, Nat.zero_le _⟩, w1⟩
    refine ⟨kp_new hp, fun a z => ?_, fun a z => .inl (List.mem_append_right _ (hs a (by simpa using z)))⟩
    rcases List.mem_append.mp z with z | z
    · rw [List.mem_singleton.mp z]; exact .inr hp
    · exact .inl (hg a z)
  rintro i m H' ⟨e0, G', S', us, acc, k, A, SA, st', hl, oa, gd, ap, p', ⟨em, le⟩, w'⟩
  have p'' : Stp H1 G2 (S1 ++ S2) H' G' S' := p'.less (fun a z => by simp [z]) fun a z => by simp [z]
  by_cases lt : i < ds.length
  · rw [List.drop_eq_getElem_cons lt] at w'
    refine .inr ⟨sv.go i H' p'.keep lt, fun H' => ∃ e0 G' S' us acc k A SA, Sta K B (wipeE e0 vs) (wipe σ vs) H' G' S' ∧ H' p = some (.lst us) ∧ Owns K H' k us acc A SA ∧ Gd (p :: A) SA ∧ Ap (p :: A) SA G' S' ∧ Stp H1 G2 (S1 ++ S2) H' ((p :: A) ++ G') (SA ++ S') ∧
      wLcL g c w vs (ds.drop (i + 1)) k acc (wipeE e0 vs) (fun k acc e' => PostI K B σ H G S Q (.t (k + 1) (.lst acc)) e'), fun H'' ⟨a1, a2, a3, a4, a5, a6, a7, a8, b1, b2, b3, b4, b5, b6, b7⟩ => ⟨m - 1, by omega, a1, a2, a3, a4, a5, a6, a7, a8, b1, b2, b3, b4, b5, b6, by omega, b7⟩, fun x H'' hy => ?_⟩
    obtain ⟨T, o, sp, st2, p2, kk, hT⟩ := item_at (env := e1) (σ := σ) tn tk bp sv st' p'' (List.getElem?_eq_getElem lt) hy
    have hTY : ∀ a ∈ T, a ∈ S1 ++ S2 := fun a z => List.mem_append_left _ (hT a z)
    -- the new list stands beside all of it
    have apT : Ap (p :: A) SA G' (T ++ S') := by
      refine ⟨ap.g, ap.s1, fun a z q => ?_⟩
      rcases List.mem_append.mp z with z | z
      · rcases p'.sub a (List.mem_append_left _ q) with r | r
        · exact tn a (hT a z) r
        · obtain ⟨u, e⟩ := tk a (hT a z); rw [r] at e; cases e
      · exact ap.s2 a z q
    have muA : ∀ {HH : Hp}, HH p = some (.lst us) → Owns K HH k us acc A SA → Mu HH (p :: A) := fun {HH} e oo a z => by
      rcases List.mem_cons.mp z with z | z
      · rw [z, e]; trivial
      · exact Owns.mu _ oo a z
    have hl2 : H'' p = some (.lst us) := kk p _ hl List.not_mem_nil
    have oa2 : Owns K H'' k us acc A SA := Owns.frame kk mu_nil _ oa (fun _ _ => List.not_mem_nil) fun _ _ => List.not_mem_nil
    -- .. and stays, whatever the turn does
    have carry : ∀ {H4 : Hp} {X Z : List Addr}, Stp H'' G' (T ++ S') H4 X Z → H4 p = some (.lst us) ∧ Owns K H4 k us acc A SA ∧ Ap (p :: A) SA X Z ∧ Stp H1 G2 (S1 ++ S2) H4 ((p :: A) ++ X) (SA ++ Z) := fun {H4 X Z} q => by
      refine ⟨q.keep p _ hl2 (ap.g p List.mem_cons_self), ?_, apT.frame (muA hl2 oa2) (Owns.stk _ oa2) q, p'.beside2 kk q hTY⟩
      exact Owns.frame q.keep st2.sl.mu _ oa2 (fun a z => ap.g a (List.mem_cons_of_mem _ z)) ap.s1
    refine ⟨md ds[i], ds[i], _, G', S', [], T, st2, o, sp, bp.trans p2, mg _ _ _ _ _ (fun e2 w2 => ?_) w'⟩
    intro σ2 H2 G3 S3 st3 p3 bt
    have wσ := wipe_but bt hw
    refine ⟨wσ, e2, G3, S3, st3, mc _ _ _ (fun b e3 w3 => ?_) w2⟩
    intro H3 G4 S4 st4 p4
    cases b with
    | true =>
      refine ⟨e3, G4, S4, st4, mw _ _ _ (fun it e4 w4 => ?_) (w3.t rfl)⟩
      intro y H4 G5 S5 G6 S6 st5 h5 sp5 p5
      obtain ⟨k', d', e5, A2, SA2, G7, S7, ⟨f, w6⟩, st6, o6, sp6, p6, _⟩ := give_ok st5 h5 sp5 w4
      obtain ⟨hl4, oa4, ap4, pp4⟩ := carry ((p3.trans p4).trans (p5.trans p6))
      have ap4a := ap4.symm.l.symm
      have ap4b := ap4.symm.r.symm
      obtain ⟨A', SA', o7, gd7, ap7, sA, sS⟩ := acc_more (G := G7) (S := S7) hl4 oa4 o6 gd ap4a sp6.gd ap4b sp6.ap
      refine ⟨us, hl4, Nat.lt_of_lt_of_le (by rw [Owns.len oa4]; exact Nat.lt_succ_self _) f, ?_⟩
      obtain ⟨G8, S8, st8, g8, s8⟩ := wipe_sta st6 vs hpr
      rw [wσ] at st8
      have ap8 : Ap (p :: A') SA' G8 S8 := (ap7.symm.subL g8 fun a z => .inl (s8 a z)).symm
      have pp5 : Stp H1 G2 (S1 ++ S2) (upd H4 p (.lst (us ++ [y]))) ((p :: A') ++ G8) (SA' ++ S8) := by
        refine pp4.trans ⟨fun a u e n => ?_, fun a z => .inl ?_, fun a z => ?_⟩
        · rw [upd_ne (by intro z; subst z; exact n (by simp))]; exact e
        · rcases List.mem_append.mp z with z | z
          · rcases List.mem_cons.mp z with z | z
            · subst z; simp
            · rcases sA a z with z | z <;> simp [z]
          · simp [g8 a z]
        · rcases List.mem_append.mp z with z | z
          · rcases sS a z with z | z | z | z <;> simp [z]
          · exact .inl (by simp [s8 a z])
      have bp5 : Stp B.H B.G B.S (upd H4 p (.lst (us ++ [y]))) G8 S8 := (bp.trans pp5).less (fun a z => by simp [z]) fun a z => by simp [z]
      exact ⟨e5, G8, S8, us ++ [y], acc ++ [d'], min k k', A', SA', st8.wrote (by rw [hl4]; trivial) (ap8.g p List.mem_cons_self) (fun z => ap8.s2 p z List.mem_cons_self) bp5, upd_same, o7, gd7, ap8, pp5, w6⟩
    | false =>
      obtain ⟨hl4, oa4, ap4, pp4⟩ := carry (p3.trans p4)
      obtain ⟨G8, S8, st8, g8, s8⟩ := wipe_sta st4 vs hpr
      rw [wσ] at st8
      have ap8 : Ap (p :: A) SA G8 S8 := (ap4.symm.subL g8 fun a z => .inl (s8 a z)).symm
      refine ⟨e3, G8, S8, us, acc, k, A, SA, st8, hl4, oa4, gd, ap8, pp4.less (fun a z => ?_) (fun a z => ?_), w3.f rfl⟩
      · rcases List.mem_append.mp z with z | z
        · exact List.mem_append_left _ z
        · exact List.mem_append_right _ (g8 a z)
      · rcases List.mem_append.mp z with z | z
        · exact .inl (List.mem_append_left _ z)
        · exact .inl (List.mem_append_right _ (s8 a z))
  · have ei : i = ds.length := by omega
    subst ei
    rw [List.drop_length] at w'
    refine .inl ⟨sv.st _ H' p'.keep (Nat.le_refl _), ?_⟩
    have w2 : PostI K B σ H G S Q (.t (k + 1) (.lst acc)) (wipeE e0 vs) := w'
    have sl' : Slots K H' (wipeE e0 vs) σ G' S' := st'.sl.other (by rw [wipe_length]) fun j kd q => by rw [wipe_get (wipeE_hit q)]
    exact w2 (.ref p) H' (p :: A) SA G' S' ⟨sl', st'.nd, st'.dj, st'.st, st.pr⟩ (.t (.own hl oa)) (Sep.of gd st'.nd ap) (p1.trans p')
end
section
variable {X : Cx} {B : Base} {pos : Pos}
/-- [elt for tg in iter if ..] -/
theorem vi_lc (s0 : Shared) {elt tg iter : Expr} {ifs : List Expr} {scope : Scope} {own : List (Str × Nat)} {wi : WIt} {g : WG} {ws : List Nat} {c : WT} {w : WI} (hc : X.calm = true) (hN : X.N.Nodup) (hi : VIt X B tg iter wi) (ok : BlkOk X.N X.env.scope scope own) (hw : ∀ i ∈ ws, i ∈ own.map (·.2)) (hpr : ∀ q ∈ B.pr, q.1 ∉ own.map (·.2))
    (hg : ∀ (s : Shared) (H : Hp) (C : Addr) (cl : List (Str × Addr)) (fp : List Addr), VG (X.blk s H scope (compEnvC scope cl C X.env) fp) B tg ws g)
    (ht : ∀ (s : Shared) (H : Hp) (C : Addr) (cl : List (Str × Addr)) (fp : List Addr), VTs (X.blk s H scope (compEnvC scope cl C X.env) fp) B ifs c)
    (he : ∀ (s : Shared) (H : Hp) (C : Addr) (cl : List (Str × Addr)) (fp : List Addr), VI (X.blk s H scope (compEnvC scope cl C X.env) fp) B elt w)
    (hs : ∀ x, foldedSetIterable iter X.env x = pure x := by intro _; rfl) : VI X B (.ListComp elt [⟨tg, iter, ifs, 0⟩] scope pos) (wLc wi g c w (own.map (·.2))) := by
  have mg := (hg s0 (fun _ => none) 0 [] []).m
  have mc := (ht s0 (fun _ => none) 0 [] []).m
  have mw := (he s0 (fun _ => none) 0 [] []).m
  exact ⟨PE.weak (pe_lc hc hN hi.p ok (fun s H C cl fp => (hg s H C cl fp).p) (fun s H C cl fp => (ht s H C cl fp).p) (fun s H C cl fp => (he s H C cl fp).p) hs) fun σ H Q h => lcP hi.m mg mc mw hw hpr h, wLc_mono hi.m mg mc mw⟩
end
end Cr
set_option Elab.async false
set_option linter.all false
set_option maxRecDepth 100000
/-! Defs: room with no guard around, what a def promises, the rule for a body, the run of a call. -/
namespace Cr
open PySem PySem.Spec PyProof.Rows L2

structure Rm (k : Nat) (A : Around) : Prop where
  r : Room k A
  g : A.guards = some []
theorem Rm.less {j k : Nat} {A : Around} (r : Rm k A) (h : j ≤ k) : Rm j A := ⟨r.r.mono h, r.g⟩
theorem Rm.deep {k : Nat} {A : Around} (r : Rm (k + 1) A) (env : PySem.Env) : Rm k (A.deeper env) := ⟨r.r.deeper env, r.g⟩

/-- a def's promise where no guard stands around -/
structure Fn (P : Program) (w : World) (K : PySem.W.Frag) (mg : Str → Option Value) (base : Heap) (CX : CXT) (k : Nat) (f : Addr) (fd : FuncData) (ps : List Str) (sp : Sp) : Prop where
  len : ∀ vs H Q E, sp vs H Q E → vs.length = ps.length
  go : ∀ (A : Around) (outer : List PySem.Env) (s : Shared) (H : Hp) (args : Args) (us : List Value) (vs : List V) (Q : VK) (E : XK), Rm k A → Env0 P w K mg base A outer s H → BindsTo s fd args (ps.zip us) → Vals vs us →
    sp vs H Q E → codeAny (model P w) A (.call (.ref f) args) (L2.CR CX outer P w H s Q E) s

section
variable {P : Program} {w : World} {K : PySem.W.Frag} {mg : Str → Option Value} {base : Heap} {CX : CXT} {k : Nat} {f : Addr} {fd : FuncData} {ps N : List Str} {sp : Sp} {scope : Scope} {qual name : Str} {params : Arguments} {body : List PySem.Stmt}
theorem Fn.up {j : Nat} (F : Fn P w K mg base CX j f fd ps sp) (h : j ≤ k) : Fn P w K mg base CX k f fd ps sp := ⟨F.len, fun A outer s H args us vs Q E hr => F.go A outer s H args us vs Q E (hr.less h)⟩
theorem Fn.weak {sp' : Sp} (F : Fn P w K mg base CX k f fd ps sp) (h : ∀ vs H Q E, sp' vs H Q E → sp vs H Q E) : Fn P w K mg base CX k f fd ps sp' :=
  ⟨fun vs H Q E q => F.len vs H Q E (h _ _ _ _ q), fun A outer s H args us vs Q E hr he hb hv hs => F.go A outer s H args us vs Q E hr he hb hv (h _ _ _ _ hs)⟩

/-- the rule for a def by its body -/
theorem fn_body {dV kV doc pm cdv ct oc : Value} {an od : Option Addr} {osl : Array (Option Value)} (lk : K.lookup f = some ⟨oc, od, .func (PySem.W.fnOf name qual params body scope dV kV doc pm an cdv ct), osl⟩)
    (hcd : PySem.W.codeIn K cdv qual = true) (S : FnScope N ps scope) (len : ∀ vs H Q E, sp vs H Q E → vs.length = ps.length)
    (hb : ∀ (A : Around) (outer : List PySem.Env) (s : Shared) (H : Hp) (vs : List V) (Q : VK) (E : XK), Rm k (A.deeper (envOfC qual scope s.heap.objs.size f cdv)) → sp vs H Q E →
      ∃ t, PSs (cxOf CX P w K mg base N qual scope f cdv A outer s H E) body t ∧ t { nx := fun _ H' => Q .non H', rt := Q } (start N vs) H) :
    Fn P w K mg base CX (k + 1) f (PySem.W.fnOf name qual params body scope dV kV doc pm an cdv ct) ps sp := by
  refine ⟨len, fun A outer s H args us vs Q E hr e0 bnd r hsp => ?_⟩
  have hl := len _ _ _ _ hsp
  have inK : K.In s.heap := e0.mod.kin.keeps fun b o e => (e0.bs b o e).1
  have noLim : s.heap.NoLimit := e0.mod.nolimit.keeps fun b o e => (e0.bs b o e).1
  refine codeAny_call_function hr.r.depth (inK _ _ lk) rfl S.co S.gen rfl (PySem.W.codeRec_of inK hcd) (bnd _ _ _ _ ?_)
  refine wpAny_newFunctionEnv_cells S.kind (fun ⟨n, v⟩ hy => ?_) fun env he s1 x => ?_
  · rcases S.par n (List.of_mem_zip hy).1 with q | q
    · exact .inl q
    · exact .inr ⟨q, PySem.W.cellsFrom_some _ _ _ (.inl q)⟩
  subst he
  refine ⟨noLim.keeps x.toInCall.keep, codeAny_func ?_⟩
  obtain ⟨t, ht, hq⟩ := hb A outer s H vs Q E (hr.deep _) hsp
  have I0 : Inv (cxOf CX P w K mg base N qual scope f cdv A outer s H E) [] (start N vs) H s1 := inv_start S hr.r.hd e0 hl r x
  refine wpAny_mono (ht.run [] s1 (start N vs) H _ I0 hq) (fun fl s' hs => ?_) fun e s' hs => hs
  have out : ∀ {σ' : Sg} {H' : Hp} {v : V} {u : Value}, Inv (cxOf CX P w K mg base N qual scope f cdv A outer s H E) [] σ' H' s' → RelV v u → Q v H' → CE outer P w H s Q u s' :=
    fun {σ' H' v u} J rv q => ⟨v, H', J.os, J.bare, J.base, J.hok, rv, q⟩
  match fl, hs with
  | .ret u, hs => obtain ⟨v, σ', H', J, rv, q⟩ := hs; exact out J rv q
  | .next, hs => obtain ⟨σ', H', J, q⟩ := hs; exact out (v := V.non) (u := Value.none) J rfl q
  | .brk, hs => obtain ⟨_, _, _, q⟩ := hs; exact False.elim q
  | .cont, hs => obtain ⟨_, _, _, q⟩ := hs; exact False.elim q
end

section
variable {X : Cx} {CX : CXT} {k : Nat} {f : Addr} {fd : FuncData} {ps ks : List Str} {sp : Sp} {E : XK} {x : Str} {p pos : Pos} {e : Expr} {es : List Expr} {kws : List Keyword} {t tk : TA} {g : List Value → List Value → List Value} {gV : List V → List V → List V}
theorem run_bound {pins : List (Addr × Obj)} {σ : Sg} {H : Hp} {s : Shared} {Q : VK} {args : Args} {us : List Value} {vs : List V} (F : Fn X.prog X.w X.K X.mg X.base CX k f fd ps sp) (hr : Rm k X.A) (hb : BindsTo s fd args (ps.zip us)) (hx : Passes CX X E)
    (I : Inv X pins σ H s) (r : Vals vs us) (h : sp vs H Q E) : wpAny (model X.prog X.w) X.A (call (.ref f) args.pos args.kw) (EP X pins σ Q) X.xe s := by
  refine wpAny_call (codeAny_mono (F.go X.A X.stack s H args us vs Q E hr I.env0 hb r h) fun r s' hq => ?_)
  match r, hq with
  | .error e, hq => exact hx pins σ H s e s' I hq
  | .ok (.ret u), hq => exact I.after hq
  | .ok .next, hq => exact False.elim hq
  | .ok .brk, hq => exact False.elim hq
  | .ok .cont, hq => exact False.elim hq
/-- f(e, ..) -/
theorem pe_fn (F : Fn X.prog X.w X.K X.mg X.base CX k f fd ps sp) (hr : Rm k X.A) (hm : X.mg x = some (.ref f)) (hk : PySem.W.keepIn X.K (.ref f) = true) (hb : Binds X.K fd ps []) (hx : Passes CX X E)
    (ha : PA X (e :: es) t) (hg : Gl X x) (hdb : (x == ("__debug__" : Str)) = false) (he : starEach (e :: es) X.env = (false, eval e X.env) :: starEach es X.env) (hpl : (backTo pos (starEach es X.env)).any (·.1) = false) :
    PE X (.Call (.Name x p) (e :: es) [] pos) (tCall sp [] E t) := by
  refine ⟨fun pins s σ H Q I h => wpAny_Call_Name_kw (ld_glob I hg hm ?_ hdb)⟩
  refine PySem.W.callWith_K (h₀ := X.base) I.ok.mod.kin hk (thn (ha.run pos pins s σ H _ I h) fun us s1 ⟨vs, H1, I1, r, q⟩ => ⟨I1.kIn, ?_⟩) he hpl
  have q : sp vs H1 Q E := by simpa using q
  have hl : us.length = ps.length := by rw [← r.length]; exact F.len _ _ _ _ q
  have b := hb s1 us I1.kIn (by rw [List.append_nil]; exact hl)
  rw [List.append_nil] at b
  exact run_bound (args := ⟨us, []⟩) F hr b hx I1 r q
/-- f(e, .., k = v, ..) -/
theorem pe_fnK (F : Fn X.prog X.w X.K X.mg X.base CX k f fd ps sp) (hr : Rm k X.A) (hm : X.mg x = some (.ref f)) (hk : PySem.W.keepIn X.K (.ref f) = true) (hb : KBinds X.K fd ps ks g gV) (hx : Passes CX X E)
    (ha : PA X (e :: es) t) (hkw : PK X kws tk) (hg : Gl X x) (hall : (backToKw pos (keywordEach kws X.env)).all (·.1.isSome) = true) (hks : (backToKw pos (keywordEach kws X.env)).filterMap (·.1) = ks)
    (hdb : (x == ("__debug__" : Str)) = false) (he : starEach (e :: es) X.env = (false, eval e X.env) :: starEach es X.env)
    (hpl : ((backTo pos (starEach (e :: es) X.env)).any (·.1) || (backToKw pos (keywordEach kws X.env)).any (·.1.isNone)) = false) :
    PE X (.Call (.Name x p) (e :: es) kws pos) (tCallK sp gV E t tk) := by
  refine ⟨fun pins s σ H Q I h => wpAny_Call_Name_kw (ld_glob I hg hm ?_ hdb)⟩
  refine PySem.W.callWith_KW (h₀ := X.base) I.ok.mod.kin hk hall (thn (ha.run pos pins s σ H _ I h) fun us s1 ⟨vs, H1, I1, r, q⟩ => ?_) hpl he
  refine thn (hkw.run pos pins s1 σ H1 _ I1 q) fun ws s2 ⟨zs, H2, I2, rz, q2⟩ => ⟨I2.kIn, ?_⟩
  rw [hks]
  have r2 := hb.rel r rz
  exact run_bound (args := ⟨us, ks.zip ws⟩) F hr (hb.to s2 us ws I2.kIn (by rw [← r2.length]; exact F.len _ _ _ _ q2)) hx I2 r2 q2
/-- f(k = v, ..) -/
theorem pe_fnK0 (F : Fn X.prog X.w X.K X.mg X.base CX k f fd ps sp) (hr : Rm k X.A) (hm : X.mg x = some (.ref f)) (hk : PySem.W.keepIn X.K (.ref f) = true) (hb : KBinds X.K fd ps ks g gV) (hx : Passes CX X E)
    (hkw : PK X kws tk) (hg : Gl X x) (hall : (backToKw pos (keywordEach kws X.env)).all (·.1.isSome) = true) (hks : (backToKw pos (keywordEach kws X.env)).filterMap (·.1) = ks)
    (hdb : (x == ("__debug__" : Str)) = false) (hpl : ((backTo pos (starEach [] X.env)).any (·.1) || (backToKw pos (keywordEach kws X.env)).any (·.1.isNone)) = false) :
    PE X (.Call (.Name x p) [] kws pos) (tCallK sp gV E tNil tk) := by
  refine ⟨fun pins s σ H Q I h => wpAny_Call_Name_kw (ld_glob I hg hm ?_ hdb)⟩
  refine PySem.W.callWith_KW0 (h₀ := X.base) I.ok.mod.kin hk hall ?_ hpl
  refine thn (hkw.run pos pins s σ H _ I h) fun ws s2 ⟨zs, H2, I2, rz, q2⟩ => ⟨I2.kIn, ?_⟩
  rw [hks]
  have r2 := hb.rel (vs := []) (us := []) .nil rz
  exact run_bound (args := ⟨[], ks.zip ws⟩) F hr (hb.to s2 [] ws I2.kIn (by rw [← r2.length]; exact F.len _ _ _ _ q2)) hx I2 r2 q2
end
end Cr
set_option Elab.async false
set_option linter.all false
set_option maxRecDepth 100000
/-! Contracts of defs in trees; their bodies. -/
namespace Cr
open PySem PySem.Spec PyProof.Rows L2

mutual
/-- all lists within are owned at depth k -/
def full : Nat → D → Bool
  | k, .tup xs => fulls k xs
  | k, .fl xs => fulls k xs
  | k, .lst xs => match k with
    | 0 => false
    | k + 1 => fulls k xs
  | _, .non => true
  | _, .bl _ => true
  | _, .int _ => true
  | _, .str _ => true
def fulls : Nat → List D → Bool
  | _, [] => true
  | k, d :: ds => full k d && fulls k ds
end
section
variable {K : PySem.W.Frag} {H : Hp}
mutual
theorem Own.full : ∀ (d : D) {k j : Nat} {v : V} {G S : List Addr}, full k d = true → Own K H k v d G S → S = [] ∧ (k ≤ j → Own K H j v d G S)
  | .non, _, _, _, _, _, _, h => by cases h; exact ⟨rfl, fun _ => .non⟩
  | .bl _, _, _, _, _, _, _, h => by cases h; exact ⟨rfl, fun _ => .bl _⟩
  | .int _, _, _, _, _, _, _, h => by cases h; exact ⟨rfl, fun _ => .int _⟩
  | .str _, _, _, _, _, _, _, h => by cases h; exact ⟨rfl, fun _ => .str _⟩
  | .tup ds, k, j, _, _, _, f, h => by
    unfold Cr.full at f
    cases h with
    | tup h1 h2 => exact ⟨(Owns.full ds (j := j) f h2).1, fun l => .tup h1 ((Owns.full ds f h2).2 l)⟩
  | .fl ds, k, j, _, _, _, f, h => by
    unfold Cr.full at f
    cases h with
    | fl h1 h2 => exact ⟨(Owns.full ds (j := j) f h2).1, fun l => .fl h1 ((Owns.full ds f h2).2 l)⟩
  | .lst ds, k, j, _, _, _, f, h => by
    unfold Cr.full at f
    cases h with
    | own h1 h2 =>
      refine ⟨(Owns.full ds (j := j) f h2).1, fun l => ?_⟩
      cases j with
      | zero => omega
      | succ j => exact .own h1 ((Owns.full ds f h2).2 (by omega))
    | shr h1 h2 => cases f
theorem Owns.full : ∀ (ds : List D) {k j : Nat} {vs : List V} {G S : List Addr}, fulls k ds = true → Owns K H k vs ds G S → S = [] ∧ (k ≤ j → Owns K H j vs ds G S)
  | [], _, _, _, _, _, _, h => by cases h; exact ⟨rfl, fun _ => .nil⟩
  | d :: ds, k, j, _, _, _, f, h => by
    unfold fulls at f
    rw [Bool.and_eq_true] at f
    cases h with
    | cons h1 h2 =>
      obtain ⟨e1, r1⟩ := Own.full d (j := j) f.1 h1
      obtain ⟨e2, r2⟩ := Owns.full ds (j := j) f.2 h2
      exact ⟨by rw [e1, e2]; rfl, fun l => .cons (r1 l) (r2 l)⟩
end
end
/-- a tree held at depth k' is good for depth k -/
def okM (k k' : Nat) (d : D) : Prop := k ≤ k' ∨ full k' d = true
theorem Own.okM {K : PySem.W.Frag} {H : Hp} {k k' : Nat} {v : V} {d : D} {G S : List Addr} (h : Cr.okM k k' d) (o : Own K H k' v d G S) : ∃ G' S', Own K H k v d G' S' ∧ Low G S G' S' := by
  rcases Nat.le_total k k' with l | l
  · exact Own.lower _ l o
  · rcases h with h | h
    · exact Own.lower _ h o
    · exact ⟨_, _, (Own.full _ h o).2 l, Low.refl⟩

/-- borrowed arguments: the entry's environment -/
def ent : Nat → List D → Env
  | n, [] => List.replicate n none
  | 0, _ :: _ => []
  | n + 1, d :: ds => some (md d, d) :: ent n ds
theorem start_cons {n : Nat} {x : Str} {N : List Str} {v : V} {vs : List V} : L2.start (x :: N) (v :: vs) = some v :: L2.start N vs := by
  unfold L2.start
  rw [List.map_cons, List.length_cons, List.length_cons, Nat.succ_sub_succ]; rfl
theorem ent_nil {K : PySem.W.Frag} {H : Hp} : ∀ (N : List Str), Slots K H (ent N.length []) (L2.start N []) [] []
  | [] => .nil
  | x :: N => by
    have h := ent_nil (K := K) (H := H) N
    unfold ent L2.start at h ⊢
    exact .cons (G := []) (S := []) .non (by simpa using h)
theorem ent_ok {K : PySem.W.Frag} {H : Hp} : ∀ (N : List Str) {vs : List V} {ds : List D} {S : List Addr}, ds.length ≤ N.length → Owns K H 0 vs ds [] S → ∃ S', Slots K H (ent N.length ds) (L2.start N vs) [] S' ∧ ∀ a ∈ S', a ∈ S
  | N, _, [], _, _, h => by
    cases h
    exact ⟨[], ent_nil N, fun a z => z⟩
  | [], _, _ :: _, _, l, _ => absurd l (by simp)
  | x :: N, _, d :: ds, _, l, h => by
    generalize eg : ([] : List Addr) = G0 at h
    cases h with
    | cons h1 h2 =>
      obtain ⟨rfl, rfl⟩ := List.append_eq_nil_iff.mp eg.symm
      obtain ⟨S1, o, e1⟩ := own_md h1
      obtain ⟨S2, s, e2⟩ := ent_ok N (by simpa using l) h2
      refine ⟨S1 ++ S2, ?_, fun a z => ?_⟩
      · rw [start_cons (n := 0)]
        exact .cons (G := []) (G' := []) (.som o) s
      · rcases List.mem_append.mp z with z | z
        · exact List.mem_append_left _ (e1 a z)
        · exact List.mem_append_right _ (e2 a z)

/-- a def that only looks at its arguments: R tells of the arguments' trees the answer's depth and what its tree keeps -/
abbrev RB := List D → Nat → (D → Prop) → Prop
abbrev RI := List D → Nat → (D → D → Prop) → Prop
def spB (K : PySem.W.Frag) (n : Nat) (R : RB) : Sp := fun vs H Q _ => ∃ ds S k P, ds.length = n ∧ Owns K H 0 vs ds [] S ∧ R ds k P ∧
  ∀ d v H' G1 S1, P d → Own K H' k v d G1 S1 → Gd G1 S1 → Stp H [] S H' G1 S1 → Q v H'
def endB (k : Nat) (P : D → Prop) : WEnds := ⟨fun _ => P .non, fun k' d' _ => okM k k' d' ∧ P d', fun _ => False, fun _ => False⟩
/-- .. that may change its first one, owned at depth m: d' it is then -/
def spI (K : PySem.W.Frag) (n m : Nat) (R : RI) : Sp := fun vs H Q _ => ∃ v0 vr d0 dr G S0 Sr k P, vs = v0 :: vr ∧ dr.length + 1 = n ∧ Own K H m v0 d0 G S0 ∧ Owns K H 0 vr dr [] Sr ∧ Gd G (S0 ++ Sr) ∧ R (d0 :: dr) k P ∧
  ∀ d d' v H' G1 S1 G2 S2, P d d' → Own K H' m v0 d' G2 S2 → Own K H' k v d G1 S1 → Sep G1 S1 G2 S2 → Gd G2 S2 → Stp H G (S0 ++ Sr) H' (G1 ++ G2) (S1 ++ S2) → Q v H'
def out0 (m : Nat) (P : D → Prop) (e : Env) : Prop := ∃ m' d', e[0]? = some (some (m', d')) ∧ okM m m' d' ∧ P d'
def endI (m k : Nat) (P : D → D → Prop) : WEnds := ⟨fun e => out0 m (P .non) e, fun k' d e => okM k k' d ∧ out0 m (P d) e, fun _ => False, fun _ => False⟩
def entI (n m : Nat) : List D → Env
  | [] => ent n []
  | d :: ds => some (m, d) :: ent (n - 1) ds

section
variable {P : Program} {w : World} {K : PySem.W.Frag} {mg : Str → Option Value} {base : Heap} {CX : CXT} {k n m : Nat} {f : Addr} {fd : FuncData} {ps N : List Str} {scope : Scope} {qual name : Str} {params : Arguments} {body : List PySem.Stmt}
theorem len_B {R : RB} (hn : ps.length = n) : ∀ vs H Q E, spB K n R vs H Q E → vs.length = ps.length := fun vs H Q E ⟨ds, S, k, P, l, o, _⟩ => by rw [Owns.len o, l, hn]
theorem len_I {R : RI} (hn : ps.length = n) : ∀ vs H Q E, spI K n m R vs H Q E → vs.length = ps.length := fun vs H Q E ⟨v0, vr, d0, dr, G, S0, Sr, k, P, e, l, _, o, _⟩ => by rw [e, List.length_cons, Owns.len o, hn]; exact l
theorem end_B {B : Base} {H : Hp} {S : List Addr} {Q : VK} {Pd : D → Prop} (h : ∀ d v H' G1 S1, Pd d → Own K H' k v d G1 S1 → Gd G1 S1 → Stp H [] S H' G1 S1 → Q v H') :
    WEnds.le (endB k Pd) (endsOf K B H [] S { nx := fun _ H' => Q .non H', rt := Q }) := by
  refine ⟨fun e z σ' H' G' S' st p => ?_, fun k' d' e z v σ' H' G1 S1 G2 S2 st o sp p => ?_, fun e z => z.elim, fun e z => z.elim⟩
  · exact h .non .non H' [] [] z .non Gd.nil (p.less (fun a z => by cases z) fun a z => by cases z)
  · obtain ⟨z, z2⟩ : okM k k' d' ∧ Pd d' := z
    obtain ⟨G', S', o', l⟩ := Own.okM z o
    exact h d' v H' G' S' z2 o' (sp.gd.low l) ((p.low l).less (fun a z => List.mem_append_left _ z) fun a z => .inl (List.mem_append_left _ z))
/-- the body of a def that only looks -/
theorem body_B {R : RB} {dV kV doc pm cdv ct oc : Value} {an od : Option Addr} {osl : Array (Option Value)} (lk : K.lookup f = some ⟨oc, od, .func (PySem.W.fnOf name qual params body scope dV kV doc pm an cdv ct), osl⟩)
    (hcd : PySem.W.codeIn K cdv qual = true) (S : FnScope N ps scope) (hn : ps.length = n)
    (hb : ∀ (A : Around) (outer : List PySem.Env) (s : Shared) (H : Hp) (E : XK) (Sh : List Addr) (ds : List D) (k' : Nat) (Pd : D → Prop), Rm k (A.deeper (envOfC qual scope s.heap.objs.size f cdv)) → ds.length = n → R ds k' Pd →
      ∃ w', VSs (cxOf CX P w K mg base N qual scope f cdv A outer s H E) ⟨H, [], Sh, []⟩ body w' ∧ w' (endB k' Pd) (ent N.length ds)) :
    Fn P w K mg base CX (k + 1) f (PySem.W.fnOf name qual params body scope dV kV doc pm an cdv ct) ps (spB K n R) := by
  refine fn_body lk hcd S (len_B hn) fun A outer s H vs Q E hr ⟨ds, Sh, k', Pd, l, o, r, h⟩ => ?_
  obtain ⟨w', hv, hw⟩ := hb A outer s H E Sh ds k' Pd hr l r
  have hpl : ps.length ≤ N.length := by have := congrArg List.length S.pre; rw [List.length_take] at this; omega
  obtain ⟨S', sl, hs⟩ := ent_ok N (by omega) o
  refine ⟨_, hv.p, _, [], S', ⟨sl, List.nodup_nil, fun a _ => List.not_mem_nil, ?_, fun p z => absurd z List.not_mem_nil⟩, hv.m _ _ _ ?_ hw⟩
  · exact ⟨kp_refl, fun a z => .inl z, fun a z => .inl (hs a z)⟩
  · exact end_B fun d v H' G1 S1 z a b c => h d v H' G1 S1 z a b ⟨c.keep, c.sub, fun a z => (c.ss a z).imp (hs a) id⟩
theorem Slots.head {K : PySem.W.Frag} {H : Hp} {env : Env} {σ : Sg} {G S : List Addr} (h : Slots K H env σ G S) {p : Nat × D} (e : env[0]? = some (some p)) {v : V} (ev : σ[0]? = some (some v)) : ∃ G1 S1 G2 S2, G = G1 ++ G2 ∧ S = S1 ++ S2 ∧ Own K H p.1 v p.2 G1 S1 := by
  cases h with
  | nil => cases e
  | cons h1 h2 =>
    simp only [List.getElem?_cons_zero, Option.some.injEq] at e ev
    subst e; subst ev
    cases h1 with
    | som o => exact ⟨_, _, _, _, rfl, rfl, o⟩
theorem end_I {B : Base} {H : Hp} {G S S0 : List Addr} {Q : VK} {Pd : D → D → Prop} {v0 : V} (hp : (0, v0) ∈ B.pr) (hS : ∀ a ∈ S0, a ∈ S) (h : ∀ d d' v H' G1 S1 G2 S2, Pd d d' → Own K H' m v0 d' G2 S2 → Own K H' k v d G1 S1 → Sep G1 S1 G2 S2 → Gd G2 S2 → Stp H G S H' (G1 ++ G2) (S1 ++ S2) → Q v H') :
    WEnds.le (endI m k Pd) (endsOf K B H G S0 { nx := fun _ H' => Q .non H', rt := Q }) := by
  have wide : ∀ {H' : Hp} {X Y : List Addr}, Stp H G S0 H' X Y → Stp H G S H' X Y := fun c => ⟨c.keep, c.sub, fun a z => (c.ss a z).imp (hS a) id⟩
  have fin : ∀ (e : Env) (σ' : Sg) (H' : Hp) (v : V) (kk : Nat) (d : D) (A SA G' S' : List Addr), out0 m (Pd d) e → okM k kk d → Sta K B e σ' H' G' S' → Own K H' kk v d A SA → Sep A SA G' S' → Stp H G S0 H' (A ++ G') (SA ++ S') → Q v H' := by
    intro e σ' H' v kk d A SA G' S' ⟨m', d', e0, ok, pd⟩ ok2 st o sp p
    obtain ⟨G1, S1, G2, S2, rfl, rfl, o1⟩ := st.sl.head e0 (st.pr _ hp)
    obtain ⟨A', SA', o', l⟩ := Own.okM ok2 o
    obtain ⟨G1', S1', o1', l1⟩ := Own.okM ok o1
    have gd : Gd G1 S1 := Gd.l ⟨st.nd, st.dj⟩
    have ap := (sp.ap.low l).symm.l
    refine h d d' v H' A' SA' G1' S1' pd o1' o' (Sep.of (sp.gd.low l) (gd.low l1).nd (ap.low l1).symm) (gd.low l1) (wide ?_)
    refine p.less (fun a z => ?_) fun a z => ?_
    · rcases List.mem_append.mp z with z | z
      · exact List.mem_append_left _ (l.sub.subset z)
      · exact List.mem_append_right _ (List.mem_append_left _ (l1.sub.subset z))
    · rcases List.mem_append.mp z with z | z
      · rcases l.sh a z with z | z
        · exact .inl (List.mem_append_left _ z)
        · exact .inr (List.mem_append_left _ z.1)
      · rcases l1.sh a z with z | z
        · exact .inl (List.mem_append_right _ (List.mem_append_left _ z))
        · exact .inr (List.mem_append_right _ (List.mem_append_left _ z.1))
  refine ⟨fun e z σ' H' G' S' st p => ?_, fun k' d'' e z v σ' H' G1 S1 G2 S2 st o sp p => ?_, fun e z => z.elim, fun e z => z.elim⟩
  · exact fin e σ' H' .non k .non [] [] G' S' z (.inl (Nat.le_refl _)) st .non (Sep.nn st.nd) p
  · obtain ⟨z, z2⟩ : okM k k' d'' ∧ out0 m (Pd d'') e := z
    exact fin e σ' H' v k' d'' G1 S1 G2 S2 z2 z st o sp p
/-- the body of a def that may change its first argument -/
theorem body_I {R : RI} {dV kV doc pm cdv ct oc : Value} {an od : Option Addr} {osl : Array (Option Value)} (lk : K.lookup f = some ⟨oc, od, .func (PySem.W.fnOf name qual params body scope dV kV doc pm an cdv ct), osl⟩)
    (hcd : PySem.W.codeIn K cdv qual = true) (S : FnScope N ps scope) (hn : ps.length = n)
    (hb : ∀ (A : Around) (outer : List PySem.Env) (s : Shared) (H : Hp) (E : XK) (G Sh : List Addr) (v0 : V) (ds : List D) (k' : Nat) (Pd : D → D → Prop), Rm k (A.deeper (envOfC qual scope s.heap.objs.size f cdv)) → ds.length = n → R ds k' Pd →
      ∃ w', VSs (cxOf CX P w K mg base N qual scope f cdv A outer s H E) ⟨H, G, Sh, [(0, v0)]⟩ body w' ∧ w' (endI m k' Pd) (entI N.length m ds)) :
    Fn P w K mg base CX (k + 1) f (PySem.W.fnOf name qual params body scope dV kV doc pm an cdv ct) ps (spI K n m R) := by
  refine fn_body lk hcd S (len_I hn) fun A outer s H vs Q E hr ⟨v0, vr, d0, dr, G, S0, Sr, k', Pd, e, l, o, os, gd, r, h⟩ => ?_
  subst e
  obtain ⟨w', hv, hw⟩ := hb A outer s H E G (S0 ++ Sr) v0 (d0 :: dr) k' Pd hr (by simpa using l) r
  have hpl : ps.length ≤ N.length := by have := congrArg List.length S.pre; rw [List.length_take] at this; omega
  obtain ⟨x, N', rfl⟩ : ∃ x N', N = x :: N' := by
    cases N with
    | nil => simp at hpl; subst hpl; simp at hn; omega
    | cons x N' => exact ⟨x, N', rfl⟩
  obtain ⟨S', sl, hs⟩ := ent_ok N' (by simp at hpl; omega) os
  have hS : ∀ a ∈ S0 ++ S', a ∈ S0 ++ Sr := fun a z => by
    rcases List.mem_append.mp z with z | z
    · exact List.mem_append_left _ z
    · exact List.mem_append_right _ (hs a z)
  refine ⟨_, hv.p, _, G ++ [], S0 ++ S', ⟨?_, by rw [List.append_nil]; exact gd.nd, fun a z => by rw [List.append_nil]; exact gd.dj a (hS a z), ?_, fun p z => ?_⟩, hv.m _ _ _ ?_ hw⟩
  · rw [start_cons (n := 0)]
    exact .cons (.som o) sl
  · exact ⟨kp_refl, fun a z => .inl (by simpa using z), fun a z => .inl (hS a z)⟩
  · rw [List.mem_singleton.mp z, start_cons (n := 0)]; rfl
  · rw [List.append_nil]
    exact end_I List.mem_cons_self hS h
end
end Cr
set_option Elab.async false
set_option linter.all false
set_option maxRecDepth 100000
/-! Calls of defs that only look. -/
namespace Cr
open PySem PySem.Spec PyProof.Rows L2

/-! ### what is told by all items -/
section
variable {K : PySem.W.Frag} {B : Base} {env env' : Env} {σ : Sg} {H H' : Hp} {G S G1 S1 G2 S2 : List Addr}
theorem val_low (st : Slots K H env σ G S) {it : Item} {v : V} (h : Hold K env σ H it v G1 S1) {d : D} (e : wVal it env = some d) : ∃ S', Own K H 0 v d [] S' := by
  obtain ⟨k, G', S', o⟩ := val_own st h e
  obtain ⟨G2, S2, o2, _⟩ := Own.lower _ (Nat.zero_le k) o
  have := Own.g0 _ o2
  subst this
  exact ⟨_, o2⟩
theorem vals_low (st : Slots K H env σ G S) : ∀ {is : List Item} {vs : List V} {ds : List D} {G1 S1 : List Addr}, Holds K env σ H is vs G1 S1 → wVals is env = some ds → ∃ S', Owns K H 0 vs ds [] S'
  | [], _, ds, _, _, .nil, e => by
    cases e
    exact ⟨_, .nil⟩
  | it :: is, _, ds, _, _, .cons h t, e => by
    unfold wVals at e
    split at e
    · rename_i d ds' e1 e2
      cases e
      obtain ⟨A, o⟩ := val_low st h e1
      obtain ⟨A', o'⟩ := vals_low st t e2
      exact ⟨A ++ A', .cons (G := []) (G' := []) o o'⟩
    · cases e
/-- the same trees behind the giving -/
theorem give_val {it : Item} {Q : Nat → D → Env → Prop} (w : wGive it env Q) : wGive it env fun k d e' => wVal it env = some d ∧ (∀ it', wVal it' e' = wVal it' env) ∧ Q k d e' := by
  unfold wGive at *
  cases it with
  | t k d => exact ⟨rfl, fun _ => rfl, w⟩
  | w i =>
    simp only [Br_if, decide_eq_true_eq] at w ⊢
    split at w
    · rename_i k d he
      have ev : wVal (.w i) env = some d := by unfold wVal; simp only [he]
      split at w
      · rename_i h1; rw [if_pos h1]; exact ⟨ev, fun _ => by first | rfl | trivial, w⟩
      · rename_i h1; rw [if_neg h1]
        split at w
        · rename_i h2; rw [if_pos h2]; exact ⟨ev, fun _ => by first | rfl | trivial, w⟩
        · rename_i h2; rw [if_neg h2]
          refine ⟨ev, fun it' => ?_, w⟩
          cases it' with
          | t k d => rfl
          | w j =>
            unfold wVal
            simp only
            by_cases q : i = j
            · subst q
              have hi : i < env.length := by
                rcases Nat.lt_or_ge i env.length with l | l
                · exact l
                · rw [List.getElem?_eq_none l] at he; cases he
              rw [List.getElem?_set_self hi, he]
            · rw [List.getElem?_set_ne q]
    · exact w
theorem gives_val : ∀ {is : List Item} {env : Env} {ds : List D} {Q : List (Nat × D) → Env → Prop}, wVals is env = some ds → wGives is env Q → wGives is env fun kds e' => kds.map (·.2) = ds ∧ Q kds e'
  | [], env, ds, Q, e, w => by cases e; exact ⟨rfl, w⟩
  | it :: is, env, ds, Q, e, w => by
    unfold wVals at e
    split at e
    · rename_i d ds' e1 e2
      cases e
      refine wGive_mono (fun k d' e' ⟨a, b, c⟩ => ?_) (give_val w)
      have hv : ∀ (is : List Item), wVals is e' = wVals is env := fun is => by
        induction is with
        | nil => rfl
        | cons x r ih => unfold wVals; rw [b, ih]
      have e3 : wVals is e' = some ds' := by rw [hv, e2]
      rw [a] at e1; cases e1
      exact wGives_mono (fun kds e4 ⟨z1, z2⟩ => ⟨by rw [List.map_cons, z1], z2⟩) (gives_val e3 c)
    · cases e
end

/-- a call of a def that only looks; gD puts the written arguments in the parameters' order -/
def wLook (n : Nat) (gD : List D → List D) (R : RB) (is : List Item) (e : Env) (Q : Item → Env → Prop) : Prop :=
  ∃ ds k P, wVals is e = some ds ∧ (gD ds).length = n ∧ R (gD ds) k P ∧ (((∀ d, P d → full k d = true) ∧ ∀ d, P d → Q (.t k d) e) ∨ wGives is e fun _ e' => ∀ d, P d → Q (.t k d) e')
theorem wLook_mono {n : Nat} {gD : List D → List D} {R : RB} {is : List Item} {e : Env} {P Q : Item → Env → Prop} (h : ∀ i e, P i e → Q i e) (w : wLook n gD R is e P) : wLook n gD R is e Q := by
  obtain ⟨ds, k, Pd, a, b, c, z⟩ := w
  refine ⟨ds, k, Pd, a, b, c, ?_⟩
  rcases z with ⟨z1, z2⟩ | z
  · exact .inl ⟨z1, fun d p => h _ _ (z2 d p)⟩
  · exact .inr (wGives_mono (fun _ _ y d p => h _ _ (y d p)) z)
structure LookW (n : Nat) (gD : List D → List D) (R : RB) (is : List Item) (e : Env) (Q : Item → Env → Prop) : Prop where
  go : wLook n gD R is e Q
theorem LookW_mono {n : Nat} {gD : List D → List D} {R : RB} {is : List Item} {e : Env} {P Q : Item → Env → Prop} (h : ∀ i e, P i e → Q i e) (w : LookW n gD R is e P) : LookW n gD R is e Q := ⟨wLook_mono h w.go⟩
theorem Stp.over {H H1 H2 : Hp} {G S A SA G2 S2 Gr Sr S' : List Addr} (p : Stp H G S H1 (A ++ G2) (SA ++ S2)) (q : Stp H1 [] S' H2 Gr Sr) (hS : ∀ a ∈ S', a ∈ SA ∨ a ∈ A) : Stp H G S H2 (Gr ++ G2) (Sr ++ S2) := by
  refine p.trans ⟨Kp.wide q.keep, fun a z => ?_, fun a z => ?_⟩
  · rcases List.mem_append.mp z with z | z
    · rcases q.sub a z with z | z
      · cases z
      · exact .inr z
    · exact .inl (List.mem_append_right _ z)
  · rcases List.mem_append.mp z with z | z
    · rcases q.ss a z with z | z | z
      · rcases hS a z with z | z
        · exact .inl (List.mem_append_left _ z)
        · exact .inr (.inl (List.mem_append_left _ z))
      · cases z
      · exact .inr (.inr z)
    · exact .inl (List.mem_append_right _ z)
theorem Sep.call {H1 H2 : Hp} {A SA G2 S2 Gr Sr S' : List Addr} (mu : Mu H1 G2) (tk : ∀ a ∈ S2, ∃ o, H1 a = some o) (sp : Sep A SA G2 S2) (gd : Gd Gr Sr) (q : Stp H1 [] S' H2 Gr Sr) (hS : ∀ a ∈ S', a ∈ SA ∨ a ∈ A) : Sep Gr Sr G2 S2 := by
  have fr : ∀ a ∈ Gr, H1 a = none := fun a z => (q.sub a z).resolve_left List.not_mem_nil
  refine Sep.of gd sp.n2 ⟨fun a z r => ?_, fun a z r => ?_, fun a z r => ?_⟩
  · have := mu a r; rw [fr a z] at this; exact this
  · rcases q.ss a z with z | z | z
    · rcases hS a z with z | z
      · exact (sp.s1 a z).2 r
      · exact sp.apart a z r
    · cases z
    · have := mu a r; rw [z] at this; exact this
  · obtain ⟨o, e⟩ := tk a z; rw [fr a r] at e; cases e
theorem look_ok {K : PySem.W.Frag} {B : Base} {e : Env} {σ : Sg} {H H1 : Hp} {G S G1 S1 G2 S2 : List Addr} {is : List Item} {vs : List V} {Q : VK} {E : XK} {n : Nat} {gD : List D → List D} {gV : List V → List V} {R : RB}
    (hg : ∀ (ds : List D) (S : List Addr), Owns K H1 0 vs ds [] S → ∃ S', Owns K H1 0 (gV vs) (gD ds) [] S' ∧ ∀ a ∈ S', a ∈ S)
    (st : Sta K B e σ H1 G2 S2) (h : Holds K e σ H1 is vs G1 S1) (sp : Sep G1 S1 G2 S2) (p : Stp H G S H1 (G1 ++ G2) (S1 ++ S2)) (w : wLook n gD R is e (PostI K B σ H G S Q)) : spB K n R (gV vs) H1 Q E := by
  obtain ⟨ds, k, Pd, hv, hl, r, z⟩ := w
  rcases z with ⟨fu, z⟩ | z
  · obtain ⟨S', o⟩ := vals_low st.sl h hv
    obtain ⟨S'', o', hS⟩ := hg ds S' o
    refine ⟨_, S'', k, Pd, hl, o', r, fun d v H' Gr Sr pd a b c => ?_⟩
    obtain ⟨rfl, _⟩ := Own.full _ (j := k) (fu d pd) a
    have st' : Sta K B e σ H' G2 S2 := st.grow c.keep
    have c' : Stp H1 [] [] H' Gr [] := ⟨c.keep, c.sub, fun a z => by cases z⟩
    have p' : Stp H G S H1 ([] ++ G2) ([] ++ S2) := p.less (fun a z => List.mem_append_right _ z) fun a z => .inl (List.mem_append_right _ z)
    exact z d pd v H' Gr [] G2 S2 st' (.t a) (Sep.call st.sl.mu st.sl.stk (Sep.nn st.nd) b c' fun a z => by cases z) (p'.over c' fun a z => by cases z)
  · obtain ⟨kds, e2, A, SA, G3, S3, ⟨em, q⟩, st2, om, sp2, p2, _⟩ := gives_ok st h sp (gives_val hv z)
    obtain ⟨A', S', o, lo⟩ := OwnsM.low 0 (Nat.zero_le _) om
    have := Owns.g0 _ o
    subst this
    rw [em] at o
    obtain ⟨S'', o', hS⟩ := hg ds S' o
    refine ⟨_, S'', k, Pd, hl, o', r, fun d v H' Gr Sr pd a b c => ?_⟩
    have hS2 : ∀ a ∈ S'', a ∈ SA ∨ a ∈ A := fun a z => (lo.sh a (hS a z)).imp id fun q => q.1
    exact q d pd v H' Gr Sr G3 S3 (st2.grow c.keep) (.t a) (Sep.call st2.sl.mu st2.sl.stk sp2 b c hS2) ((p.trans p2).over c hS2)

/-- a def of the text that may be called by its name -/
structure Cl (P : Program) (w : World) (K : PySem.W.Frag) (mg : Str → Option Value) (base : Heap) (CX : CXT) (k : Nat) (x : Str) (st : Stmt) (ps : List Str) (sp : Sp) : Prop where
  ex : ∃ f fd, L2.Fun K x x st f fd ∧ Fn P w K mg base CX k f fd ps sp ∧ mg x = some (.ref f) ∧ L2.Binds K fd ps []
theorem Cl.up {P : Program} {w : World} {K : PySem.W.Frag} {mg : Str → Option Value} {base : Heap} {CX : CXT} {j k : Nat} {x : Str} {st : Stmt} {ps : List Str} {sp : Sp} (c : Cl P w K mg base CX j x st ps sp) (h : j ≤ k) : Cl P w K mg base CX k x st ps sp :=
  let ⟨f, fd, a, b, c, d⟩ := c.ex
  ⟨f, fd, a, b.up h, c, d⟩

def gI {α : Type} (idx : List Nat) (l : List α) : List α := idx.filterMap (l[·]?)
theorem gI_vals {vs : List V} {us : List Value} (h : Vals vs us) : ∀ idx : List Nat, Vals (gI idx vs) (gI idx us)
  | [] => .nil
  | i :: r => by
    have ih := gI_vals h r
    have hl := h.length
    unfold gI at ih ⊢
    rw [List.filterMap_cons, List.filterMap_cons]
    cases e : vs[i]? with
    | none =>
      have : us[i]? = none := by rw [List.getElem?_eq_none_iff] at e ⊢; omega
      rw [this]; exact ih
    | some v =>
      obtain ⟨u, hu, rv⟩ := h.get e
      rw [hu]; exact .cons rv ih
theorem Owns.pick {K : PySem.W.Frag} {H : Hp} : ∀ {vs : List V} {ds : List D} {S : List Addr} (i : Nat) {v : V}, Owns K H 0 vs ds [] S → vs[i]? = some v → ∃ d S', ds[i]? = some d ∧ Own K H 0 v d [] S' ∧ ∀ a ∈ S', a ∈ S
  | [], _, _, _, _, _, e => by simp at e
  | v0 :: vs, ds, S, i, v, h, e => by
    generalize eg : ([] : List Addr) = G0 at h
    cases h with
    | cons h1 h2 =>
      obtain ⟨rfl, rfl⟩ := List.append_eq_nil_iff.mp eg.symm
      cases i with
      | zero => simp at e; subst e; exact ⟨_, _, rfl, h1, fun a z => List.mem_append_left _ z⟩
      | succ i =>
        obtain ⟨d, S', a, b, c⟩ := Owns.pick i h2 (by simpa using e)
        exact ⟨d, S', by simpa using a, b, fun x z => List.mem_append_right _ (c x z)⟩
theorem gI_owns {K : PySem.W.Frag} {H : Hp} {vs : List V} {ds : List D} {S : List Addr} (h : Owns K H 0 vs ds [] S) : ∀ idx : List Nat, ∃ S', Owns K H 0 (gI idx vs) (gI idx ds) [] S' ∧ ∀ a ∈ S', a ∈ S
  | [] => ⟨[], .nil, fun a z => by cases z⟩
  | i :: r => by
    obtain ⟨S1, ih, hs⟩ := gI_owns h r
    have hl := Owns.len h
    unfold gI at ih ⊢
    rw [List.filterMap_cons, List.filterMap_cons]
    cases e : vs[i]? with
    | none =>
      have : ds[i]? = none := by rw [List.getElem?_eq_none_iff] at e ⊢; omega
      rw [this]; exact ⟨S1, ih, hs⟩
    | some v =>
      obtain ⟨d, S2, ed, o, hs2⟩ := Owns.pick i h e
      rw [ed]
      exact ⟨S2 ++ S1, .cons (G := []) (G' := []) o ih, fun a z => (List.mem_append.mp z).elim (hs2 a) (hs a)⟩

section
variable {X : Cx} {B : Base} {CX : CXT} {k n m : Nat} {x : Str} {st : Stmt} {ps ks : List Str} {p pos : Pos} {e : Expr} {es : List Expr} {kws : List Keyword} {R : RB} {wa wk : WA} {idx : List Nat}
def wCallB (n : Nat) (R : RB) (wa : WA) : WI := fun env Q => wa env fun is e => LookW n id R is e Q
/-- f(e, ..) of a def that only looks -/
theorem vi_callB (c : Cl X.prog X.w X.K X.mg X.base CX k x st ps (spB X.K n R)) (hr : Rm k X.A) (hx : Passes CX X (fun _ _ _ => False)) (ha : VA X B (e :: es) wa) (hg : Gl X x := by rfl)
    (hdb : (x == ("__debug__" : Str)) = false := by decide) (he : starEach (e :: es) X.env = (false, eval e X.env) :: starEach es X.env := by rfl) (hpl : (backTo pos (starEach es X.env)).any (·.1) = false := by rfl) : VI X B (.Call (.Name x p) (e :: es) [] pos) (wCallB n R wa) := by
  obtain ⟨f, fd, hF, F, hm, hb⟩ := c.ex
  refine ⟨PE.weak (pe_fn F hr hm hF.kp hb hx ha.p hg hdb he hpl) fun σ H Q ⟨env, G, S, st, w⟩ => ⟨env, G, S, st, ha.m _ _ _ (fun is e1 w1 => ?_) w⟩, fun env P Q q w => ha.m _ _ _ (fun _ _ z => LookW_mono q z) w⟩
  intro vs H1 G1 S1 G2 S2 st1 h1 sp1 p1
  have r := look_ok (E := fun _ _ _ => False) (gV := id) (fun ds S o => ⟨S, o, fun a z => z⟩) st1 h1 sp1 p1 w1.go
  rw [List.append_nil]
  exact r
structure VKw (X : Cx) (B : Base) (kws : List Keyword) (w : WA) : Prop where
  p : PK X kws (liftA X.K B w)
  m : MonA w
theorem vk_nil : VKw X B [] wNil := ⟨⟨fun pos pins s σ H Q I ⟨env, G, S, st, w⟩ => pk_nil.run pos pins s σ H Q I (w [] H [] [] G S st .nil (Sep.nn st.nd) Stp.refl)⟩, fun env P Q q w => q _ _ w⟩
theorem vk_cons {nm : Option Str} {kpos : Pos} {w : WI} {u : WA} (h : VI X B e w) (k : VKw X B kws u) : VKw X B (⟨nm, e, kpos⟩ :: kws) (wCons w u) := by
  refine ⟨⟨fun pos pins s σ H Q I ⟨env, G, S, st, ww⟩ => (pk_cons h.p k.p).run pos pins s σ H Q I ?_⟩, fun env P Q q ww => h.m _ _ _ (fun _ _ z => k.m _ _ _ (fun _ _ z' => q _ _ z') z) ww⟩
  refine ⟨env, G, S, st, h.m _ _ _ (fun it e1 w1 => ?_) ww⟩
  intro v H1 G1 S1 G2 S2 st1 h1 sp1 p1
  refine ⟨e1, G2, S2, st1, k.m _ _ _ (fun is e2 w2 => ?_) w1⟩
  intro vs H2 G3 S3 G4 S4 st2 h2 sp2 p2
  obtain ⟨a, b, c⟩ := seqP (env := e2) st1 h1 sp1 p1 sp2 p2
  exact w2 (v :: vs) H2 _ _ G4 S4 st2 (.cons a h2) b c
end
end Cr
set_option Elab.async false
set_option linter.all false
set_option maxRecDepth 100000
/-! Calls of defs that may change their first argument; calls with keywords. -/
namespace Cr
open PySem PySem.Spec PyProof.Rows L2

section
variable {K : PySem.W.Frag} {B : Base} {e : Env} {σ : Sg} {H H1 : Hp} {G S A SA G3 S3 : List Addr}
/-- a slot's list is handed out, and comes back -/
theorem put_ok {i k0 : Nat} {d0 : D} {v0 : V} (st : Sta K B e σ H1 G3 S3) (he : e[i]? = some (some (k0, d0))) (hv : σ[i]? = some (some v0)) (stb : Stp B.H B.G B.S H G S) (P0 : Stp H G S H1 (A ++ G3) (SA ++ S3)) (spA : Sep A SA G3 S3) (muA0 : Mu H1 A) :
    ∃ Ga Gi Gb Sa Si Sb, G3 = Ga ++ (Gi ++ Gb) ∧ S3 = Sa ++ (Si ++ Sb) ∧ Own K H1 k0 v0 d0 Gi Si ∧ Slots K H1 (e.set i none) (σ.set i none) (Ga ++ ([] ++ Gb)) (Sa ++ ([] ++ Sb)) ∧ ∀ {m k : Nat} {d' d : D} {v : V} {H' : Hp} {G1 S1 G2 S2 Gi' Y : List Addr}, (∀ a ∈ Gi', a ∈ Gi ∨ a ∈ A) → Own K H' m v0 d' G2 S2 → Own K H' k v d G1 S1 → Sep G1 S1 G2 S2 → Gd G2 S2 →
      Stp H1 Gi' Y H' (G1 ++ G2) (S1 ++ S2) → (∀ a ∈ S1 ++ S2, (a ∉ Ga ∧ a ∉ Gb) ∧ (a ∈ SA ++ S3 ∨ a ∈ A ++ G3 ∨ H1 a = none)) →
      ∃ Gn Sn, Sta K B (e.set i (some (m, d'))) σ H' Gn Sn ∧ Sep G1 S1 Gn Sn ∧ Stp H G S H' (G1 ++ Gn) (S1 ++ Sn) := by
  obtain ⟨x, Ga, Gi, Gb, Sa, Si, Sb, r1, r2, r3, r4, r5⟩ := st.sl.at i he
  rw [hv] at r1
  have ex : x = some v0 := (Option.some.inj r1).symm
  subst ex
  cases r4 with
  | som o =>
    refine ⟨Ga, Gi, Gb, Sa, Si, Sb, r2, r3, o, r5 (F := []) .non kp_refl mu_nil fun _ _ => List.not_mem_nil, fun {m k d' d v H' G1 S1 G2 S2 Gi' Y} hGi o2 o1 sp gd2 q hS => ?_⟩
    have nd := st.nd
    rw [r2] at nd
    have gi_ab : ∀ a ∈ Gi', a ∉ Ga ∧ a ∉ Gb := fun a z => by
      rw [List.nodup_append] at nd
      rcases hGi a z with z | z
      · exact ⟨fun r => nd.2.2 a r a (List.mem_append_left _ z) rfl, fun r => (List.nodup_append.mp nd.2.1).2.2 a z a r rfl⟩
      · exact ⟨fun r => spA.apart a z (by rw [r2]; simp [r]), fun r => spA.apart a z (by rw [r2]; simp [r])⟩
    have gi_s : ∀ a, a ∈ S3 → a ∉ Gi' := fun a z w => by
      rcases hGi a w with w | w
      · exact st.dj a z (by rw [r2]; simp [w])
      · exact spA.s2 a z w
    have gi_in : ∀ a ∈ Gi', a ∈ A ++ G3 := fun a w => by
      rcases hGi a w with w | w
      · rw [r2]; simp [w]
      · exact List.mem_append_left _ w
    have gi_mu : Mu H1 Gi' := fun a w => by
      rcases hGi a w with w | w
      · exact st.sl.mu a (by rw [r2]; simp [w])
      · exact muA0 a w
    have muA : ∀ a ∈ G3, H1 a ≠ none := fun a z r => by have := st.sl.mu a z; rw [r] at this; exact this
    have inA : ∀ a, a ∈ Ga ∨ a ∈ Gb → a ∈ G3 := fun a z => by rw [r2]; rcases z with z | z <;> simp [z]
    have inS : ∀ a, a ∈ Sa ∨ a ∈ Sb → a ∈ S3 := fun a z => by rw [r3]; rcases z with z | z <;> simp [z]
    -- what came out stands apart from the other slots
    have gap : ∀ a ∈ G1 ++ G2, a ∉ Ga ∧ a ∉ Gb := fun a z => by
      rcases q.sub a z with z | z
      · exact gi_ab a z
      · exact ⟨fun r => muA a (inA a (.inl r)) z, fun r => muA a (inA a (.inr r)) z⟩
    have sap : ∀ a, a ∈ Sa ∨ a ∈ Sb → a ∉ G1 ++ G2 := fun a z r => by
      rcases q.sub a r with w | w
      · exact gi_s a (inS a z) w
      · obtain ⟨u, eu⟩ := st.sl.stk a (inS a z); rw [w] at eu; cases eu
    have sab : ∀ a, a ∈ Sa ∨ a ∈ Sb → a ∉ Ga ∧ a ∉ Gb := fun a z => ⟨fun r => st.dj a (inS a z) (inA a (.inl r)), fun r => st.dj a (inS a z) (inA a (.inr r))⟩
    have sl' := r5 (F := Gi') (.som o2) (fun a u eu n => q.keep a u eu n) gi_mu fun a z w => by
      rcases z with z | z | z | z
      · exact (gi_ab a w).1 z
      · exact (gi_ab a w).2 z
      · exact gi_s a (inS a (.inl z)) w
      · exact gi_s a (inS a (.inr z)) w
    rw [set_self hv] at sl'
    have ndn : (Ga ++ (G2 ++ Gb)).Nodup := by
      have n2 := (List.nodup_append.mp sp.nd).2.1
      rw [List.nodup_append] at nd
      have nb := (List.nodup_append.mp nd.2.1).2.1
      refine List.nodup_append.mpr ⟨nd.1, List.nodup_append.mpr ⟨n2, nb, fun a z b w eq => (gap a (List.mem_append_right _ z)).2 (eq ▸ w)⟩, fun a z b w eq => ?_⟩
      subst eq
      rcases List.mem_append.mp w with w | w
      · exact (gap a (List.mem_append_right _ w)).1 z
      · exact nd.2.2 a z a (List.mem_append_right _ w) rfl
    have stp : Stp H G S H' (G1 ++ (Ga ++ (G2 ++ Gb))) (S1 ++ (Sa ++ (S2 ++ Sb))) := by
      refine P0.trans ⟨fun a u eu n => q.keep a u eu fun z => n (gi_in a z), fun a z => ?_, fun a z => ?_⟩
      · have hq : a ∈ G1 ++ G2 → a ∈ A ++ G3 ∨ H1 a = none := fun z => (q.sub a z).imp (fun z => gi_in a z) id
        rcases List.mem_append.mp z with z | z
        · exact hq (List.mem_append_left _ z)
        · rcases List.mem_append.mp z with z | z
          · exact .inl (List.mem_append_right _ (inA a (.inl z)))
          · rcases List.mem_append.mp z with z | z
            · exact hq (List.mem_append_right _ z)
            · exact .inl (List.mem_append_right _ (inA a (.inr z)))
      · rcases List.mem_append.mp z with z | z
        · exact (hS a (List.mem_append_left _ z)).2
        · rcases List.mem_append.mp z with z | z
          · exact .inl (List.mem_append_right _ (inS a (.inl z)))
          · rcases List.mem_append.mp z with z | z
            · exact (hS a (List.mem_append_right _ z)).2
            · exact .inl (List.mem_append_right _ (inS a (.inr z)))
    have apn : Ap G1 S1 (Ga ++ (G2 ++ Gb)) (Sa ++ (S2 ++ Sb)) := by
      refine ⟨fun a z r => ?_, fun a z r => ?_, fun a z r => ?_⟩
      · rcases List.mem_append.mp r with r | r
        · exact (gap a (List.mem_append_left _ z)).1 r
        · rcases List.mem_append.mp r with r | r
          · exact sp.apart a z r
          · exact (gap a (List.mem_append_left _ z)).2 r
      · rcases List.mem_append.mp r with r | r
        · exact (hS a (List.mem_append_left _ z)).1.1 r
        · rcases List.mem_append.mp r with r | r
          · exact (sp.s1 a z).2 r
          · exact (hS a (List.mem_append_left _ z)).1.2 r
      · rcases List.mem_append.mp z with z | z
        · exact sap a (.inl z) (List.mem_append_left _ r)
        · rcases List.mem_append.mp z with z | z
          · exact sp.s2 a z r
          · exact sap a (.inr z) (List.mem_append_left _ r)
    refine ⟨_, _, ⟨sl', ndn, fun a z r => ?_, stb.trans (stp.less (fun a z => List.mem_append_right _ z) fun a z => .inl (List.mem_append_right _ z)), st.pr⟩, Sep.of sp.gd ndn apn, stp⟩
    have g2 : a ∈ Sa ∨ a ∈ Sb → False := fun z => by
      rcases List.mem_append.mp r with r | r
      · exact (sab a z).1 r
      · rcases List.mem_append.mp r with r | r
        · exact sap a z (List.mem_append_right _ r)
        · exact (sab a z).2 r
    rcases List.mem_append.mp z with z | z
    · exact g2 (.inl z)
    · rcases List.mem_append.mp z with z | z
      · rcases List.mem_append.mp r with r | r
        · exact (hS a (List.mem_append_right _ z)).1.1 r
        · rcases List.mem_append.mp r with r | r
          · exact gd2.dj a z r
          · exact (hS a (List.mem_append_right _ z)).1.2 r
      · exact g2 (.inr z)
/-- where what is lent lies -/
theorem low_val {env : Env} {G2 S2 G1 S1 : List Addr} (st : Slots K H env σ G2 S2) {it : Item} {v : V} (h : Hold K env σ H it v G1 S1) {d : D} (ev : wVal it env = some d) : ∃ S', Own K H 0 v d [] S' ∧ ∀ a ∈ S', a ∈ S1 ++ S2 ∨ a ∈ G1 ++ G2 := by
  cases h with
  | t o =>
    cases ev
    obtain ⟨A, SA, o2, l⟩ := Own.lower _ (Nat.zero_le _) o
    have := Own.g0 _ o2
    subst this
    exact ⟨_, o2, fun a z => (l.sh a z).imp (fun z => List.mem_append_left _ z) fun z => List.mem_append_left _ z.1⟩
  | w hv =>
    unfold wVal at ev
    simp only at ev
    split at ev
    · rename_i i k d' he
      cases ev
      obtain ⟨v', A, SA, r1, o, hA, hS⟩ := st.get he
      rw [hv] at r1; cases r1
      obtain ⟨A', SA', o2, l⟩ := Own.lower _ (Nat.zero_le _) o
      have := Own.g0 _ o2
      subst this
      exact ⟨_, o2, fun a z => (l.sh a z).imp (fun z => List.mem_append_right _ (hS a z)) fun z => List.mem_append_right _ (hA a z.1)⟩
    · cases ev
theorem low_vals {env : Env} {G2 S2 : List Addr} (st : Slots K H env σ G2 S2) : ∀ {is : List Item} {vs : List V} {ds : List D} {G1 S1 : List Addr}, Holds K env σ H is vs G1 S1 → wVals is env = some ds → ∃ S', Owns K H 0 vs ds [] S' ∧ ∀ a ∈ S', a ∈ S1 ++ S2 ∨ a ∈ G1 ++ G2
  | [], _, ds, _, _, .nil, ev => by
    cases ev
    exact ⟨_, .nil, fun a z => by cases z⟩
  | it :: is, _, ds, _, _, .cons (G := Gx) (S := Sx) (G' := Gy) (S' := Sy) h t, ev => by
    unfold wVals at ev
    split at ev
    · rename_i d ds' e1 e2
      cases ev
      obtain ⟨P, o, hp⟩ := low_val st h e1
      obtain ⟨P', o', hp'⟩ := low_vals st t e2
      refine ⟨P ++ P', .cons (G := []) (G' := []) o o', fun a z => ?_⟩
      rcases List.mem_append.mp z with z | z
      · rcases hp a z with z | z <;> (rcases List.mem_append.mp z with z | z <;> simp [z])
      · rcases hp' a z with z | z <;> (rcases List.mem_append.mp z with z | z <;> simp [z])
    · cases ev
end

/-- a call of a def that may change its first argument, what a slot holds -/
def wChg (n m : Nat) (R : RI) (is : List Item) (e : Env) (Q : Item → Env → Prop) : Prop :=
  match is with
  | .w i :: r => match e[i]? with
    | some (some (k0, d0)) => ∃ ds k P, wVals r (e.set i none) = some ds ∧ ds.length + 1 = n ∧ okM m k0 d0 ∧ R (d0 :: ds) k P ∧
      (((∀ d d', P d d' → full k d = true ∧ full m d' = true) ∧ ∀ d d', P d d' → Q (.t k d) (e.set i (some (m, d')))) ∨ wGives r e fun _ e' => e'[i]? = some (some (k0, d0)) ∧ ∀ d d', P d d' → Q (.t k d) (e'.set i (some (m, d'))))
    | _ => False
  | .t k0 d0 :: r => ∃ ds k P, wVals r e = some ds ∧ ds.length + 1 = n ∧ okM m k0 d0 ∧ R (d0 :: ds) k P ∧ (∀ d d', P d d' → full k d = true) ∧ ∀ d d', P d d' → Q (.t k d) e
  | [] => False
theorem wChg_mono {n m : Nat} {R : RI} {is : List Item} {e : Env} {P Q : Item → Env → Prop} (h : ∀ i e, P i e → Q i e) (w : wChg n m R is e P) : wChg n m R is e Q := by
  unfold wChg at *
  split at w
  · split at w
    · obtain ⟨ds, k, Pd, a, b, c, r, z⟩ := w
      refine ⟨ds, k, Pd, a, b, c, r, ?_⟩
      rcases z with ⟨z1, z2⟩ | z
      · exact .inl ⟨z1, fun d d' p => h _ _ (z2 d d' p)⟩
      · exact .inr (wGives_mono (fun _ _ y => ⟨y.1, fun d d' p => h _ _ (y.2 d d' p)⟩) z)
    · exact w
  · obtain ⟨ds, k, Pd, a, b, c, r, z1, z2⟩ := w
    exact ⟨ds, k, Pd, a, b, c, r, z1, fun d d' p => h _ _ (z2 d d' p)⟩
  · exact w
structure ChgW (n m : Nat) (R : RI) (is : List Item) (e : Env) (Q : Item → Env → Prop) : Prop where
  go : wChg n m R is e Q
theorem ChgW_mono {n m : Nat} {R : RI} {is : List Item} {e : Env} {P Q : Item → Env → Prop} (h : ∀ i e, P i e → Q i e) (w : ChgW n m R is e P) : ChgW n m R is e Q := ⟨wChg_mono h w.go⟩
theorem holds_off {K : PySem.W.Frag} {env : Env} {σ : Sg} {H : Hp} {i : Nat} : ∀ {is : List Item} {vs : List V} {ds : List D} {G1 S1 : List Addr}, Holds K env σ H is vs G1 S1 → wVals is (env.set i none) = some ds → Holds K (env.set i none) (σ.set i none) H is vs G1 S1
  | [], _, _, _, _, .nil, _ => .nil
  | it :: is, _, _, _, _, .cons h t, ev => by
    unfold wVals at ev
    split at ev
    · rename_i d ds' e1 e2
      refine .cons ?_ (holds_off t e2)
      cases h with
      | t o => exact .t o
      | w hv =>
        rename_i j
        refine .w ?_
        by_cases q : i = j
        · subst q
          exfalso
          unfold wVal at e1
          simp only at e1
          rcases Nat.lt_or_ge i env.length with l | l
          · rw [List.getElem?_set_self l] at e1; cases e1
          · rw [List.getElem?_eq_none (by simpa using l)] at e1; cases e1
        · rw [List.getElem?_set_ne q]; exact hv
    · cases ev
end Cr
set_option Elab.async false
set_option linter.all false
set_option maxRecDepth 100000
/-! Calls of defs that may change their first argument; calls with keywords. -/
namespace Cr
open PySem PySem.Spec PyProof.Rows L2

theorem val_off {e : Env} {i : Nat} {it : Item} {d : D} (h : wVal it (e.set i none) = some d) : wVal it e = some d := by
  cases it with
  | t k d => exact h
  | w j =>
    by_cases q : i = j
    · subst q
      exfalso
      unfold wVal at h
      simp only at h
      rcases Nat.lt_or_ge i e.length with l | l
      · rw [List.getElem?_set_self l] at h; cases h
      · rw [List.getElem?_eq_none (by simpa using l)] at h; cases h
    · unfold wVal at h ⊢
      simp only at h ⊢
      rw [List.getElem?_set_ne q] at h
      exact h
theorem vals_off {e : Env} {i : Nat} : ∀ {is : List Item} {ds : List D}, wVals is (e.set i none) = some ds → wVals is e = some ds
  | [], _, h => h
  | it :: is, _, h => by
    unfold wVals at h ⊢
    split at h
    · rename_i e1 e2
      rw [val_off e1, vals_off e2]
      exact h
    · cases h
theorem mid {K : PySem.W.Frag} {B : Base} {e : Env} {σ : Sg} {H : Hp} {G S Ga Gi Gb Sa Si Sb : List Addr} (st : Sta K B e σ H G S) (r2 : G = Ga ++ (Gi ++ Gb)) (r3 : S = Sa ++ (Si ++ Sb)) : Gd Gi Si ∧ ∀ a ∈ Gi, a ∉ Ga ∧ a ∉ Gb := by
  have nd := st.nd
  rw [r2, List.nodup_append] at nd
  have n2 := List.nodup_append.mp nd.2.1
  exact ⟨⟨n2.1, fun a z q => st.dj a (by rw [r3]; simp [z]) (by rw [r2]; simp [q])⟩, fun a z => ⟨fun r => nd.2.2 a r a (List.mem_append_left _ z) rfl, fun r => n2.2.2 a z a r rfl⟩⟩
theorem chg_ok {K : PySem.W.Frag} {B : Base} {e : Env} {σ : Sg} {H H1 : Hp} {G S G1 S1 G2 S2 : List Addr} {is : List Item} {vs : List V} {Q : VK} {E : XK} {n m : Nat} {R : RI}
    (stb : Stp B.H B.G B.S H G S) (st : Sta K B e σ H1 G2 S2) (h : Holds K e σ H1 is vs G1 S1) (sp : Sep G1 S1 G2 S2) (p : Stp H G S H1 (G1 ++ G2) (S1 ++ S2)) (w : wChg n m R is e (PostI K B σ H G S Q)) : spI K n m R vs H1 Q E := by
  unfold wChg at w
  split at w
  · rename_i i r
    split at w
    · rename_i k0 d0 he
      obtain ⟨ds, k, Pd, hv, hl, ok, rr, z⟩ := w
      cases h with
      | cons h0 ht =>
      rename_i v0 Gx Sx vr Gy Sy
      cases h0 with
      | w hs =>
      rcases z with ⟨fu, z⟩ | z
      · -- all that comes back is owned
        obtain ⟨Ga, Gi, Gb, Sa, Si, Sb, r2, r3, o, sl', put⟩ := put_ok st he hs stb p sp (by simpa using ht.mu)
        obtain ⟨G0, S0, o0, lo⟩ := Own.okM ok o
        obtain ⟨Sr, or, hr⟩ := low_vals sl' (holds_off ht hv) hv
        obtain ⟨gdi, hGi⟩ := mid st r2 r3
        refine ⟨v0, vr, d0, ds, G0, S0, Sr, k, Pd, rfl, hl, o0, or, ⟨(gdi.low lo).nd, fun a z q => ?_⟩, rr, fun d d' v H' G1 S1 G2 S2 pd o2 o1 sp' gd' q => ?_⟩
        · have q' := lo.sub.subset q
          rcases List.mem_append.mp z with z | z
          · exact (gdi.low lo).dj a z q
          · have q3 : a ∈ Ga ++ (Gi ++ Gb) := by simp [q']
            rw [← r2] at q3
            rcases hr a z with z | z
            · rcases List.mem_append.mp z with z | z
              · exact (sp.s1 a (List.mem_append_right _ z)).2 q3
              · exact st.dj a (by rw [r3]; simp at z ⊢; rcases z with z | z <;> simp [z]) q3
            · rcases List.mem_append.mp z with z | z
              · exact sp.apart a (List.mem_append_right _ z) q3
              · have := hGi a q'
                simp at z
                rcases z with z | z
                · exact this.1 z
                · exact this.2 z
        · obtain ⟨rfl, _⟩ := Own.full _ (j := k) (fu d d' pd).1 o1
          obtain ⟨rfl, _⟩ := Own.full _ (j := m) (fu d d' pd).2 o2
          obtain ⟨Gn, Sn, st', sp2, stp⟩ := put (fun a z => .inl (lo.sub.subset z)) o2 o1 sp' gd' q (fun a z => by cases z)
          exact z d d' pd v H' G1 [] Gn Sn st' (.t o1) sp2 stp
      · obtain ⟨kds, e2, A, SA, G3, S3, ⟨em, he2, q2⟩, st2, om, sp2, p2, _⟩ := gives_ok (G1 := Gy) (S1 := Sy) st ht sp (gives_val (vals_off hv) z)
        obtain ⟨Ga, Gi, Gb, Sa, Si, Sb, r2, r3, o, sl', put⟩ := put_ok st2 he2 hs stb (p.trans p2) sp2 om.mu
        obtain ⟨G0, S0, o0, lo⟩ := Own.okM ok o
        obtain ⟨A', Sr, or, lr⟩ := OwnsM.low 0 (Nat.zero_le _) om
        have := Owns.g0 _ or
        subst this
        rw [em] at or
        obtain ⟨gdi, hGi⟩ := mid st2 r2 r3
        have in3 : ∀ a ∈ Gi, a ∈ G3 := fun a z => by rw [r2]; simp [z]
        have ab3 : ∀ a, a ∈ Ga ∨ a ∈ Gb → a ∈ G3 := fun a z => by rw [r2]; rcases z with z | z <;> simp [z]
        have sr : ∀ a ∈ Sr, a ∉ G3 := fun a z => (lr.sh a z).elim (fun z => (sp2.s1 a z).2) fun z => sp2.apart a z.1
        refine ⟨v0, vr, d0, ds, G0, S0, Sr, k, Pd, rfl, hl, o0, or, ⟨(gdi.low lo).nd, fun a z q => ?_⟩, rr, fun d d' v H' G1 S1 G2 S2 pd o2 o1 sp' gd' q => ?_⟩
        · rcases List.mem_append.mp z with z | z
          · exact (gdi.low lo).dj a z q
          · exact sr a z (in3 a (lo.sub.subset q))
        · have key : ∀ a ∈ S1 ++ S2, (a ∉ Ga ∧ a ∉ Gb) ∧ (a ∈ SA ++ S3 ∨ a ∈ A ++ G3 ∨ H1 a = none) := fun a z => by
            have gi : a ∈ Gi → (a ∉ Ga ∧ a ∉ Gb) ∧ (a ∈ SA ++ S3 ∨ a ∈ A ++ G3 ∨ H1 a = none) := fun z => ⟨hGi a z, .inr (.inl (List.mem_append_right _ (in3 a z)))⟩
            rcases q.ss a z with z | z | z
            · rcases List.mem_append.mp z with z | z
              · rcases lo.sh a z with z | z
                · have z3 : a ∈ S3 := by rw [r3]; simp [z]
                  exact ⟨⟨fun r => st2.dj a z3 (ab3 a (.inl r)), fun r => st2.dj a z3 (ab3 a (.inr r))⟩, .inl (List.mem_append_right _ z3)⟩
                · exact gi z.1
              · refine ⟨⟨fun r => sr a z (ab3 a (.inl r)), fun r => sr a z (ab3 a (.inr r))⟩, ?_⟩
                rcases lr.sh a z with z | z
                · exact .inl (List.mem_append_left _ z)
                · exact .inr (.inl (List.mem_append_left _ z.1))
            · exact gi (lo.sub.subset z)
            · have mu : ∀ b ∈ G3, H1 b ≠ none := fun b w r => by have := st2.sl.mu b w; rw [r] at this; exact this
              exact ⟨⟨fun r => mu a (ab3 a (.inl r)) z, fun r => mu a (ab3 a (.inr r)) z⟩, .inr (.inr z)⟩
          obtain ⟨Gn, Sn, st', sp4, stp⟩ := put (fun a z => .inl (lo.sub.subset z)) o2 o1 sp' gd' q key
          exact q2 d d' pd v H' G1 S1 Gn Sn st' (.t o1) sp4 stp
    · exact w.elim
  · rename_i k0 d0 r
    obtain ⟨ds, k, Pd, hv, hl, ok, rr, fu, z⟩ := w
    cases h with
    | cons h0 ht =>
    rename_i v0 Ga Sa vr Gb Sb
    cases h0 with
    | t o0 =>
    obtain ⟨G0, S0, o, lo⟩ := Own.okM ok o0
    obtain ⟨Sr, or, hr⟩ := low_vals st.sl ht hv
    have gdl := sp.gd.l
    have ap := sp.gd.ap
    have ap2 := sp.ap.l
    have sub : ∀ a ∈ G0, a ∈ Ga := fun a z => lo.sub.subset z
    refine ⟨v0, vr, d0, ds, G0, S0, Sr, k, Pd, rfl, hl, o, or, ⟨(gdl.low lo).nd, fun a y q => ?_⟩, rr, fun d d' v H' Gr Sr' G2' S2' pd o2 o1 sp' gd' q => ?_⟩
    · have q' := sub a q
      rcases List.mem_append.mp y with y | y
      · exact (gdl.low lo).dj a y q
      · rcases hr a y with y | y
        · rcases List.mem_append.mp y with y | y
          · exact ap.s2 a y q'
          · exact ap2.s2 a y q'
        · rcases List.mem_append.mp y with y | y
          · exact ap.g a q' y
          · exact ap2.g a q' y
    · obtain ⟨rfl, _⟩ := Own.full _ (j := k) (fu d d' pd) o1
      have mu0 : Mu H1 G0 := Own.mu _ o
      have inn : ∀ a ∈ G0, a ∈ (Ga ++ Gb) ++ G2 := fun a y => List.mem_append_left _ (List.mem_append_left _ (sub a y))
      have stp0 : Stp H1 ((Ga ++ Gb) ++ G2) ((Sa ++ Sb) ++ S2) H' G2 S2 := ⟨fun a o e nn => q.keep a o e fun y => nn (inn a y), fun a y => .inl (List.mem_append_right _ y), fun a y => .inl (List.mem_append_right _ y)⟩
      have st' : Sta K B e σ H' G2 S2 := ⟨st.sl.frame q.keep mu0 (fun a y w => ap2.g a (sub a w) y) (fun a y w => ap2.s2 a y (sub a w)), st.nd, st.dj, (stb.trans p).trans stp0, st.pr⟩
      have gr : ∀ a ∈ Gr, a ∈ G0 ∨ H1 a = none := fun a y => q.sub a (List.mem_append_left _ y)
      have apr : Ap Gr [] G2 S2 := ⟨fun a y w => by
        rcases gr a y with y | y
        · exact ap2.g a (sub a y) w
        · have := st.sl.mu a w; rw [y] at this; exact this, fun a y => absurd y List.not_mem_nil, fun a y w => by
        rcases gr a w with w | w
        · exact ap2.s2 a y (sub a w)
        · obtain ⟨o, e⟩ := st.sl.stk a y; rw [w] at e; cases e⟩
      refine z d d' pd v H' Gr [] G2 S2 st' (.t o1) (Sep.of ⟨sp'.gd.nd, fun a y => absurd y List.not_mem_nil⟩ st.nd apr) (p.trans ⟨fun a o e nn => q.keep a o e fun y => nn (inn a y), fun a y => ?_, fun a y => .inl (List.mem_append_right _ (by simpa using y))⟩)
      rcases List.mem_append.mp y with y | y
      · exact (gr a y).imp (inn a) id
      · exact .inl (List.mem_append_right _ y)
  · exact w.elim
section
variable {X : Cx} {B : Base} {CX : CXT} {k n m : Nat} {x : Str} {st : Stmt} {ps ks : List Str} {p pos : Pos} {e : Expr} {es : List Expr} {R : RI} {wa : WA}
def wCallI (n m : Nat) (R : RI) (wa : WA) : WI := fun env Q => wa env fun is e => ChgW n m R is e Q
/-- f(e, ..) of a def that may change its first argument -/
theorem vi_callI (c : Cl X.prog X.w X.K X.mg X.base CX k x st ps (spI X.K n m R)) (hr : Rm k X.A) (hx : Passes CX X (fun _ _ _ => False)) (ha : VA X B (e :: es) wa) (hg : Gl X x := by rfl)
    (hdb : (x == ("__debug__" : Str)) = false := by decide) (he : starEach (e :: es) X.env = (false, eval e X.env) :: starEach es X.env := by rfl) (hpl : (backTo pos (starEach es X.env)).any (·.1) = false := by rfl) : VI X B (.Call (.Name x p) (e :: es) [] pos) (wCallI n m R wa) := by
  obtain ⟨f, fd, hF, F, hm, hb⟩ := c.ex
  refine ⟨PE.weak (pe_fn F hr hm hF.kp hb hx ha.p hg hdb he hpl) fun σ H Q ⟨env, G, S, st, w⟩ => ⟨env, G, S, st, ha.m _ _ _ (fun is e1 w1 => ?_) w⟩, fun env P Q q w => ha.m _ _ _ (fun _ _ z => ChgW_mono q z) w⟩
  intro vs H1 G1 S1 G2 S2 st1 h1 sp1 p1
  have r := chg_ok (E := fun _ _ _ => False) st.st st1 h1 sp1 p1 w1.go
  rw [List.append_nil]
  exact r
end
end Cr
set_option Elab.async false
set_option linter.all false
set_option maxRecDepth 100000
/-! Calls with keywords (of defs that only look); a def's own words: what stands in K of it; no exceptions. -/
namespace Cr
open PySem PySem.Spec PyProof.Rows L2

def KwB (K : PySem.W.Frag) (fd : FuncData) (ps : List Str) (n : Nat) (ks : List Str) (idx : List Nat) : Prop :=
  ∀ (s : Shared) (us ws : List Value), us.length = n → ws.length = ks.length → BindsTo s fd ⟨us, ks.zip ws⟩ (ps.zip (gI idx (us ++ ws)))
def tCallX (n m : Nat) (idx : List Nat) (sp : Sp) (E : XK) (t tk : TA) : TE := fun σ H Q => t σ H fun vs H1 => tk σ H1 fun zs H2 => vs.length = n ∧ zs.length = m ∧ sp (gI idx (vs ++ zs)) H2 Q E
section
variable {X : Cx} {CX : CXT} {k n : Nat} {f : Addr} {fd : FuncData} {ps ks : List Str} {sp : Sp} {E : XK} {x : Str} {p pos : Pos} {e : Expr} {es : List Expr} {kws : List Keyword} {t tk : TA} {idx : List Nat}
theorem pe_fnX (F : Fn X.prog X.w X.K X.mg X.base CX k f fd ps sp) (hr : Rm k X.A) (hm : X.mg x = some (.ref f)) (hk : PySem.W.keepIn X.K (.ref f) = true) (hb : KwB X.K fd ps n ks idx) (hx : Passes CX X E)
    (ha : PA X (e :: es) t) (hkw : PK X kws tk) (hg : Gl X x) (hall : (backToKw pos (keywordEach kws X.env)).all (·.1.isSome) = true) (hks : (backToKw pos (keywordEach kws X.env)).filterMap (·.1) = ks)
    (hdb : (x == ("__debug__" : Str)) = false) (he : starEach (e :: es) X.env = (false, eval e X.env) :: starEach es X.env)
    (hpl : ((backTo pos (starEach (e :: es) X.env)).any (·.1) || (backToKw pos (keywordEach kws X.env)).any (·.1.isNone)) = false) :
    PE X (.Call (.Name x p) (e :: es) kws pos) (tCallX n ks.length idx sp E t tk) := by
  refine ⟨fun pins s σ H Q I h => wpAny_Call_Name_kw (ld_glob I hg hm ?_ hdb)⟩
  refine PySem.W.callWith_KW (h₀ := X.base) I.ok.mod.kin hk hall (thn (ha.run pos pins s σ H _ I h) fun us s1 ⟨vs, H1, I1, r, q⟩ => ?_) hpl he
  refine thn (hkw.run pos pins s1 σ H1 _ I1 q) fun ws s2 ⟨zs, H2, I2, rz, l1, l2, q2⟩ => ⟨I2.kIn, ?_⟩
  rw [hks]
  exact run_bound (args := ⟨us, ks.zip ws⟩) F hr (hb s2 us ws (by rw [← r.length, l1]) (by rw [← rz.length, l2])) hx I2 (gI_vals (r.append rz) idx) q2
theorem pe_fnX0 (F : Fn X.prog X.w X.K X.mg X.base CX k f fd ps sp) (hr : Rm k X.A) (hm : X.mg x = some (.ref f)) (hk : PySem.W.keepIn X.K (.ref f) = true) (hb : KwB X.K fd ps 0 ks idx) (hx : Passes CX X E)
    (hkw : PK X kws tk) (hg : Gl X x) (hall : (backToKw pos (keywordEach kws X.env)).all (·.1.isSome) = true) (hks : (backToKw pos (keywordEach kws X.env)).filterMap (·.1) = ks)
    (hdb : (x == ("__debug__" : Str)) = false) (hpl : ((backTo pos (starEach [] X.env)).any (·.1) || (backToKw pos (keywordEach kws X.env)).any (·.1.isNone)) = false) :
    PE X (.Call (.Name x p) [] kws pos) (tCallX 0 ks.length idx sp E tNil tk) := by
  refine ⟨fun pins s σ H Q I h => wpAny_Call_Name_kw (ld_glob I hg hm ?_ hdb)⟩
  refine PySem.W.callWith_KW0 (h₀ := X.base) I.ok.mod.kin hk hall ?_ hpl
  have h : tk σ H (fun zs H2 => ([] : List V).length = 0 ∧ zs.length = ks.length ∧ sp (gI idx ([] ++ zs)) H2 Q E) := h
  refine thn (hkw.run pos pins s σ H _ I h) fun ws s2 ⟨zs, H2, I2, rz, l1, l2, q2⟩ => ⟨I2.kIn, ?_⟩
  rw [hks]
  exact run_bound (args := ⟨[], ks.zip ws⟩) F hr (hb s2 [] ws rfl (by rw [← rz.length, l2])) hx I2 (gI_vals rz idx) q2
end
theorem Holds.app {K : PySem.W.Frag} {env : Env} {σ : Sg} {H : Hp} : ∀ {is js : List Item} {vs zs : List V} {G S G' S' : List Addr}, Holds K env σ H is vs G S → Holds K env σ H js zs G' S' → Holds K env σ H (is ++ js) (vs ++ zs) (G ++ G') (S ++ S')
  | _, _, _, _, _, _, _, _, .nil, k => k
  | _, _, _, _, _, _, _, _, .cons h t, k => by
    rw [List.append_assoc, List.append_assoc]
    exact .cons h (Holds.app t k)
theorem Holds.frame {K : PySem.W.Frag} {env env' : Env} {σ : Sg} {H H' : Hp} {F : List Addr} (kp : Kp F H H') (mu : Mu H F) : ∀ {is : List Item} {vs : List V} {G S : List Addr}, Holds K env σ H is vs G S → (∀ x ∈ G, x ∉ F) → (∀ x ∈ S, x ∉ F) → Holds K env' σ H' is vs G S
  | _, _, _, _, .nil, _, _ => .nil
  | _, _, _, _, .cons h t, a, b => .cons (h.frame kp mu (fun x z => a x (List.mem_append_left _ z)) fun x z => b x (List.mem_append_left _ z)) (Holds.frame kp mu t (fun x z => a x (List.mem_append_right _ z)) fun x z => b x (List.mem_append_right _ z))
section
variable {X : Cx} {B : Base} {CX : CXT} {k n m j : Nat} {x : Str} {st : Stmt} {ps ks : List Str} {p pos : Pos} {e : Expr} {es : List Expr} {kws : List Keyword} {R : RB} {wa wk : WA} {idx : List Nat}
def wCallK (n j m : Nat) (idx : List Nat) (R : RB) (wa wk : WA) : WI := fun env Q => wa env fun is e1 => wk e1 fun js e2 => is.length = j ∧ js.length = m ∧ LookW n (gI idx) R (is ++ js) e2 Q
theorem wCallK_mono (ma : MonA wa) (mk : MonA wk) : MonI (wCallK n j m idx R wa wk) := fun env P Q q w => ma _ _ _ (fun _ _ z => mk _ _ _ (fun _ _ ⟨a, b, z⟩ => ⟨a, b, LookW_mono q z⟩) z) w
/-- the written names bind so -/
def KwOk (x : Str) (st : Stmt) (ps : List Str) (n : Nat) (ks : List Str) (idx : List Nat) : Prop :=
  ∀ (kV doc pm : Value) (an : Option Addr) (cdv ct : Value) (us ws : List Value), us.length = n → ws.length = ks.length → bindArgs (PySem.W.fnOf x x (defArgs st) (defBody st) (defScope st) .none kV doc pm an cdv ct) ⟨us, ks.zip ws⟩ = pure (ps.zip (gI idx (us ++ ws)))
theorem kwB_of {K : PySem.W.Frag} {f : Addr} {fd : FuncData} (F : L2.Fun K x x st f fd) (h : KwOk x st ps n ks idx) : KwB K fd ps n ks idx := by
  obtain ⟨oc, od, kV, doc, pm, an, cdv, ct, osl, rfl, lk, hcd⟩ := F.ex
  exact fun s us ws l1 l2 => .of_eq (h kV doc pm an cdv ct us ws l1 l2)
/-- f(e, .., k = v, ..) -/
theorem vi_callK (c : Cl X.prog X.w X.K X.mg X.base CX k x st ps (spB X.K n R)) (hr : Rm k X.A) (hx : Passes CX X (fun _ _ _ => False)) (ha : VA X B (e :: es) wa) (hkw : VKw X B kws wk) (hb : KwOk x st ps j ks idx) (hm' : ks.length = m) (hg : Gl X x := by rfl)
    (hall : (backToKw pos (keywordEach kws X.env)).all (·.1.isSome) = true := by rfl) (hks : (backToKw pos (keywordEach kws X.env)).filterMap (·.1) = ks := by rfl)
    (hdb : (x == ("__debug__" : Str)) = false := by decide) (he : starEach (e :: es) X.env = (false, eval e X.env) :: starEach es X.env := by rfl)
    (hpl : ((backTo pos (starEach (e :: es) X.env)).any (·.1) || (backToKw pos (keywordEach kws X.env)).any (·.1.isNone)) = false := by rfl) : VI X B (.Call (.Name x p) (e :: es) kws pos) (wCallK n j m idx R wa wk) := by
  obtain ⟨f, fd, hF, F, hm, _⟩ := c.ex
  refine ⟨PE.weak (pe_fnX F hr hm hF.kp (kwB_of hF hb) hx ha.p hkw.p hg hall hks hdb he hpl) fun σ H Q ⟨env, G, S, st, w⟩ => ⟨env, G, S, st, ha.m _ _ _ (fun is e1 w1 => ?_) w⟩, wCallK_mono ha.m hkw.m⟩
  intro vs H1 G1 S1 G2 S2 st1 h1 sp1 p1
  refine ⟨e1, G2, S2, st1, hkw.m _ _ _ (fun js e2 w2 => ?_) w1⟩
  intro zs H2 G3 S3 G4 S4 st2 h2 sp2 p2
  obtain ⟨l1, l2, w3⟩ := w2
  have h1' : Holds X.K e2 σ H2 is vs G1 S1 := h1.frame p2.keep st1.sl.mu sp1.apart fun a z => (sp1.s1 a z).2
  refine ⟨by rw [h1.len, l1], by rw [h2.len, l2, hm'], ?_⟩
  exact look_ok (fun ds S o => gI_owns o idx) st2 (h1'.app h2) (sp1.more h1.mu h1.stk sp2 p2) (p1.both p2) w3.go
/-- f(k = v, ..) -/
theorem vi_callK0 (c : Cl X.prog X.w X.K X.mg X.base CX k x st ps (spB X.K n R)) (hr : Rm k X.A) (hx : Passes CX X (fun _ _ _ => False)) (hkw : VKw X B kws wk) (hb : KwOk x st ps 0 ks idx) (hm' : ks.length = m) (hg : Gl X x := by rfl)
    (hall : (backToKw pos (keywordEach kws X.env)).all (·.1.isSome) = true := by rfl) (hks : (backToKw pos (keywordEach kws X.env)).filterMap (·.1) = ks := by rfl)
    (hdb : (x == ("__debug__" : Str)) = false := by decide)
    (hpl : ((backTo pos (starEach [] X.env)).any (·.1) || (backToKw pos (keywordEach kws X.env)).any (·.1.isNone)) = false := by rfl) : VI X B (.Call (.Name x p) [] kws pos) (wCallK n 0 m idx R wNil wk) := by
  obtain ⟨f, fd, hF, F, hm, _⟩ := c.ex
  refine ⟨PE.weak (pe_fnX0 F hr hm hF.kp (kwB_of hF hb) hx hkw.p hg hall hks hdb hpl) fun σ H Q ⟨env, G, S, st, w⟩ => ?_, wCallK_mono (va_nil (X := X) (B := B)).m hkw.m⟩
  have w : wk env (fun js e2 => ([] : List Item).length = 0 ∧ js.length = m ∧ LookW n (gI idx) R ([] ++ js) e2 (PostI X.K B σ H G S Q)) := w
  refine ⟨env, G, S, st, hkw.m _ _ _ (fun js e2 w2 => ?_) w⟩
  intro zs H2 G3 S3 G4 S4 st2 h2 sp2 p2
  obtain ⟨l1, l2, w3⟩ := w2
  exact ⟨rfl, by rw [h2.len, l2, hm'], look_ok (fun ds S o => gI_owns o idx) st2 h2 sp2 p2 w3.go⟩
end
end Cr
set_option Elab.async false
set_option linter.all false
set_option maxRecDepth 100000
/-! A def of the text; the law's end. -/
namespace Cr
open PySem PySem.Spec PyProof.Rows L2

section
variable {P : Program} {w : World} {K : PySem.W.Frag} {mg : Str → Option Value} {base : Heap} {CX : CXT} {k n m : Nat} {x : Str} {st : Stmt} {f : Addr} {fd : FuncData} {ps N : List Str}
/-- a def that only looks, by its body -/
theorem Cl.B {R : RB} (F : L2.Fun K x x st f fd) (hm : mg x = some (.ref f)) (hbd : L2.Binds K fd ps []) (S : FnScope N ps (defScope st)) (hn : ps.length = n)
    (hb : ∀ (cdv : Value) (A : Around) (outer : List PySem.Env) (s : Shared) (H : Hp) (E : XK) (Sh : List Addr) (ds : List D) (k' : Nat) (Pd : D → Prop), Rm k (A.deeper (envOfC x (defScope st) s.heap.objs.size f cdv)) → ds.length = n → R ds k' Pd →
      ∃ w', VSs (cxOf CX P w K mg base N x (defScope st) f cdv A outer s H E) ⟨H, [], Sh, []⟩ (defBody st) w' ∧ w' (endB k' Pd) (ent N.length ds)) :
    Cl P w K mg base CX (k + 1) x st ps (spB K n R) := by
  refine ⟨f, fd, F, ?_, hm, hbd⟩
  obtain ⟨oc, od, kV, doc, pm, an, cdv, ct, osl, rfl, lk, hcd⟩ := F.ex
  exact body_B lk hcd S hn fun A outer s H E Sh ds k' Pd a b c => hb cdv A outer s H E Sh ds k' Pd a b c
/-- a def that may change its first argument, by its body -/
theorem Cl.I {R : RI} (F : L2.Fun K x x st f fd) (hm : mg x = some (.ref f)) (hbd : L2.Binds K fd ps []) (S : FnScope N ps (defScope st)) (hn : ps.length = n)
    (hb : ∀ (cdv : Value) (A : Around) (outer : List PySem.Env) (s : Shared) (H : Hp) (E : XK) (G Sh : List Addr) (v0 : V) (ds : List D) (k' : Nat) (Pd : D → D → Prop), Rm k (A.deeper (envOfC x (defScope st) s.heap.objs.size f cdv)) → ds.length = n → R ds k' Pd →
      ∃ w', VSs (cxOf CX P w K mg base N x (defScope st) f cdv A outer s H E) ⟨H, G, Sh, [(0, v0)]⟩ (defBody st) w' ∧ w' (endI m k' Pd) (entI N.length m ds)) :
    Cl P w K mg base CX (k + 1) x st ps (spI K n m R) := by
  refine ⟨f, fd, F, ?_, hm, hbd⟩
  obtain ⟨oc, od, kV, doc, pm, an, cdv, ct, osl, rfl, lk, hcd⟩ := F.ex
  exact body_I lk hcd S hn fun A outer s H E G Sh v0 ds k' Pd a b c => hb cdv A outer s H E G Sh v0 ds k' Pd a b c
theorem Cl.weakB {R R' : RB} (c : Cl P w K mg base CX k x st ps (spB K n R)) (h : ∀ ds k P, R' ds k P → R ds k P) : Cl P w K mg base CX k x st ps (spB K n R') :=
  let ⟨f, fd, a, b, c', d⟩ := c.ex
  ⟨f, fd, a, b.weak (fun vs H Q E ⟨ds, S, k, d, e1, e2, e3, e4⟩ => ⟨ds, S, k, d, e1, e2, h _ _ _ e3, e4⟩), c', d⟩
theorem noE {X : Cx} : Passes L2.CX0 X (fun _ _ _ => False) := L2.pass0
/-- what the top has written: the def's function, its name, that it binds its parameters -/
theorem fun_of {h : Heap} {oc kV dc pm cd ct : Value} {od an : Option Addr} {sl : Array (Option Value)} (X : K.In h) (G : h.Ns mainGlobals mg) (a : PySem.W.nsIn K mainGlobals x = some (some (.ref f)))
    (l : K.lookup f = some ⟨oc, od, .func (PySem.W.fnOf x x (defArgs st) (defBody st) (defScope st) .none kV dc pm an cd ct), sl⟩) (c : PySem.W.codeIn K cd x = true) (kp : PySem.W.keepIn K (.ref f) = true)
    (hb : ∀ (kV doc pm : Value) (an : Option Addr) (cdv ct : Value) (us : List Value), us.length = ps.length → bindArgs (PySem.W.fnOf x x (defArgs st) (defBody st) (defScope st) .none kV doc pm an cdv ct) ⟨us, []⟩ = pure (ps.zip us)) :
    ∃ fd, L2.Fun K x x st f fd ∧ mg x = some (.ref f) ∧ L2.Binds K fd ps [] :=
  ⟨_, fun_mk l c kp, PySem.W.mg_of X G a, (fun_mk l c kp).binds hb⟩
end

/-! ### the law's end -/
theorem own_ints {K : PySem.W.Frag} {H : Hp} : ∀ ns : List Int, Owns K H 0 (ns.map V.int) (ns.map D.int) [] []
  | [] => .nil
  | n :: r => .cons (G := []) (S := []) (.int n) (own_ints r)
/-- the script as a tree -/
theorem script_own {K : PySem.W.Frag} {H : Hp} {a : Addr} {ns : List Int} (hO : Only H) (h : SqL K H a (ns.map V.int)) : Own K H 0 (.ref a) (.fl (ns.map D.int)) [] [] := by
  refine .fl ?_ (own_ints ns)
  rcases h with (h | ⟨o, h⟩) | h
  · rcases hO a with z | ⟨o, xs, z⟩
    · rw [z] at h; cases h
    · rw [z] at h; cases h
  · exact .inl ⟨o, h⟩
  · exact .inr h
/-- the law's promise of True -/
def lawR (n : Nat) (ds : List D) (k : Nat) (P : D → Prop) : Prop := ∃ ns : List Int, ns.length ≤ n ∧ (∀ z ∈ ns, Builtin.Int.intBits z ≤ 1048576) ∧ ds = [.fl (ns.map D.int)] ∧ k = 0 ∧ P = fun d => d = .bl true
theorem rm_caller {k : Nat} (h : k ≤ 200) : Rm k callerA := ⟨Room.mono (k := 200) ⟨rfl, by decide, by decide⟩ h, rfl⟩
end Cr
set_option Elab.async false
set_option linter.all false
set_option maxRecDepth 100000
/-! The law's end: the call of the law's def at the script. -/
namespace Cr
open PySem PySem.Spec PyProof.Rows L2 PySem.W

/-- the law's def, called as the row calls it -/
theorem law_go {P : Program} {w : World} {K : PySem.W.Frag} {mg mb : Str → Option Value} {CX : CXT} {k n : Nat} {fa a : Addr} {st : Stmt} {x : Str} {s : Shared} {its : List Value} {ns : List Int}
    (inK : K.In s.heap) (hns : s.heap.Ns mainGlobals mg) (hb : s.heap.Ns builtinsNs mb) (hbb : ∀ y : Str, y ≠ "__name__" → mb y = bootBuiltins y) (hlim : s.heap.NoLimit) (hgen : s.gens = #[])
    (hobj : s.heap.get? a = some { cls := .type "list", data := .seq its.toArray }) (hi : IntsAre its ns) (hl : ns.length ≤ n) (hbits : ∀ z ∈ ns, Builtin.Int.intBits z ≤ 1048576) (hn : n ≤ sizeLine) (hr : Rm k callerA)
    (hfa : mg "law" = some (.ref fa)) (F : ∀ base : Heap, K.In base → base.Ns mainGlobals mg → Cl P w K mg base CX k "law" st [x] (spB K 1 (lawR n)))
    (hCX : ∀ H e s', CX [] H s (fun _ _ _ => False) e s' → False) :
    codeAny (model P w) callerA (.call (.ref fa) ⟨[.ref a], []⟩) (fun r s' => r = .ok (.ret (.bool true)) ∧ OldK s.heap s'.heap ∧ s'.os = s.os ∧ AllBare s'.gens) s := by
  have vi := vals_ints hi
  have li := hi.length
  suffices core : ∀ H : Hp, Only H → SqL K H a (ns.map V.int) → HOk P w H s.heap → (∀ b, H b ≠ none → b = a) → (H a ≠ none → K.lookup a = none) →
      codeAny (model P w) callerA (.call (.ref fa) ⟨[.ref a], []⟩) (fun r s' => r = .ok (.ret (.bool true)) ∧ OldK s.heap s'.heap ∧ s'.os = s.os ∧ AllBare s'.gens) s by
    cases hk : K.lookup a with
    | some o =>
      have e := inK a o hk
      rw [hobj] at e
      cases e
      refine core (fun _ => none) (fun _ => .inl rfl) (.inr ⟨_, its.toArray, _, hk, rfl, rfl, rfl, ?_, by simpa using vi⟩) (fun b u z => ?_) (fun b z => absurd rfl z) fun z => absurd rfl z
      · rw [List.size_toArray, li]; exact Nat.le_trans hl hn
      · exact nomatch (show (none : Option HO) = some u from z)
    | none =>
      let H0 : Hp := fun b => if b = a then some (.frz { cls := .type "list", data := .seq its.toArray } (.lst (ns.map V.int))) else none
      have at_a : H0 a = some (.frz { cls := .type "list", data := .seq its.toArray } (.lst (ns.map V.int))) := if_pos rfl
      have off : ∀ b, b ≠ a → H0 b = none := fun b h => if_neg h
      have only : ∀ b, H0 b ≠ none → b = a := fun b z => Classical.byContradiction fun h => z (off b h)
      refine core H0 (fun b => ?_) (.inl (.inr ⟨_, at_a⟩)) (fun b u z => ?_) only fun _ => hk
      · by_cases h : b = a
        · exact .inr ⟨_, _, h ▸ at_a⟩
        · exact .inl (off b h)
      · obtain rfl := only b (by rw [z]; simp)
        rw [at_a] at z
        cases z
        exact ⟨hobj, by rw [List.length_map]; exact Nat.le_trans hl hn, its, _, vi, hobj⟩
  intro H hO hS hok onlyA notK
  -- what is not the script is untracked
  have free : ∀ {b : Addr}, b ≠ a → H b = none := fun {b} h => Classical.byContradiction fun z => h (onlyA b z)
  have inBase : ∀ {b : Addr} {o : Obj}, s.heap.get? b = some o → H b = none → (hidT s.heap H).get? b = some o := fun e z => hidT_get e z
  have dictFree : ∀ {b : Addr} {o : Obj} {es : Array DictEntry} {ep : Nat}, s.heap.get? b = some o → o.data = .dict es ep → H b = none := fun {b o es ep} e d => free fun h => by
    subst h
    rw [hobj] at e
    cases e
    exact nomatch (show Data.seq its.toArray _ = Data.dict es ep from d)
  have nsB : ∀ {b : Addr} {m : Str → Option Value}, s.heap.Ns b m → (hidT s.heap H).Ns b m := fun {b m} ⟨o, es, ep, e, d, r⟩ => ⟨o, es, ep, inBase e (dictFree e d), d, r⟩
  have inKB : K.In (hidT s.heap H) := fun b o e => inBase (inK b o e) (Classical.byContradiction fun z => by
    have h := onlyA b z
    subst h
    rw [notK z] at e
    cases e)
  have limB : (hidT s.heap H).NoLimit := let ⟨mc, h1, h2⟩ := hlim; ⟨mc, nsB h1, h2⟩
  have e0 : Env0 P w K mg (hidT s.heap H) callerA [] s H := ⟨rfl, ⟨inKB, nsB hns, ⟨mb, nsB hb, hbb⟩, limB⟩, fun b o e => of_hidT e, Nat.le_of_eq (hidT_size _ _), trivial, fun b z => absurd (show b ∈ ([] : List Addr) from z) List.not_mem_nil, hok, .of_eq hgen⟩
  have hsp : spB K 1 (lawR n) [.ref a] H (fun v _ => v = .bl true) (fun _ _ _ => False) := by
    refine ⟨_, _, 0, fun d => d = .bl true, rfl, .cons (G := []) (G' := []) (script_own hO hS) .nil, ⟨ns, hl, hbits, rfl, rfl, rfl⟩, fun d v H' G1 S1 pd o _ _ => ?_⟩
    have pd : d = .bl true := pd
    subst pd
    cases o
    rfl
  obtain ⟨f, fd, _, Fo, hf, bd⟩ := (F _ inKB (nsB hns)).ex
  obtain rfl : f = fa := by rw [hfa] at hf; cases hf; rfl
  refine codeAny_mono (Fo.go callerA [] s H ⟨[.ref a], []⟩ [.ref a] [.ref a] _ _ hr e0 (bd s [.ref a] inK rfl) (.cons rfl .nil) hsp) fun r s' h => ?_
  match r, h with
  | .error e, h => exact (hCX H e s' h).elim
  | .ok .next, h => exact False.elim h
  | .ok .brk, h => exact False.elim h
  | .ok .cont, h => exact False.elim h
  | .ok (.ret u), h =>
    obtain ⟨v, H', os, bare, un, hok', r', q⟩ := h
    obtain rfl : v = .bl true := q
    obtain rfl : u = Value.bool true := r'
    refine ⟨rfl, OldK.of_keep fun b o e => ?_, os, bare⟩
    rcases hO b with z | ⟨ob, xs, z⟩
    · exact un.keep b o e z (fun y => absurd (show b ∈ ([] : List Addr) from y) List.not_mem_nil) (by simp)
    · obtain ⟨e1, _⟩ := hok b _ z
      obtain ⟨e2, _⟩ := hok' b _ (un.frzs b ob _ z)
      rw [e] at e1
      cases e1
      exact e2

/-- the goal that the head leaves, from the law's promise -/
theorem law_end {l : PySem.W.OpenLaw} {n k : Nat} {q : Program} {loose : List Str} {XP : (Str → Option Value) → Heap → Prop} {YP : World → Heap → Prop} {d : DefRec} {K : Params → PySem.W.Frag} {CX : World → CXT} {x : Str} {st : Stmt}
    (hn : l.most = some n) (hn2 : n ≤ sizeLine) (hdf : d.params.defaults = []) (hr : Rm k callerA) (hY : ∀ (w : World) (h : Heap), YP w h → (K w.params).In h) (hd : d.name = "law")
    (F : ∀ (w : World) (mg : Str → Option Value) (h : Heap), (K w.params).In h → h.Ns mainGlobals mg → ∀ base : Heap, (K w.params).In base → base.Ns mainGlobals mg → Cl l.prog w (K w.params) mg base (CX w) k "law" st [x] (spB (K w.params) 1 (lawR n)))
    (hCX : ∀ (w : World) (H : Hp) (s : Shared) (e : Value) (s' : Shared), CX w [] H s (fun _ _ _ => False) e s' → False) :
    PySem.W.WalkO q loose XP YP l.row.toRowW d [] (fun f vs => PySem.call f vs) := by
  refine Att.attach_callB hn hdf fun w s₀ s₁ mg mb fa o pm cd doc a vs ns G Y ho hdd hcd hmg hobj hints hlen hbits hg => ?_
  rw [hd] at hmg
  exact law_go (hY w _ Y) G.T.g G.T.b G.T.builtins G.T.nolimit hg hobj hints hlen hbits hn2 hr hmg (F w mg _ (hY w _ Y) G.T.g) fun H e s' => hCX w H s₁ e s'
end Cr
set_option Elab.async false
set_option linter.all false
set_option maxRecDepth 100000
/-! A slot's own list is changed: xs[i] = e, xs.append(e), .. -/
namespace Cr
open PySem PySem.Spec PyProof.Rows L2

/-- the list's items, rearranged, with one more item -/
def Ed (xs ys : List V) (ds es : List D) (y : V) (d' : D) : Prop := ∀ (K : PySem.W.Frag) (H : Hp) (m : Nat) (G S A SA : List Addr), Owns K H m xs ds G S → Own K H m y d' A SA →
  ∃ G' S', Owns K H m ys es G' S' ∧ ((G ++ A).Nodup → G'.Nodup) ∧ (∀ a ∈ G', a ∈ G ∨ a ∈ A) ∧ ∀ a ∈ S', a ∈ S ∨ a ∈ SA
theorem ed_set {y : V} {d' : D} : ∀ {xs : List V} {ds : List D} (j : Nat), Ed xs (xs.set j y) ds (ds.set j d') y d'
  | [], ds, j => fun K H m G S A SA h o => by
    cases h
    exact ⟨[], [], .nil, fun _ => List.nodup_nil, fun a z => absurd z List.not_mem_nil, fun a z => absurd z List.not_mem_nil⟩
  | x :: xs, ds, 0 => fun K H m G S A SA h o => by
    cases h with
    | cons h1 h2 =>
      rename_i d G1 S1 ds G2 S2
      refine ⟨A ++ G2, SA ++ S2, .cons o h2, fun n => ?_, fun a z => ?_, fun a z => ?_⟩
      · rw [List.append_assoc, List.nodup_append] at n
        have n2 := List.nodup_append.mp n.2.1
        exact List.nodup_append.mpr ⟨n2.2.1, n2.1, fun a z b w e => n2.2.2 b w a z e.symm⟩
      · rcases List.mem_append.mp z with z | z <;> simp [z]
      · rcases List.mem_append.mp z with z | z <;> simp [z]
  | x :: xs, ds, j + 1 => fun K H m G S A SA h o => by
    cases h with
    | cons h1 h2 =>
      rename_i d G1 S1 ds G2 S2
      obtain ⟨G', S', r, n', g, s⟩ := ed_set (y := y) (d' := d') (xs := xs) (ds := ds) j _ _ _ _ _ _ _ h2 o
      refine ⟨G1 ++ G', S1 ++ S', .cons h1 r, fun n => ?_, fun a z => ?_, fun a z => ?_⟩
      · rw [List.append_assoc, List.nodup_append] at n
        refine List.nodup_append.mpr ⟨n.1, n' n.2.1, fun a z b w e => n.2.2 a z b ?_ e⟩
        rcases g b w with w | w <;> simp [w]
      · rcases List.mem_append.mp z with z | z
        · simp [z]
        · rcases g a z with z | z <;> simp [z]
      · rcases List.mem_append.mp z with z | z
        · simp [z]
        · rcases s a z with z | z <;> simp [z]
theorem Owns.app {K : PySem.W.Frag} {H : Hp} {m : Nat} : ∀ {xs ys : List V} {ds es : List D} {G S A SA : List Addr}, Owns K H m xs ds G S → Owns K H m ys es A SA → Owns K H m (xs ++ ys) (ds ++ es) (G ++ A) (S ++ SA)
  | _, _, _, _, _, _, _, _, .nil, k => k
  | _, _, _, _, _, _, _, _, .cons h t, k => by
    rw [List.append_assoc, List.append_assoc]
    exact .cons h (Owns.app t k)
theorem ed_push {y : V} {d' : D} {xs : List V} {ds : List D} : Ed xs (xs ++ [y]) ds (ds ++ [d']) y d' := fun K H m G S A SA h o =>
  ⟨G ++ (A ++ []), S ++ (SA ++ []), Owns.app h (.cons o .nil), fun n => by simpa using n, fun a z => by simpa using z, fun a z => by simpa using z⟩
theorem ed_insert {y : V} {d' : D} : ∀ {xs : List V} {ds : List D} (j : Nat), Ed xs (xs.take j ++ y :: xs.drop j) ds (ds.take j ++ d' :: ds.drop j) y d'
  | xs, ds, 0 => fun K H m G S A SA h o => by
    refine ⟨A ++ G, SA ++ S, .cons o h, fun n => ?_, fun a z => ?_, fun a z => ?_⟩
    · rw [List.nodup_append] at n
      exact List.nodup_append.mpr ⟨n.2.1, n.1, fun a z b w e => n.2.2 b w a z e.symm⟩
    · rcases List.mem_append.mp z with z | z <;> simp [z]
    · rcases List.mem_append.mp z with z | z <;> simp [z]
  | [], ds, j + 1 => fun K H m G S A SA h o => by
    cases h
    exact ⟨A ++ [], SA ++ [], .cons o .nil, fun n => by simpa using n, fun a z => .inr (by simpa using z), fun a z => .inr (by simpa using z)⟩
  | x :: xs, ds, j + 1 => fun K H m G S A SA h o => by
    cases h with
    | cons h1 h2 =>
      rename_i d G1 S1 ds G2 S2
      obtain ⟨G', S', r, n', g, s⟩ := ed_insert (y := y) (d' := d') (xs := xs) (ds := ds) j _ _ _ _ _ _ _ h2 o
      refine ⟨G1 ++ G', S1 ++ S', .cons h1 r, fun n => ?_, fun a z => ?_, fun a z => ?_⟩
      · rw [List.append_assoc, List.nodup_append] at n
        refine List.nodup_append.mpr ⟨n.1, n' n.2.1, fun a z b w e => n.2.2 a z b ?_ e⟩
        rcases g b w with w | w <;> simp [w]
      · rcases List.mem_append.mp z with z | z
        · simp [z]
        · rcases g a z with z | z <;> simp [z]
      · rcases List.mem_append.mp z with z | z
        · simp [z]
        · rcases s a z with z | z <;> simp [z]
section
variable {K : PySem.W.Frag} {B : Base} {e : Env} {σ : Sg} {H H1 : Hp} {G S A SA G3 S3 : List Addr}
theorem mut_ok {i k0 k' : Nat} {ds es : List D} {y : V} {d' : D} (st : Sta K B e σ H1 G3 S3) (he : e[i]? = some (some (k0 + 1, .lst ds))) (stb : Stp B.H B.G B.S H G S) (oy : Own K H1 k' y d' A SA) (sp : Sep A SA G3 S3) (P0 : Stp H G S H1 (A ++ G3) (SA ++ S3)) :
    ∃ a xs, σ[i]? = some (some (.ref a)) ∧ H1 a = some (.lst xs) ∧ xs.length = ds.length ∧ ∀ ys, Ed xs ys ds es y d' → ∃ Gn Sn, Sta K B (e.set i (some (min k0 k' + 1, .lst es))) σ (upd H1 a (.lst ys)) Gn Sn ∧ Stp H G S (upd H1 a (.lst ys)) Gn Sn := by
  obtain ⟨v0, _, _, hv, -⟩ := st.sl.get he
  obtain ⟨Ga, Gi, Gb, Sa, Si, Sb, r2, r3, o, sl', put⟩ := put_ok st he hv stb P0 sp (Own.mu _ oy)
  obtain ⟨gdi, hab⟩ := mid st r2 r3
  have inG : ∀ a ∈ Gi, a ∈ G3 := fun a z => by rw [r2]; simp [z]
  have inS : ∀ a ∈ Si, a ∈ S3 := fun a z => by rw [r3]; simp [z]
  cases o with
  | own h1 h2 =>
    rename_i a xs Gl
    refine ⟨a, xs, hv, h1, Owns.len h2, fun ys ed => ?_⟩
    obtain ⟨L, SL, oL, lo⟩ := Owns.lower ds (Nat.min_le_left k0 k') h2
    obtain ⟨A', SA', oA, lA⟩ := Own.lower _ (Nat.min_le_right k0 k') oy
    obtain ⟨G', S', r, nd, g, s⟩ := ed _ _ _ _ _ _ _ oL oA
    have gdl : Gd Gl Si := ⟨(List.nodup_cons.mp gdi.nd).2, fun x z q => gdi.dj x z (List.mem_cons_of_mem _ q)⟩
    have gdL := gdl.low lo
    have gA := sp.gd.low lA
    have hGl : ∀ x ∈ L, x ∈ G3 := fun x z => inG x (List.mem_cons_of_mem _ (lo.sub.subset z))
    have hA : ∀ x ∈ A', x ∈ A := fun x z => lA.sub.subset z
    have hS' : ∀ x ∈ S', x ∈ Si ∨ x ∈ Gl ∨ x ∈ SA ∨ x ∈ A := fun x z => by
      rcases s x z with z | z
      · rcases lo.sh x z with z | z
        · exact .inl z
        · exact .inr (.inl z.1)
      · rcases lA.sh x z with z | z
        · exact .inr (.inr (.inl z))
        · exact .inr (.inr (.inr z.1))
    -- the list's own node is not among them
    have aG : a ∉ G' := fun z => by
      rcases g a z with z | z
      · exact (List.nodup_cons.mp gdi.nd).1 (lo.sub.subset z)
      · exact sp.apart a (hA a z) (inG a List.mem_cons_self)
    have aS : a ∉ S' := fun z => by
      rcases hS' a z with z | z | z | z
      · exact gdi.dj a z List.mem_cons_self
      · exact (List.nodup_cons.mp gdi.nd).1 z
      · exact (sp.s1 a z).2 (inG a List.mem_cons_self)
      · exact sp.apart a z (inG a List.mem_cons_self)
    have ndLA : (L ++ A').Nodup := List.nodup_append.mpr ⟨gdL.nd, gA.nd, fun x z b w q => sp.apart b (hA b w) (q ▸ hGl x z)⟩
    have kp : Kp [a] H1 (upd H1 a (.lst ys)) := fun b u q n => by rw [upd_ne (by simpa using n)]; exact q
    have mu1 : Mu H1 [a] := fun b z => by rw [List.mem_singleton.mp z, h1]; trivial
    have r' := Owns.frame kp mu1 _ r (fun b z q => aG (by rw [← List.mem_singleton.mp q]; exact z)) fun b z q => aS (by rw [← List.mem_singleton.mp q]; exact z)
    have gdN : Gd (a :: G') S' := by
      refine ⟨List.nodup_cons.mpr ⟨aG, nd ndLA⟩, fun x z q => ?_⟩
      rcases List.mem_cons.mp q with q | q
      · exact aS (q ▸ z)
      · rcases g x q with q | q
        · -- x in L: not in S'
          rcases s x z with z | z
          · exact gdL.dj x z q
          · rcases lA.sh x z with z | z
            · exact (sp.s1 x z).2 (hGl x q)
            · exact sp.apart x z.1 (hGl x q)
        · rcases s x z with z | z
          · rcases lo.sh x z with z | z
            · exact sp.s2 x (inS x z) (hA x q)
            · exact sp.apart x (hA x q) (inG x (List.mem_cons_of_mem _ z.1))
          · exact gA.dj x z q
    have stp : Stp H1 ((a :: Gl) ++ A) (Si ++ SA) (upd H1 a (.lst ys)) ([] ++ (a :: G')) ([] ++ S') := by
      refine ⟨fun b u q n => kp b u q fun z => n (by rw [List.mem_singleton.mp z]; simp), fun x z => .inl ?_, fun x z => ?_⟩
      · rcases List.mem_cons.mp z with z | z
        · subst z; simp
        · rcases g x z with z | z
          · have := lo.sub.subset z; simp [this]
          · have := hA x z; simp [this]
      · rcases hS' x z with z | z | z | z <;> simp [z]
    have ab3 : ∀ x, x ∈ Ga ∨ x ∈ Gb → x ∈ G3 := fun x z => by rw [r2]; rcases z with z | z <;> simp [z]
    have key : ∀ x ∈ [] ++ S', (x ∉ Ga ∧ x ∉ Gb) ∧ (x ∈ SA ++ S3 ∨ x ∈ A ++ G3 ∨ H1 x = none) := fun x z => by
      rcases hS' x z with z | z | z | z
      · exact ⟨⟨fun q => st.dj x (inS x z) (ab3 x (.inl q)), fun q => st.dj x (inS x z) (ab3 x (.inr q))⟩, .inl (List.mem_append_right _ (inS x z))⟩
      · exact ⟨hab x (List.mem_cons_of_mem _ z), .inr (.inl (List.mem_append_right _ (inG x (List.mem_cons_of_mem _ z))))⟩
      · exact ⟨⟨fun q => (sp.s1 x z).2 (ab3 x (.inl q)), fun q => (sp.s1 x z).2 (ab3 x (.inr q))⟩, .inl (List.mem_append_left _ z)⟩
      · exact ⟨⟨fun q => sp.apart x z (ab3 x (.inl q)), fun q => sp.apart x z (ab3 x (.inr q))⟩, .inr (.inl (List.mem_append_left _ z))⟩
    obtain ⟨Gn, Sn, q1, q2, q3⟩ := put (k := 0) (d := .non) (v := .non) (G1 := []) (S1 := []) (fun x z => (List.mem_append.mp z)) (.own (upd_same) r') .non (Sep.nn gdN.nd) gdN stp key
    exact ⟨Gn, Sn, q1, q3⟩
end
section
variable {X : Cx} {B : Base} {pos : Pos} {i : Nat} {x : Str} {e ix : Expr} {wa wi : WI}
theorem slot_some {K : PySem.W.Frag} {B : Base} {e : Env} {σ : Sg} {H : Hp} {G S : List Addr} {i : Nat} (st : Sta K B e σ H G S) (h : (e[i]?.join).isSome = true) : ∃ v, σ[i]? = some (some v) := by
  cases e1 : e[i]? with
  | none => rw [e1] at h; cases h
  | some x =>
    cases x with
    | none => rw [e1] at h; cases h
    | some p =>
      obtain ⟨k, d⟩ := p
      obtain ⟨v, _, _, hv, -⟩ := st.sl.get e1
      exact ⟨v, hv⟩
/-- x[ix] = e where x is a slot's own list -/
def wSetIx (i : Nat) (wa wi : WI) : WS := fun E env => wa env fun it e1 => wGive it e1 fun k' d' e2 => (e2[i]?.join).isSome = true ∧ wi e2 fun jt e3 => match wVal jt e3, e3[i]? with
  | some (.int n), some (some (k + 1, .lst ds)) => ∃ j, ixN ds.length n = some j ∧ E.nx (e3.set i (some (min k k' + 1, .lst (ds.set j d'))))
  | _, _ => False
theorem vs_setIx {tp np : Pos} (hN : X.N[i]? = some x) (hv : Vis X.env.scope x) (ha : VI X B e wa) (hi : VI X B ix wi) (hs : swapsWithSole [.Subscript (.Name x np) ix tp] e pos.line X.env = pure false := by rfl) (hw : swappedStores [.Subscript (.Name x np) ix tp] e X.env = pure none := by rfl)
    (h1 : (assignEach [.Subscript (.Name x np) ix tp] X.env).map (·.2) = [assign (.Subscript (.Name x np) ix tp) X.env] := by rfl) (hd : (x == ("__debug__" : Str)) = false := by decide) (hcd : (x == ("__classdict__" : Str)) = false := by decide)
    (hb : ∀ v, assign (.Subscript (.Name x np) ix tp) X.env v = (do
      let ov ← holding [v] (eval (.Name x np) X.env)
      let iv ← holding [v, ov] (eval ix X.env)
      standAt tp
      holding [v, ov, iv] (setItem ov iv v)
      release [v, ov, iv] []) := by intro _; rfl) : VS X B (.Assign [.Subscript (.Name x np) ix tp] e pos) (wSetIx i wa wi) := by
  refine ⟨PS.weak (ps_asg ha.p (pg_sub (pe_var hN hv hd hcd) hi.p set_list hb) hs hw h1) fun E σ H ⟨env, G, S, st, w⟩ => ?_, fun env P Q q w => ha.m _ _ _ (fun it e1 z => wGive_mono (fun k d e2 y => ⟨y.1, hi.m _ _ _ (fun jt e3 w => ?_) y.2⟩) z) w⟩
  · refine ⟨env, G, S, st, ha.m _ _ _ (fun it e1 w1 => ?_) w⟩
    intro v H1 G1 S1 G2 S2 st1 h1 sp1 p1
    obtain ⟨k', d', e2, A, SA, G3, S3, ⟨hs2, w2⟩, st2, o2, sp2, p2, _⟩ := give_ok st1 h1 sp1 w1
    have p2 := p1.trans p2
    obtain ⟨v0, ev0⟩ := slot_some st2 hs2
    refine ⟨v0, ev0, e2, G3, S3, st2, hi.m _ _ _ (fun jt e3 w3 => ?_) w2⟩
    intro u H3 G4 S4 G5 S5 st3 h3 sp3 p3
    obtain ⟨h4, sp4, p4⟩ := seqP (env := e3) st2 (.t o2) sp2 p2 sp3 p3
    have sp5 : Sep A SA G5 S5 := Sep.of sp4.gd.l sp4.n2 sp4.ap.l
    have p5 : Stp H G S H3 (A ++ G5) (SA ++ S5) := p4.less (fun a z => by rcases List.mem_append.mp z with z | z <;> simp [z]) fun a z => .inl (by rcases List.mem_append.mp z with z | z <;> simp [z])
    cases h4 with
    | t o4 =>
    split at w3
    · rename_i n k ds en es
      obtain ⟨j, ej, w4⟩ := w3
      have eu : u = .int n := Rdb.int (val_own st3.sl h3 en)
      obtain ⟨a, xs, e1, e2, e3', go⟩ := mut_ok (es := ds.set j d') st3 es st.st o4 sp5 p5
      rw [ev0] at e1
      obtain rfl : v0 = .ref a := Option.some.inj (Option.some.inj e1)
      obtain ⟨Gn, Sn, stn, pn⟩ := go (xs.set j v) (ed_set j)
      exact ⟨a, xs, n, j, rfl, eu, e2, by rw [e3']; exact ej, w4 σ _ Gn Sn stn pn⟩
    · exact w3.elim
  · split at w
    · obtain ⟨j, a, b⟩ := w
      exact ⟨j, a, q.nx _ b⟩
    · exact w
/-- x.append(e) -/
def wPush (i : Nat) (wa : WI) : WI := fun env Q => (∃ k ds, env[i]? = some (some (k + 1, .lst ds))) ∧ wa env fun it e1 => wGive it e1 fun k' d' e2 => match e2[i]? with
  | some (some (k + 1, .lst ds)) => ds.length < sizeLine ∧ Q (.t 9 .non) (e2.set i (some (min k k' + 1, .lst (ds ++ [d']))))
  | _ => False
theorem wPush_mono (ma : MonI wa) : MonI (wPush i wa) := fun env P Q q w => ⟨w.1, ma _ _ _ (fun it e1 z => wGive_mono (fun k' d' e2 y => by
  split at y
  · exact ⟨y.1, q _ _ y.2⟩
  · exact y) z) w.2⟩
theorem vi_push {ap np : Pos} (hN : X.N[i]? = some x) (hv : Vis X.env.scope x) (ha : VI X B e wa) (hd : (x == ("__debug__" : Str)) = false := by decide) (hcd : (x == ("__classdict__" : Str)) = false := by decide)
    (hbase : attributeBase (.Name x np) "append" X.env (eval (.Name x np) X.env) = eval (.Name x np) X.env := by rfl)
    (hfew : ((backTo pos (starEach (e :: []) X.env)).all (fun x => !x.1) && (backToKw pos (keywordEach [] X.env)).all (fun x => x.1.isSome)
      && decide ((e :: []).length + ([] : List Keyword).length + (if ([] : List Keyword).isEmpty then 0 else 1) < 30)) = true := by rfl)
    (hline : (ap.endLine == pos.line) = true := by rfl) (hs : starEach (e :: []) X.env = (false, eval e X.env) :: starEach [] X.env := by rfl) (hplain : (backTo pos (starEach [] X.env)).any (·.1) = false := by rfl) :
    VI X B (.Call (.Attribute (.Name x np) "append" ap) [e] [] pos) (wPush i wa) := by
  refine ⟨PE.weak (pe_bm PySem.F.plainAttrs_list PySem.F.slot_list_append PySem.F.type_list_append mt_append (pe_var hN hv hd hcd) (pa_cons ha.p pa_nil hs) hbase hfew hline hs hplain) fun σ H Q ⟨env, G, S, st, w⟩ => ?_, wPush_mono ha.m⟩
  obtain ⟨⟨k0, ds0, e0⟩, w⟩ := w
  obtain ⟨v0, _, _, hv0, o0, -, -⟩ := st.sl.get e0
  refine ⟨v0, hv0, ?_, env, G, S, st, ha.m _ _ _ (fun it e1 w1 => ?_) w⟩
  · cases o0 with
    | own h1 h2 => exact .inl ⟨rfl, _, .inl (.inl h1)⟩
  intro v H1 G1 S1 G2 S2 st1 h1 sp1 p1
  obtain ⟨k', d', e2, A, SA, G3, S3, w2, st2, o2, sp2, p2, _⟩ := give_ok st1 h1 sp1 w1
  have p2 := p1.trans p2
  split at w2
  · rename_i k ds es
    obtain ⟨f, w3⟩ := w2
    obtain ⟨a, xs, b1, b2, b3, go⟩ := mut_ok (es := ds ++ [d']) st2 es st.st o2 sp2 p2
    rw [hv0] at b1
    obtain rfl : v0 = .ref a := Option.some.inj (Option.some.inj b1)
    obtain ⟨Gn, Sn, stn, pn⟩ := go (xs ++ [v]) ed_push
    exact ⟨a, xs, v, rfl, rfl, b2, by rw [b3]; exact f, w3 .non _ [] [] Gn Sn stn (.t .non) (Sep.nn stn.nd) pn⟩
  · exact w2.elim
end
end Cr
set_option Elab.async false
set_option linter.all false
set_option maxRecDepth 100000
set_option maxHeartbeats 1000000
/-! list(zip(a, b)): the model's steps. -/
namespace Cr
open PySem PySem.Spec PyProof.Rows PySem.W
section
variable {prog : Program} {w : World} {A : Around} {E : Value → Shared → Prop} {s : Shared}
/-- one more pair of two tuples, the pair told last is still held -/
theorem heldT_item {z ti tx T i1 i2 l1 l2 : Addr} {f : Bool} {oT : Obj} {k1 k2 : Nat} {xs ys : Array Value} {x y : Value} {Q : Value → Shared → Prop} (D : ZipApart z ti tx i1 i2 l1 l2)
    (hz : IsZipHeld s.heap z ti tx T f) (hT : s.heap.get? T = some oT) (hI : IsPair s.heap ti (.ref i1) (.ref i2)) (h1 : s.heap.IsTupleIter i1 l1 k1) (h2 : s.heap.IsTupleIter i2 l2 k2) (hl1 : s.heap.IsTuple l1 xs) (hl2 : s.heap.IsTuple l2 ys)
    (hx : xs[k1]? = some x) (hy : ys[k2]? = some y)
    (hQ : ∀ h', IsZipHeld h' z ti tx T true → h'.IsTupleIter i1 l1 (k1 + 1) → h'.IsTupleIter i2 l2 (k2 + 1) → IsPair h' s.heap.objs.size x y → h'.objs.size = s.heap.objs.size + 1 → (∀ c o, c ≠ z → c ≠ i1 → c ≠ i2 → s.heap.get? c = some o → h'.get? c = some o) → Q (.ref s.heap.objs.size) { s with heap := h' }) :
    wpAny (model prog w) A (Builtin.«zip.__next__» ⟨[.ref z], []⟩) (fun fin s' => ∃ v, fin = .done (.ret v) ∧ Q v s') E s := by
  show wpAny _ _ (field (.ref z) 2 >>= _) _ _ _
  refine wpAny_bind (wpAny_field hz rfl (x := .bool false) rfl ?_)
  show wpAny _ _ (field (.ref z) 3 >>= _) _ _ _
  refine wpAny_bind (wpAny_field hz rfl (x := .ref ti) rfl (wpAny_bind (wpAny_seqItems hI rfl ?_)))
  show wpAny _ _ (Builtin.SmallTypes.ownedTupleIsFree (.ref z) >>= _) _ _ _
  refine wpAny_bind (wpAny_tupleHeld_zip hz hT fun ha za sa => ?_)
  simp only [if_false, Bool.false_eq_true]
  refine wpAny_bind ?_
  rw [← Array.forIn_toList]
  simp only [List.forIn_nil, List.forIn_cons]
  refine wpAny_bind (wpAny_bind (wpAny_holding ?_))
  show wpAny _ _ (Builtin.SmallTypes.nextOf (.ref i1) >>= _) _ _ _
  refine wpAny_bind (RZ.nextOf_tuple_item (s := { s with heap := ha }) (h1.extBut sa.extBut D.i1z) (hl1.extBut sa.extBut D.l1z) hx fun hb b1 sb => wpAny_pure (wpAny_pure ?_))
  refine wpAny_bind (wpAny_bind (wpAny_holding ?_))
  show wpAny _ _ (Builtin.SmallTypes.nextOf (.ref i2) >>= _) _ _ _
  refine wpAny_bind (RZ.nextOf_tuple_item (s := { s with heap := hb }) ((h2.extBut sa.extBut D.i2z).extBut sb.extBut D.i12.symm) ((hl2.extBut sa.extBut D.l2z).extBut sb.extBut D.l2i1) hy fun hc c2 sc => wpAny_pure (wpAny_pure (wpAny_pure ?_)))
  show wpAny _ _ (newTuple [x, y] >>= _) _ _ _
  refine wpAny_bind (wpAny_newTuple ?_)
  have hsz : hc.objs.size = s.heap.objs.size := by rw [sc.1, sb.1, sa.1]
  have zc : IsZipHeld hc z ti tx T true := sc.extBut _ _ D.i2z.symm (sb.extBut _ _ D.i1z.symm za)
  have kc : ∀ c o, c ≠ z → c ≠ i1 → c ≠ i2 → s.heap.get? c = some o → hc.get? c = some o := fun c o n1 n2 n3 e => sc.extBut _ _ n3 (sb.extBut _ _ n2 (sa.extBut _ _ n1 e))
  have c1 : hc.IsTupleIter i1 l1 (k1 + 1) := b1.extBut sc.extBut D.i12
  refine wpAny_pure ⟨_, rfl, ?_⟩
  show Q (.ref hc.objs.size) _
  have np : IsPair (hc.push { cls := .type "tuple", data := .seq #[x, y] }) hc.objs.size x y := Heap.get?_push_size _ rfl
  have nz : (hc.push { cls := .type "tuple", data := .seq #[x, y] }).objs.size = hc.objs.size + 1 := Heap.size_push ..
  rw [hsz] at np nz ⊢
  exact hQ _ (Heap.get?_push_of_some _ zc) (c1.at fun o e => Heap.get?_push_of_some _ e) (c2.at fun o e => Heap.get?_push_of_some _ e) np nz fun c o n1 n2 n3 e => Heap.get?_push_of_some _ (kc c o n1 n2 n3 e)
theorem heldT_end {z ti tx T i1 i2 l1 l2 : Addr} {f : Bool} {oT : Obj} {k1 k2 : Nat} {xs ys : Array Value} {Q : Fin → Shared → Prop} (hh : A.handled = none) (D : ZipApart z ti tx i1 i2 l1 l2)
    (hz : IsZipHeld s.heap z ti tx T f) (hT : s.heap.get? T = some oT) (hI : IsPair s.heap ti (.ref i1) (.ref i2)) (h1 : s.heap.IsTupleIter i1 l1 k1) (h2 : s.heap.IsTupleIter i2 l2 k2) (hl1 : s.heap.IsTuple l1 xs) (hl2 : s.heap.IsTuple l2 ys)
    (hend : xs[k1]? = none ∨ ys[k2]? = none) (hE : ∀ h' e, (∀ c o, c ≠ z → c ≠ i1 → c ≠ i2 → s.heap.get? c = some o → h'.get? c = some o) → (∃ o, h'.get? e = some o ∧ o.cls = .type "StopIteration") → E (.ref e) { s with heap := h' }) :
    wpAny (model prog w) A (Builtin.«zip.__next__» ⟨[.ref z], []⟩) Q E s := by
  show wpAny _ _ (field (.ref z) 2 >>= _) _ _ _
  refine wpAny_bind (wpAny_field hz rfl (x := .bool false) rfl ?_)
  show wpAny _ _ (field (.ref z) 3 >>= _) _ _ _
  refine wpAny_bind (wpAny_field hz rfl (x := .ref ti) rfl (wpAny_bind (wpAny_seqItems hI rfl ?_)))
  show wpAny _ _ (Builtin.SmallTypes.ownedTupleIsFree (.ref z) >>= _) _ _ _
  refine wpAny_bind (wpAny_tupleHeld_zip hz hT fun ha za sa => ?_)
  simp only [if_false, Bool.false_eq_true]
  refine wpAny_bind ?_
  rw [← Array.forIn_toList]
  simp only [List.forIn_nil, List.forIn_cons]
  refine wpAny_bind (wpAny_bind (wpAny_holding ?_))
  show wpAny _ _ (Builtin.SmallTypes.nextOf (.ref i1) >>= _) _ _ _
  cases hx : xs[k1]? with
  | none =>
    refine wpAny_bind (RZ.nextOf_tuple_end (s := { s with heap := ha }) hh (h1.extBut sa.extBut D.i1z) (hl1.extBut sa.extBut D.l1z) hx fun hb e sb he => ?_)
    exact hE hb e (fun c o n1 n2 _ q => sb _ _ n2 (sa.extBut _ _ n1 q)) he
  | some x =>
    have hy : ys[k2]? = none := hend.resolve_left (by rw [hx]; exact fun q => nomatch q)
    refine wpAny_bind (RZ.nextOf_tuple_item (s := { s with heap := ha }) (h1.extBut sa.extBut D.i1z) (hl1.extBut sa.extBut D.l1z) hx fun hb b1 sb => wpAny_pure (wpAny_pure ?_))
    refine wpAny_bind (wpAny_bind (wpAny_holding ?_))
    show wpAny _ _ (Builtin.SmallTypes.nextOf (.ref i2) >>= _) _ _ _
    refine wpAny_bind (RZ.nextOf_tuple_end (s := { s with heap := hb }) hh ((h2.extBut sa.extBut D.i2z).extBut sb.extBut D.i12.symm) ((hl2.extBut sa.extBut D.l2z).extBut sb.extBut D.l2i1) hy fun hc e sc he => ?_)
    exact hE hc e (fun c o n1 n2 n3 q => sc _ _ n3 (sb.extBut _ _ n2 (sa.extBut _ _ n1 q))) he
theorem nextT_held {z ti tx T i1 i2 l1 l2 : Addr} {f : Bool} {oT : Obj} {k1 k2 : Nat} {xs ys : Array Value} {x y : Value} {Q : Option Value → Shared → Prop} (D : ZipApart z ti tx i1 i2 l1 l2)
    (hz : IsZipHeld s.heap z ti tx T f) (hT : s.heap.get? T = some oT) (hI : IsPair s.heap ti (.ref i1) (.ref i2)) (h1 : s.heap.IsTupleIter i1 l1 k1) (h2 : s.heap.IsTupleIter i2 l2 k2) (hl1 : s.heap.IsTuple l1 xs) (hl2 : s.heap.IsTuple l2 ys)
    (hx : xs[k1]? = some x) (hy : ys[k2]? = some y)
    (hQ : ∀ h', IsZipHeld h' z ti tx T true → h'.IsTupleIter i1 l1 (k1 + 1) → h'.IsTupleIter i2 l2 (k2 + 1) → IsPair h' s.heap.objs.size x y → h'.objs.size = s.heap.objs.size + 1 → (∀ c o, c ≠ z → c ≠ i1 → c ≠ i2 → s.heap.get? c = some o → h'.get? c = some o) → Q (some (.ref s.heap.objs.size)) { s with heap := h' }) :
    wpAny (model prog w) A (pyNext (.ref z)) Q E s := by
  have ty : s.TypeIs (.ref z) "zip" := ⟨_, hz, rfl⟩
  unfold pyNext
  exact wpAny_bind (wpAny_attempt (wpAny_callSpecial?_slot (name := Str.ofString "__next__") ty F.slot_zip_next (wpAny_call_entry F.slot_zip_next ty F.entry_zip_next
    (heldT_item D hz hT hI h1 h2 hl1 hl2 hx hy fun h' a b c d e f => wpAny_pure (hQ h' a b c d e f)) (F.args_zip_next_1 _))))
theorem endT_held {z ti tx T i1 i2 l1 l2 : Addr} {f : Bool} {oT : Obj} {k1 k2 : Nat} {xs ys : Array Value} {Q : Option Value → Shared → Prop} (hh : A.handled = none) (D : ZipApart z ti tx i1 i2 l1 l2)
    (hz : IsZipHeld s.heap z ti tx T f) (hT : s.heap.get? T = some oT) (hI : IsPair s.heap ti (.ref i1) (.ref i2)) (h1 : s.heap.IsTupleIter i1 l1 k1) (h2 : s.heap.IsTupleIter i2 l2 k2) (hl1 : s.heap.IsTuple l1 xs) (hl2 : s.heap.IsTuple l2 ys)
    (hend : xs[k1]? = none ∨ ys[k2]? = none) (hQ : ∀ h', (∀ c o, c ≠ z → c ≠ i1 → c ≠ i2 → s.heap.get? c = some o → h'.get? c = some o) → Q none { s with heap := h' }) : wpAny (model prog w) A (pyNext (.ref z)) Q E s := by
  have ty : s.TypeIs (.ref z) "zip" := ⟨_, hz, rfl⟩
  unfold pyNext
  refine wpAny_bind (wpAny_attempt (wpAny_callSpecial?_slot (name := Str.ofString "__next__") ty F.slot_zip_next (wpAny_call_entry F.slot_zip_next ty F.entry_zip_next
    (heldT_end hh D hz hT hI h1 h2 hl1 hl2 hend fun h' e hk ⟨o, ho, hc⟩ => ?_) (F.args_zip_next_1 _))))
  exact wpAny_bind (wpAny_isInstance (T := "StopIteration") (b := true) ⟨o, ho, hc⟩ isSubtype_stop (wpAny_pure (hQ _ hk)))
end

/-- what zip(a, b) does, told without its insides; S: the list that is filled -/
structure Zs (prog : Program) (w : World) (A : Around) (z S : Addr) (wr : List Addr) (xs ys : Array Value) (St : Nat → Heap → Prop) : Prop where
  off : S ∉ wr
  item : ∀ (s : Shared) (i : Nat) (x y : Value) (Q : Option Value → Shared → Prop) (E : Value → Shared → Prop), St i s.heap → S < s.heap.objs.size → xs[i]? = some x → ys[i]? = some y →
    (∀ h', St (i + 1) h' → IsPair h' s.heap.objs.size x y → h'.objs.size = s.heap.objs.size + 1 → (∀ c o, c ∉ wr → s.heap.get? c = some o → h'.get? c = some o) → Q (some (.ref s.heap.objs.size)) { s with heap := h' }) → wpAny (model prog w) A (pyNext (.ref z)) Q E s
  fin : ∀ (s : Shared) (i : Nat) (Q : Option Value → Shared → Prop) (E : Value → Shared → Prop), St i s.heap → (xs[i]? = none ∨ ys[i]? = none) →
    (∀ h', (∀ c o, c ∉ wr → s.heap.get? c = some o → h'.get? c = some o) → Q none { s with heap := h' }) → wpAny (model prog w) A (pyNext (.ref z)) Q E s
  frame : ∀ i h h', St i h → (∀ c o, c ≠ S → h.get? c = some o → h'.get? c = some o) → St i h'

def zlSt (z ti tx S i1 i2 l1 l2 : Addr) (xs ys : Array Value) (i : Nat) (h : Heap) : Prop := IsPair h ti (.ref i1) (.ref i2) ∧ h.IsListIter i1 l1 i ∧ h.IsListIter i2 l2 i ∧ h.IsList l1 xs ∧ h.IsList l2 ys ∧
  ((IsZip h z ti tx .none ∧ ∃ a b, IsPair h tx a b) ∨ ∃ T f oT, IsZipHeld h z ti tx T f ∧ h.get? T = some oT ∧ T ≠ z ∧ T ≠ i1 ∧ T ≠ i2 ∧ T ≠ S)
theorem zl_zs {prog : Program} {w : World} {A : Around} {z ti tx S i1 i2 l1 l2 : Addr} {xs ys : Array Value} (hh : A.handled = none) (D : ZipApart z ti tx i1 i2 l1 l2) (off : ∀ c ∈ [z, ti, tx, i1, i2, l1, l2], S ≠ c) : Zs prog w A z S [z, tx, i1, i2] xs ys (zlSt z ti tx S i1 i2 l1 l2 xs ys) where
  off := fun m => by
    simp only [List.mem_cons, List.not_mem_nil, or_false] at m
    rcases m with e | e | e | e <;> exact off S (by simp [e]) rfl
  item := fun s i x y Q E st hS ex ey hQ => by
    obtain ⟨hI, h1, h2, hl1, hl2, hz⟩ := st
    have lt : ∀ {c o}, s.heap.get? c = some o → s.heap.objs.size ≠ c := fun e => Nat.ne_of_gt (Heap.lt_size e)
    have n1 : s.heap.objs.size ≠ i1 := let ⟨_, e, _⟩ := h1; lt e
    have n2 : s.heap.objs.size ≠ i2 := let ⟨_, e, _⟩ := h2; lt e
    rcases hz with ⟨hz, a, b, hO⟩ | ⟨T, f, oT, hz, hT, r1, r2, r3, r4⟩
    · refine wpAny_pyNext_zip_item D hz hI hO h1 h2 hl1 hl2 ex ey fun h' a1 a2 a3 a4 a5 a6 hk => ?_
      refine hQ h' ⟨hk _ _ D.TIz D.TITO D.TIi1 D.TIi2 hI, a3, a4, hl1.at fun o e => hk _ o D.l1z D.l1TO D.l1i1 D.l1i2 e, hl2.at fun o e => hk _ o D.l2z D.l2TO D.l2i1 D.l2i2 e, .inr ⟨s.heap.objs.size, false, _, a1, a5, lt hz, n1, n2, Nat.ne_of_gt hS⟩⟩ a5 a6 fun c o n e => ?_
      simp only [List.mem_cons, List.not_mem_nil, or_false, not_or] at n
      exact hk c o n.1 n.2.1 n.2.2.1 n.2.2.2 e
    · refine wpAny_pyNext_zip_item_held D hz hT hI h1 h2 hl1 hl2 ex ey fun h' a1 a3 a4 a5 a6 hk => ?_
      refine hQ h' ⟨hk _ _ D.TIz D.TIi1 D.TIi2 hI, a3, a4, hl1.at fun o e => hk _ o D.l1z D.l1i1 D.l1i2 e, hl2.at fun o e => hk _ o D.l2z D.l2i1 D.l2i2 e, .inr ⟨T, true, oT, a1, hk _ _ r1 r2 r3 hT, r1, r2, r3, r4⟩⟩ a5 a6 fun c o n e => ?_
      simp only [List.mem_cons, List.not_mem_nil, or_false, not_or] at n
      exact hk c o n.1 n.2.2.1 n.2.2.2 e
  fin := fun s i Q E st hend hQ => by
    obtain ⟨hI, h1, h2, hl1, hl2, hz⟩ := st
    rcases hz with ⟨hz, a, b, hO⟩ | ⟨T, f, oT, hz, hT, r1, r2, r3, r4⟩
    · refine wpAny_pyNext_zip_end hh D hz hI hO h1 h2 hl1 hl2 hend fun h' hk => hQ h' fun c o n e => ?_
      simp only [List.mem_cons, List.not_mem_nil, or_false, not_or] at n
      exact hk c o n.1 n.2.1 n.2.2.1 n.2.2.2 e
    · refine wpAny_pyNext_zip_end_held hh D hz hT hI h1 h2 hl1 hl2 hend fun h' hk => hQ h' fun c o n e => ?_
      simp only [List.mem_cons, List.not_mem_nil, or_false, not_or] at n
      exact hk c o n.1 n.2.2.1 n.2.2.2 e
  frame := fun i h h' st hk => by
    obtain ⟨hI, h1, h2, hl1, hl2, hz⟩ := st
    have nz := fun c (m : c ∈ [z, ti, tx, i1, i2, l1, l2]) => (off c m).symm
    refine ⟨hk _ _ (nz ti (by simp)) hI, h1.at fun o e => hk _ o (nz i1 (by simp)) e, h2.at fun o e => hk _ o (nz i2 (by simp)) e, hl1.at fun o e => hk _ o (nz l1 (by simp)) e, hl2.at fun o e => hk _ o (nz l2 (by simp)) e, ?_⟩
    rcases hz with ⟨hz, a, b, hO⟩ | ⟨T, f, oT, hz, hT, r1, r2, r3, r4⟩
    · exact .inl ⟨hk _ _ (nz z (by simp)) hz, a, b, hk _ _ (nz tx (by simp)) hO⟩
    · exact .inr ⟨T, f, oT, hk _ _ (nz z (by simp)) hz, hk _ _ r4 hT, r1, r2, r3, r4⟩

def ztSt (z ti tx S i1 i2 l1 l2 : Addr) (xs ys : Array Value) (i : Nat) (h : Heap) : Prop := IsPair h ti (.ref i1) (.ref i2) ∧ h.IsTupleIter i1 l1 i ∧ h.IsTupleIter i2 l2 i ∧ h.IsTuple l1 xs ∧ h.IsTuple l2 ys ∧
  ((IsZip h z ti tx .none ∧ ∃ a b, IsPair h tx a b) ∨ ∃ T f oT, IsZipHeld h z ti tx T f ∧ h.get? T = some oT ∧ T ≠ z ∧ T ≠ i1 ∧ T ≠ i2 ∧ T ≠ S)
theorem zt_zs {prog : Program} {w : World} {A : Around} {z ti tx S i1 i2 l1 l2 : Addr} {xs ys : Array Value} (hh : A.handled = none) (D : ZipApart z ti tx i1 i2 l1 l2) (off : ∀ c ∈ [z, ti, tx, i1, i2, l1, l2], S ≠ c) : Zs prog w A z S [z, tx, i1, i2] xs ys (ztSt z ti tx S i1 i2 l1 l2 xs ys) where
  off := fun m => by
    simp only [List.mem_cons, List.not_mem_nil, or_false] at m
    rcases m with e | e | e | e <;> exact off S (by simp [e]) rfl
  item := fun s i x y Q E st hS ex ey hQ => by
    obtain ⟨hI, h1, h2, hl1, hl2, hz⟩ := st
    have lt : ∀ {c o}, s.heap.get? c = some o → s.heap.objs.size ≠ c := fun e => Nat.ne_of_gt (Heap.lt_size e)
    have n1 : s.heap.objs.size ≠ i1 := let ⟨_, e, _⟩ := h1; lt e
    have n2 : s.heap.objs.size ≠ i2 := let ⟨_, e, _⟩ := h2; lt e
    rcases hz with ⟨hz, a, b, hO⟩ | ⟨T, f, oT, hz, hT, r1, r2, r3, r4⟩
    · refine RZ.pyNext_zipT_item D hz hI hO h1 h2 hl1 hl2 ex ey fun h' a1 a2 a3 a4 a5 a6 hk => ?_
      refine hQ h' ⟨hk _ _ D.TIz D.TITO D.TIi1 D.TIi2 hI, a3, a4, hl1.at fun o e => hk _ o D.l1z D.l1TO D.l1i1 D.l1i2 e, hl2.at fun o e => hk _ o D.l2z D.l2TO D.l2i1 D.l2i2 e, .inr ⟨s.heap.objs.size, false, _, a1, a5, lt hz, n1, n2, Nat.ne_of_gt hS⟩⟩ a5 a6 fun c o n e => ?_
      simp only [List.mem_cons, List.not_mem_nil, or_false, not_or] at n
      exact hk c o n.1 n.2.1 n.2.2.1 n.2.2.2 e
    · refine nextT_held D hz hT hI h1 h2 hl1 hl2 ex ey fun h' a1 a3 a4 a5 a6 hk => ?_
      refine hQ h' ⟨hk _ _ D.TIz D.TIi1 D.TIi2 hI, a3, a4, hl1.at fun o e => hk _ o D.l1z D.l1i1 D.l1i2 e, hl2.at fun o e => hk _ o D.l2z D.l2i1 D.l2i2 e, .inr ⟨T, true, oT, a1, hk _ _ r1 r2 r3 hT, r1, r2, r3, r4⟩⟩ a5 a6 fun c o n e => ?_
      simp only [List.mem_cons, List.not_mem_nil, or_false, not_or] at n
      exact hk c o n.1 n.2.2.1 n.2.2.2 e
  fin := fun s i Q E st hend hQ => by
    obtain ⟨hI, h1, h2, hl1, hl2, hz⟩ := st
    rcases hz with ⟨hz, a, b, hO⟩ | ⟨T, f, oT, hz, hT, r1, r2, r3, r4⟩
    · refine RZ.pyNext_zipT_end hh D hz hI hO h1 h2 hl1 hl2 hend fun h' hk => hQ h' fun c o n e => ?_
      simp only [List.mem_cons, List.not_mem_nil, or_false, not_or] at n
      exact hk c o n.1 n.2.1 n.2.2.1 n.2.2.2 e
    · refine endT_held hh D hz hT hI h1 h2 hl1 hl2 hend fun h' hk => hQ h' fun c o n e => ?_
      simp only [List.mem_cons, List.not_mem_nil, or_false, not_or] at n
      exact hk c o n.1 n.2.2.1 n.2.2.2 e
  frame := fun i h h' st hk => by
    obtain ⟨hI, h1, h2, hl1, hl2, hz⟩ := st
    have nz := fun c (m : c ∈ [z, ti, tx, i1, i2, l1, l2]) => (off c m).symm
    refine ⟨hk _ _ (nz ti (by simp)) hI, h1.at fun o e => hk _ o (nz i1 (by simp)) e, h2.at fun o e => hk _ o (nz i2 (by simp)) e, hl1.at fun o e => hk _ o (nz l1 (by simp)) e, hl2.at fun o e => hk _ o (nz l2 (by simp)) e, ?_⟩
    rcases hz with ⟨hz, a, b, hO⟩ | ⟨T, f, oT, hz, hT, r1, r2, r3, r4⟩
    · exact .inl ⟨hk _ _ (nz z (by simp)) hz, a, b, hk _ _ (nz tx (by simp)) hO⟩
    · exact .inr ⟨T, f, oT, hk _ _ (nz z (by simp)) hz, hk _ _ r4 hT, r1, r2, r3, r4⟩

/-- the tuples at as hold the pairs, laid above lo -/
structure Prs (xs ys : Array Value) (lo : Addr) (h : Heap) (as : List Addr) : Prop where
  rise : as.Pairwise (· < ·)
  above : ∀ a ∈ as, lo < a
  at_ : ∀ (j : Nat) (a : Addr), as[j]? = some a → ∃ x y, xs[j]? = some x ∧ ys[j]? = some y ∧ IsPair h a x y
theorem Prs.lt {xs ys : Array Value} {lo : Addr} {h : Heap} {as : List Addr} (p : Prs xs ys lo h as) {a : Addr} (m : a ∈ as) : a < h.objs.size := by
  obtain ⟨j, e⟩ := List.mem_iff_getElem?.mp m
  obtain ⟨_, _, _, _, q⟩ := p.at_ j a e
  exact Heap.lt_size q
section
variable {prog : Program} {w : World} {A : Around} {s : Shared} {R : Result → Shared → Prop} {z S lo : Addr} {wr : List Addr} {xs ys : Array Value} {St : Nat → Heap → Prop}
theorem zs_loop (Z : Zs prog w A.in1 z S wr xs ys St) (hw : ∀ c ∈ wr, c ≤ lo) (hS : S ≤ lo) (hn : min xs.size ys.size ≤ sizeLine) (res : Value) {h₁ : Heap}
    (hR : ∀ h' tk acc c as, (∀ b o, b ≠ S → b ∉ wr → h₁.get? b = some o → h'.get? b = some o) → h'.get? S = some { cls := .type "list", dict := none, data := .seq acc c, slots := #[] } → as.length = min xs.size ys.size → Prs xs ys lo h' as → acc.toList = as.map Value.ref →
      R (.ok (.ret res)) { s with heap := h', toks := tk }) :
    ∀ (k i : Nat) (h : Heap) (tk c : Nat) (acc : Array Value) (as : List Addr), min xs.size ys.size - i = k → i ≤ min xs.size ys.size → St i h → (∀ b o, b ≠ S → b ∉ wr → h₁.get? b = some o → h.get? b = some o) →
      h.get? S = some { cls := .type "list", dict := none, data := .seq acc c, slots := #[] } → acc.toList = as.map Value.ref → as.length = i → Prs xs ys lo h as → lo < h.objs.size →
      codeAny (model prog w) A (.builtin "list.extend.loop" ⟨[.ref S, .ref z, res], []⟩) R { s with heap := h, toks := tk } := by
  intro k
  induction k with
  | zero =>
    intro i h tk c acc as hk hi st keep eS eacc el P hlo
    obtain rfl : i = min xs.size ys.size := by omega
    refine codeAny_builtin PySem.F.entry_extend_loop ?_
    rw [Around.under_plainId PySem.F.plain_extend_loop _]
    show wpAny _ A.in1 (pyNext (.ref z) >>= _) _ _ _
    have hend : xs[min xs.size ys.size]? = none ∨ ys[min xs.size ys.size]? = none := by
      rcases Nat.le_total xs.size ys.size with q | q
      · exact .inl (Array.getElem?_eq_none (by omega))
      · exact .inr (Array.getElem?_eq_none (by omega))
    refine wpAny_bind (Z.fin _ _ _ _ st hend fun h' hk' => ?_)
    have keep' : ∀ b o, b ∉ wr → h.get? b = some o → h'.get? b = some o := hk'
    have offw : ∀ a ∈ as, a ∉ wr := fun a m q => Nat.not_lt.mpr (hw a q) (P.above a m)
    refine wpAny_pure (hR h' tk acc c as (fun b o n1 n2 e => keep' b o n2 (keep b o n1 n2 e)) (keep' S _ Z.off eS) el ⟨P.rise, P.above, fun j a e => ?_⟩ eacc)
    obtain ⟨x, y, ex, ey, q⟩ := P.at_ j a e
    exact ⟨x, y, ex, ey, keep' a _ (offw a (List.mem_of_getElem? e)) q⟩
  | succ k ih =>
    intro i h tk c acc as hk hi st keep eS eacc el P hlo
    have l1 : i < xs.size := by omega
    have l2 : i < ys.size := by omega
    have hsz : acc.size = i := by rw [← Array.length_toList, eacc, List.length_map, el]
    refine codeAny_builtin PySem.F.entry_extend_loop ?_
    rw [Around.under_plainId PySem.F.plain_extend_loop _]
    show wpAny _ A.in1 (pyNext (.ref z) >>= _) _ _ _
    have hSl : S < h.objs.size := Heap.lt_size eS
    refine wpAny_bind (Z.item { s with heap := h, toks := tk } i _ _ _ _ st hSl (Array.getElem?_eq_getElem l1) (Array.getElem?_eq_getElem l2) fun h' st' hp hz hk' => ?_)
    have hp : IsPair h' h.objs.size xs[i] ys[i] := hp
    have hz : h'.objs.size = h.objs.size + 1 := hz
    have keep' : ∀ b o, b ∉ wr → h.get? b = some o → h'.get? b = some o := hk'
    have eS' := keep' S _ Z.off eS
    have up : ∀ b o, b ≠ S → h'.get? b = some o → (h'.update S (Obj.mapSeq (·.push (Value.ref h.objs.size)))).get? b = some o := fun b o hb e => (Heap.get?_update_other _ _ (Ne.symm hb)).trans e
    have offw : ∀ a ∈ as, a ∉ wr := fun a m q => Nat.not_lt.mpr (hw a q) (P.above a m)
    have offS : ∀ a ∈ as, a ≠ S := fun a m q => Nat.not_lt.mpr (q ▸ hS) (P.above a m)
    show wpAny _ A.in1 (updateSeq S (·.push (Value.ref h.objs.size)) >>= _) _ _ _
    refine wpAny_bind ?_
    refine wpAny_updateSeq eS' rfl (wpAny_pure ⟨plainId_quiet PySem.F.plain_extend_loop _, ih (i + 1) _ tk _ (acc.push (Value.ref h.objs.size)) (as ++ [h.objs.size]) (by omega) (by omega) (Z.frame _ _ _ st' fun b o n e => up b o n e)
      (fun b o n1 n2 e => up b o n1 (keep' b o n2 (keep b o n1 n2 e))) (Heap.get?_update_self _ eS' rfl) (by rw [Array.toList_push, eacc, List.map_append]; rfl) (by rw [List.length_append, el]; rfl) ⟨?_, ?_, ?_⟩ ?_⟩) (by rw [hsz]; omega) (by show (acc.push (Value.ref h.objs.size)).size ≤ sizeLine + 1; rw [Array.size_push, hsz]; omega)
    · refine List.pairwise_append.mpr ⟨P.rise, List.pairwise_singleton _ _, fun a m b q => ?_⟩
      rw [List.mem_singleton.mp q]
      exact P.lt m
    · intro a m
      rcases List.mem_append.mp m with m | m
      · exact P.above a m
      · rw [List.mem_singleton.mp m]; exact hlo
    · intro j a e
      rcases Nat.lt_trichotomy j as.length with q | q | q
      · rw [List.getElem?_append_left q] at e
        have m := List.mem_of_getElem? e
        obtain ⟨x, y, ex, ey, r⟩ := P.at_ j a e
        exact ⟨x, y, ex, ey, up a _ (offS a m) (keep' a _ (offw a m) r)⟩
      · subst q
        have ea : h.objs.size = a := by simpa using e
        subst ea
        rw [el]
        exact ⟨xs[i], ys[i], Array.getElem?_eq_getElem l1, Array.getElem?_eq_getElem l2, up _ _ (Nat.ne_of_gt hSl) hp⟩
      · rw [List.getElem?_eq_none (by rw [List.length_append, List.length_singleton]; omega)] at e
        cases e
    · have e : (h'.update S (Obj.mapSeq (·.push (Value.ref h.objs.size)))).get? h.objs.size = _ := up _ _ (Nat.ne_of_gt hSl) hp
      exact Nat.lt_trans hlo (Heap.lt_size e)
end
end Cr
set_option Elab.async false
set_option linter.all false
set_option maxRecDepth 100000
set_option maxHeartbeats 1000000
/-! list(zip(a, b)): the call. -/
namespace Cr
open PySem PySem.Spec PyProof.Rows PySem.W PySem.Calls PyProof.V
theorem zip_noLen : typeLookup (.type "zip") "__len__" = pure none := am_miss_of_fast (by decide +kernel)
theorem zip_noHint : typeLookup (.type "zip") "__length_hint__" = pure none := am_miss_of_fast (by decide +kernel)
section
variable {prog : Program} {w : World} {A : Around} {E : Value → Shared → Prop} {s : Shared} {z ti tx S : Addr} {wr : List Addr} {xs ys : Array Value} {St : Nat → Heap → Prop}
theorem zs_extend {R : Result → Shared → Prop} (Z : Zs prog w A.in1 z S wr xs ys St) (hz : IsZip s.heap z ti tx .none) (st : St 0 s.heap) (hw : ∀ c ∈ wr, c < s.heap.objs.size) (hSz : S ≠ z) (res : Value) (c₀ : Nat) (hS : s.heap.get? S = some { cls := .type "list", data := .seq #[] c₀ }) (hn : min xs.size ys.size ≤ sizeLine)
    (hR : ∀ h' tk acc c as, (∀ b o, b ≠ S → b ∉ wr → s.heap.get? b = some o → h'.get? b = some o) → h'.get? S = some { cls := .type "list", dict := none, data := .seq acc c, slots := #[] } → as.length = min xs.size ys.size → Prs xs ys (s.heap.objs.size - 1) h' as → acc.toList = as.map Value.ref →
      R (.ok (.ret res)) { s with heap := h', toks := tk }) :
    wpAny (model prog w) A.in1 (Builtin.List.listExtendWith (.ref S) (.ref z) res)
      (fun fin s' => match fin with | .done f => R (.ok f) s' | .again c' => c'.quiet = true ∧ codeAny (model prog w) A c' R s') (fun e s' => R (.error e) s') s := by
  have hSl := Heap.lt_size hS
  have ty : s.TypeIs (.ref z) "zip" := ⟨_, hz, rfl⟩
  unfold Builtin.List.listExtendWith
  refine wpAny_bind (wpAny_typeOf ty ?_)
  have e1 : Builtin.List.listSameRef (.ref S) (.ref z) = false := by simp [Builtin.List.listSameRef, hSz]
  have e2 : (Value.type "zip" == Value.type "list") = false := by decide
  have e3 : (Value.type "zip" == Value.type "tuple") = false := by decide
  simp only [e1, e2, e3, Bool.false_eq_true, Bool.or_false, if_false]
  refine wpAny_bind (wpAny_pyIter_zip hz (wpAny_bind (wpAny_holding ?_)))
  unfold Builtin.List.listLengthHint
  refine wpAny_bind (wpAny_specialOf ty zip_noLen ?_)
  show wpAny _ A.in1 (specialOf (Value.ref z) (Str.ofString "__length_hint__") >>= _) _ _ _
  refine wpAny_bind (wpAny_specialOf ty zip_noHint (wpAny_pure ?_))
  show wpAny _ A.in1 (rule "list.extend.makes-room" >>= fun _ => Builtin.List.listTouch (.ref S) >>= fun _ => again (.builtin "list.extend.loop" ⟨[.ref S, .ref z, res], []⟩)) _ _ _
  refine wpAny_bind (wpAny_rule (wpAny_bind ?_))
  show wpAny _ A.in1 (updateSeq S (·.push .none) >>= fun _ => updateSeq S (·.pop)) _ _ _
  refine wpAny_bind (wpAny_updateSeq hS rfl ?_)
  have s2 := Heap.get?_update_self (Obj.mapSeq (·.push Value.none)) hS rfl
  refine wpAny_updateSeq (hz := by seq_fits) s2 rfl ?_
  have s3 := Heap.get?_update_self (Obj.mapSeq (·.pop)) s2 rfl
  have oth : ∀ b o, b ≠ S → s.heap.get? b = some o → ((s.heap.update S (Obj.mapSeq (·.push Value.none))).update S (Obj.mapSeq (·.pop))).get? b = some o :=
    fun b o n e => (Heap.get?_update_other _ _ (Ne.symm n)).trans ((Heap.get?_update_other _ _ (Ne.symm n)).trans e)
  refine wpAny_pure ⟨plainId_quiet PySem.F.plain_extend_loop _, ?_⟩
  have sz : ((s.heap.update S (Obj.mapSeq (·.push Value.none))).update S (Obj.mapSeq (·.pop))).objs.size = s.heap.objs.size := by rw [Heap.size_update, Heap.size_update]
  refine zs_loop (h₁ := s.heap) (lo := s.heap.objs.size - 1) Z (fun c m => Nat.le_sub_one_of_lt (hw c m)) (Nat.le_sub_one_of_lt hSl) hn res hR _ 0 _ s.toks _ #[] [] rfl (Nat.zero_le _) (Z.frame _ _ _ st oth) (fun b o n _ e => oth b o n e) s3 rfl rfl ⟨List.Pairwise.nil, fun a m => (nomatch m), fun j a e => by simp at e⟩ (by rw [sz]; exact Nat.sub_lt (Nat.lt_of_le_of_lt (Nat.zero_le _) hSl) Nat.one_pos)
theorem zs_init {R : Result → Shared → Prop} (Z : Zs prog w A.in1 z S wr xs ys St) (hz : IsZip s.heap z ti tx .none) (st : St 0 s.heap) (hw : ∀ c ∈ wr, c < s.heap.objs.size) (hSz : S ≠ z) (hS : s.heap.get? S = some { cls := .type "list", data := .seq #[] }) (hn : min xs.size ys.size ≤ sizeLine)
    (hR : ∀ h' tk acc c as, (∀ b o, b ≠ S → b ∉ wr → s.heap.get? b = some o → h'.get? b = some o) → h'.get? S = some { cls := .type "list", dict := none, data := .seq acc c, slots := #[] } → as.length = min xs.size ys.size → Prs xs ys (s.heap.objs.size - 1) h' as → acc.toList = as.map Value.ref →
      R (.ok (.ret .none)) { s with heap := h', toks := tk }) :
    wpAny (model prog w) A.in1 (Builtin.«list.__init__» ⟨[.ref S, .ref z], []⟩)
      (fun fin s' => match fin with | .done f => R (.ok f) s' | .again c' => c'.quiet = true ∧ codeAny (model prog w) A c' R s') (fun e s' => R (.error e) s') s := by
  show wpAny _ A.in1 (do let old ← Builtin.List.listItems (.ref S); Builtin.List.listUpdate (.ref S) (fun _ => #[]); letGo old.toList.reverse; Builtin.List.listExtendWith (.ref S) (.ref z) .none) _ _ s
  refine wpAny_bind ?_
  unfold Builtin.List.listItems
  refine wpAny_bind (wpAny_seqItems hS rfl (wpAny_pure ?_))
  show wpAny _ A.in1 (updateSeq S (fun _ => #[]) >>= fun _ => letGo (#[] : Array Value).toList.reverse >>= fun _ => Builtin.List.listExtendWith (.ref S) (.ref z) .none) _ _ s
  refine wpAny_bind (wpAny_updateSeq hS rfl ?_)
  have s2 := Heap.get?_update_self (Obj.mapSeq (fun _ => (#[] : Array Value))) hS rfl
  have oth : ∀ b o, b ≠ S → s.heap.get? b = some o → (s.heap.update S (Obj.mapSeq (fun _ => (#[] : Array Value)))).get? b = some o := fun b o n e => (Heap.get?_update_other _ _ (Ne.symm n)).trans e
  refine wpAny_bind (wpAny_letGo ?_)
  have sz : (s.heap.update S (Obj.mapSeq (fun _ => (#[] : Array Value)))).objs.size = s.heap.objs.size := Heap.size_update ..
  refine zs_extend (ti := ti) (tx := tx) Z (oth _ _ hSz.symm hz) (Z.frame _ _ _ st oth) (fun c m => by rw [sz]; exact hw c m) hSz .none _ s2 hn fun h' tk acc c as hk e1 e2 e3 e4 => ?_
  rw [sz] at e3
  exact hR h' tk acc c as (fun b o n1 n2 e => hk b o n1 n2 (oth b o n1 e)) e1 e2 e3 e4
/-- list(z) of a fresh zip object -/
theorem zs_call {Q : Value → Shared → Prop} (Z : Zs prog w A.in1.in1 z s.heap.objs.size wr xs ys St) (hz : IsZip s.heap z ti tx .none) (st : St 0 s.heap) (hw : ∀ c ∈ wr, c < s.heap.objs.size) (hn : min xs.size ys.size ≤ sizeLine)
    (hQ : ∀ h' tk acc c as, (∀ b o, b ∉ wr → s.heap.get? b = some o → h'.get? b = some o) → h'.get? s.heap.objs.size = some { cls := .type "list", dict := none, data := .seq acc c, slots := #[] } → as.length = min xs.size ys.size → Prs xs ys s.heap.objs.size h' as → acc.toList = as.map Value.ref →
      Q (.ref s.heap.objs.size) { s with heap := h', toks := tk }) : wpAny (model prog w) A (call (.type "list") [.ref z]) Q E s := by
  refine callType_codes (Q₁ := fun obj s₁ => obj = .ref s.heap.objs.size ∧ s₁ = { s with heap := s.heap.push { cls := .type "list", data := .seq #[] } }) PySem.F.called_list (PySem.F.typeCall_list_1 _) PySem.F.entry_list_init
    (code_list_new _ ⟨rfl, rfl⟩) fun obj s₁ h₁ => ?_
  obtain ⟨rfl, rfl⟩ := h₁
  have hS : (s.heap.push { cls := .type "list", data := .seq #[] }).get? s.heap.objs.size = some { cls := .type "list", data := .seq #[] } := Heap.get?_push_size _ rfl
  have sz : (s.heap.push { cls := .type "list", data := .seq #[] }).objs.size = s.heap.objs.size + 1 := Heap.size_push ..
  have hzl : z < s.heap.objs.size := Heap.lt_size hz
  refine ⟨⟨_, hS, rfl⟩, PySem.F.args_list_init_2 _ _, zs_init (ti := ti) (tx := tx) (A := A.in1) Z (Heap.get?_push_of_some _ hz) (Z.frame _ _ _ st fun c o _ e => Heap.get?_push_of_some _ e) (fun c m => by show c < (s.heap.push _).objs.size; rw [sz]; exact Nat.lt_succ_of_lt (hw c m)) (Nat.ne_of_gt hzl) hS hn fun h' tk acc c as hk e1 e2 e3 e4 => ?_⟩
  refine ⟨rfl, hQ h' tk acc c as (fun b o n e => hk b o (Nat.ne_of_lt (Heap.lt_size e)) n (Heap.get?_push_of_some _ e)) e1 e2 ?_ e4⟩
  have ee : (s.heap.push { cls := .type "list", data := .seq #[] }).objs.size - 1 = s.heap.objs.size := by rw [sz]; rfl
  exact ee ▸ e3
end
end Cr
set_option Elab.async false
set_option linter.all false
set_option maxRecDepth 100000
set_option maxHeartbeats 1000000
/-! list(zip(a, b)): the rule, and in trees; zip and enumerate in loops. -/
namespace Cr
open PySem PySem.Spec PyProof.Rows L2

/-- several new objects, tracked at once -/
theorem inv_many {X : Cx} {pins : List (Addr × Obj)} {σ : Sg} {H H' : Hp} {s : Shared} {h' : Heap} {t' : Nat} (I : Inv X pins σ H s) (k : ∀ b u, s.heap.get? b = some u → h'.get? b = some u) (kH : ∀ b o, H b = some o → H' b = some o)
    (new : ∀ b, H b = none → H' b ≠ none → s.heap.objs.size ≤ b) (ok : ∀ b o, H b = none → H' b = some o → ObjOk X.prog X.w H' h' b o) : Inv X pins σ H' { s with heap := h', toks := t' } := by
  refine I.un ⟨fun b o e _ _ _ => k b o e, fun b o e _ _ _ => ⟨o.slots, k b o e⟩, fun b o e n _ => ?_, fun b o e _ => ⟨o, k b o e⟩, fun b xs e => kH b _ e, fun b o u e => kH b _ e, fun b ps e => ⟨#[], by rw [kH b _ e]; simp⟩⟩ fun b o e => ?_
  · exact Classical.byContradiction fun z => Nat.not_lt.mpr (new b n z) (Heap.lt_size e)
  · cases q : H b with
    | none => exact ok b o q e
    | some u =>
      have eu := kH b u q
      rw [e] at eu
      cases eu
      exact (I.hok b o q).stay (fun c v _ z => k c v z) (fun c z => kH c _ z) fun c xs z => kH c _ z

/-- pairs laid at as -/
def layP : List Addr → List V → List V → Hp → Hp
  | a :: as, x :: xs, y :: ys, H => upd (layP as xs ys H) a (.tup [x, y])
  | _, _, _, H => H
theorem layP_off : ∀ {as : List Addr} {xs ys : List V} {H : Hp} {c : Addr}, c ∉ as → layP as xs ys H c = H c
  | [], _, _, _, _, _ => by unfold layP; rfl
  | a :: as, [], _, _, _, _ => by unfold layP; rfl
  | a :: as, x :: xs, [], _, _, _ => by unfold layP; rfl
  | a :: as, x :: xs, y :: ys, H, c, n => by
    unfold layP
    rw [upd_ne (fun e => n (by rw [e]; exact List.mem_cons_self)), layP_off fun z => n (List.mem_cons_of_mem _ z)]
theorem layP_at : ∀ {as : List Addr} {xs ys : List V} {H : Hp} {j : Nat} {a : Addr} {x y : V}, as.Nodup → as[j]? = some a → xs[j]? = some x → ys[j]? = some y → layP as xs ys H a = some (.tup [x, y])
  | [], _, _, _, _, _, _, _, _, h, _, _ => by simp at h
  | _ :: _, [], _, _, _, _, _, _, _, _, h, _ => by simp at h
  | _ :: _, _ :: _, [], _, _, _, _, _, _, _, _, h => by simp at h
  | b :: as, x0 :: xs, y0 :: ys, H, 0, a, x, y, nd, h1, h2, h3 => by
    simp at h1 h2 h3
    subst h1; subst h2; subst h3
    unfold layP
    exact upd_same
  | b :: as, x0 :: xs, y0 :: ys, H, j + 1, a, x, y, nd, h1, h2, h3 => by
    have h1 : as[j]? = some a := by simpa using h1
    unfold layP
    have nb : a ≠ b := fun e => (List.nodup_cons.mp nd).1 (by rw [← e]; exact List.mem_of_getElem? h1)
    rw [upd_ne nb]
    exact layP_at (List.nodup_cons.mp nd).2 h1 (by simpa using h2) (by simpa using h3)
/-- list(zip(e, e2)) -/
def tLz (K : PySem.W.Frag) (ta : TA) : TE := fun σ H Q => ta σ H fun vs H1 => ∃ a b xs ys, vs = [.ref a, .ref b] ∧ ((SqL K H1 a xs ∧ SqL K H1 b ys) ∨ (SqT K H1 a xs ∧ SqT K H1 b ys)) ∧
  ∀ as p, as.length = min xs.length ys.length → (p :: as).Nodup → (∀ c ∈ p :: as, H1 c = none) → Q (.ref p) (upd (layP as xs ys H1) p (.lst (as.map V.ref)))
theorem vals_refs : ∀ as : List Addr, Vals (as.map V.ref) (as.map Value.ref)
  | [] => .nil
  | a :: r => .cons rfl (vals_refs r)
theorem pe_lz {X : Cx} {e e2 : Expr} {ta : TA} {p1 p2 pz pos : Pos} (hc : X.calm = true) (hml : X.mg "list" = none) (hmz : X.mg "zip" = none) (ha : PA X [e, e2] ta) (hgl : Gl X "list" := by rfl) (hgz : Gl X "zip" := by rfl)
    (hs : starEach [e, e2] X.env = (false, eval e X.env) :: starEach [e2] X.env := by rfl) (hpl : (backTo pz (starEach [e2] X.env)).any (·.1) = false := by rfl)
    (hs1 : starEach [.Call (.Name "zip" p2) [e, e2] [] pz] X.env = (false, eval (.Call (.Name "zip" p2) [e, e2] [] pz) X.env) :: starEach [] X.env := by rfl) :
    PE X (.Call (.Name "list" p1) [.Call (.Name "zip" p2) [e, e2] [] pz] [] pos) (tLz X.K ta) := by
  refine ⟨fun pins s σ H Q I h => ?_⟩
  refine wpAny_Call_Name_kw (ld_blt (u := .type "list") I hgl hml (by decide +kernel) ?_ (by decide) (by decide))
  refine PyProof.Rows.callWith_type1 ?_ hs1 rfl
  rw [hs1]
  show wpAny _ _ (spliced ((false, eval (.Call (.Name "zip" p2) [e, e2] [] pz) X.env) :: backTo pos (starEach [] X.env))) _ _ s
  refine Calls.spliced_cons ?_
  refine Call_ (ld_blt I hgz hmz PyProof.Rows.boot_zip (PyProof.Rows.callWith_type1 (thn (ha.run pz pins s σ H _ I h) fun us s1 ⟨vs, H1, I1, r1, q1⟩ => ?_) hs hpl))
  obtain ⟨a, b, xs, ys, ex, hq, q⟩ := q1
  subst ex
  cases r1 with
  | cons r rr =>
  cases rr with
  | cons r' rr =>
  cases rr
  cases r
  cases r'
  have hh := I1.ok.hd hc
  -- what stands behind the whole call
  have fin : ∀ (its its2 : List Value) (h' : Heap) (tk : Nat) (acc : Array Value) (c n0 : Nat) (as : List Addr), Vals xs its → Vals ys its2 → s1.heap.objs.size ≤ n0 → (∀ c o, s1.heap.get? c = some o → h'.get? c = some o) → h'.get? n0 = some { cls := .type "list", dict := none, data := .seq acc c, slots := #[] } →
      as.length = min its.toArray.size its2.toArray.size → Prs its.toArray its2.toArray n0 h' as → acc.toList = as.map Value.ref → xs.length ≤ sizeLine → EP X pins σ Q (.ref n0) { s1 with heap := h', toks := tk } := by
    intro its its2 h' tk acc c n0 as rv rv2 hn0 hk e1 e2 P e4 hz
    have l1 := rv.length
    have l2 := rv2.length
    have hlen : as.length = min xs.length ys.length := by rw [e2, List.size_toArray, List.size_toArray, l1, l2]
    have nd : (n0 :: as).Nodup := by
      refine List.nodup_cons.mpr ⟨fun m => Nat.lt_irrefl _ (P.above _ m), ?_⟩
      exact P.rise.imp fun {x y} h => Nat.ne_of_lt h
    have fr : ∀ c ∈ n0 :: as, s1.heap.objs.size ≤ c := fun c m => by
      rcases List.mem_cons.mp m with m | m
      · rw [m]; exact hn0
      · exact Nat.le_of_lt (Nat.lt_of_le_of_lt hn0 (P.above c m))
    have none1 : ∀ c ∈ n0 :: as, H1 c = none := fun c m => I1.hok.fresh (fr c m)
    refine ⟨.ref n0, _, inv_many (t' := tk) I1 hk (fun b o e => ?_) (fun b n z => ?_) (fun b o n z => ?_), rfl, q as n0 hlen nd none1⟩
    · have nb : b ∉ n0 :: as := fun m => by rw [none1 b m] at e; cases e
      rw [upd_ne (fun z => nb (by rw [z]; exact List.mem_cons_self)), layP_off fun z => nb (List.mem_cons_of_mem _ z)]
      exact e
    · refine fr b (Classical.byContradiction fun nb => z ?_)
      rw [upd_ne (fun z => nb (by rw [z]; exact List.mem_cons_self)), layP_off fun z => nb (List.mem_cons_of_mem _ z)]
      exact n
    · have mb : b ∈ n0 :: as := Classical.byContradiction fun nb => by
        rw [upd_ne (fun z => nb (by rw [z]; exact List.mem_cons_self)), layP_off fun z => nb (List.mem_cons_of_mem _ z), n] at z
        cases z
      by_cases eb : b = n0
      · subst eb
        rw [upd_same] at z
        cases z
        refine ⟨by rw [List.length_map, hlen]; exact Nat.le_trans (Nat.min_le_left _ _) hz, as.map Value.ref, c, vals_refs as, ?_⟩
        rw [e1]
        congr 2
        rw [← e4]
      · rw [upd_ne eb] at z
        obtain ⟨j, ej⟩ := List.mem_iff_getElem?.mp ((List.mem_cons.mp mb).resolve_left eb)
        obtain ⟨u, v, eu, ev, pr⟩ := P.at_ j b ej
        have eu : its[j]? = some u := by simpa using eu
        have ev : its2[j]? = some v := by simpa using ev
        have hj : j < xs.length := by rw [l1]; exact (List.getElem?_eq_some_iff.mp eu).1
        have hj2 : j < ys.length := by rw [l2]; exact (List.getElem?_eq_some_iff.mp ev).1
        obtain ⟨u', eu', ru⟩ := rv.get (List.getElem?_eq_getElem hj)
        obtain ⟨v', ev', rv'⟩ := rv2.get (List.getElem?_eq_getElem hj2)
        rw [eu] at eu'; cases eu'
        rw [ev] at ev'; cases ev'
        rw [layP_at (List.nodup_cons.mp nd).2 ej (List.getElem?_eq_getElem hj) (List.getElem?_eq_getElem hj2)] at z
        cases z
        exact ⟨by show 2 ≤ sizeLine; decide, [u, v], .cons ru (.cons rv' .nil), ⟨_, pr, rfl, _, rfl⟩⟩
  rcases hq with ⟨hqx, hqy⟩ | ⟨hqx, hqy⟩
  · obtain ⟨its, rv, pl, hz⟩ := I1.list hqx
    obtain ⟨its2, rv2, pl2, _⟩ := I1.list hqy
    refine call_zip_2 pl.isList pl2.isList fun h' z1 z2 z3 z4 z5 z6 hk => Calls.spliced_nil ?_
    have D := PySem.W.ktu_apart s1.heap.objs.size a b pl.lt pl2.lt
    have la := pl.lt
    have lb := pl2.lt
    have Z := zl_zs (prog := X.prog) (w := X.w) (A := X.A.in1.in1) (S := h'.objs.size) (xs := its.toArray) (ys := its2.toArray) hh D fun c m => by
      rw [z6]
      simp only [List.mem_cons, List.not_mem_nil, or_false] at m
      have key : c < s1.heap.objs.size + 5 := by
        rcases m with m | m | m | m | m | m | m
        · rw [m]; exact Nat.lt_succ_self _
        · rw [m]; exact Nat.lt_add_of_pos_right (n := s1.heap.objs.size + 2) (k := 3) (by decide)
        · rw [m]; exact Nat.lt_add_of_pos_right (n := s1.heap.objs.size + 3) (k := 2) (by decide)
        · rw [m]; exact Nat.lt_add_of_pos_right (n := s1.heap.objs.size) (k := 5) (by decide)
        · rw [m]; exact Nat.lt_add_of_pos_right (n := s1.heap.objs.size + 1) (k := 4) (by decide)
        · rw [m]; exact Nat.lt_of_lt_of_le la (Nat.le_add_right _ _)
        · rw [m]; exact Nat.lt_of_lt_of_le lb (Nat.le_add_right _ _)
      exact Nat.ne_of_gt key
    have st0 : zlSt (s1.heap.objs.size + 4) (s1.heap.objs.size + 2) (s1.heap.objs.size + 3) h'.objs.size s1.heap.objs.size (s1.heap.objs.size + 1) a b its.toArray its2.toArray 0 h' :=
      ⟨z2, z4, z5, pl.isList.at fun o e => hk _ o e, pl2.isList.at fun o e => hk _ o e, .inl ⟨z1, _, _, z3⟩⟩
    refine zs_call (s := { s1 with heap := h' }) Z z1 st0 (fun c m => ?_) (Nat.le_trans (Nat.min_le_left _ _) (by rw [List.size_toArray, ← rv.length]; exact hz)) fun h2 tk acc c as hk2 e1 e2 e3 e4 => ?_
    · show c < h'.objs.size
      rw [z6]
      simp only [List.mem_cons, List.not_mem_nil, or_false] at m
      rcases m with m | m | m | m
      · rw [m]; exact Nat.lt_succ_self _
      · rw [m]; exact Nat.lt_add_of_pos_right (n := s1.heap.objs.size + 3) (k := 2) (by decide)
      · rw [m]; exact Nat.lt_add_of_pos_right (n := s1.heap.objs.size) (k := 5) (by decide)
      · rw [m]; exact Nat.lt_add_of_pos_right (n := s1.heap.objs.size + 1) (k := 4) (by decide)
    · refine fin its its2 h2 tk acc c h'.objs.size as rv rv2 (by rw [z6]; exact Nat.le_add_right _ _) (fun c o e => hk2 c o (fun m => ?_) (hk c o e)) e1 e2 e3 e4 hz
      have lc := Heap.lt_size e
      simp only [List.mem_cons, List.not_mem_nil, or_false] at m
      rcases m with m | m | m | m
      · rw [m] at lc; exact Nat.not_lt.mpr (Nat.le_add_right s1.heap.objs.size 4) lc
      · rw [m] at lc; exact Nat.not_lt.mpr (Nat.le_add_right s1.heap.objs.size 3) lc
      · rw [m] at lc; exact Nat.lt_irrefl _ lc
      · rw [m] at lc; exact Nat.not_lt.mpr (Nat.le_add_right s1.heap.objs.size 1) lc
  · obtain ⟨its, rv, pl, hz⟩ := I1.tuple hqx
    obtain ⟨its2, rv2, pl2, _⟩ := I1.tuple hqy
    have lta : a < s1.heap.objs.size := by obtain ⟨_, e, _⟩ := id pl; exact Heap.lt_size e
    have ltb : b < s1.heap.objs.size := by obtain ⟨_, e, _⟩ := id pl2; exact Heap.lt_size e
    have pl : s1.heap.IsTuple a its.toArray := pl
    have pl2 : s1.heap.IsTuple b its2.toArray := pl2
    refine RZ.call_zipT pl pl2 fun h' z1 z2 z3 z4 z5 z6 hk => Calls.spliced_nil ?_
    have D := PySem.W.ktu_apart s1.heap.objs.size a b lta ltb
    have la := lta
    have lb := ltb
    have Z := zt_zs (prog := X.prog) (w := X.w) (A := X.A.in1.in1) (S := h'.objs.size) (xs := its.toArray) (ys := its2.toArray) hh D fun c m => by
      rw [z6]
      simp only [List.mem_cons, List.not_mem_nil, or_false] at m
      have key : c < s1.heap.objs.size + 5 := by
        rcases m with m | m | m | m | m | m | m
        · rw [m]; exact Nat.lt_succ_self _
        · rw [m]; exact Nat.lt_add_of_pos_right (n := s1.heap.objs.size + 2) (k := 3) (by decide)
        · rw [m]; exact Nat.lt_add_of_pos_right (n := s1.heap.objs.size + 3) (k := 2) (by decide)
        · rw [m]; exact Nat.lt_add_of_pos_right (n := s1.heap.objs.size) (k := 5) (by decide)
        · rw [m]; exact Nat.lt_add_of_pos_right (n := s1.heap.objs.size + 1) (k := 4) (by decide)
        · rw [m]; exact Nat.lt_of_lt_of_le la (Nat.le_add_right _ _)
        · rw [m]; exact Nat.lt_of_lt_of_le lb (Nat.le_add_right _ _)
      exact Nat.ne_of_gt key
    have st0 : ztSt (s1.heap.objs.size + 4) (s1.heap.objs.size + 2) (s1.heap.objs.size + 3) h'.objs.size s1.heap.objs.size (s1.heap.objs.size + 1) a b its.toArray its2.toArray 0 h' :=
      ⟨z2, z4, z5, pl.at fun o e => hk _ o e, pl2.at fun o e => hk _ o e, .inl ⟨z1, _, _, z3⟩⟩
    refine zs_call (s := { s1 with heap := h' }) Z z1 st0 (fun c m => ?_) (Nat.le_trans (Nat.min_le_left _ _) (by rw [List.size_toArray, ← rv.length]; exact hz)) fun h2 tk acc c as hk2 e1 e2 e3 e4 => ?_
    · show c < h'.objs.size
      rw [z6]
      simp only [List.mem_cons, List.not_mem_nil, or_false] at m
      rcases m with m | m | m | m
      · rw [m]; exact Nat.lt_succ_self _
      · rw [m]; exact Nat.lt_add_of_pos_right (n := s1.heap.objs.size + 3) (k := 2) (by decide)
      · rw [m]; exact Nat.lt_add_of_pos_right (n := s1.heap.objs.size) (k := 5) (by decide)
      · rw [m]; exact Nat.lt_add_of_pos_right (n := s1.heap.objs.size + 1) (k := 4) (by decide)
    · refine fin its its2 h2 tk acc c h'.objs.size as rv rv2 (by rw [z6]; exact Nat.le_add_right _ _) (fun c o e => hk2 c o (fun m => ?_) (hk c o e)) e1 e2 e3 e4 hz
      have lc := Heap.lt_size e
      simp only [List.mem_cons, List.not_mem_nil, or_false] at m
      rcases m with m | m | m | m
      · rw [m] at lc; exact Nat.not_lt.mpr (Nat.le_add_right s1.heap.objs.size 4) lc
      · rw [m] at lc; exact Nat.not_lt.mpr (Nat.le_add_right s1.heap.objs.size 3) lc
      · rw [m] at lc; exact Nat.lt_irrefl _ lc
      · rw [m] at lc; exact Nat.not_lt.mpr (Nat.le_add_right s1.heap.objs.size 1) lc
end Cr
set_option Elab.async false
set_option linter.all false
set_option maxRecDepth 100000
set_option maxHeartbeats 1000000
/-! zip of two lists, of two tuples: list(zip(a, b)), in a loop; enumerate of a list. -/
namespace Cr
open PySem PySem.Spec PyProof.Rows L2

def sameK (a b : Kd) : Bool := match a, b with
  | .t, .t => true
  | .t, _ => false
  | _, .t => false
  | _, _ => true
def zipD : List D → List D → List D
  | x :: xs, y :: ys => .tup [x, y] :: zipD xs ys
  | _, _ => []
def zipK (kds : List (Nat × D)) (Q : List D → List D → Prop) : Prop := match kds with
  | [(_, d1), (_, d2)] => match seqD d1, seqD d2 with
    | some (k1, xs), some (k2, ys) => sameK k1 k2 = true ∧ Q xs ys
    | _, _ => False
  | _ => False
theorem zipK_mono {kds : List (Nat × D)} {P Q : List D → List D → Prop} (h : ∀ x y, P x y → Q x y) (w : zipK kds P) : zipK kds Q := by
  unfold zipK at *
  split at w
  · split at w
    · exact ⟨w.1, h _ _ w.2⟩
    · exact w
  · exact w
theorem zipD_len : ∀ xs ys : List D, (zipD xs ys).length = min xs.length ys.length
  | [], _ => by unfold zipD; simp
  | _ :: _, [] => by unfold zipD; simp
  | x :: xs, y :: ys => by unfold zipD; rw [List.length_cons, zipD_len xs ys, List.length_cons, List.length_cons]; omega
theorem zipD_get : ∀ {xs ys : List D} {i : Nat} {x y : D}, xs[i]? = some x → ys[i]? = some y → (zipD xs ys)[i]? = some (.tup [x, y])
  | [], _, _, _, _, h, _ => by simp at h
  | _ :: _, [], _, _, _, _, h => by simp at h
  | a :: xs, b :: ys, 0, x, y, h1, h2 => by
    simp at h1 h2
    subst h1; subst h2
    unfold zipD
    rfl
  | a :: xs, b :: ys, i + 1, x, y, h1, h2 => by
    unfold zipD
    exact zipD_get (xs := xs) (ys := ys) (i := i) (by simpa using h1) (by simpa using h2)
/-- a sequence in hand, shared: its node and its items stand at T -/
structure Shd (K : PySem.W.Frag) (H : Hp) (T : List Addr) (kd : Kd) (a : Addr) (vs : List V) (xs : List D) : Prop where
  sv : SeqV K H kd a vs
  mem : kd = .l → a ∈ T
  its : ∃ U, Owns K H 0 vs xs [] U ∧ ∀ b ∈ U, b ∈ T
section
variable {K : PySem.W.Frag} {B : Base} {env : Env} {σ : Sg} {H H' : Hp} {G S T F : List Addr}
theorem Shd.later {kd : Kd} {a : Addr} {vs : List V} {xs : List D} (h : Shd K H T kd a vs xs) (kp : Kp F H H') (mu : Mu H F) (n : ∀ b ∈ T, b ∉ F) : Shd K H' T kd a vs xs :=
  ⟨SeqV.keep kp mu (fun e => n a (h.mem e)) h.sv, h.mem, let ⟨U, o, s⟩ := h.its; ⟨U, Owns.frame kp mu _ o (fun _ z => absurd z List.not_mem_nil) fun b z => n b (s b z), s⟩⟩
theorem shd_of {v : V} {d : D} {S : List Addr} {kd : Kd} {xs : List D} (o : Own K H 0 v d [] S) (e : seqD d = some (kd, xs)) (hT : ∀ a ∈ S, a ∈ T) : ∃ a vs, v = .ref a ∧ Shd K H T kd a vs xs := by
  obtain ⟨a, vs, G1, S1, rfl, sv, os, lo⟩ := Own.seq o e
  have e0 : kdK kd 0 = 0 := by cases kd <;> rfl
  rw [e0] at os
  have g := Owns.g0 _ os
  subst g
  refine ⟨a, vs, rfl, sv, fun ek => ?_, S1, os, fun b z => ?_⟩
  · subst ek
    cases o with
    | shr h1 h2 => exact hT a List.mem_cons_self
    | tup h1 h2 => cases e
    | fl h1 h2 => cases e
  · rcases lo.sh b z with z | z
    · exact hT b z
    · exact absurd z.1 List.not_mem_nil
theorem owns2 {vs : List V} {d1 d2 : D} {T : List Addr} (o : Owns K H 0 vs [d1, d2] [] T) : ∃ v1 v2 T1 T2, vs = [v1, v2] ∧ Own K H 0 v1 d1 [] T1 ∧ Own K H 0 v2 d2 [] T2 ∧ (∀ a ∈ T1, a ∈ T) ∧ ∀ a ∈ T2, a ∈ T := by
  generalize eg : ([] : List Addr) = G0 at o
  cases o with
  | cons o1 o2 =>
    obtain ⟨rfl, r⟩ := List.append_eq_nil_iff.mp eg.symm
    cases o2 with
    | cons o2 o3 =>
      obtain ⟨rfl, rfl⟩ := List.append_eq_nil_iff.mp r
      cases o3
      exact ⟨_, _, _, _, rfl, o1, o2, fun a z => List.mem_append_left _ z, fun a z => List.mem_append_right _ (List.mem_append_left _ z)⟩
theorem zip2_ok {is : List Item} {vs : List V} {G1 S1 G2 S2 : List Addr} {Q : List D → List D → Env → Prop} (st : Sta K B env σ H G2 S2) (h : Holds K env σ H is vs G1 S1) (sp : Sep G1 S1 G2 S2) (w : wGives is env fun kds e2 => zipK kds fun xs ys => Q xs ys e2) :
    ∃ a b k1 k2 us ws xs ys e2 T G' S', Q xs ys e2 ∧ sameK k1 k2 = true ∧ Sta K B e2 σ H G' S' ∧ vs = [.ref a, .ref b] ∧ Shd K H T k1 a us xs ∧ Shd K H T k2 b ws ys ∧ (∀ c ∈ T, c ∉ G') ∧ (∀ c ∈ T, ∃ o, H c = some o) ∧ Stp H (G1 ++ G2) (S1 ++ S2) H G' (T ++ S') := by
  obtain ⟨kds, e2, A, SA, G', S', w', st', om, sp', p', _⟩ := gives_ok st h sp w
  unfold zipK at w'
  split at w'
  · rename_i m1 d1 m2 d2
    split at w'
    · rename_i k1 xs k2 ys q1 q2
      obtain ⟨A', T, o, lo⟩ := OwnsM.low 0 (Nat.zero_le _) om
      have g := Owns.g0 _ o
      subst g
      have ap := sp'.ap.low lo
      have tk := Owns.stk _ o
      obtain ⟨v1, v2, T1, T2, rfl, o1, o2, h1, h2⟩ := owns2 o
      obtain ⟨a, us, rfl, s1⟩ := shd_of o1 q1 h1
      obtain ⟨b, ws, rfl, s2⟩ := shd_of o2 q2 h2
      exact ⟨a, b, k1, k2, us, ws, xs, ys, e2, T, G', S', w'.2, w'.1, st', rfl, s1, s2, ap.s1, tk, p'.low lo⟩
    · exact w'.elim
  · exact w'.elim
theorem Shd.two {kd k2 : Kd} {a b : Addr} {us ws : List V} {xs ys : List D} (h1 : Shd K H T kd a us xs) (h2 : Shd K H T k2 b ws ys) (e : sameK kd k2 = true) : (SqL K H a us ∧ SqL K H b ws) ∨ (SqT K H a us ∧ SqT K H b ws) := by
  have s1 := h1.sv
  have s2 := h2.sv
  cases kd <;> cases k2 <;> first | cases e | skip
  · exact .inl ⟨SqL.of s1, SqL.of s2⟩
  · exact .inl ⟨SqL.of s1, Fz.sq s2⟩
  · exact .inr ⟨s1, s2⟩
  · exact .inl ⟨Fz.sq s1, SqL.of s2⟩
  · exact .inl ⟨Fz.sq s1, Fz.sq s2⟩
/-- the pairs, as trees -/
theorem own_pairs {as : List Addr} (nd : as.Nodup) : ∀ {us ws : List V} {xs ys : List D} {U W : List Addr} (j : Nat) {H' : Hp}, (∀ i a x y, as[j + i]? = some a → us[i]? = some x → ws[i]? = some y → H' a = some (.tup [x, y])) → as.length - j = min us.length ws.length →
    Owns K H' 0 us xs [] U → Owns K H' 0 ws ys [] W → ∃ Y, Owns K H' 0 ((as.drop j).map V.ref) (zipD xs ys) [] Y ∧ ∀ b ∈ Y, b ∈ U ∨ b ∈ W
  | [], ws, xs, ys, U, W, j, H', at_, hl, ou, ow => by
    cases ou
    have : as.drop j = [] := List.drop_eq_nil_of_le (by simp at hl; omega)
    rw [this]
    unfold zipD
    exact ⟨[], .nil, fun b z => by cases z⟩
  | u :: us, [], xs, ys, U, W, j, H', at_, hl, ou, ow => by
    cases ow
    have : as.drop j = [] := List.drop_eq_nil_of_le (by simp at hl; omega)
    rw [this]
    have : zipD xs [] = [] := by cases xs <;> (unfold zipD; rfl)
    rw [this]
    exact ⟨[], .nil, fun b z => by cases z⟩
  | u :: us, v :: ws, xs, ys, U, W, j, H', at_, hl, ou, ow => by
    have lt : j < as.length := by simp at hl; omega
    generalize eg : ([] : List Addr) = G0 at ou
    cases ou with
    | cons ou1 ou2 =>
      obtain ⟨rfl, rfl⟩ := List.append_eq_nil_iff.mp eg.symm
      generalize eg2 : ([] : List Addr) = G9 at ow
      cases ow with
      | cons ow1 ow2 =>
        obtain ⟨rfl, rfl⟩ := List.append_eq_nil_iff.mp eg2.symm
        obtain ⟨Y, o, hs⟩ := own_pairs nd (j + 1) (H' := H') (fun i a x y e1 e2 e3 => at_ (i + 1) a x y (by rw [← e1]; congr 1; omega) (by simpa using e2) (by simpa using e3)) (by simp at hl ⊢; omega) ou2 ow2
        rw [List.drop_eq_getElem_cons lt, List.map_cons]
        unfold zipD
        refine ⟨_, .cons (G := []) (G' := []) (.tup (.inl (.inl (at_ 0 _ u v (List.getElem?_eq_getElem lt) rfl rfl))) (.cons (G := []) (G' := []) ou1 (.cons (G := []) (G' := []) ow1 .nil))) o, fun b z => ?_⟩
        rcases List.mem_append.mp z with z | z
        · rcases List.mem_append.mp z with z | z
          · exact .inl (List.mem_append_left _ z)
          · exact .inr (List.mem_append_left _ (by simpa using z))
        · exact (hs b z).imp (fun z => List.mem_append_right _ z) fun z => List.mem_append_right _ z
end
end Cr
set_option Elab.async false
set_option linter.all false
set_option maxRecDepth 100000
set_option maxHeartbeats 1000000
/-! zip and enumerate, in trees: the rules. -/
namespace Cr
open PySem PySem.Spec PyProof.Rows L2

theorem Shd.ls {K : PySem.W.Frag} {H : Hp} {T : List Addr} {kd : Kd} {a : Addr} {us : List V} {xs : List D} (h : Shd K H T kd a us xs) (n : kd ≠ .t) : SqL K H a us := by
  have s := h.sv
  cases kd with
  | l => exact SqL.of s
  | t => exact absurd rfl n
  | f => exact Fz.sq s
theorem Shd.tp {K : PySem.W.Frag} {H : Hp} {T : List Addr} {kd : Kd} {a : Addr} {us : List V} {xs : List D} (h : Shd K H T kd a us xs) (n : kd = .t) : SqT K H a us := by
  subst n
  exact h.sv
section
variable {X : Cx} {B : Base} {pos p p1 p2 pz tpos : Pos} {e e2 : Expr} {elts : List Expr} {kk : Nat} {wa : WA}
def wLz (wa : WA) : WI := fun env Q => wa env fun is e => wGives is e fun kds e2 => zipK kds fun xs ys => Q (.t 1 (.lst (zipD xs ys))) e2
/-- list(zip(a, b)) -/
theorem vi_lz (hc : X.calm = true) (hml : X.mg "list" = none) (hmz : X.mg "zip" = none) (ha : VA X B [e, e2] wa) (hgl : Gl X "list" := by rfl) (hgz : Gl X "zip" := by rfl)
    (hs : starEach [e, e2] X.env = (false, eval e X.env) :: starEach [e2] X.env := by rfl) (hpl : (backTo pz (starEach [e2] X.env)).any (·.1) = false := by rfl)
    (hs1 : starEach [.Call (.Name "zip" p2) [e, e2] [] pz] X.env = (false, eval (.Call (.Name "zip" p2) [e, e2] [] pz) X.env) :: starEach [] X.env := by rfl) :
    VI X B (.Call (.Name "list" p1) [.Call (.Name "zip" p2) [e, e2] [] pz] [] pos) (wLz wa) := by
  refine ⟨PE.weak (pe_lz hc hml hmz ha.p hgl hgz hs hpl hs1) fun σ H Q ⟨env, G, S, st, w⟩ => ⟨env, G, S, st, ha.m _ _ _ (fun is e1 w1 => ?_) w⟩, fun env P Q q w => ha.m _ _ _ (fun _ _ z => wGives_mono (fun _ _ y => zipK_mono (fun _ _ x => q _ _ x) y) z) w⟩
  intro vs H1 G1 S1 G2 S2 st1 h1 sp1 p1
  obtain ⟨a, b, k1, k2, us, ws, xs, ys, e2, T, G', S', w2, sk, st2, rfl, sa, sb, tn, tk, pp⟩ := zip2_ok (Q := fun xs ys e => PostI X.K B σ H G S Q (.t 1 (.lst (zipD xs ys))) e) st1 h1 sp1 w1
  refine ⟨a, b, us, ws, rfl, sa.two sb sk, fun as q hl nd fr => ?_⟩
  have nq := List.nodup_cons.mp nd
  have off : ∀ c, H1 c ≠ none → upd (layP as us ws H1) q (.lst (as.map V.ref)) c = H1 c := fun c z => by
    have n1 : c ≠ q := fun ec => z (by rw [ec]; exact fr q List.mem_cons_self)
    have n2 : c ∉ as := fun m => z (fr c (List.mem_cons_of_mem _ m))
    rw [upd_ne n1, layP_off n2]
  have kp : Kp [] H1 (upd (layP as us ws H1) q (.lst (as.map V.ref))) := fun c o eo _ => by rw [off c (by rw [eo]; exact fun z => nomatch z)]; exact eo
  obtain ⟨U, ou, hU⟩ := (sa.later kp mu_nil fun _ _ => List.not_mem_nil).its
  obtain ⟨W, ow, hW⟩ := (sb.later kp mu_nil fun _ _ => List.not_mem_nil).its
  obtain ⟨Y, oy, hY⟩ := own_pairs nq.2 0 (fun i c x y e1 e2' e3 => by
    have m := List.mem_of_getElem? (by simpa using e1 : as[i]? = some c)
    rw [upd_ne (fun ec => nq.1 (by rw [← ec]; exact m)), layP_at nq.2 (by simpa using e1) e2' e3]) (by simpa using hl) ou ow
  rw [List.drop_zero] at oy
  have hT : ∀ c ∈ Y, c ∈ T := fun c m => (hY c m).elim (hU c) (hW c)
  have q0 := fr q List.mem_cons_self
  have pall := p1.trans pp
  refine w2 _ _ [q] Y G' S' (st2.grow kp) (.t (.own upd_same oy)) (Sep.of ⟨List.nodup_cons.mpr ⟨List.not_mem_nil, List.nodup_nil⟩, fun c m z => ?_⟩ st2.nd ⟨fun c m z => ?_, fun c m => tn c (hT c m), fun c m z => ?_⟩) ((pall.trans ⟨Kp.wide kp, fun c m => ?_, fun c m => ?_⟩))
  · obtain ⟨o, eo⟩ := tk c (hT c m)
    rw [List.mem_singleton.mp z, q0] at eo
    cases eo
  · have := st2.sl.mu c z
    rw [List.mem_singleton.mp m, q0] at this
    exact this
  · obtain ⟨o, eo⟩ := st2.sl.stk c m
    rw [List.mem_singleton.mp z, q0] at eo
    cases eo
  · rcases List.mem_append.mp m with m | m
    · exact .inr (by rw [List.mem_singleton.mp m]; exact q0)
    · exact .inl m
  · rcases List.mem_append.mp m with m | m
    · exact .inl (List.mem_append_left _ (hT c m))
    · exact .inl (List.mem_append_right _ m)
def wZip (wa : WA) : WIt := fun env Q => wa env fun is e => wGives is e fun kds e2 => zipK kds fun xs ys => Q (zipD xs ys) e2
/-- for a, b in zip(xs, ys) -/
theorem vit_zip (hmz : X.mg "zip" = none) (ha : VA X B [e, e2] wa) (hgz : Gl X "zip" := by rfl)
    (hs : starEach [e, e2] X.env = (false, eval e X.env) :: starEach [e2] X.env := by rfl) (hpl : (backTo pos (starEach [e2] X.env)).any (·.1) = false := by rfl) : VIt X B (.Tuple elts kk tpos) (.Call (.Name "zip" p) [e, e2] [] pos) (wZip wa) := by
  refine ⟨PI.weak (RZ.pi_zipA hgz hmz ha.p hs hpl) fun σ H R ⟨env, G, S, st, w⟩ => ⟨env, G, S, st, ha.m _ _ _ (fun is e1 w1 => ?_) w⟩, fun env P Q q w => ha.m _ _ _ (fun _ _ z => wGives_mono (fun _ _ y => zipK_mono (fun _ _ x => q _ _ x) y) z) w⟩
  intro vs H1 G1 S1 G2 S2 st1 h1 sp1 p1
  obtain ⟨a, b, k1, k2, us, ws, xs, ys, e2, T, G', S', w2, sk, st2, rfl, sa, sb, tn, tk, pp⟩ := zip2_ok (Q := fun xs ys e => PostIt X.K B σ H G S R (zipD xs ys) e) st1 h1 sp1 w1
  have mu := st2.sl.mu
  have at_ : ∀ H2, Kp G' H1 H2 → Shd X.K H2 T k1 a us xs ∧ Shd X.K H2 T k2 b ws ys := fun H2 kp => ⟨sa.later kp mu tn, sb.later kp mu tn⟩
  have fact : ∀ {i : Nat} {d : D} {u v : V} {H2 : Hp} {q : Addr}, Kp G' H1 H2 → H2 q = none → (zipD xs ys)[i]? = some d → us[i]? = some u → ws[i]? = some v →
      Kp [] H2 (upd H2 q (.tup [u, v])) ∧ ∃ S', Own X.K (upd H2 q (.tup [u, v])) 0 (.ref q) d [] S' ∧ ∀ c ∈ S', c ∈ T := by
    intro i d u v H2 q kp hq hd hu hv
    obtain ⟨s1, s2⟩ := at_ H2 kp
    have kq : Kp [] H2 (upd H2 q (.tup [u, v])) := kp_new hq
    obtain ⟨U, ou, hU⟩ := (s1.later kq mu_nil fun _ _ => List.not_mem_nil).its
    obtain ⟨W, ow, hW⟩ := (s2.later kq mu_nil fun _ _ => List.not_mem_nil).its
    obtain ⟨x, S1', ex, ox, hx⟩ := Owns.pick i ou hu
    obtain ⟨y, S2', ey, oy, hy⟩ := Owns.pick i ow hv
    rw [zipD_get ex ey] at hd
    cases hd
    refine ⟨kq, _, .tup (.inl (.inl upd_same)) (.cons (G := []) (G' := []) ox (.cons (G := []) (G' := []) oy .nil)), fun c m => ?_⟩
    rcases List.mem_append.mp m with m | m
    · exact hU c (hx c m)
    · exact hW c (hy c (by simpa using m))
  have lens : ∀ {i : Nat}, i < (zipD xs ys).length → i < us.length ∧ i < ws.length := fun {i} h => by
    obtain ⟨U, ou, _⟩ := sa.its
    obtain ⟨W, ow, _⟩ := sb.its
    rw [zipD_len] at h
    rw [Owns.len ou, Owns.len ow]
    omega
  have lens2 : ∀ {i : Nat}, (zipD xs ys).length ≤ i → us.length ≤ i ∨ ws.length ≤ i := fun {i} h => by
    obtain ⟨U, ou, _⟩ := sa.its
    obtain ⟨W, ow, _⟩ := sb.its
    rw [zipD_len] at h
    rw [Owns.len ou, Owns.len ow]
    omega
  refine ⟨a, b, us, ws, rfl, ?_⟩
  have pall := p1.trans pp
  by_cases et : k1 = .t
  · have et2 : k2 = .t := by
      subst et
      cases k2 <;> first | rfl | cases sk
    refine .inr ⟨sa.tp et, sb.tp et2, w2 _ H1 G' S' T st2 tn tk pall ⟨fun i H2 kp hi => ?_, fun i H2 x H3 d kp hd hy => ?_, fun i H2 kp hi => ?_⟩⟩
    · obtain ⟨s1, s2⟩ := at_ H2 kp
      obtain ⟨l1, l2⟩ := lens hi
      exact ⟨us, ws, _, _, s1.tp et, s2.tp et2, List.getElem?_eq_getElem l1, List.getElem?_eq_getElem l2⟩
    · obtain ⟨s1, s2⟩ := at_ H2 kp
      obtain ⟨q, x, y, rfl, hq, rfl, f1, f2⟩ := hy
      exact fact kp hq hd (f1 us (s1.tp et)) (f2 ws (s2.tp et2))
    · obtain ⟨s1, s2⟩ := at_ H2 kp
      exact ⟨us, ws, s1.tp et, s2.tp et2, lens2 hi⟩
  · have et2 : k2 ≠ .t := fun z => by
      subst z
      cases k1 <;> first | exact et rfl | cases sk
    refine .inl ⟨sa.ls et, sb.ls et2, w2 _ H1 G' S' T st2 tn tk pall ⟨fun i H2 kp hi => ?_, fun i H2 x H3 d kp hd hy => ?_, fun i H2 kp hi => ?_⟩⟩
    · obtain ⟨s1, s2⟩ := at_ H2 kp
      obtain ⟨l1, l2⟩ := lens hi
      exact ⟨us, ws, _, _, s1.ls et, s2.ls et2, List.getElem?_eq_getElem l1, List.getElem?_eq_getElem l2⟩
    · obtain ⟨s1, s2⟩ := at_ H2 kp
      obtain ⟨q, x, y, rfl, hq, rfl, f1, f2⟩ := hy
      exact fact kp hq hd (f1 us (s1.ls et)) (f2 ws (s2.ls et2))
    · obtain ⟨s1, s2⟩ := at_ H2 kp
      exact ⟨us, ws, s1.ls et, s2.ls et2, lens2 hi⟩

def enumD : Nat → List D → List D
  | _, [] => []
  | i, x :: xs => .tup [.int i, x] :: enumD (i + 1) xs
theorem enumD_len : ∀ (k : Nat) (xs : List D), (enumD k xs).length = xs.length
  | _, [] => rfl
  | k, x :: xs => by unfold enumD; rw [List.length_cons, enumD_len (k + 1) xs, List.length_cons]
theorem enumD_get : ∀ {xs : List D} {k i : Nat} {x : D}, xs[i]? = some x → (enumD k xs)[i]? = some (.tup [.int ((k + i : Nat) : Int), x])
  | [], _, _, _, h => by simp at h
  | a :: xs, k, 0, x, h => by
    simp at h
    subst h
    unfold enumD
    rfl
  | a :: xs, k, i + 1, x, h => by
    unfold enumD
    have := enumD_get (xs := xs) (k := k + 1) (i := i) (x := x) (by simpa using h)
    rw [List.getElem?_cons_succ, this, show k + 1 + i = k + (i + 1) by omega]
def wEnum (wa : WI) : WIt := fun env Q => wa env fun it e => wGive it e fun _ d e2 => match seqD d with
  | some (.t, _) => False
  | some (_, xs) => Q (enumD 0 xs) e2
  | none => False
/-- for i, x in enumerate(a list) -/
theorem vit_enum {w1 : WI} (hm : X.mg "enumerate" = none) (ha : VI X B e w1) (hg : Gl X "enumerate" := by rfl) (hs : starEach [e] X.env = [(false, eval e X.env)] := by rfl) : VIt X B (.Tuple elts kk tpos) (.Call (.Name "enumerate" p) [e] [] pos) (wEnum w1) := by
  have mono : ∀ {d : D} {e2 : Env} {P Q : List D → Env → Prop}, (∀ x y, P x y → Q x y) → (match seqD d with
      | some (.t, _) => False
      | some (_, xs) => P (enumD 0 xs) e2
      | none => False) → (match seqD d with
      | some (.t, _) => False
      | some (_, xs) => Q (enumD 0 xs) e2
      | none => False) := fun {d e2 P Q} q y => by
    split at y
    · exact y
    · exact q _ _ y
    · exact y
  refine ⟨PI.weak (pi_enum hg hm (pa_cons ha.p pa_nil hs) hs) fun σ H R ⟨env, G, S, st, w⟩ => ⟨env, G, S, st, ha.m _ _ _ (fun it e1 w1 => ?_) w⟩, fun env P Q q w => ha.m _ _ _ (fun _ _ z => wGive_mono (fun _ d _ y => mono q y) z) w⟩
  intro v H1 G1 S1 G2 S2 st1 h1 sp1 p1
  obtain ⟨k', d, e2, A, SA, G', S', w2, st2, o2, sp2, pp, _⟩ := give_ok st1 h1 sp1 w1
  obtain ⟨A', T, o, lo⟩ := Own.lower _ (Nat.zero_le _) o2
  have g := Own.g0 _ o
  subst g
  have ap := sp2.ap.low lo
  have tk := Own.stk _ o
  have tn := ap.s1
  have mu := st2.sl.mu
  have pall := (p1.trans pp).low lo
  obtain ⟨kd, xs, ed, nt, w3⟩ : ∃ kd xs, seqD d = some (kd, xs) ∧ kd ≠ .t ∧ PostIt X.K B σ H G S R (enumD 0 xs) e2 := by
    split at w2
    · exact w2.elim
    · rename_i kd xs ne ed
      exact ⟨kd, xs, ed, fun z => ne z, w2⟩
    · exact w2.elim
  obtain ⟨a, us, rfl, sa⟩ := shd_of o ed fun c z => z
  have at_ : ∀ H2, Kp G' H1 H2 → Shd X.K H2 T kd a us xs := fun H2 kp => sa.later kp mu tn
  have len : us.length = xs.length := by obtain ⟨U, ou, _⟩ := sa.its; exact Owns.len ou
  refine ⟨a, us, rfl, sa.ls nt, w3 _ H1 G' S' T st2 tn tk pall ⟨fun i H2 kp hi => ?_, fun i H2 x H3 d kp hd hy => ?_, fun i H2 kp hi => ?_⟩⟩
  · rw [enumD_len, ← len] at hi
    exact ⟨us, _, (at_ H2 kp).ls nt, List.getElem?_eq_getElem hi⟩
  · have s1 := at_ H2 kp
    obtain ⟨q, x, rfl, hq, rfl, f1⟩ := hy
    have kq : Kp [] H2 (upd H2 q (.tup [.int (i : Nat), x])) := kp_new hq
    obtain ⟨U, ou, hU⟩ := (s1.later kq mu_nil fun _ _ => List.not_mem_nil).its
    obtain ⟨y, S1', ey, oy, hy⟩ := Owns.pick i ou (f1 us (s1.ls nt))
    rw [enumD_get ey, Nat.zero_add] at hd
    cases hd
    refine ⟨kq, _, .tup (.inl (.inl upd_same)) (.cons (G := []) (G' := []) (.int _) (.cons (G := []) (G' := []) oy .nil)), fun c m => hU c (hy c (by simpa using m))⟩
  · rw [enumD_len, ← len] at hi
    exact ⟨us, (at_ H2 kp).ls nt, hi⟩
end
end Cr
set_option Elab.async false
set_option linter.all false
set_option maxRecDepth 100000
/-! Small facts for working out what is asked. -/
namespace Cr
open PySem PySem.Spec PyProof.Rows L2
theorem atI_nat {α : Type} (xs : List α) (n : Nat) : atI xs (n : Int) = xs[n]? := by
  unfold atI ixN
  rw [if_pos (by omega)]
  by_cases h : (n : Int) < xs.length
  · rw [if_pos h]; simp
  · rw [if_neg h]
    rw [List.getElem?_eq_none (by omega)]
    rfl
theorem atI_0 {α : Type} (xs : List α) : atI xs 0 = xs[0]? := atI_nat xs 0
theorem atI_1 {α : Type} (xs : List α) : atI xs 1 = xs[1]? := atI_nat xs 1
theorem atI_2 {α : Type} (xs : List α) : atI xs 2 = xs[2]? := atI_nat xs 2
theorem atI_3 {α : Type} (xs : List α) : atI xs 3 = xs[3]? := atI_nat xs 3
theorem ixN_nat (m n : Nat) : ixN m (n : Int) = if n < m then some n else none := by
  unfold ixN
  rw [if_pos (by omega)]
  by_cases h : n < m
  · rw [if_pos h, if_pos (by omega)]; simp
  · rw [if_neg h, if_neg (by omega)]
theorem ixN_0 (m : Nat) : ixN m 0 = if 0 < m then some 0 else none := ixN_nat m 0
theorem ixN_1 (m : Nat) : ixN m 1 = if 1 < m then some 1 else none := ixN_nat m 1
theorem ixN_2 (m : Nat) : ixN m 2 = if 2 < m then some 2 else none := ixN_nat m 2
theorem ixN_3 (m : Nat) : ixN m 3 = if 3 < m then some 3 else none := ixN_nat m 3
theorem ex_some {α : Type} {a : α} {p : α → Prop} : (∃ j, some a = some j ∧ p j) ↔ p a := ⟨fun ⟨j, e, h⟩ => by cases e; exact h, fun h => ⟨a, rfl, h⟩⟩
end Cr
set_option Elab.async false
set_option linter.all false
set_option maxRecDepth 100000
/-! name = [..] on one line. -/
namespace Cr
open PySem PySem.Spec PyProof.Rows L2
theorem vs_setLc {X : Cx} {B : Base} (s0 : Shared) {i : Nat} {y : Str} {py pos spos : Pos} {elt tg iter : Expr} {ifs : List Expr} {scope : Scope} {own : List (Str × Nat)} {wi : WIt} {g : WG} {ws : List Nat} {c : WT} {w : WI} (hc : X.calm = true) (hN : X.N.Nodup) (hy : X.N[i]? = some y) (hyl : X.env.scope.names.lookup y = some .local)
    (hsw : swapsWith (.ListComp elt [⟨tg, iter, ifs, 0⟩] scope pos) (some (.Name y py)) spos.line X.env = pure true) (hp : ∀ q ∈ B.pr, q.1 ≠ i) (hi : VIt X B tg iter wi) (ok : BlkOk X.N X.env.scope scope own) (hw : ∀ i ∈ ws, i ∈ own.map (·.2)) (hpr : ∀ q ∈ B.pr, q.1 ∉ own.map (·.2))
    (hg : ∀ (s : Shared) (H : Hp) (C : Addr) (cl : List (Str × Addr)) (fp : List Addr), VG (X.blk s H scope (compEnvC scope cl C X.env) fp) B tg ws g)
    (ht : ∀ (s : Shared) (H : Hp) (C : Addr) (cl : List (Str × Addr)) (fp : List Addr), VTs (X.blk s H scope (compEnvC scope cl C X.env) fp) B ifs c)
    (he : ∀ (s : Shared) (H : Hp) (C : Addr) (cl : List (Str × Addr)) (fp : List Addr), VI (X.blk s H scope (compEnvC scope cl C X.env) fp) B elt w)
    (hs : ∀ x, foldedSetIterable iter X.env x = pure x := by intro _; rfl) : VS X B (.Assign [.Name y py] (.ListComp elt [⟨tg, iter, ifs, 0⟩] scope pos) spos) (wAsg (wLc wi g c w (own.map (·.2))) (wSet i)) := by
  have mg := (hg s0 (fun _ => none) 0 [] []).m
  have mc := (ht s0 (fun _ => none) 0 [] []).m
  have mw := (he s0 (fun _ => none) 0 [] []).m
  have ml := wLc_mono (vs := own.map (·.2)) hi.m mg mc mw
  refine ⟨PS.weak (ps_setLc (wi := liftIt X.K B wi) (g := liftG X.K B ws g) (tt := liftT X.K B c) (te := liftI X.K B w) hc hN hy hyl hsw hi.p ok (fun s H C cl fp => (hg s H C cl fp).p) (fun s H C cl fp => (ht s H C cl fp).p) (fun s H C cl fp => (he s H C cl fp).p) hs) fun E σ H h => ?_, wAsg_mono ml fun k d env P Q q w => ⟨w.1, q _ w.2⟩⟩
  have h2 := asgP (K := X.K) (B := B) (gg := gName i) (ws := [i]) (g := wSet i) (fun k d env P Q q w => ⟨w.1, q _ w.2⟩) (fun v σ H Q ⟨k, d, env, G, S, G1, S1, st, o, sp, bp, hl, w⟩ => by
    obtain ⟨G', S', st', stp⟩ := set_ok st o sp bp hl hp
    exact w _ H G' S' st' stp ⟨List.length_set, fun j n => List.getElem?_set_ne (by intro e; subst e; exact n List.mem_cons_self)⟩) ml h
  exact lcP hi.m mg mc mw hw hpr h2
/-- a, b = x, y with plain local names -/
def wPar (i j : Nat) (wa : WA) : WS := fun E env => wa env fun is e => wGives is e fun kds e2 => match kds with
  | [(k1, d1), (k2, d2)] => (i < e2.length ∧ j < e2.length) ∧ E.nx ((e2.set i (some (k1, d1))).set j (some (k2, d2)))
  | _ => False
theorem vs_par {X : Cx} {B : Base} {i j : Nat} {x y : Str} {a b : Expr} {wa : WA} {px py pt pos : Pos} {kt k2 : Nat} {pt2 : Pos} (hc : X.calm = true) (hN : X.N.Nodup) (hi : X.N[i]? = some x) (hj : X.N[j]? = some y) (hij : i ≠ j)
    (hx : X.env.scope.names.lookup x = some .local) (hy : X.env.scope.names.lookup y = some .local) (hpi : ∀ q ∈ B.pr, q.1 ≠ i) (hpj : ∀ q ∈ B.pr, q.1 ≠ j) (ha : VA X B [a, b] wa)
    (hw : swappedStores [.Tuple [.Name x px, .Name y py] kt pt] (.Tuple [a, b] k2 pt2) X.env = pure (some [x, y]))
    (hs : swapsWithSole [.Tuple [.Name x px, .Name y py] kt pt] (.Tuple [a, b] k2 pt2) pos.line X.env = pure false := by rfl) :
    VS X B (.Assign [.Tuple [.Name x px, .Name y py] kt pt] (.Tuple [a, b] k2 pt2) pos) (wPar i j wa) := by
  refine ⟨PS.weak (ps_par hc hN hi hj hij hx hy ha.p hw hs) fun E σ H ⟨env, G, S, st, w⟩ => ⟨env, G, S, st, ha.m _ _ _ (fun is e1 w1 => ?_) w⟩, fun env P Q q w => ha.m _ _ _ (fun _ _ z => wGives_mono (fun kds e y => ?_) z) w⟩
  · intro vs H1 G1 S1 G2 S2 st1 h1 sp1 p1
    obtain ⟨kds, e2, A, SA, G', S', w2, st2, om, sp2, p2, _⟩ := gives_ok st1 h1 sp1 w1
    split at w2
    · rename_i k1 d1 k2' d2
      cases om with
      | cons o1 om2 =>
      cases om2 with
      | cons o2 om3 =>
      cases om3
      rename_i v A1 SA1 u A2 SA2
      have gd := sp2.gd
      have ap := sp2.ap
      have ap12 : Ap A1 SA1 (A2 ++ []) (SA2 ++ []) := gd.ap
      have sp1' : Sep A1 SA1 G' S' := Sep.of gd.l st2.nd ap.l
      have pall := p1.trans p2
      have b1 : Stp B.H B.G B.S H1 (A1 ++ G') (SA1 ++ S') := (st.st.trans pall).less (fun a z => by rcases List.mem_append.mp z with z | z <;> simp [z]) fun a z => .inl (by rcases List.mem_append.mp z with z | z <;> simp [z])
      obtain ⟨Ga, Sa, sta, pa⟩ := set_ok st2 o1 sp1' b1 w2.1.1 hpi
      have apr : Ap A2 SA2 (A1 ++ G') (SA1 ++ S') := by
        have q1 : Ap A2 SA2 A1 SA1 := by simpa using ap12.symm
        have q2 : Ap A2 SA2 G' S' := by simpa using ap.r
        exact q1.appR q2
      have apa := apr.frame (Own.mu _ o2) (Own.stk _ o2) pa
      have gd2 : Gd A2 SA2 := by simpa using gd.r
      have sp3 : Sep A2 SA2 Ga Sa := Sep.of gd2 sta.nd apa
      have pb : Stp H G S H1 (A2 ++ Ga) (SA2 ++ Sa) := by
        refine pall.trans ⟨kp_refl, fun a z => ?_, fun a z => ?_⟩
        · rcases List.mem_append.mp z with z | z
          · exact .inl (by simp [z])
          · exact (pa.sub a z).imp (fun z => by rcases List.mem_append.mp z with z | z <;> simp [z]) id
        · rcases List.mem_append.mp z with z | z
          · exact .inl (by simp [z])
          · exact (pa.ss a z).imp (fun z => by rcases List.mem_append.mp z with z | z <;> simp [z]) fun z => z.imp (fun z => by rcases List.mem_append.mp z with z | z <;> simp [z]) id
      obtain ⟨Gb, Sb, stb, pb2⟩ := set_ok sta o2 sp3 (st.st.trans pb) (by rw [List.length_set]; exact w2.1.2) hpj
      exact ⟨v, u, rfl, w2.2 _ H1 Gb Sb stb (pb.trans pb2)⟩
    · exact w2.elim
  · split at y
    · exact ⟨y.1, q.nx _ y.2⟩
    · exact y
/-- return name: what the slot owns goes out -/
def wRetM (i : Nat) : WS := fun E env => match env[i]? with
  | some (some (k, d)) => E.rt k d (env.set i none)
  | _ => False
theorem vs_retM {X : Cx} {B : Base} {i : Nat} {x : Str} {np pos : Pos} (hN : X.N[i]? = some x) (hv : Vis X.env.scope x) (hd : (x == ("__debug__" : Str)) = false := by decide) (hcd : (x == ("__classdict__" : Str)) = false := by decide) :
    VS X B (.Return (some (.Name x np)) pos) (wRetM i) := by
  refine ⟨PS.weak (ps_ret (pe_var hN hv hd hcd)) fun E σ H ⟨env, G, S, st, w⟩ => ?_, fun env P Q q w => ?_⟩
  · unfold wRetM at w
    split at w
    · rename_i k d he
      obtain ⟨z, Ga, Gi, Gb, Sa, Si, Sb, r1, r2, r3, r4, r5⟩ := st.sl.at i he
      obtain ⟨gdi, hab⟩ := mid st r2 r3
      cases r4 with
      | som o =>
        rename_i v
        have sl' := r5 (e' := none) (x' := some v) (F := []) (H' := H) .non kp_refl mu_nil fun _ _ => List.not_mem_nil
        rw [set_self r1] at sl'
        have nd := st.nd
        rw [r2, List.nodup_append] at nd
        have n2 := List.nodup_append.mp nd.2.1
        have inG : ∀ a, a ∈ Ga ++ ([] ++ Gb) → a ∈ G := fun a z => by rw [r2]; simp at z ⊢; rcases z with z | z <;> simp [z]
        have inS : ∀ a, a ∈ Sa ++ ([] ++ Sb) → a ∈ S := fun a z => by rw [r3]; simp at z ⊢; rcases z with z | z <;> simp [z]
        have iG : ∀ a ∈ Gi, a ∈ G := fun a z => by rw [r2]; simp [z]
        have iS : ∀ a ∈ Si, a ∈ S := fun a z => by rw [r3]; simp [z]
        have ndn : (Ga ++ ([] ++ Gb)).Nodup := by
          rw [List.nil_append]
          exact List.nodup_append.mpr ⟨nd.1, n2.2.1, fun a z b w q => nd.2.2 a z b (List.mem_append_right _ w) q⟩
        have apart : ∀ a ∈ Gi, a ∉ Ga ++ ([] ++ Gb) := fun a z q => by
          rw [List.nil_append] at q
          rcases List.mem_append.mp q with q | q
          · exact (hab a z).1 q
          · exact (hab a z).2 q
        refine ⟨v, r1, w v σ H Gi Si _ _ ⟨sl', ndn, fun a z q => st.dj a (inS a z) (inG a q), ?_, st.pr⟩ o (Sep.of gdi ndn ⟨apart, fun a z q => st.dj a (iS a z) (inG a q), fun a z q => st.dj a (inS a z) (iG a q)⟩) ⟨kp_refl, fun a z => .inl ?_, fun a z => .inl ?_⟩⟩
        · exact st.st.trans ⟨kp_refl, fun a z => .inl (inG a z), fun a z => .inl (inS a z)⟩
        · rcases List.mem_append.mp z with z | z
          · exact iG a z
          · exact inG a z
        · rcases List.mem_append.mp z with z | z
          · exact iS a z
          · exact inS a z
    · exact w.elim
  · unfold wRetM at *
    split at w
    · exact q.rt _ _ _ w
    · exact w
end Cr
set_option Elab.async false
set_option linter.all false
set_option maxRecDepth 100000
/-! Loops by what is kept; numbers' lengths; a def's facts. -/
namespace Cr
open PySem PySem.Spec PyProof.Rows L2
theorem lc_inv {g : WG} {c : WT} {w : WI} {vs : List Nat} {Q : Nat → List D → Env → Prop} (I : Nat → Nat → List D → Env → Prop) {ds : List D}
    (hs : ∀ i d k acc env, ds[i]? = some d → I i k acc env → ∀ Y : Nat → List D → Env → Prop, (∀ k acc e, I (i + 1) k acc e → Y k acc e) →
      g (md d) d env fun e1 => c e1 fun b e2 => Br b (w e2 fun it e3 => wGive it e3 fun k' y e4 => fits (acc.length + 1) ∧ Y (min k k') (acc ++ [y]) (wipeE e4 vs)) (Y k acc (wipeE e2 vs)))
    (hQ : ∀ k acc env, I ds.length k acc env → Q k acc env) : ∀ (n j : Nat) (k : Nat) (acc : List D) (env : Env), j + n = ds.length → I j k acc env → wLcL g c w vs (ds.drop j) k acc env Q
  | 0, j, k, acc, env, hj, h => by
    have e : ds.drop j = [] := List.drop_eq_nil_of_le (by omega)
    rw [e]
    have ej : j = ds.length := by omega
    subst ej
    exact hQ k acc env h
  | n + 1, j, k, acc, env, hj, h => by
    have lt : j < ds.length := by omega
    rw [List.drop_eq_getElem_cons lt]
    exact hs j ds[j] k acc env (List.getElem?_eq_getElem lt) h (fun k acc e => wLcL g c w vs (ds.drop (j + 1)) k acc e Q) fun k acc e h' => lc_inv I hs hQ n (j + 1) k acc e (by omega) h'
/-- a comprehension by what its turns keep -/
theorem lc_by {g : WG} {c : WT} {w : WI} {vs : List Nat} {Q : Nat → List D → Env → Prop} {ds : List D} {env : Env} (I : Nat → Nat → List D → Env → Prop) (h0 : I 0 9 [] env)
    (hs : ∀ i d k acc env, ds[i]? = some d → I i k acc env → ∀ Y : Nat → List D → Env → Prop, (∀ k acc e, I (i + 1) k acc e → Y k acc e) →
      g (md d) d env fun e1 => c e1 fun b e2 => Br b (w e2 fun it e3 => wGive it e3 fun k' y e4 => fits (acc.length + 1) ∧ Y (min k k') (acc ++ [y]) (wipeE e4 vs)) (Y k acc (wipeE e2 vs)))
    (hQ : ∀ k acc env, I ds.length k acc env → Q k acc env) : LcW g c w vs ds env Q := by
  have := lc_inv I hs hQ ds.length 0 9 [] env (by omega) h0
  rw [List.drop_zero] at this
  exact ⟨this⟩
/-- a comprehension that reckons each item by itself -/
theorem lc_map {α : Type} {enc out : α → D} {g : WG} {c : WT} {w : WI} {vs : List Nat} {Q : Nat → List D → Env → Prop} {env : Env} {xs : List α} (hf : xs.length ≤ 1000000)
    (h : ∀ x, x ∈ xs → ∀ (Y : Nat → D → Env → Prop) (Z : Env → Prop), (∀ k e4, wipeE e4 vs = env → 9 ≤ k → Y k (out x) e4) → g (md (enc x)) (enc x) env fun e1 => c e1 fun b e2 => Br b (w e2 fun it e3 => wGive it e3 Y) (Z e2)) (hQ : Q 9 (xs.map out) env) : LcW g c w vs (xs.map enc) env Q := by
  refine lc_by (fun i k acc e => k = 9 ∧ e = env ∧ acc = (xs.map out).take i) ⟨rfl, rfl, rfl⟩ (fun i d k acc e hd hI Y hY => ?_) fun k acc e hI => ?_
  · obtain ⟨rfl, rfl, rfl⟩ := hI
    rw [List.getElem?_map] at hd
    cases hx : xs[i]? with
    | none => rw [hx] at hd; cases hd
    | some x =>
      rw [hx] at hd
      cases hd
      refine h x (List.mem_of_getElem? hx) (fun k' y e4 => fits (((xs.map out).take i).length + 1) ∧ Y (min 9 k') ((xs.map out).take i ++ [y]) (wipeE e4 vs)) (fun e2 => Y 9 ((xs.map out).take i) (wipeE e2 vs)) fun k' e4 he hk => ⟨fits_of ?_, hY _ _ _ ⟨Nat.min_eq_left hk, he, ?_⟩⟩
      · have := (List.getElem?_eq_some_iff.mp hx).1
        rw [List.length_take, List.length_map]
        omega
      · rw [List.take_add_one, List.getElem?_map, hx]
        rfl
  · obtain ⟨rfl, rfl, rfl⟩ := hI
    rw [List.length_map, List.take_of_length_le (by rw [List.length_map]; exact Nat.le_refl _)]
    exact hQ
/-- the same over the items as they stand, their depth k0 at least -/
theorem lc_self {out : D → D} {g : WG} {c : WT} {w : WI} {vs : List Nat} {Q : Nat → List D → Env → Prop} {env : Env} {xs : List D} (k0 : Nat) (h9 : k0 ≤ 9) (hf : xs.length ≤ 1000000)
    (h : ∀ x, x ∈ xs → ∀ (Y : Nat → D → Env → Prop) (Z : Env → Prop), (∀ k e4, wipeE e4 vs = env → k0 ≤ k → Y k (out x) e4) → g (md x) x env fun e1 => c e1 fun b e2 => Br b (w e2 fun it e3 => wGive it e3 Y) (Z e2)) (hQ : ∀ k, k0 ≤ k → Q k (xs.map out) env) : LcW g c w vs xs env Q := by
  refine lc_by (fun i k acc e => k0 ≤ k ∧ e = env ∧ acc = (xs.map out).take i) ⟨h9, rfl, rfl⟩ (fun i d k acc e hd hI Y hY => ?_) fun k acc e hI => ?_
  · obtain ⟨hk, rfl, rfl⟩ := hI
    refine h d (List.mem_of_getElem? hd) (fun k' y e4 => fits (((xs.map out).take i).length + 1) ∧ Y (min k k') ((xs.map out).take i ++ [y]) (wipeE e4 vs)) (fun e2 => Y k ((xs.map out).take i) (wipeE e2 vs)) fun k' e4 he hk' => ⟨fits_of ?_, hY _ _ _ ⟨Nat.le_min.mpr ⟨hk, hk'⟩, he, ?_⟩⟩
    · have := (List.getElem?_eq_some_iff.mp hd).1
      rw [List.length_take, List.length_map]
      omega
    · rw [List.take_add_one, List.getElem?_map, hd]
      rfl
  · obtain ⟨hk, rfl, rfl⟩ := hI
    rw [List.take_of_length_le (by rw [List.length_map]; exact Nat.le_refl _)]
    exact hQ k hk
theorem for_inv {g : WG} {b : WS} {E : WEnds} (I : Nat → Env → Prop) {ds : List D}
    (hs : ∀ i d env, ds[i]? = some d → I i env → ∀ Y : Env → Prop, (∀ e, I (i + 1) e → Y e) → g (md d) d env fun e => b { nx := Y, ct := Y, bk := E.nx, rt := E.rt } e) (hQ : ∀ env, I ds.length env → E.nx env) :
    ∀ (n j : Nat) (env : Env), j + n = ds.length → I j env → wForL g b E (ds.drop j) env
  | 0, j, env, hj, h => by
    have e : ds.drop j = [] := List.drop_eq_nil_of_le (by omega)
    rw [e]
    have ej : j = ds.length := by omega
    subst ej
    exact hQ env h
  | n + 1, j, env, hj, h => by
    have lt : j < ds.length := by omega
    rw [List.drop_eq_getElem_cons lt]
    exact hs j ds[j] env (List.getElem?_eq_getElem lt) h (wForL g b E (ds.drop (j + 1))) fun e h' => for_inv I hs hQ n (j + 1) e (by omega) h'
/-- a loop by what its turns keep -/
theorem for_by {g : WG} {b : WS} {E : WEnds} {ds : List D} {env : Env} (I : Nat → Env → Prop) (h0 : I 0 env)
    (hs : ∀ i d env, ds[i]? = some d → I i env → ∀ Y : Env → Prop, (∀ e, I (i + 1) e → Y e) → g (md d) d env fun e => b { nx := Y, ct := Y, bk := E.nx, rt := E.rt } e) (hQ : ∀ env, I ds.length env → E.nx env) : ForW g b E ds env := by
  have := for_inv I hs hQ ds.length 0 env (by omega) h0
  rw [List.drop_zero] at this
  exact ⟨this⟩
theorem wipeE_com {e : Env} {i : Nat} {x : Slot} : ∀ {vs : List Nat}, i ∉ vs → wipeE (e.set i x) vs = (wipeE e vs).set i x
  | [], _ => rfl
  | j :: vs, h => by
    unfold wipeE
    rw [wipeE_com fun m => h (List.mem_cons_of_mem _ m)]
    exact List.set_comm _ _ fun q => h (by rw [q]; exact List.mem_cons_self)
theorem wipeE_set {e : Env} {i : Nat} {x : Slot} : ∀ {vs : List Nat}, i ∈ vs → wipeE (e.set i x) vs = wipeE e vs
  | [], h => by cases h
  | j :: vs, h => by
    unfold wipeE
    by_cases m : i ∈ vs
    · rw [wipeE_set m]
    · rw [wipeE_com m, (List.mem_cons.mp h).resolve_right m, List.set_set]
theorem wipeE_none {e : Env} : ∀ {vs : List Nat}, (∀ i ∈ vs, e[i]? = some none ∨ e.length ≤ i) → wipeE e vs = e
  | [], _ => rfl
  | j :: vs, h => by
    unfold wipeE
    rw [wipeE_none fun i m => h i (List.mem_cons_of_mem _ m)]
    rcases h j List.mem_cons_self with q | q
    · exact set_self q
    · exact List.set_eq_of_length_le q
theorem wipeE_idem {e : Env} {vs : List Nat} : wipeE (wipeE e vs) vs = wipeE e vs := by
  refine wipeE_none fun i m => ?_
  by_cases l : i < (wipeE e vs).length
  · refine .inl ?_
    have q := List.getElem?_eq_getElem l
    cases z : (wipeE e vs)[i] with
    | none => rw [q, z]
    | some kd =>
      rw [z] at q
      exact absurd m (wipeE_hit q)
  · exact .inr (by omega)
theorem atI_mem {xs : List D} {i : Int} (h0 : 0 ≤ i) (h : i < xs.length) : ∃ y, atI xs i = some y ∧ y ∈ xs := by
  obtain ⟨n, rfl⟩ := Int.eq_ofNat_of_zero_le h0
  have l : n < xs.length := by omega
  exact ⟨xs[n], by rw [atI_nat, List.getElem?_eq_getElem l], List.getElem_mem l⟩
mutual
theorem full_at9 : ∀ (d : D) (k : Nat), at9 d = true → full k d = true
  | .non, _, _ => by unfold full; rfl
  | .bl _, _, _ => by unfold full; rfl
  | .int _, _, _ => by unfold full; rfl
  | .str _, _, _ => by unfold full; rfl
  | .tup xs, k, h => by unfold at9 at h; unfold full; exact fulls_at9 xs k h
  | .fl xs, k, h => by unfold at9 at h; unfold full; exact fulls_at9 xs k h
  | .lst _, _, h => by unfold at9 at h; cases h
theorem fulls_at9 : ∀ (ds : List D) (k : Nat), at9s ds = true → fulls k ds = true
  | [], _, _ => by unfold fulls; rfl
  | d :: ds, k, h => by
    unfold at9s at h
    rw [Bool.and_eq_true] at h
    unfold fulls
    rw [full_at9 d k h.1, fulls_at9 ds k h.2]
    rfl
end
theorem at9s_of {xs : List D} (h : ∀ x ∈ xs, at9 x = true) : at9s xs = true := by
  induction xs with
  | nil => rfl
  | cons x r ih => show (at9 x && at9s r) = true; rw [h x List.mem_cons_self, ih fun y m => h y (List.mem_cons_of_mem _ m)]; rfl
theorem Br.yes {b : Bool} {P Q : Prop} (e : b = true) (p : P) : Br b P Q := ⟨fun _ => p, fun h => by (rw [e] at h; cases h)⟩
theorem Br.no {b : Bool} {P Q : Prop} (e : b = false) (q : Q) : Br b P Q := ⟨fun h => by (rw [e] at h; cases h), fun _ => q⟩
theorem okM_le {k j : Nat} {d : D} (h : k ≤ j) : okM k j d := .inl h
theorem lg_lt {x k : Nat} (h : x < 2 ^ k) (hk : 0 < k) : x.log2 < k := by
  by_cases e : x = 0
  · subst e; simpa using hk
  · exact (Nat.log2_lt e).mpr h
theorem lgs {i j : Int} (a b : Nat) (hi : i.natAbs < 2 ^ (a + 1)) (hj : j.natAbs < 2 ^ (b + 1)) (h : a + b + 2 < 100000000 := by decide) : i.natAbs.log2 + j.natAbs.log2 < 100000000 := by
  have h1 := lg_lt hi (Nat.succ_pos _)
  have h2 := lg_lt hj (Nat.succ_pos _)
  omega
theorem lg64 {n : Int} (h2 : n < 2 ^ 64) (h : 0 ≤ n := by omega) : n.natAbs.log2 < 9000 := Nat.lt_trans (lg_lt (k := 64) (by omega) (by decide)) (by decide)
theorem nv (i : Nat) {X : Cx} {B : Base} {x : Str} {pos : Pos} (hN : X.N[i]? = some x := by rfl) (hv : Vis X.env.scope x := by first | exact Or.inl rfl | exact Or.inr (Or.inl rfl) | exact Or.inr (Or.inr rfl)) (hd : (x == ("__debug__" : Str)) = false := by decide) (hcd : (x == ("__classdict__" : Str)) = false := by decide) : VI X B (.Name x pos) (wName i) := vi_name hN hv hd hcd
/-- a def as the top has left it -/
def Known (K : PySem.W.Frag) (mg : Str → Option Value) (x : Str) (st : Stmt) (ps : List Str) : Prop := ∃ f fd, L2.Fun K x x st f fd ∧ mg x = some (.ref f) ∧ L2.Binds K fd ps []
/-- of a def from which nothing is asked -/
theorem Cl.none {P : Program} {w : World} {K : PySem.W.Frag} {mg : Str → Option Value} {base : Heap} {CX : CXT} {k n : Nat} {x : Str} {st : Stmt} {ps : List Str} {R : RB} (h : Known K mg x st ps) (hR : ∀ ds k P, ¬ R ds k P) : Cl P w K mg base CX k x st ps (spB K n R) := by
  obtain ⟨f, fd, F, hm, hb⟩ := h
  exact ⟨f, fd, F, ⟨fun vs H Q E ⟨ds, S, k, P, _, _, r, _⟩ => (hR ds k P r).elim, fun A outer s H args us vs Q E _ _ _ _ ⟨ds, S, k, P, _, _, r, _⟩ => (hR ds k P r).elim⟩, hm, hb⟩
theorem md_at {d : D} (h : at9 d = true) : md d = 9 := by unfold md; rw [h]; rfl
theorem md_no {d : D} (h : at9 d = false) : md d = 0 := by unfold md; rw [h]; rfl
end Cr
set_option Elab.async false
set_option linter.all false
set_option maxRecDepth 100000
/-! repr of trees of short numbers. -/
namespace Cr
open PySem PySem.Spec PyProof.Rows L2
mutual
/-- numbers below 2 ^ 62, lists and tuples of such -/
def shrt : D → Prop
  | .int i => i.natAbs < 2 ^ 62
  | .tup xs => shrts xs
  | .lst xs => shrts xs
  | _ => False
def shrts : List D → Prop
  | [] => True
  | d :: ds => shrt d ∧ shrts ds
end
mutual
/-- how many things stand in it -/
def cnt : D → Nat
  | .tup xs => cnts xs
  | .lst xs => cnts xs
  | _ => 0
def cnts : List D → Nat
  | [] => 0
  | d :: ds => cnt d + 1 + cnts ds
end
mutual
theorem shrt_ok : ∀ d : D, shrt d → (py d).leavesShort 64 = true ∧ (py d).showable = true ∧ (py d).bulk = cnt d
  | .int i, h => by
    unfold shrt at h
    have hl : i.natAbs.log2 < 62 := lg_lt h (by decide)
    unfold py cnt
    refine ⟨?_, ?_, rfl⟩
    · unfold PyData.leavesShort
      have := int_text_length_le (a := i) (k := 62) (by decide) hl
      refine decide_eq_true ?_
      show (PyData.int i).shown.length ≤ 64
      have e : (PyData.int i).shown = Str.ofString (toString i) := by unfold PyData.shown; rfl
      rw [e, PySem.ofString_length]
      exact Nat.le_trans this (by decide)
    · unfold PyData.showable
      exact decide_eq_true (by omega)
  | .tup xs, h => by
    unfold shrt at h
    unfold py cnt
    obtain ⟨a, b, c⟩ := shrts_ok xs h
    exact ⟨by unfold PyData.leavesShort; exact a, by unfold PyData.showable; exact b, by unfold PyData.bulk; exact c⟩
  | .lst xs, h => by
    unfold shrt at h
    unfold py cnt
    obtain ⟨a, b, c⟩ := shrts_ok xs h
    exact ⟨by unfold PyData.leavesShort; exact a, by unfold PyData.showable; exact b, by unfold PyData.bulk; exact c⟩
  | .fl _, h => by unfold shrt at h; exact h.elim
  | .non, h => by unfold shrt at h; exact h.elim
  | .bl _, h => by unfold shrt at h; exact h.elim
  | .str _, h => by unfold shrt at h; exact h.elim
theorem shrts_ok : ∀ ds : List D, shrts ds → PyData.leavesShortAll 64 (pys ds) = true ∧ PyData.showableAll (pys ds) = true ∧ PyData.bulkAll (pys ds) = cnts ds
  | [], _ => by unfold pys cnts; exact ⟨rfl, rfl, rfl⟩
  | d :: ds, h => by
    unfold shrts at h
    obtain ⟨a, b, c⟩ := shrt_ok d h.1
    obtain ⟨a', b', c'⟩ := shrts_ok ds h.2
    unfold pys cnts
    refine ⟨?_, ?_, ?_⟩
    · unfold PyData.leavesShortAll; rw [a, a']; rfl
    · unfold PyData.showableAll; rw [b, b']; rfl
    · unfold PyData.bulkAll; rw [c, c']
end
theorem repr_fits {d : D} (h : shrt d) (hc : cnt d ≤ 10000) : (py d).showable = true ∧ fits (shownD d).length := by
  obtain ⟨a, b, c⟩ := shrt_ok d h
  refine ⟨b, fits_of ?_⟩
  have := PyData.shown_le_bulk 64 (by decide) (py d) a
  rw [c] at this
  have e : (64 + 2) * cnt d + 64 ≤ 1000000 := by omega
  exact Nat.le_trans this e
theorem shrts_map {α : Type} (f : α → D) {xs : List α} (h : ∀ x ∈ xs, shrt (f x)) : shrts (xs.map f) := by
  induction xs with
  | nil => unfold shrts; trivial
  | cons x r ih => rw [List.map_cons]; unfold shrts; exact ⟨h x List.mem_cons_self, ih fun y m => h y (List.mem_cons_of_mem _ m)⟩
theorem cnts_map {α : Type} (f : α → D) {xs : List α} (m : Nat) (h : ∀ x ∈ xs, cnt (f x) ≤ m) : cnts (xs.map f) ≤ (m + 1) * xs.length := by
  induction xs with
  | nil => exact Nat.zero_le _
  | cons x r ih =>
    rw [List.map_cons, List.length_cons]
    unfold cnts
    have h1 := h x List.mem_cons_self
    have h2 := ih fun y m => h y (List.mem_cons_of_mem _ m)
    rw [Nat.mul_add]
    omega
end Cr
set_option Elab.async false
set_option linter.all false
set_option maxRecDepth 100000
/-! Draws, canals, standings; what the laws' own defs promise. -/
namespace Cr
open PySem PySem.Spec PyProof.Rows L2

def bx (M : Nat) (d : D) : Prop := ∃ a b c : Int, d = .lst [.int a, .int b, .int c] ∧ 0 ≤ a ∧ b.natAbs < 2 ^ 200 ∧ 0 ≤ c ∧ c.toNat ≤ M
theorem bx_mono {M N : Nat} {d : D} (h : bx M d) (l : M ≤ N) : bx N d := let ⟨a, b, c, e, h1, h2, h3, h4⟩ := h; ⟨a, b, c, e, h1, h2, h3, Nat.le_trans h4 l⟩
theorem bx_full {M : Nat} {d : D} (h : bx M d) : full 1 d = true := by obtain ⟨a, b, c, rfl, _⟩ := h; rfl
def tkP (M : Nat) (n : Int) (d d' : D) : Prop := bx (M + 1) d' ∧ ∃ i : Int, d = .int i ∧ 0 ≤ i ∧ i < n
theorem tk_full {M : Nat} {n : Int} : ∀ d d', tkP M n d d' → full 9 d = true ∧ full 1 d' = true := fun d d' ⟨h, i, e, _⟩ => ⟨by rw [e]; rfl, bx_full h⟩
def rTake : RI := fun ds k P => ∃ M d0 n, ds = [d0, .int n] ∧ bx M d0 ∧ M ≤ 2 ^ 64 ∧ 0 < n ∧ n < 2 ^ 64 ∧ k = 9 ∧ P = tkP M n
def ofP (M : Nat) (xs : List D) (d d' : D) : Prop := bx (M + 1) d' ∧ d ∈ xs
def rOf : RI := fun ds k P => ∃ M d0 s kd xs, ds = [d0, s] ∧ bx M d0 ∧ M ≤ 2 ^ 64 ∧ seqD s = some (kd, xs) ∧ xs ≠ [] ∧ xs.length ≤ 1000000 ∧ (((∀ x ∈ xs, at9 x = true) ∧ k = 9) ∨ k = 0) ∧ P = ofP M xs
theorem Cl.noneI {P : Program} {w : World} {K : PySem.W.Frag} {mg : Str → Option Value} {base : Heap} {CX : CXT} {k n m : Nat} {x : Str} {st : Stmt} {ps : List Str} {R : RI} (h : Known K mg x st ps) (hR : ∀ ds k P, ¬ R ds k P) : Cl P w K mg base CX k x st ps (spI K n m R) := by
  obtain ⟨f, fd, F, hm, hb⟩ := h
  exact ⟨f, fd, F, ⟨fun vs H Q E ⟨_, _, _, _, _, _, _, _, _, _, _, _, _, _, r, _⟩ => (hR _ _ _ r).elim, fun A outer s H args us vs Q E _ _ _ _ ⟨_, _, _, _, _, _, _, _, _, _, _, _, _, _, r, _⟩ => (hR _ _ _ r).elim⟩, hm, hb⟩
theorem md_or (d : D) : (md d = 9 ∧ at9 d = true) ∨ (md d = 0 ∧ at9 d = false) := by
  cases h : at9 d with
  | true => exact .inl ⟨md_at h, rfl⟩
  | false => exact .inr ⟨md_no h, rfl⟩
theorem at9s_mem {xs : List D} {x : D} (h : at9s xs = true) (m : x ∈ xs) : at9 x = true := by
  obtain ⟨i, hi⟩ := List.getElem?_of_mem m
  exact at9s_get h hi
theorem go_take {i k0 : Nat} {M : Nat} {d0 : D} {n : Int} {r : List Item} {e : Env} {Q : Item → Env → Prop} (he : e[i]? = some (some (k0, d0))) (hv : wVals r (e.set i none) = some [.int n]) (hk : 1 ≤ k0) (hb : bx M d0) (hM : M ≤ 2 ^ 64) (h1 : 0 < n) (h2 : n < 2 ^ 64)
    (hq : ∀ (j : Int) (d1 : D), 0 ≤ j → j < n → bx (M + 1) d1 → Q (.t 9 (.int j)) (e.set i (some (1, d1)))) : ChgW 2 1 rTake (.w i :: r) e Q := by
  refine ⟨?_⟩
  unfold wChg
  simp only [he]
  exact ⟨_, _, _, hv, rfl, okM_le hk, ⟨M, _, _, rfl, hb, hM, h1, h2, rfl, rfl⟩, .inl ⟨tk_full, fun d d1 ⟨q1, j, q2, q3, q4⟩ => by (subst q2; exact hq j d1 q3 q4 q1)⟩⟩
theorem go_of {i k0 : Nat} {M : Nat} {d0 s : D} {kd : Kd} {xs : List D} {r : List Item} {e : Env} {Q : Item → Env → Prop} (he : e[i]? = some (some (k0, d0))) (hv : wVals r (e.set i none) = some [s]) (hs : seqD s = some (kd, xs)) (hk : 1 ≤ k0) (hb : bx M d0) (hM : M ≤ 2 ^ 64) (h1 : xs ≠ []) (h2 : xs.length ≤ 1000000) (h3 : ∀ x ∈ xs, at9 x = true)
    (hq : ∀ (d d1 : D), d ∈ xs → bx (M + 1) d1 → Q (.t 9 d) (e.set i (some (1, d1)))) : ChgW 2 1 rOf (.w i :: r) e Q := by
  refine ⟨?_⟩
  unfold wChg
  simp only [he]
  exact ⟨_, _, _, hv, rfl, okM_le hk, ⟨M, _, _, kd, xs, rfl, hb, hM, hs, h1, h2, .inl ⟨h3, rfl⟩, rfl⟩, .inl ⟨fun d d1 hp => ⟨full_at9 _ _ (h3 d hp.2), bx_full hp.1⟩, fun d d1 hp => hq d d1 hp.2 hp.1⟩⟩
theorem go_of0 {i k0 : Nat} {M : Nat} {d0 s : D} {kd : Kd} {xs : List D} {r : List Item} {e : Env} {Q : Item → Env → Prop} (he : e[i]? = some (some (k0, d0))) (hv : wVals r (e.set i none) = some [s]) (hs : seqD s = some (kd, xs)) (hk : 1 ≤ k0) (hb : bx M d0) (hM : M ≤ 2 ^ 64) (h1 : xs ≠ []) (h2 : xs.length ≤ 1000000)
    (hq : wGives r e fun _ e' => e'[i]? = some (some (k0, d0)) ∧ ∀ (d d1 : D), d ∈ xs → bx (M + 1) d1 → Q (.t 0 d) (e'.set i (some (1, d1)))) : ChgW 2 1 rOf (.w i :: r) e Q := by
  refine ⟨?_⟩
  unfold wChg
  simp only [he]
  exact ⟨_, _, _, hv, rfl, okM_le hk, ⟨M, _, _, kd, xs, rfl, hb, hM, hs, h1, h2, .inr rfl, rfl⟩, .inr (wGives_mono (fun _ _ h => ⟨h.1, fun d d1 hp => h.2 d d1 hp.2 hp.1⟩) hq)⟩
def lkT (l : Int × Int × Int × Int) : D := .tup [.int l.1, .int l.2.1, .int l.2.2.1, .int l.2.2.2]
def lkL (l : Int × Int × Int × Int) : D := .lst [.int l.1, .int l.2.1, .int l.2.2.1, .int l.2.2.2]
structure Cnl where
  r : Int
  b : Int
  ls : List (Int × Int × Int × Int)
def cT (c : Cnl) : D := .tup [.int c.r, .int c.b, .tup (c.ls.map lkT)]
def cL (c : Cnl) : D := .lst [.int c.r, .int c.b, .lst (c.ls.map lkL)]
def xl (l : Int × Int × Int × Int) : Int × Int × Int × Int := (l.2.2.1, l.2.2.2, l.1, l.2.1)
def xch (c : Cnl) : Cnl := ⟨c.b, c.r, c.ls.map xl⟩
theorem at9s_map {α : Type} (f : α → D) (h : ∀ x, at9 (f x) = true) : ∀ xs : List α, at9s (xs.map f) = true
  | [] => rfl
  | x :: r => by show (at9 (f x) && at9s (r.map f)) = true; rw [h x, at9s_map f h r]; rfl
def sh (r b : Int) (l : Int × Int × Int × Int) : Int × Int × Int × Int := (l.1 + r, l.2.1 + r, l.2.2.1 + b, l.2.2.2 + b)
def tog (c e : Cnl) : Cnl := ⟨c.r + e.r, c.b + e.b, c.ls ++ e.ls.map (sh c.r c.b)⟩
theorem at9_lkT (ls : List (Int × Int × Int × Int)) : at9s (ls.map lkT) = true := at9s_map _ (fun _ => rfl) ls
theorem at9_lkX (ls : List (Int × Int × Int × Int)) : at9s (ls.map fun l => lkT (xl l)) = true := at9s_map _ (fun _ => rfl) ls
theorem at9_lkS (r b : Int) (ls : List (Int × Int × Int × Int)) : at9s (ls.map fun l => lkT (sh r b l)) = true := at9s_map _ (fun _ => rfl) ls
theorem at9_int (ls : List Int) : at9s (ls.map D.int) = true := at9s_map _ (fun _ => rfl) ls
structure Stn where
  r : List Int
  b : List Int
  l : List Int
def sT (s : Stn) : D := .tup [.tup (s.r.map D.int), .tup (s.b.map D.int), .tup (s.l.map D.int)]
def sL (s : Stn) : D := .lst [.lst (s.r.map D.int), .lst (s.b.map D.int), .lst (s.l.map D.int)]
def xchS (s : Stn) : Stn := ⟨s.b, s.r, s.l⟩
theorem at9_sT (s : Stn) : at9 (sT s) = true := by
  show (at9s (s.r.map D.int) && (at9s (s.b.map D.int) && (at9s (s.l.map D.int) && true))) = true
  rw [at9_int, at9_int, at9_int]; rfl
theorem at9_intt (ls : List Int) : at9 (.tup (ls.map D.int)) = true := at9_int ls
def sm (e : Nat) (i : Int) : Prop := i.natAbs < 2 ^ e
theorem sm_lg {e : Nat} {i : Int} (h : sm e i) (he : 0 < e) : i.natAbs.log2 < e := lg_lt h he
theorem sm_mono {e f : Nat} {i : Int} (h : sm e i) (l : e ≤ f) : sm f i := Nat.lt_of_lt_of_le h (Nat.pow_le_pow_right (by decide) l)
theorem sm_add {e : Nat} {i j : Int} (h : sm e i) (k : sm e j) : sm (e + 1) (i + j) := by
  unfold sm at *
  rw [Nat.pow_succ]
  have := Int.natAbs_add_le i j
  omega
theorem sm_mul {e f : Nat} {i j : Int} (h : sm e i) (k : sm f j) : sm (e + f) (i * j) := by
  unfold sm at *
  rw [Int.natAbs_mul, Nat.pow_add]
  exact Nat.mul_lt_mul'' h k
theorem cut_head (f : Int → D) (ns : List Int) (u : Nat) : cutL (ns.map f) none (some (u : Int)) = (ns.take u).map f := by
  unfold cutL
  rw [HT.sIx_none, HT.sIx_nat, List.drop_zero, Nat.sub_zero, List.length_map, List.map_take]
  rcases Nat.le_total u ns.length with h | h
  · rw [Nat.min_eq_left h]
  · rw [Nat.min_eq_right h, List.take_of_length_le (by rw [List.length_map]; exact Nat.le_refl _), List.take_of_length_le (by rw [List.length_map]; exact h)]
theorem cut_rest (f : Int → D) (ns : List Int) (u : Nat) (h : ns.length ≤ 63) (hu : u ≤ 63) : cutL (ns.map f) (some (u : Int)) (some 63) = (ns.drop u).map f := by
  rw [show (63 : Int) = ((63 : Nat) : Int) from rfl]
  unfold cutL
  rw [HT.sIx_nat, HT.sIx_nat, List.length_map, Nat.min_eq_right h, List.map_drop]
  rcases Nat.le_total u ns.length with q | q
  · rw [Nat.min_eq_left q, List.take_of_length_le (by rw [List.length_drop, List.length_map]; exact Nat.le_refl _)]
  · rw [Nat.min_eq_right q, List.drop_of_length_le (by rw [List.length_map]; exact Nat.le_refl _), List.drop_of_length_le (by rw [List.length_map]; exact q)]
    simp
theorem enum_inv {ns : List Int} {i : Nat} {d : D} (h : (enumD 0 (ns.map D.int))[i]? = some d) : ∃ z, ns[i]? = some z ∧ d = .tup [.int (i : Nat), .int z] := by
  have l : i < ns.length := by
    have := (List.getElem?_eq_some_iff.mp h).1
    rw [enumD_len, List.length_map] at this
    exact this
  have e := enumD_get (k := 0) (xs := ns.map D.int) (i := i) (x := .int ns[i]) (by rw [List.getElem?_map, List.getElem?_eq_getElem l]; rfl)
  rw [h, Nat.zero_add] at e
  exact ⟨ns[i], List.getElem?_eq_getElem l, Option.some.inj e⟩
theorem md_fl (ns : List Int) : md (.fl (ns.map D.int)) = 9 := by
  unfold md
  rw [show at9 (.fl (ns.map D.int)) = true from at9_int ns]; rfl
theorem at9_fl (ns : List Int) : at9 (.fl (ns.map D.int)) = true := at9_int ns
def clP (u : Nat) (d : D) : Prop := ∃ cs : List Int, d = .lst (cs.map D.int) ∧ 0 < cs.length ∧ cs.length ≤ u ∧ ∀ c ∈ cs, sm 1100000 c
def rCells : RB := fun ds k P => ∃ (ns : List Int) (u : Nat), ds = [.fl (ns.map D.int), .int u] ∧ 1 ≤ u ∧ u ≤ 63 ∧ ns.length ≤ 63 ∧ (∀ z ∈ ns, sm 1048576 z) ∧ k = 1 ∧ P = clP u
def cInv (ns : List Int) (u i : Nat) (env : Env) : Prop := ∃ (cs : List Int) (e3 e4 : Slot), env = [some (9, .fl (ns.map D.int)), some (9, .int u), some (10, .lst (cs.map D.int)), e3, e4] ∧ 0 < cs.length ∧ cs.length ≤ u ∧ (u < ns.length → cs.length = u) ∧ ∀ c ∈ cs, sm (1048600 + i) c
def rBox : RB := fun ds k P => ∃ (cs : List Int) (j : Nat) (c : Int), cs[j]? = some c ∧ ds = [.lst (cs.map D.int), .int j] ∧ j ≤ 10 ∧ sm 2000000 c ∧ k = 1 ∧ P = bx 0
theorem atI_map_nat {α : Type} (f : α → D) {cs : List α} {j : Nat} {c : α} (h : cs[j]? = some c) : atI (cs.map f) (j : Int) = some (f c) := by
  exact L2.atI_nat (by rw [List.getElem?_map, h]; rfl)
mutual
def toL : D → D
  | .tup xs => .lst (toLs xs)
  | .lst xs => .lst (toLs xs)
  | d => d
def toLs : List D → List D
  | [] => []
  | d :: ds => toL d :: toLs ds
end
theorem toLs_map : ∀ ds : List D, toLs ds = ds.map toL
  | [] => rfl
  | d :: ds => by unfold toLs; rw [toLs_map ds]; rfl
mutual
def okd : D → Prop
  | .tup xs => xs.length ≤ 100000 ∧ okds xs
  | .lst xs => xs.length ≤ 100000 ∧ okds xs
  | .fl _ => False
  | _ => True
def okds : List D → Prop
  | [] => True
  | d :: ds => okd d ∧ okds ds
end
theorem okds_mem : ∀ {ds : List D} {d : D}, okds ds → d ∈ ds → okd d
  | x :: r, d, h, m => by
    unfold okds at h
    rcases List.mem_cons.mp m with e | m
    · rw [e]; exact h.1
    · exact okds_mem h.2 m
theorem deps_mem : ∀ {ds : List D} {d : D}, d ∈ ds → dep d ≤ deps ds
  | x :: r, d, m => by
    unfold deps
    rcases List.mem_cons.mp m with e | m
    · rw [e]; exact Nat.le_max_left _ _
    · exact Nat.le_trans (deps_mem m) (Nat.le_max_right _ _)
mutual
theorem full_toL : ∀ (d : D) (k : Nat), dep d ≤ k → okd d → full k (toL d) = true
  | .non, _, _, _ => by unfold toL full; rfl
  | .bl _, _, _, _ => by unfold toL full; rfl
  | .int _, _, _, _ => by unfold toL full; rfl
  | .str _, _, _, _ => by unfold toL full; rfl
  | .fl _, _, _, h => by unfold okd at h; exact h.elim
  | .tup xs, k, hd, h => by
    unfold okd at h
    unfold dep at hd
    unfold toL full
    cases k with
    | zero => omega
    | succ k => exact fulls_toLs xs k (by omega) h.2
  | .lst xs, k, hd, h => by
    unfold okd at h
    unfold dep at hd
    unfold toL full
    cases k with
    | zero => omega
    | succ k => exact fulls_toLs xs k (by omega) h.2
theorem fulls_toLs : ∀ (ds : List D) (k : Nat), deps ds ≤ k → okds ds → fulls k (toLs ds) = true
  | [], _, _, _ => by unfold toLs fulls; rfl
  | d :: ds, k, hd, h => by
    unfold okds at h
    unfold deps at hd
    unfold toLs fulls
    rw [full_toL d k (Nat.le_trans (Nat.le_max_left _ _) hd) h.1, fulls_toLs ds k (Nat.le_trans (Nat.le_max_right _ _) hd) h.2]
    rfl
end
def rLists (n : Nat) : RB := fun ds k P => ∃ d, ds = [d] ∧ dep d < n ∧ okd d ∧ k = n ∧ P = fun e => e = toL d
theorem zipD_self : ∀ xs : List D, zipD xs xs = xs.map fun x => .tup [x, x]
  | [] => rfl
  | x :: r => by unfold zipD; rw [zipD_self r]; rfl
theorem deq_int (n : Int) : deq (.int n) (.int n) = true := by unfold deq py; simp [PyData.eqv]
theorem deq_int2 (n m : Int) : deq (.int n) (.int m) = decide (n = m) := by
  unfold deq py
  simp only [PyData.eqv]
  rw [Bool.eq_iff_iff, beq_iff_eq, decide_eq_true_iff]
theorem deq_str (x : Str) : deq (.str x) (.str x) = true := by unfold deq py; simp [PyData.eqv]
theorem deq_bl (b : Bool) : deq (.bl b) (.bl b) = true := by cases b <;> rfl
theorem all_bl (xs : List D) : (xs.map fun _ => D.bl true).all tru = true := by
  induction xs with
  | nil => rfl
  | cons x r ih => rw [List.map_cons, List.all_cons, ih]; rfl
def rSame (n : Nat) : RB := fun ds k P => ∃ d, ds = [d, d] ∧ dep d < n ∧ okd d ∧ k = 9 ∧ P = fun e => e = .bl true
def okl (r b : Int) (l : Int × Int × Int × Int) : Prop := (0 ≤ l.1 ∧ l.1 < r) ∧ (0 ≤ l.2.1 ∧ l.2.1 < r) ∧ (0 ≤ l.2.2.1 ∧ l.2.2.1 < b) ∧ (0 ≤ l.2.2.2 ∧ l.2.2.2 < b)
structure Okc (w : Int) (u : Nat) (c : Cnl) : Prop where
  r : 1 ≤ c.r ∧ c.r ≤ w
  b : 1 ≤ c.b ∧ c.b ≤ w
  n : c.ls.length ≤ u
  l : ∀ l ∈ c.ls, okl c.r c.b l
theorem lt_line {n : Nat} (h : n < 1000000) : n < sizeLine := Nat.lt_of_lt_of_le h (by decide)
theorem atI_last {gs : List (Int × Int × Int × Int)} (h : gs ≠ []) : ∃ l ∈ gs, atI (gs.map lkT) (-1) = some (lkT l) := by
  refine ⟨gs.getLast h, List.getLast_mem h, ?_⟩
  have hp : 0 < gs.length := List.length_pos_iff.mpr h
  unfold atI ixN
  rw [if_neg (by omega), if_pos (by rw [List.length_map]; omega)]
  have e : ((-1 : Int) + ((gs.map lkT).length : Int)).toNat = gs.length - 1 := by rw [List.length_map]; omega
  rw [e]
  show (gs.map lkT)[gs.length - 1]? = _
  rw [List.getElem?_map, ← List.getLast?_eq_getElem?, List.getLast?_eq_getLast h]
  rfl
def dnI (M : Nat) (w : Int) (u : Nat) (r b kd ii : Int) (k3 : Nat) (gs : List (Int × Int × Int × Int)) (e7 e8 : Slot) (i k : Nat) (acc : List D) (env : Env) : Prop := 9 ≤ k ∧ ∃ (d' : D) (js : List Int), env = [some (1, d'), some (9, .int w), some (9, .int u), some (k3, .lst [.int r, .int b]), some (9, .int kd), some (10, .lst (gs.map lkT)), some (9, .int ii), e7, e8, none] ∧
  bx (M + i) d' ∧ acc = js.map D.int ∧ js.length = i ∧ ∀ (t : Nat) (j : Int), js[t]? = some j → ∃ lim : Int, [r, r, b, b][t]? = some lim ∧ 0 ≤ j ∧ j < lim
theorem four {js : List Int} {r b : Int} (hl : js.length = 4) (h : ∀ (t : Nat) (j : Int), js[t]? = some j → ∃ lim : Int, [r, r, b, b][t]? = some lim ∧ 0 ≤ j ∧ j < lim) : ∃ a c x y, js = [a, c, x, y] ∧ okl r b (a, c, x, y) := by
  match js, hl with
  | [a, c, x, y], _ =>
    obtain ⟨l1, e1, f1⟩ := h 0 a rfl
    obtain ⟨l2, e2, f2⟩ := h 1 c rfl
    obtain ⟨l3, e3, f3⟩ := h 2 x rfl
    obtain ⟨l4, e4, f4⟩ := h 3 y rfl
    cases e1; cases e2; cases e3; cases e4
    exact ⟨a, c, x, y, rfl, f1, f2, f3, f4⟩
def cnP (M : Nat) (w : Int) (u : Nat) (d d' : D) : Prop := bx (M + 1000) d' ∧ ∃ c, d = cT c ∧ Okc w u c
def rCanal : RI := fun ds k P => ∃ (M : Nat) (d0 : D) (w : Int) (u : Nat), ds = [d0, .int w, .int u] ∧ bx M d0 ∧ M ≤ 2 ^ 60 ∧ 1 ≤ w ∧ w ≤ 100 ∧ u ≤ 100 ∧ k = 9 ∧ P = cnP M w u
def cnI (M : Nat) (w : Int) (u : Nat) (r b kd : Int) (k3 : Nat) (i : Nat) (env : Env) : Prop := ∃ (d' : D) (gs : List (Int × Int × Int × Int)) (e6 e7 e8 e9 : Slot), env = [some (1, d'), some (9, .int w), some (9, .int u), some (k3, .lst [.int r, .int b]), some (9, .int kd), some (10, .lst (gs.map lkT)), e6, e7, e8, e9] ∧
  bx (M + 4 + 5 * i) d' ∧ gs.length = i ∧ ∀ l ∈ gs, okl r b l
theorem at9_c3 (c : Cnl) : at9s [.int c.r, .int c.b, .tup (c.ls.map lkT)] = true := by
  show (true && (true && (at9s (c.ls.map lkT) && true))) = true
  rw [at9_lkT]; rfl
def lyP (M : Nat) (c : Cnl) (mo : Int) (d d' : D) : Prop := bx (M + 1000) d' ∧ ∃ s : Stn, d = sT s ∧ (s.r.length : Int) = c.r ∧ (s.b.length : Int) = c.b ∧ s.l.length = c.ls.length ∧ (∀ x ∈ s.r, 0 ≤ x ∧ x ≤ mo + 1) ∧ (∀ x ∈ s.b, 0 ≤ x ∧ x ≤ mo + 1) ∧ ∀ x ∈ s.l, 0 ≤ x ∧ x < 2
def rLying : RI := fun ds k P => ∃ (M : Nat) (d0 : D) (c : Cnl) (mo : Int), ds = [d0, cT c, .int mo] ∧ bx M d0 ∧ M ≤ 2 ^ 60 ∧ Okc 100 100 c ∧ 0 ≤ mo ∧ mo ≤ 2 ^ 60 ∧ k = 9 ∧ P = lyP M c mo
def lyO (M : Nat) (c : Cnl) (mo : Int) (i k : Nat) (acc : List D) (env : Env) : Prop := k = 9 ∧ ∃ (d' : D) (bs : List (List Int)), env = [some (1, d'), some (9, cT c), some (9, .int mo), none, none, none, none] ∧ bx (M + 200 * i) d' ∧ acc = bs.map (fun b => .lst (b.map D.int)) ∧ bs.length = i ∧
  ∀ (t : Nat) (b : List Int), bs[t]? = some b → (∃ sz : Int, [c.r, c.b][t]? = some sz ∧ (b.length : Int) = sz) ∧ ∀ x ∈ b, 0 ≤ x ∧ x ≤ mo + 1
def lyI (M : Nat) (c : Cnl) (mo sz : Int) (i k : Nat) (acc : List D) (env : Env) : Prop := 9 ≤ k ∧ ∃ (d' : D) (js : List Int), env = [some (1, d'), some (9, cT c), some (9, .int mo), none, some (9, .int sz), none, none] ∧ bx (M + 2 * i) d' ∧ acc = js.map D.int ∧ js.length = i ∧ ∀ x ∈ js, 0 ≤ x ∧ x ≤ mo + 1
theorem rangeD_len (n : Nat) : (rangeD 0 n).length = n := by unfold rangeD; rw [List.length_map, List.length_range]
def lyT (M : Nat) (c : Cnl) (mo : Int) (e3 : Slot) (i k : Nat) (acc : List D) (env : Env) : Prop := 9 ≤ k ∧ ∃ (d' : D) (js : List Int), env = [some (1, d'), some (9, cT c), some (9, .int mo), e3, none, none, none] ∧ bx (M + i) d' ∧ acc = js.map D.int ∧ js.length = i ∧ ∀ x ∈ js, 0 ≤ x ∧ x < 2
def riP (M : Nat) (d d' : D) : Prop := bx (M + 10000) d' ∧ d = .bl true
theorem full_ints (cs : List Int) : full 1 (.lst (cs.map D.int)) = true := by
  show fulls 0 (cs.map D.int) = true
  exact fulls_at9 _ 0 (at9_int cs)
def rRight : RI := fun ds k P => ∃ (M : Nat) (d0 : D), ds = [d0] ∧ bx M d0 ∧ M ≤ 2 ^ 40 ∧ k = 9 ∧ P = riP M
theorem sm_bits {z : Int} (h : Builtin.Int.intBits z ≤ 1048576) : sm 1048576 z := by
  refine sm_mono (e := Builtin.Int.intBits z) ?_ h
  unfold sm Builtin.Int.intBits
  by_cases e : z = 0
  · subst e; decide
  · rw [if_neg (by simpa using e)]
    exact Nat.lt_log2_self
def riI (M : Nat) (i k : Nat) (acc : List D) (env : Env) : Prop := 9 ≤ k ∧ ∃ (d' : D) (cs : List Cnl), env = [some (1, d'), none, none, none, none, none, none, none, none] ∧ bx (M + 1000 * i) d' ∧ acc = cs.map cT ∧ cs.length = i ∧ ∀ c ∈ cs, Okc 4 5 c
def laO (ns cs : List Int) (i : Nat) (env : Env) : Prop := ∃ e2 e3 : Slot, env = [some (9, .fl (ns.map D.int)), some (1, .lst (cs.map D.int)), e2, e3, none]
def laI (ns cs : List Int) (e2 : Slot) (i k : Nat) (acc : List D) (env : Env) : Prop := 9 ≤ k ∧ ∃ d' : D, env = [some (9, .fl (ns.map D.int)), some (1, .lst (cs.map D.int)), e2, some (1, d'), none] ∧ bx (10000 * i) d' ∧ acc.length = i ∧ ∀ x ∈ acc, x = .bl true
theorem all_of {xs : List D} (h : ∀ x ∈ xs, x = .bl true) : xs.all tru = true := by
  rw [List.all_eq_true]
  intro x hx
  rw [h x hx]; rfl
def rCro : RB := fun ds k P => ∃ c : Cnl, ds = [cT c] ∧ c.ls.length ≤ 100000 ∧ k = 9 ∧ P = fun d => d = cT (xch c)
def rBes : RB := fun ds k P => ∃ c e : Cnl, ds = [cT c, cT e] ∧ c.ls.length ≤ 100000 ∧ e.ls.length ≤ 100000 ∧ k = 9 ∧ P = fun d => d = cT (tog c e)
def rExS : RB := fun ds k P => ∃ s : Stn, (ds = [sT s] ∨ ds = [sL s]) ∧ k = 9 ∧ P = fun d => d = sT (xchS s)
def rTog : RB := fun ds k P => ∃ c e : Cnl, (ds = [cT c, cT e] ∨ ds = [cL c, cL e]) ∧ c.ls.length ≤ 100000 ∧ e.ls.length ≤ 100000 ∧ k = 9 ∧ P = fun d => d = cT (tog c e)
theorem at9_app {xs ys : List D} (h : at9s xs = true) (k : at9s ys = true) : at9s (xs ++ ys) = true := by
  induction xs with
  | nil => exact k
  | cons x r ih =>
    rw [List.cons_append]
    unfold at9s at h ⊢
    rw [Bool.and_eq_true] at h
    rw [h.1, ih h.2]; rfl
theorem at9_tog (r b : Int) (xs ys : List (Int × Int × Int × Int)) : at9s (xs.map lkT ++ ys.map fun l => lkT (sh r b l)) = true := at9_app (at9_lkT xs) (at9_lkS r b ys)
theorem at9_cT (c : Cnl) : at9 (cT c) = true := by
  show (true && (true && (at9s (c.ls.map lkT) && true))) = true
  rw [at9_lkT]; rfl
theorem md_cT (c : Cnl) : md (cT c) = 9 := by unfold md; rw [at9_cT]; rfl
theorem at9_lkTt (ls : List (Int × Int × Int × Int)) : at9 (.tup (ls.map lkT)) = true := at9_lkT ls
def rEx : RB := fun ds k P => ∃ c : Cnl, (ds = [cT c] ∨ ds = [cL c]) ∧ c.ls.length ≤ 100000 ∧ k = 9 ∧ P = fun d => d = cT (xch c)
theorem xl_xl (l : Int × Int × Int × Int) : xl (xl l) = l := rfl
theorem xch_xch (c : Cnl) : xch (xch c) = c := by
  cases c with
  | mk r b ls =>
    unfold xch
    simp only [List.map_map]
    congr 1
    exact (List.map_congr_left fun l _ => xl_xl l).trans (List.map_id' ls)
theorem xchS_xchS (s : Stn) : xchS (xchS s) = s := rfl
theorem sh_sh (r b r' b' : Int) (l : Int × Int × Int × Int) : sh r b (sh r' b' l) = sh (r + r') (b + b') l := by
  obtain ⟨x, y, z, u⟩ := l
  show (x + r' + r, y + r' + r, z + b' + b, u + b' + b) = (x + (r + r'), y + (r + r'), z + (b + b'), u + (b + b'))
  rw [show x + r' + r = x + (r + r') by omega, show y + r' + r = y + (r + r') by omega, show z + b' + b = z + (b + b') by omega, show u + b' + b = u + (b + b') by omega]
theorem tog_assoc (c e f : Cnl) : tog (tog c e) f = tog c (tog e f) := by
  unfold tog
  simp only [List.map_append, List.map_map, List.append_assoc, Int.add_assoc]
  congr 3
  exact List.map_congr_left fun l _ => (sh_sh c.r c.b e.r e.b l).symm
theorem toL_lkT (l : Int × Int × Int × Int) : toL (lkT l) = lkL l := rfl
theorem toL_cT (c : Cnl) : toL (cT c) = cL c := by
  unfold cT toL
  unfold toLs toLs toLs toLs
  rw [show toL (.tup (c.ls.map lkT)) = .lst (toLs (c.ls.map lkT)) from by rw [toL], toLs_map, List.map_map]
  rfl
theorem toLs_int (xs : List Int) : toLs (xs.map D.int) = xs.map D.int := by
  rw [toLs_map, List.map_map]; rfl
theorem toL_sT (s : Stn) : toL (sT s) = sL s := by
  unfold sT sL toL
  unfold toLs toLs toLs toLs
  simp only [toL, toLs_int]
theorem okds_map {α : Type} (f : α → D) {xs : List α} (h : ∀ x ∈ xs, okd (f x)) : okds (xs.map f) := by
  induction xs with
  | nil => rw [List.map_nil]; unfold okds; trivial
  | cons x r ih => rw [List.map_cons]; unfold okds; exact ⟨h x List.mem_cons_self, ih fun y m => h y (List.mem_cons_of_mem _ m)⟩
theorem deps_map {α : Type} (f : α → D) {xs : List α} (n : Nat) (h : ∀ x ∈ xs, dep (f x) ≤ n) : deps (xs.map f) ≤ n := by
  induction xs with
  | nil => exact Nat.zero_le _
  | cons x r ih => rw [List.map_cons]; unfold deps; exact Nat.max_le.mpr ⟨h x List.mem_cons_self, ih fun y m => h y (List.mem_cons_of_mem _ m)⟩
theorem okd_int (i : Int) : okd (.int i) := by unfold okd; trivial
theorem dep_int (i : Int) : dep (.int i) = 0 := by unfold dep; rfl
theorem okd_lkT (l : Int × Int × Int × Int) : okd (lkT l) := by
  unfold lkT okd
  exact ⟨Nat.le_of_ble_eq_true rfl, by simp [okds, okd]⟩
theorem dep_lkT (l : Int × Int × Int × Int) : dep (lkT l) = 1 := by
  unfold lkT
  simp [dep, deps]
theorem okd_cT {c : Cnl} (h : c.ls.length ≤ 100000) : okd (cT c) := by
  unfold cT okd
  refine ⟨Nat.le_of_ble_eq_true rfl, ?_⟩
  simp only [okds, okd, true_and, and_true, List.length_map]
  exact ⟨h, okds_map _ fun l _ => okd_lkT l⟩
theorem dep_cT (c : Cnl) : dep (cT c) ≤ 3 := by
  have := deps_map lkT (xs := c.ls) 1 fun l _ => Nat.le_of_eq (dep_lkT l)
  unfold cT
  simp only [dep, deps]
  omega
theorem okd_sT {s : Stn} (h1 : s.r.length ≤ 100000) (h2 : s.b.length ≤ 100000) (h3 : s.l.length ≤ 100000) : okd (sT s) := by
  unfold sT okd
  refine ⟨Nat.le_of_ble_eq_true rfl, ?_⟩
  simp only [okds, okd, and_true, List.length_map]
  exact ⟨⟨h1, okds_map _ fun l _ => okd_int l⟩, ⟨h2, okds_map _ fun l _ => okd_int l⟩, h3, okds_map _ fun l _ => okd_int l⟩
theorem dep_sT (s : Stn) : dep (sT s) ≤ 2 := by
  have a := deps_map D.int (xs := s.r) 0 fun l _ => Nat.le_of_eq (dep_int l)
  have b := deps_map D.int (xs := s.b) 0 fun l _ => Nat.le_of_eq (dep_int l)
  have c := deps_map D.int (xs := s.l) 0 fun l _ => Nat.le_of_eq (dep_int l)
  unfold sT
  simp only [dep, deps]
  omega
theorem shrt_int {i : Int} (h : i.natAbs < 2 ^ 62) : shrt (.int i) := by unfold shrt; exact h
theorem shrt_sT {s : Stn} (h1 : ∀ x ∈ s.r, x.natAbs < 2 ^ 62) (h2 : ∀ x ∈ s.b, x.natAbs < 2 ^ 62) (h3 : ∀ x ∈ s.l, x.natAbs < 2 ^ 62) : shrt (sT s) := by
  unfold sT shrt
  simp only [shrts, shrt, and_true]
  exact ⟨shrts_map _ fun x m => shrt_int (h1 x m), shrts_map _ fun x m => shrt_int (h2 x m), shrts_map _ fun x m => shrt_int (h3 x m)⟩
theorem shrt_cT {c : Cnl} (h1 : c.r.natAbs < 2 ^ 62) (h2 : c.b.natAbs < 2 ^ 62) (h3 : ∀ l ∈ c.ls, shrt (lkT l)) : shrt (cT c) := by
  unfold cT shrt
  simp only [shrts, shrt, and_true]
  exact ⟨h1, h2, shrts_map _ h3⟩
theorem cnt_lkT (l : Int × Int × Int × Int) : cnt (lkT l) = 4 := by
  unfold lkT
  simp [cnt, cnts]
theorem cnt_cT (c : Cnl) : cnt (cT c) ≤ 5 * c.ls.length + 3 := by
  have := cnts_map lkT (xs := c.ls) 4 fun l _ => Nat.le_of_eq (cnt_lkT l)
  unfold cT
  simp only [cnt, cnts]
  omega
theorem cnt_sT (s : Stn) : cnt (sT s) ≤ s.r.length + s.b.length + s.l.length + 3 := by
  have a := cnts_map D.int (xs := s.r) 0 fun l _ => by unfold cnt; exact Nat.le_refl _
  have b := cnts_map D.int (xs := s.b) 0 fun l _ => by unfold cnt; exact Nat.le_refl _
  have c := cnts_map D.int (xs := s.l) 0 fun l _ => by unfold cnt; exact Nat.le_refl _
  unfold sT
  simp only [cnt, cnts]
  omega
theorem go_rEx1 {gD : List D → List D} {is : List Item} {e : Env} {Q : Item → Env → Prop} {c : Cnl} (hv : (wVals is e).map gD = some [cT c]) (hq : Q (.t 9 (cT (xch c))) e) (h1 : c.ls.length ≤ 100000) : LookW 1 gD rEx is e Q := by
  obtain ⟨ds, hds, e1⟩ := Option.map_eq_some_iff.mp hv
  refine ⟨ds, 9, fun d => d = cT (xch c), hds, by rw [e1]; rfl, by (rw [e1]; exact ⟨c, .inl rfl, h1, rfl, rfl⟩), .inl ⟨fun d hd => by (rw [hd]; exact full_at9 _ 9 (at9_cT _)), fun d hd => by (rw [hd]; exact hq)⟩⟩
theorem go_rEx2 {gD : List D → List D} {is : List Item} {e : Env} {Q : Item → Env → Prop} {c : Cnl} (hv : (wVals is e).map gD = some [cL c]) (hq : Q (.t 9 (cT (xch c))) e) (h1 : c.ls.length ≤ 100000) : LookW 1 gD rEx is e Q := by
  obtain ⟨ds, hds, e1⟩ := Option.map_eq_some_iff.mp hv
  refine ⟨ds, 9, fun d => d = cT (xch c), hds, by rw [e1]; rfl, by (rw [e1]; exact ⟨c, .inr rfl, h1, rfl, rfl⟩), .inl ⟨fun d hd => by (rw [hd]; exact full_at9 _ 9 (at9_cT _)), fun d hd => by (rw [hd]; exact hq)⟩⟩
theorem go_rExS1 {gD : List D → List D} {is : List Item} {e : Env} {Q : Item → Env → Prop} {s : Stn} (hv : (wVals is e).map gD = some [sT s]) (hq : Q (.t 9 (sT (xchS s))) e)  : LookW 1 gD rExS is e Q := by
  obtain ⟨ds, hds, e1⟩ := Option.map_eq_some_iff.mp hv
  refine ⟨ds, 9, fun d => d = sT (xchS s), hds, by rw [e1]; rfl, by (rw [e1]; exact ⟨s, .inl rfl, rfl, rfl⟩), .inl ⟨fun d hd => by (rw [hd]; exact full_at9 _ 9 (at9_sT _)), fun d hd => by (rw [hd]; exact hq)⟩⟩
theorem go_rExS2 {gD : List D → List D} {is : List Item} {e : Env} {Q : Item → Env → Prop} {s : Stn} (hv : (wVals is e).map gD = some [sL s]) (hq : Q (.t 9 (sT (xchS s))) e)  : LookW 1 gD rExS is e Q := by
  obtain ⟨ds, hds, e1⟩ := Option.map_eq_some_iff.mp hv
  refine ⟨ds, 9, fun d => d = sT (xchS s), hds, by rw [e1]; rfl, by (rw [e1]; exact ⟨s, .inr rfl, rfl, rfl⟩), .inl ⟨fun d hd => by (rw [hd]; exact full_at9 _ 9 (at9_sT _)), fun d hd => by (rw [hd]; exact hq)⟩⟩
theorem go_rTog1 {gD : List D → List D} {is : List Item} {e : Env} {Q : Item → Env → Prop} {c c2 : Cnl} (hv : (wVals is e).map gD = some [cT c, cT c2]) (hq : Q (.t 9 (cT (tog c c2))) e) (h1 : c.ls.length ≤ 100000) (h2 : c2.ls.length ≤ 100000) : LookW 2 gD rTog is e Q := by
  obtain ⟨ds, hds, e1⟩ := Option.map_eq_some_iff.mp hv
  refine ⟨ds, 9, fun d => d = cT (tog c c2), hds, by rw [e1]; rfl, by (rw [e1]; exact ⟨c, c2, .inl rfl, h1, h2, rfl, rfl⟩), .inl ⟨fun d hd => by (rw [hd]; exact full_at9 _ 9 (at9_cT _)), fun d hd => by (rw [hd]; exact hq)⟩⟩
theorem go_rTog2 {gD : List D → List D} {is : List Item} {e : Env} {Q : Item → Env → Prop} {c c2 : Cnl} (hv : (wVals is e).map gD = some [cL c, cL c2]) (hq : Q (.t 9 (cT (tog c c2))) e) (h1 : c.ls.length ≤ 100000) (h2 : c2.ls.length ≤ 100000) : LookW 2 gD rTog is e Q := by
  obtain ⟨ds, hds, e1⟩ := Option.map_eq_some_iff.mp hv
  refine ⟨ds, 9, fun d => d = cT (tog c c2), hds, by rw [e1]; rfl, by (rw [e1]; exact ⟨c, c2, .inr rfl, h1, h2, rfl, rfl⟩), .inl ⟨fun d hd => by (rw [hd]; exact full_at9 _ 9 (at9_cT _)), fun d hd => by (rw [hd]; exact hq)⟩⟩
theorem go_rCro {gD : List D → List D} {is : List Item} {e : Env} {Q : Item → Env → Prop} {c : Cnl} (hv : (wVals is e).map gD = some [cT c]) (hq : Q (.t 9 (cT (xch c))) e) (h1 : c.ls.length ≤ 100000) : LookW 1 gD rCro is e Q := by
  obtain ⟨ds, hds, e1⟩ := Option.map_eq_some_iff.mp hv
  refine ⟨ds, 9, fun d => d = cT (xch c), hds, by rw [e1]; rfl, by (rw [e1]; exact ⟨c, rfl, h1, rfl, rfl⟩), .inl ⟨fun d hd => by (rw [hd]; exact full_at9 _ 9 (at9_cT _)), fun d hd => by (rw [hd]; exact hq)⟩⟩
theorem go_rBes {gD : List D → List D} {is : List Item} {e : Env} {Q : Item → Env → Prop} {c c2 : Cnl} (hv : (wVals is e).map gD = some [cT c, cT c2]) (hq : Q (.t 9 (cT (tog c c2))) e) (h1 : c.ls.length ≤ 100000) (h2 : c2.ls.length ≤ 100000) : LookW 2 gD rBes is e Q := by
  obtain ⟨ds, hds, e1⟩ := Option.map_eq_some_iff.mp hv
  refine ⟨ds, 9, fun d => d = cT (tog c c2), hds, by rw [e1]; rfl, by (rw [e1]; exact ⟨c, c2, rfl, h1, h2, rfl, rfl⟩), .inl ⟨fun d hd => by (rw [hd]; exact full_at9 _ 9 (at9_cT _)), fun d hd => by (rw [hd]; exact hq)⟩⟩
theorem go_rLists {gD : List D → List D} {is : List Item} {e : Env} {Q : Item → Env → Prop} {n : Nat} {d0 : D} (hv : (wVals is e).map gD = some [d0]) (hq : Q (.t n (toL d0)) e) (h1 : dep d0 < n) (h2 : okd d0) : LookW 1 gD (rLists n) is e Q := by
  obtain ⟨ds, hds, e1⟩ := Option.map_eq_some_iff.mp hv
  refine ⟨ds, n, fun d => d = toL d0, hds, by rw [e1]; rfl, by (rw [e1]; exact ⟨d0, rfl, h1, h2, rfl, rfl⟩), .inl ⟨fun d hd => by (rw [hd]; exact full_toL d0 n (by omega) h2), fun d hd => by (rw [hd]; exact hq)⟩⟩
theorem go_rSame {gD : List D → List D} {is : List Item} {e : Env} {Q : Item → Env → Prop} {n : Nat} {d0 d1 : D} (hv : (wVals is e).map gD = some [d0, d1]) (hq : Q (.t 9 (.bl true)) e) (h1 : d0 = d1) (h2 : dep d0 < n) (h3 : okd d0) : LookW 2 gD (rSame n) is e Q := by
  obtain ⟨ds, hds, e1⟩ := Option.map_eq_some_iff.mp hv
  refine ⟨ds, 9, fun d => d = .bl true, hds, by rw [e1]; rfl, by (rw [e1]; exact ⟨d0, by rw [h1], h2, h3, rfl, rfl⟩), .inl ⟨fun d hd => by (rw [hd]; exact rfl), fun d hd => by (rw [hd]; exact hq)⟩⟩

theorem dep_lst_lt {xs : List D} {n : Nat} (h : deps xs < n) : dep (.lst xs) < n + 1 := by unfold dep; omega
theorem dep_tup_lt {xs : List D} {n : Nat} (h : deps xs < n) : dep (.tup xs) < n + 1 := by unfold dep; omega
theorem deps_cons_lt {x : D} {xs : List D} {n : Nat} (h : dep x < n) (k : deps xs < n) : deps (x :: xs) < n := by unfold deps; omega
theorem deps_nil_lt {n : Nat} : deps [] < n + 1 := by unfold deps; omega
theorem okd_lst {xs : List D} (h : xs.length ≤ 100000) (k : okds xs) : okd (.lst xs) := by unfold okd; exact ⟨h, k⟩
theorem okd_tup {xs : List D} (h : xs.length ≤ 100000) (k : okds xs) : okd (.tup xs) := by unfold okd; exact ⟨h, k⟩
theorem okds_cons {x : D} {xs : List D} (h : okd x) (k : okds xs) : okds (x :: xs) := by unfold okds; exact ⟨h, k⟩
theorem okd_bl {b : Bool} : okd (.bl b) := by unfold okd; trivial
theorem okds_nil : okds [] := by unfold okds; trivial
theorem shrts_cons {x : D} {xs : List D} (h : shrt x) (k : shrts xs) : shrts (x :: xs) := by unfold shrts; exact ⟨h, k⟩
theorem shrts_nil : shrts [] := by unfold shrts; trivial
theorem shrt_lst {xs : List D} (k : shrts xs) : shrt (.lst xs) := by unfold shrt; exact k
theorem shrt_tup {xs : List D} (k : shrts xs) : shrt (.tup xs) := by unfold shrt; exact k
/-- a canal that may be shown -/
theorem Okc.shrt {w : Int} {u : Nat} {c : Cnl} (h : Okc w u c) (hw : w ≤ 1000000) : shrt (cT c) := by
  have := h.r
  have := h.b
  refine shrt_cT (by omega) (by omega) fun l hl => ?_
  obtain ⟨h1, h2, h3, h4⟩ := h.l l hl
  refine shrt_tup (shrts_cons (shrt_int ?_) (shrts_cons (shrt_int ?_) (shrts_cons (shrt_int ?_) (shrts_cons (shrt_int ?_) shrts_nil)))) <;> omega
end Cr
set_option Elab.async false
set_option linter.all false
set_option maxRecDepth 100000
/-! Names of the module, `is` of truths, repr of anything. -/
namespace Cr
open PySem PySem.Spec PyProof.Rows L2
section
variable {X : Cx} {B : Base} {pos : Pos}
/-- a name of the module that holds a number, a text -/
theorem vi_gint {x : Str} {i : Int} (h : ∃ t, X.mg x = some (.int i t)) (hg : Gl X x := by rfl) (hd : (x == ("__debug__" : Str)) = false := by decide) : VI X B (.Name x pos) (wCon (.int i)) :=
  con_of (let ⟨t, e⟩ := h; pe_glob (v := .int i) hg e ⟨t, rfl⟩ hd) fun _ _ => .int i
theorem vi_gstr {x : Str} {z : Str} (h : ∃ t, X.mg x = some (.str z t)) (hg : Gl X x := by rfl) (hd : (x == ("__debug__" : Str)) = false := by decide) : VI X B (.Name x pos) (wCon (.str z)) :=
  con_of (let ⟨t, e⟩ := h; pe_glob (v := .str z) hg e ⟨t, rfl⟩ hd) fun _ _ => .str z
/-! is, is not, of two truths -/
def gIsB (neg : Bool) : G2 := fun a b P => match a, b with
  | .bl i, .bl j => P (.bl (xor neg (decide (i = j))))
  | _, _ => False
theorem gIsB_mono {neg : Bool} : Mon2 (gIsB neg) := fun a b P Q h w => by
  unfold gIsB at *
  split at w
  · exact h _ w
  · exact w
theorem cr_isB : CR X .Is (gIsB false) := by
  refine ⟨⟨_, op_isBl, fun x y H a b P Q ra rb w q => ?_⟩, gIsB_mono⟩
  unfold gIsB at w
  split at w
  · obtain ⟨_, _, _, o1⟩ := ra
    obtain ⟨_, _, _, o2⟩ := rb
    obtain rfl := own_bl o1
    obtain rfl := own_bl o2
    exact ⟨_, _, rfl, rfl, q _ _ (by simpa using w) (.bl _)⟩
  · exact w.elim
theorem cr_notB : CR X .IsNot (gIsB true) := by
  refine ⟨⟨_, op_notBl, fun x y H a b P Q ra rb w q => ?_⟩, gIsB_mono⟩
  unfold gIsB at w
  split at w
  · obtain ⟨_, _, _, o1⟩ := ra
    obtain ⟨_, _, _, o2⟩ := rb
    obtain rfl := own_bl o1
    obtain rfl := own_bl o2
    exact ⟨_, _, rfl, rfl, q _ _ (by simpa using w) (.bl _)⟩
  · exact w.elim
/-! repr of anything -/
def rAtom : List V → Hp → VK → Prop := fun vs H Q => (∃ i : Int, vs = [.int i] ∧ i.natAbs.log2 < 1920 ∧ Q (.str (toString i)) H) ∨ (∃ b, vs = [.bl b] ∧ Q (.str (Str.ofString (if b then "True" else "False"))) H) ∨ (vs = [.non] ∧ Q (.str "None") H) ∨
  (∃ z : Str, vs = [.str z] ∧ (reprText z).length ≤ sizeLine ∧ Q (.str (reprText z)) H)
theorem cr_atom : CallR X (.builtin "repr") rAtom := by
  intro pins s σ H vs us Q I r h
  rcases h with ⟨i, rfl, hz, q⟩ | ⟨b, rfl, q⟩ | ⟨rfl, q⟩ | ⟨z, rfl, hz, q⟩
  · obtain ⟨u, rfl, t, rfl⟩ := vals1 r
    exact PySem.P.repr_of_int hz ⟨.str _, H, I.tok _, ⟨_, rfl⟩, q⟩
  · obtain ⟨u, rfl, t⟩ := vals1 r
    cases (show u = Value.bool b from t)
    exact PySem.P.repr_of_bool ⟨.str _, H, I.tok _, ⟨_, by cases b <;> rfl⟩, q⟩
  · obtain ⟨u, rfl, t⟩ := vals1 r
    cases t
    exact PySem.P.repr_of_none ⟨.str _, H, I.tok _, ⟨_, rfl⟩, q⟩
  · obtain ⟨u, rfl, t, rfl⟩ := vals1 r
    exact PySem.P.repr_of_str ⟨.str _, H, I.tok _, ⟨_, rfl⟩, q⟩ hz
def gReprA : GN := fun ds P => match ds with
  | [d] => (py d).showable = true ∧ dep d ≤ 60 ∧ fits (shownD d).length ∧ P (.str (shownD d))
  | _ => False
theorem fb_reprA (hg : X.A.guards = some []) (hu : X.A.units + 64 < cLine) : FB X "repr" gReprA := by
  refine ⟨⟨"repr", _, CallR.or (cr_repr hg hu) cr_atom, ?_, PyProof.Rows.boot_repr⟩, ?_, by decide, by decide⟩
  · intro vs H ds P Q rd gg q
    unfold gReprA at gg
    split at gg
    · rename_i d
      cases rd with
      | @cons v _ _ _ h t =>
        cases t
        obtain ⟨g1, g2, g3, g4⟩ := gg
        have seq : (seqD d).isSome = true → rRepr X.K [v] H Q := fun e => by
          obtain ⟨kx, e⟩ := Option.isSome_iff_exists.mp e
          obtain ⟨a, us, k, G, S, rfl, sv, os⟩ := Rdb.seq h e
          exact ⟨_, py d, rfl, h.dp, ⟨a, rfl⟩, g1, py_noDict d, by rw [py_depth]; exact g2, g3, q _ _ g4 (.str _)⟩
        cases d with
        | tup xs => exact .inl (seq rfl)
        | lst xs => exact .inl (seq rfl)
        | fl xs => exact .inl (seq rfl)
        | int i =>
          have e : shownD (.int i) = toString i := by unfold shownD py PyData.shown; rfl
          rw [e] at g4
          refine .inr (.inl ⟨i, by rw [h.int], ?_, q _ _ g4 (.str _)⟩)
          unfold py PyData.showable at g1
          exact of_decide_eq_true g1
        | bl b =>
          have e : shownD (.bl b) = Str.ofString (if b then "True" else "False") := by unfold shownD py PyData.shown; cases b <;> rfl
          rw [e] at g4
          obtain ⟨_, _, _, o⟩ := h
          obtain rfl := own_bl o
          exact .inr (.inr (.inl ⟨b, rfl, q _ _ g4 (.str _)⟩))
        | non =>
          have e : shownD .non = "None" := by unfold shownD py PyData.shown; rfl
          rw [e] at g4
          obtain ⟨_, _, _, o⟩ := h
          cases o
          exact .inr (.inr (.inr (.inl ⟨rfl, q _ _ g4 (.str _)⟩)))
        | str z =>
          have e : shownD (.str z) = reprText z := by unfold shownD py PyData.shown; rfl
          rw [e] at g4 g3
          obtain ⟨_, _, _, o⟩ := h
          obtain rfl := own_str o
          exact .inr (.inr (.inr (.inr ⟨z, rfl, g3, q _ _ g4 (.str _)⟩)))
    · exact gg.elim
  · intro ds P Q q w
    unfold gReprA at *
    split at w
    · exact ⟨w.1, w.2.1, w.2.2.1, q _ w.2.2.2⟩
    · exact w
end
end Cr
set_option Elab.async false
set_option linter.all false
set_option maxRecDepth 100000
/-! Trees of any kind within bounds; what is odd, what is bent. -/
namespace Cr
open PySem PySem.Spec PyProof.Rows L2
mutual
/-- numbers below 2 ^ B, short texts, sequences of at most L -/
def gd (B L : Nat) : D → Prop
  | .non => True
  | .bl _ => True
  | .int i => i.natAbs < 2 ^ B
  | .str z => z.length ≤ 300 ∧ ∀ c ∈ z.cps.toList, c < 16 ^ 8
  | .tup xs => xs.length ≤ L ∧ gds B L xs
  | .lst xs => xs.length ≤ L ∧ gds B L xs
  | .fl _ => False
def gds (B L : Nat) : List D → Prop
  | [] => True
  | d :: ds => gd B L d ∧ gds B L ds
end
theorem gds_iff {B L : Nat} : ∀ {ds : List D}, gds B L ds ↔ ∀ d ∈ ds, gd B L d
  | [] => ⟨fun _ d h => absurd h List.not_mem_nil, fun _ => by unfold gds; trivial⟩
  | d :: ds => by
    unfold gds
    rw [gds_iff (ds := ds)]
    exact ⟨fun ⟨a, b⟩ x hx => (List.mem_cons.mp hx).elim (fun e => e ▸ a) (b x), fun h => ⟨h d List.mem_cons_self, fun x hx => h x (List.mem_cons_of_mem _ hx)⟩⟩
mutual
theorem gd_mono {B L B' L' : Nat} (hB : B ≤ B') (hL : L ≤ L') : ∀ d : D, gd B L d → gd B' L' d
  | .non, _ => by unfold gd; trivial
  | .bl _, _ => by unfold gd; trivial
  | .int i, h => by unfold gd at *; exact Nat.lt_of_lt_of_le h (Nat.pow_le_pow_right (by decide) hB)
  | .str z, h => by unfold gd at *; exact h
  | .tup xs, h => by unfold gd at *; exact ⟨Nat.le_trans h.1 hL, gds_mono hB hL xs h.2⟩
  | .lst xs, h => by unfold gd at *; exact ⟨Nat.le_trans h.1 hL, gds_mono hB hL xs h.2⟩
  | .fl xs, h => by unfold gd at h; exact h.elim
theorem gds_mono {B L B' L' : Nat} (hB : B ≤ B') (hL : L ≤ L') : ∀ ds : List D, gds B L ds → gds B' L' ds
  | [], _ => by unfold gds; trivial
  | d :: ds, h => by unfold gds at *; exact ⟨gd_mono hB hL d h.1, gds_mono hB hL ds h.2⟩
end
mutual
theorem gd_okd {B L : Nat} (hL : L ≤ 100000) : ∀ d : D, gd B L d → okd d
  | .non, _ => by unfold okd; trivial
  | .bl _, _ => by unfold okd; trivial
  | .int i, h => by unfold okd; trivial
  | .str z, h => by unfold okd; trivial
  | .tup xs, h => by unfold gd at h; unfold okd; exact ⟨Nat.le_trans h.1 hL, gds_okd hL xs h.2⟩
  | .lst xs, h => by unfold gd at h; unfold okd; exact ⟨Nat.le_trans h.1 hL, gds_okd hL xs h.2⟩
  | .fl xs, h => by unfold gd at h; exact h.elim
theorem gds_okd {B L : Nat} (hL : L ≤ 100000) : ∀ ds : List D, gds B L ds → okds ds
  | [], _ => by unfold okds; trivial
  | d :: ds, h => by unfold gds at h; unfold okds; exact ⟨gd_okd hL d h.1, gds_okd hL ds h.2⟩
end
/-- how long it is when shown, about -/
def blk (d : D) : Nat := (py d).bulk
def blks (ds : List D) : Nat := PyData.bulkAll (pys ds)
theorem blk_tup (xs : List D) : blk (.tup xs) = blks xs := by unfold blk py PyData.bulk; rfl
theorem blk_lst (xs : List D) : blk (.lst xs) = blks xs := by unfold blk py PyData.bulk; rfl
theorem blk_int (i : Int) : blk (.int i) = 0 := by unfold blk py PyData.bulk; rfl
theorem blk_bl (i : Bool) : blk (.bl i) = 0 := by unfold blk py PyData.bulk; rfl
theorem blk_non : blk .non = 0 := by unfold blk py PyData.bulk; rfl
theorem blk_str (z : Str) : blk (.str z) = z.length := by unfold blk py PyData.bulk; rfl
theorem blks_nil : blks [] = 0 := by unfold blks pys PyData.bulkAll; rfl
theorem blks_cons (d : D) (ds : List D) : blks (d :: ds) = blk d + 1 + blks ds := by unfold blks; rw [pys, PyData.bulkAll]; rfl
theorem blks_app : ∀ (xs ys : List D), blks (xs ++ ys) = blks xs + blks ys
  | [], ys => by rw [List.nil_append, blks_nil, Nat.zero_add]
  | x :: xs, ys => by rw [List.cons_append, blks_cons, blks_cons, blks_app xs ys]; omega
theorem blks_split (xs : List D) (n : Nat) : blks (xs.take n) + blks (xs.drop n) = blks xs := by rw [← blks_app, List.take_append_drop]
theorem blks_set : ∀ {xs : List D} {i : Nat} {x y : D}, xs[i]? = some x → blks (xs.set i y) + blk x = blks xs + blk y
  | [], i, x, y, h => by simp at h
  | a :: xs, 0, x, y, h => by
    simp at h
    subst h
    rw [List.set_cons_zero, blks_cons, blks_cons]
    omega
  | a :: xs, i + 1, x, y, h => by
    have := blks_set (xs := xs) (i := i) (x := x) (y := y) (by simpa using h)
    rw [List.set_cons_succ, blks_cons, blks_cons]
    omega
theorem blks_mem : ∀ {xs : List D} {x : D}, x ∈ xs → blk x + 1 ≤ blks xs
  | a :: xs, x, h => by
    rw [blks_cons]
    rcases List.mem_cons.mp h with rfl | h
    · omega
    · have := blks_mem h; omega
theorem blks_map {α : Type} (f : α → D) {xs : List α} (m : Nat) (h : ∀ x ∈ xs, blk (f x) ≤ m) : blks (xs.map f) ≤ (m + 1) * xs.length := by
  induction xs with
  | nil => rw [List.map_nil, blks_nil]; exact Nat.zero_le _
  | cons x r ih =>
    rw [List.map_cons, List.length_cons, blks_cons]
    have h1 := h x List.mem_cons_self
    have h2 := ih fun y m => h y (List.mem_cons_of_mem _ m)
    rw [Nat.mul_add]
    omega
theorem intText_len {i : Int} {B : Nat} (h : i.natAbs < 2 ^ B) (hB : 0 < B) : (Str.ofString (toString i)).length ≤ B + 1 := by
  rw [PySem.ofString_length]
  exact int_text_length_le hB (lg_lt h hB)
mutual
theorem gd_short {B L : Nat} (hB : 0 < B) (hB2 : B ≤ 299) : ∀ d : D, gd B L d → (py d).leavesShort 300 = true ∧ (py d).showable = true
  | .non, _ => by unfold py; exact ⟨rfl, rfl⟩
  | .bl _, _ => by unfold py; exact ⟨rfl, rfl⟩
  | .int i, h => by
    unfold gd at h
    unfold py
    refine ⟨?_, ?_⟩
    · unfold PyData.leavesShort
      refine decide_eq_true ?_
      have e : (PyData.int i).shown = Str.ofString (toString i) := by unfold PyData.shown; rfl
      rw [e]
      exact Nat.le_trans (intText_len h hB) (by omega)
    · unfold PyData.showable
      exact decide_eq_true (by have := lg_lt h hB; omega)
  | .str z, h => by
    unfold gd at h
    unfold py
    refine ⟨?_, rfl⟩
    unfold PyData.leavesShort
    rw [List.all_eq_true]
    exact fun c hc => decide_eq_true (h.2 c hc)
  | .tup xs, h => by unfold gd at h; unfold py; have := gds_short hB hB2 xs h.2; exact ⟨by unfold PyData.leavesShort; exact this.1, by unfold PyData.showable; exact this.2⟩
  | .lst xs, h => by unfold gd at h; unfold py; have := gds_short hB hB2 xs h.2; exact ⟨by unfold PyData.leavesShort; exact this.1, by unfold PyData.showable; exact this.2⟩
  | .fl xs, h => by unfold gd at h; exact h.elim
theorem gds_short {B L : Nat} (hB : 0 < B) (hB2 : B ≤ 299) : ∀ ds : List D, gds B L ds → PyData.leavesShortAll 300 (pys ds) = true ∧ PyData.showableAll (pys ds) = true
  | [], _ => by unfold pys; exact ⟨rfl, rfl⟩
  | d :: ds, h => by
    unfold gds at h
    unfold pys
    have a := gd_short hB hB2 d h.1
    have b := gds_short hB hB2 ds h.2
    exact ⟨by unfold PyData.leavesShortAll; rw [a.1, b.1]; rfl, by unfold PyData.showableAll; rw [a.2, b.2]; rfl⟩
end
theorem gd_fits {B L : Nat} (hB : 0 < B) (hB2 : B ≤ 299) {d : D} (h : gd B L d) (hc : blk d ≤ 3000) : (py d).showable = true ∧ fits (shownD d).length := by
  obtain ⟨a, b⟩ := gd_short hB hB2 d h
  refine ⟨b, fits_of ?_⟩
  have := PyData.shown_le_bulk 300 (by decide) (py d) a
  have e : (300 + 2) * blk d + 300 ≤ 1000000 := by omega
  exact Nat.le_trans this e
/-! slices -/
theorem cutL_take {α : Type} (xs : List α) (n : Nat) : cutL xs none (some (n : Int)) = xs.take n := by
  unfold cutL
  rw [HT.sIx_none, HT.sIx_nat, List.drop_zero, Nat.sub_zero]
  rcases Nat.le_total n xs.length with h | h
  · rw [Nat.min_eq_left h]
  · rw [Nat.min_eq_right h, List.take_of_length_le (Nat.le_refl _), List.take_of_length_le h]
theorem cutL_drop {α : Type} (xs : List α) (n : Nat) : cutL xs (some (n : Int)) none = xs.drop n := by
  unfold cutL
  rw [HT.sIx_none, HT.sIx_nat]
  rcases Nat.le_total n xs.length with h | h
  · rw [Nat.min_eq_left h, List.take_of_length_le (by rw [List.length_drop]; exact Nat.le_refl _)]
  · rw [Nat.min_eq_right h, List.drop_of_length_le (Nat.le_refl _), List.drop_of_length_le h, List.take_nil]
theorem cutL_mid {α : Type} (xs : List α) (n m : Nat) : cutL xs (some (n : Int)) (some (m : Int)) = (xs.drop n).take (m - n) := by
  unfold cutL
  rw [HT.sIx_nat, HT.sIx_nat]
  rcases Nat.le_total n xs.length with h | h
  · rw [Nat.min_eq_left h]
    rcases Nat.le_total m xs.length with h2 | h2
    · rw [Nat.min_eq_left h2]
    · rw [Nat.min_eq_right h2, List.take_of_length_le (by rw [List.length_drop]; exact Nat.le_refl _), List.take_of_length_le (by rw [List.length_drop]; omega)]
  · rw [Nat.min_eq_right h, List.drop_of_length_le (Nat.le_refl _), List.drop_of_length_le h, List.take_nil, List.take_nil]
/-! what is odd -/
def oddL : List D := [.non, .bl true, .bl false, .int 0, .int 1, .int 2, .int (-1), .int 3, .str "red", .str "", .str "a", .tup [], .lst [], .tup [.int 0], .lst [.int 0], .tup [.int 0, .int 1], .lst [.int 1, .int 0], .tup [.int 0, .int 0, .int 0, .int 0], .int (10 ^ 30)]
structure Nc (B L h C : Nat) (d : D) : Prop where
  g : gd B L d
  dp : dep d ≤ h
  bk : blk d ≤ C
theorem Nc.mono {B L h C B' L' h' C' : Nat} {d : D} (x : Nc B L h C d) (a : B ≤ B') (b : L ≤ L') (c : h ≤ h') (e : C ≤ C') : Nc B' L' h' C' d := ⟨gd_mono a b d x.g, Nat.le_trans x.dp c, Nat.le_trans x.bk e⟩
theorem str_lit {s : String} (h : s.toList.all (fun c => decide (c.toNat < 16 ^ 8)) = true) (h2 : s.length ≤ 300) : (Str.ofString s).length ≤ 300 ∧ ∀ c ∈ (Str.ofString s).cps.toList, c < 16 ^ 8 := by
  refine ⟨by rw [PySem.ofString_length]; exact h2, fun c hc => ?_⟩
  rw [Str.ofString_eq_toList] at hc
  simp only [List.mem_map] at hc
  obtain ⟨x, hx, rfl⟩ := hc
  exact of_decide_eq_true (List.all_eq_true.mp h x hx)
theorem odd_nc : ∀ d ∈ oddL, Nc 100 4 1 4 d := by
  intro d hd
  simp only [oddL, List.mem_cons, List.not_mem_nil, or_false] at hd
  rcases hd with rfl | rfl | rfl | rfl | rfl | rfl | rfl | rfl | rfl | rfl | rfl | rfl | rfl | rfl | rfl | rfl | rfl | rfl | rfl
  all_goals refine ⟨?_, ?_, ?_⟩
  all_goals first
    | (simp [gd, gds]; done)
    | (unfold gd; exact str_lit (by decide) (by decide))
    | (simp [dep, deps]; done)
    | (simp [blk_tup, blk_lst, blks_cons, blks_nil, blk_int, blk_bl, blk_non]; done)
    | (rw [blk_str, PySem.ofString_length]; decide)
theorem intText_gd {i : Int} {B L : Nat} (h : i.natAbs < 2 ^ B) (hB : 0 < B) (hB2 : B ≤ 200) : Nc B L 0 (B + 1) (.str (Str.ofString (toString i))) := by
  have l := intText_len h hB
  refine ⟨?_, by unfold dep; exact Nat.le_refl _, by rw [blk_str]; exact l⟩
  unfold gd
  refine ⟨by omega, fun c hc => ?_⟩
  rcases Nat.lt_or_ge c 58 with q | q
  · exact Nat.lt_of_lt_of_le q (by decide)
  · exact absurd hc (int_text_free' c ⟨by omega, .inr (by omega)⟩ i)
theorem gd_int {B L : Nat} {i : Int} (h : i.natAbs < 2 ^ B) : gd B L (.int i) := by unfold gd; exact h
theorem lt_big {n : Nat} (h : n < 2 ^ 20) : n < 2 ^ 100 := Nat.lt_of_lt_of_le h (Nat.pow_le_pow_right (by decide) (by decide))
theorem nc_lk {l : Int × Int × Int × Int} {r b : Int} (h : okl r b l) (hr : r ≤ 1000) (hb : b ≤ 1000) : (gd 100 20 (lkT l) ∧ gd 100 20 (lkL l)) ∧ (blk (lkT l) = 4 ∧ blk (lkL l) = 4) ∧ dep (lkT l) = 1 ∧ dep (lkL l) = 1 := by
  obtain ⟨h1, h2, h3, h4⟩ := h
  have e : ∀ x : Int, 0 ≤ x → x < 1000 → gd 100 20 (.int x) := fun x a b => gd_int (lt_big (by omega))
  have g := gds_iff.mpr (show ∀ x ∈ [D.int l.1, .int l.2.1, .int l.2.2.1, .int l.2.2.2], gd 100 20 x by
    intro x hx
    simp only [List.mem_cons, List.not_mem_nil, or_false] at hx
    rcases hx with rfl | rfl | rfl | rfl <;> refine e _ (by omega) (by omega))
  have hl : [D.int l.1, .int l.2.1, .int l.2.2.1, .int l.2.2.2].length ≤ 20 := by simp
  refine ⟨⟨by unfold lkT gd; exact ⟨hl, g⟩, by unfold lkL gd; exact ⟨hl, g⟩⟩, ⟨?_, ?_⟩, dep_lkT l, ?_⟩
  · unfold lkT; simp [blk_tup, blks_cons, blks_nil, blk_int]
  · unfold lkL; simp [blk_lst, blks_cons, blks_nil, blk_int]
  · unfold lkL; simp [dep, deps]
theorem nc_cT {w : Int} {u : Nat} {c : Cnl} (h : Okc w u c) (hw : w ≤ 1000) (hu : u ≤ 20) : Nc 100 20 3 110 (cT c) ∧ Nc 100 20 3 110 (cL c) := by
  have hr := h.r
  have hb := h.b
  have hn := h.n
  have hk : ∀ l ∈ c.ls, _ := fun l hl => nc_lk (h.l l hl) (by omega) (by omega)
  have gr : gd 100 20 (.int c.r) := gd_int (lt_big (by omega))
  have gb : gd 100 20 (.int c.b) := gd_int (lt_big (by omega))
  have g1 : gds 100 20 (c.ls.map lkT) := gds_iff.mpr fun x hx => by obtain ⟨l, hl, rfl⟩ := List.mem_map.mp hx; exact (hk l hl).1.1
  have g2 : gds 100 20 (c.ls.map lkL) := gds_iff.mpr fun x hx => by obtain ⟨l, hl, rfl⟩ := List.mem_map.mp hx; exact (hk l hl).1.2
  have b1 := blks_map lkT (xs := c.ls) 4 fun l hl => Nat.le_of_eq (hk l hl).2.1.1
  have b2 := blks_map lkL (xs := c.ls) 4 fun l hl => Nat.le_of_eq (hk l hl).2.1.2
  have d1 := deps_map lkT (xs := c.ls) 1 fun l hl => Nat.le_of_eq (hk l hl).2.2.1
  have d2 : deps (c.ls.map lkL) ≤ 1 := by
    have : ∀ ls : List (Int × Int × Int × Int), deps (ls.map lkL) ≤ 1 := fun ls => by
      induction ls with
      | nil => exact Nat.zero_le _
      | cons l r ih => rw [List.map_cons]; unfold deps; exact Nat.max_le.mpr ⟨by unfold lkL; simp [dep, deps], ih⟩
    exact this _
  refine ⟨⟨?_, ?_, ?_⟩, ?_, ?_, ?_⟩
  · unfold cT gd
    refine ⟨by simp, gds_iff.mpr fun x hx => ?_⟩
    simp only [List.mem_cons, List.not_mem_nil, or_false] at hx
    rcases hx with rfl | rfl | rfl
    · exact gr
    · exact gb
    · unfold gd; exact ⟨by rw [List.length_map]; omega, g1⟩
  · exact dep_cT c
  · unfold cT
    simp only [blk_tup, blks_cons, blks_nil, blk_int]
    omega
  · unfold cL gd
    refine ⟨by simp, gds_iff.mpr fun x hx => ?_⟩
    simp only [List.mem_cons, List.not_mem_nil, or_false] at hx
    rcases hx with rfl | rfl | rfl
    · exact gr
    · exact gb
    · unfold gd; exact ⟨by rw [List.length_map]; omega, g2⟩
  · unfold cL
    simp only [dep, deps]
    omega
  · unfold cL
    simp only [blk_lst, blks_cons, blks_nil, blk_int]
    omega
theorem go_canal (w : Int) (u : Nat) {i k0 : Nat} {M : Nat} {d0 : D} {r : List Item} {e : Env} {Q : Item → Env → Prop} (he : e[i]? = some (some (k0, d0))) (hv : wVals r (e.set i none) = some [.int w, .int (u : Int)]) (hk : 1 ≤ k0) (hb : bx M d0) (hM : M ≤ 2 ^ 60) (h1 : 1 ≤ w) (h2 : w ≤ 100) (h3 : u ≤ 100)
    (hq : ∀ (c : Cnl) (d1 : D), Okc w u c → bx (M + 1000) d1 → Q (.t 9 (cT c)) (e.set i (some (1, d1)))) : ChgW 3 1 rCanal (.w i :: r) e Q := by
  refine ⟨?_⟩
  unfold wChg
  simp only [he]
  exact ⟨_, _, _, hv, rfl, okM_le hk, ⟨M, _, w, u, rfl, hb, hM, h1, h2, h3, rfl, rfl⟩, .inl ⟨fun d d1 ⟨q1, c, q2, _⟩ => ⟨by (rw [q2]; exact full_at9 _ 9 (at9_cT c)), bx_full q1⟩, fun d d1 ⟨q1, c, q2, q3⟩ => by (subst q2; exact hq c d1 q3 q1)⟩⟩
end Cr
set_option Elab.async false
set_option linter.all false
set_option maxRecDepth 100000
set_option maxHeartbeats 2000000
/-! enumerate of a tuple. -/
namespace Cr
open PySem PySem.Spec PyProof.Rows L2
theorem meets_enumT (l : Addr) (items : Array Value) :
    Meets (Builtin.«enumerate.__new__» ⟨[.type "enumerate", .ref l], []⟩) (fun _ R s => s.heap.IsTuple l items ∧
      R (.ok (.ret (.ref (s.heap.push { cls := .type "tuple_iterator", data := .fields #[.ref l, .int 0 0] }).objs.size)))
        { s with heap := (s.heap.push { cls := .type "tuple_iterator", data := .fields #[.ref l, .int 0 0] }).push { cls := .type "enumerate", data := .fields #[.none, .bool false, .ref s.heap.objs.size, rawInt 0, .none, .none] } }) :=
  .of_wp fun prog w A R s h => by
    obtain ⟨hp, g, d, tk, os⟩ := s
    obtain ⟨hL, h⟩ := h
    have hsub := sub_enumerate
    have hL : Heap.IsTuple (Shared.heap ⟨hp, g, d, tk, os⟩) l items := hL
    obtain ⟨ob, hl, hc, nn, hd⟩ := id hL
    wp_walk using AutoSeq1.wpAny_loadPart' hl
    refine wpAny_stack_any fun st => wpAny_pure ?_
    split
    · rename_i c _ _ _ _ _
      cases (c == Value.type "enumerate")
      · wp_walk using AutoSeq1.wpAny_loadPart' hl, wpAny_pyIter_tuple hL
        exact ⟨_, rfl, h⟩
      · wp_walk using AutoSeq1.wpAny_loadPart' hl, wpAny_pyIter_tuple hL
        exact ⟨_, rfl, h⟩
    · wp_walk using AutoSeq1.wpAny_loadPart' hl, wpAny_pyIter_tuple hL
      exact ⟨_, rfl, h⟩
theorem call_enumT {prog : Program} {w : World} {A : Around} {E : Value → Shared → Prop} {s : Shared} {l : Addr} {items : Array Value} {Q : Value → Shared → Prop} (hL : s.heap.IsTuple l items)
    (h : ∀ h', IsEnum h' (s.heap.objs.size + 1) s.heap.objs.size 0 .none → h'.IsTupleIter s.heap.objs.size l 0 → h'.objs.size = s.heap.objs.size + 2 →
      (∀ b o, s.heap.get? b = some o → h'.get? b = some o) → Q (.ref (s.heap.objs.size + 1)) { s with heap := h' }) :
    wpAny (model prog w) A (call (.type "enumerate") [.ref l]) Q E s := by
  refine callType_new F.called_enumerate (by decide) (F.typeCall_enumerate_1 _) (F.newCall_enumerate_1 _) (fun obj => F.args_object_init_2 obj _) F.entry_enumerate_new
    (meets_enumT l items) ⟨hL, ?_⟩
  have hz : (s.heap.push { cls := .type "tuple_iterator", data := .fields #[.ref l, .int 0 0] }).objs.size = s.heap.objs.size + 1 := Heap.size_push ..
  show _ ∧ _
  rw [hz]
  have he : IsEnum ((s.heap.push { cls := .type "tuple_iterator", data := .fields #[.ref l, .int 0 0] }).push
      { cls := .type "enumerate", data := .fields #[.none, .bool false, .ref s.heap.objs.size, rawInt 0, .none, .none] }) (s.heap.objs.size + 1) s.heap.objs.size 0 .none := by
    have := Heap.get?_push_size (s.heap.push { cls := .type "tuple_iterator", data := .fields #[.ref l, .int 0 0] })
      (o := { cls := .type "enumerate", data := .fields #[.none, .bool false, .ref s.heap.objs.size, rawInt 0, .none, .none] }) rfl
    rw [hz] at this; exact this
  refine ⟨⟨_, he, rfl⟩, h _ he ⟨_, Heap.get?_push_of_some _ (Heap.get?_push_size _ rfl), rfl, rfl⟩ (by rw [Heap.size_push, hz]) fun b o x => Heap.get?_push_of_some _ (Heap.get?_push_of_some _ x)⟩
def IteT (K : PySem.W.Frag) (a : Addr) : It :=
  ⟨fun i H => ∃ (xs : List V) (x : V), SqT K H a xs ∧ xs[i]? = some x, fun i H v H' => ∃ T x, v = .ref T ∧ H T = none ∧ H' = upd H T (.tup [.int (i : Nat), x]) ∧ ∀ xs, SqT K H a xs → xs[i]? = some x, fun i H => ∃ xs : List V, SqT K H a xs ∧ xs.length ≤ i⟩
theorem turn_enumT {P : Program} {w : World} {K : PySem.W.Frag} {elts : List Expr} {kk : Nat} {tpos : Pos} (a e it : Addr) :
    Turn P w K (.Tuple elts kk tpos) (IteT K a) [e, it] e (fun i h => (∃ old, IsEnum h e it ((i : Nat) : Int) old) ∧ h.IsTupleIter it a i ∧ e ≠ it) where
  mem := by simp
  obj := fun i h st b hb => by
    obtain ⟨⟨old, he⟩, ⟨o, ho, hc, hd⟩, _⟩ := st
    have e' : b = e ∨ b = it := by simpa using hb
    rcases e' with z | z
    · rw [z]; exact ⟨_, he, fun v q => nomatch q⟩
    · rw [z]; exact ⟨o, ho, fun v q => by rw [hd] at q; cases q⟩
  keep := fun i h h' st k => let ⟨⟨old, he⟩, hi, hne⟩ := st; ⟨⟨old, k e (by simp) _ he⟩, hi.at fun o q => k it (by simp) o q, hne⟩
  item := by
    intro X hP hw hK hc i pins s σ H E I hf st hg
    subst hP hw hK
    obtain ⟨⟨old, he⟩, hit, hne⟩ := st
    obtain ⟨xs, x, hq, hx⟩ := hg
    obtain ⟨its, rv, p, hz⟩ := I.tuple hq
    have p : s.heap.IsTuple a its.toArray := p
    obtain ⟨u, hu, ru⟩ := rv.get hx
    have hel : e < s.heap.objs.size := Heap.lt_size he
    have hil : it < s.heap.objs.size := by obtain ⟨_, q, _⟩ := hit; exact Heap.lt_size q
    have nai : a ≠ it := fun z => by
      obtain ⟨o1, e1, c1, _⟩ := p
      obtain ⟨o2, e2, c2, _⟩ := hit
      rw [z, e2] at e1
      cases e1
      rw [c1] at c2
      exact absurd c2 (by decide)
    have nae : a ≠ e := fun z => by
      obtain ⟨o1, e1, c1, _⟩ := p
      have e2 := he
      unfold IsEnum at e2
      rw [z, e2] at e1
      cases e1
      exact absurd (show Value.type "enumerate" = Value.type "tuple" from c1) (by decide)
    have D := Draws.tuple (prog := X.prog) (w := X.w) (A := X.A.in1) (I.ok.hd hc) it a nai its.toArray
    refine wpAny_pyNext_enum_itemC D he ⟨hit, p⟩ (by have := (List.getElem?_eq_some_iff.mp hu).1; simpa using this) hne (by simp [hne, Ne.symm nae]) fun y h' tk hP ho hs' hT hsz hk => ?_
    obtain rfl : y = u := by
      have hP : its.toArray[i]? = some y := hP
      rw [List.getElem?_toArray, hu] at hP
      exact (Option.some.inj hP).symm
    have hit' := hs'.1
    refine ⟨_, rfl, wpAny_letOwnedTupleGo_enum (s := { s with heap := h', toks := tk + 1 }) ho fun h'' he' sb => ?_⟩
    have hT2 : h''.get? s.heap.objs.size = some { cls := .type "tuple", data := .seq #[.int i tk, y] } := (sb.2 _ (Nat.ne_of_gt hel)).trans hT
    have new : ObjOk X.prog X.w (upd H s.heap.objs.size (.tup [.int (i : Nat), x])) h'' s.heap.objs.size (.tup [.int (i : Nat), x]) :=
      ⟨by show 2 ≤ sizeLine; decide, [.int i tk, y], .cons ⟨_, rfl⟩ (.cons ru .nil), ⟨_, hT2, rfl, _, rfl⟩⟩
    have I1 : Inv X pins σ (upd H s.heap.objs.size (.tup [.int (i : Nat), x])) { s with heap := h'', toks := tk + 1 } :=
      I.turnedNew (ch := [e, it]) (fun b ob hb q => (sb.2 b (fun z => hb (by simp [z]))).trans (hk b ob (fun z => hb (by simp [z])) (fun z => hb (by simp [z])) q)) hf (Nat.le_refl _) new
    refine ⟨.ref s.heap.objs.size, _, I1, rfl, ⟨_, x, rfl, I.hok.fresh (Nat.le_refl _), rfl, fun ys hy => by rw [I.tuple_inj hy hq]; exact hx⟩, ⟨⟨y, ?_⟩, hit'.at fun o q => (sb.2 it (Ne.symm hne)).trans q, hne⟩, fun b hb => ?_⟩
    · have e1 : ((i + 1 : Nat) : Int) = (i : Int) + 1 := by omega
      rw [e1]; exact he'
    · have hb' : b < s.heap.objs.size := by
        have e' : b = e ∨ b = it := by simpa using hb
        rcases e' with z | z
        · rw [z]; exact hel
        · rw [z]; exact hil
      rw [upd_ne (Nat.ne_of_lt hb')]
      exact (hf b hb).1
  done := by
    intro X hP hw hK hc i pins s σ H E I hf st hg
    subst hP hw hK
    obtain ⟨⟨old, he⟩, hit, hne⟩ := st
    obtain ⟨xs, hq, hx⟩ := hg
    obtain ⟨its, rv, p, hz⟩ := I.tuple hq
    have p : s.heap.IsTuple a its.toArray := p
    obtain ⟨f0, f1, f2, f3, f4, f5⟩ := hf it (by simp)
    have hl := rv.length
    have nai : a ≠ it := fun z => by
      obtain ⟨o1, e1, c1, _⟩ := p
      obtain ⟨o2, e2, c2, _⟩ := hit
      rw [z, e2] at e1
      cases e1
      rw [c1] at c2
      exact absurd c2 (by decide)
    have D : Draws X.prog X.w X.A.in1 it [it, a] i (fun _ _ => True) (fun j h => h.IsTupleIter it a j ∧ h.IsTuple a its.toArray ∧ j = i) := {
      live := fun _ _ st => let ⟨o, ho, _⟩ := st.1; ⟨o, ho⟩
      frame := fun _ _ _ st hk => ⟨st.1.at fun o e => hk it (by simp) o e, st.2.1.at fun o e => hk a (by simp) o e, st.2.2⟩
      item := fun j s Q E hj st hQ => absurd st.2.2 (Nat.ne_of_lt hj)
      done := fun s Q E st hE => wpAny_nextOf_tuple_end (I.ok.hd hc) st.1 st.2.1 (by simp; omega) hE }
    refine wpAny_pyNext_enum_endD D he ⟨hit, p, rfl⟩ fun h' eb => ⟨rfl, I.turned (t' := s.toks) (fun b o hb q => eb b o hb q) f0 f1 f3 f4 f5⟩
  self := fun A i s Q E st h => let ⟨⟨_, he⟩, _⟩ := st; wpAny_pyIter_enum he h
def iEnumA (K : PySem.W.Frag) (ta : TA) : TI := fun σ H R => ta σ H fun vs H1 => ∃ a xs, vs = [.ref a] ∧ ((SqL K H1 a xs ∧ R (Ite K a) H1) ∨ (SqT K H1 a xs ∧ R (IteT K a) H1))
theorem pi_enumA {X : Cx} {e : Expr} {ta : TA} {p pos tpos : Pos} {elts : List Expr} {kk : Nat} (hg : Gl X "enumerate") (hm : X.mg "enumerate" = none) (ha : PA X [e] ta) (hs : starEach [e] X.env = [(false, eval e X.env)] := by rfl) :
    PI X (.Tuple elts kk tpos) (.Call (.Name "enumerate" p) [e] [] pos) (iEnumA X.K ta) := by
  refine ⟨fun pins s σ H R I h => ?_⟩
  refine Call_ (ld_blt I hg hm boot_enumerate (PyProof.Rows.callWith_type1 (thn (ha.run pos pins s σ H _ I h) fun us s1 ⟨vs, H1, I1, r1, q1⟩ => ?_) hs rfl))
  obtain ⟨a, xs, ex, q⟩ := q1
  subst ex
  cases r1 with
  | cons r rr =>
    cases rr
    cases r
    have fp : ∀ b ∈ [s1.heap.objs.size + 1, s1.heap.objs.size], FpOk X pins H1 b := fun b hb => by
      have e' : b = s1.heap.objs.size + 1 ∨ b = s1.heap.objs.size := by simpa using hb
      have hle : s1.heap.objs.size ≤ b := by
        rcases e' with z | z
        · rw [z]; exact Nat.le_add_right _ _
        · rw [z]; exact Nat.le_refl _
      exact I1.fpOk hle (I1.hok.fresh hle)
    rcases q with ⟨hq, q⟩ | ⟨hq, q⟩
    · obtain ⟨its, rv, p', hz⟩ := I1.list hq
      refine call_enumerate_list p'.isList fun h' he hit hsz hk => wpAny_pyIter_enum he ?_
      have I2 : Inv X pins σ H1 { s1 with heap := h' } := I1.kept (t' := s1.toks) hk
      exact ⟨s1.heap.objs.size + 1, [s1.heap.objs.size + 1, s1.heap.objs.size], _, _, H1, rfl, I2, turn_enum a (s1.heap.objs.size + 1) s1.heap.objs.size, ⟨⟨.none, he⟩, hit, Nat.succ_ne_self _⟩, fp, q⟩
    · obtain ⟨its, rv, p', hz⟩ := I1.tuple hq
      refine call_enumT p' fun h' he hit hsz hk => wpAny_pyIter_enum he ?_
      have I2 : Inv X pins σ H1 { s1 with heap := h' } := I1.kept (t' := s1.toks) hk
      exact ⟨s1.heap.objs.size + 1, [s1.heap.objs.size + 1, s1.heap.objs.size], _, _, H1, rfl, I2, turn_enumT a (s1.heap.objs.size + 1) s1.heap.objs.size, ⟨⟨.none, he⟩, hit, Nat.succ_ne_self _⟩, fp, q⟩
def wEnumA (wa : WI) : WIt := fun env Q => wa env fun it e => wGive it e fun _ d e2 => match seqD d with
  | some (_, xs) => Q (enumD 0 xs) e2
  | none => False
section
variable {X : Cx} {B : Base} {e : Expr} {p pos tpos : Pos} {elts : List Expr} {kk : Nat}
/-- for i, x in enumerate(a list or a tuple) -/
theorem vit_enumA {w1 : WI} (hm : X.mg "enumerate" = none) (ha : VI X B e w1) (hg : Gl X "enumerate" := by rfl) (hs : starEach [e] X.env = [(false, eval e X.env)] := by rfl) : VIt X B (.Tuple elts kk tpos) (.Call (.Name "enumerate" p) [e] [] pos) (wEnumA w1) := by
  have mono : ∀ {d : D} {e2 : Env} {P Q : List D → Env → Prop}, (∀ x y, P x y → Q x y) → (match seqD d with
      | some (_, xs) => P (enumD 0 xs) e2
      | none => False) → (match seqD d with
      | some (_, xs) => Q (enumD 0 xs) e2
      | none => False) := fun {d e2 P Q} q y => by
    split at y
    · exact q _ _ y
    · exact y
  refine ⟨PI.weak (pi_enumA hg hm (pa_cons ha.p pa_nil hs) hs) fun σ H R ⟨env, G, S, st, w⟩ => ⟨env, G, S, st, ha.m _ _ _ (fun it e1 w1 => ?_) w⟩, fun env P Q q w => ha.m _ _ _ (fun _ _ z => wGive_mono (fun _ d _ y => mono q y) z) w⟩
  intro v H1 G1 S1 G2 S2 st1 h1 sp1 p1
  obtain ⟨k', d, e2, A, SA, G', S', w2, st2, o2, sp2, pp, _⟩ := give_ok st1 h1 sp1 w1
  obtain ⟨A', T, o, lo⟩ := Own.lower _ (Nat.zero_le _) o2
  have g := Own.g0 _ o
  subst g
  have ap := sp2.ap.low lo
  have tk := Own.stk _ o
  have tn := ap.s1
  have mu := st2.sl.mu
  have pall := (p1.trans pp).low lo
  obtain ⟨kd, xs, ed, w3⟩ : ∃ kd xs, seqD d = some (kd, xs) ∧ PostIt X.K B σ H G S R (enumD 0 xs) e2 := by
    split at w2
    · rename_i kd xs ed
      exact ⟨kd, xs, ed, w2⟩
    · exact w2.elim
  obtain ⟨a, us, rfl, sa⟩ := shd_of o ed fun c z => z
  have at_ : ∀ H2, Kp G' H1 H2 → Shd X.K H2 T kd a us xs := fun H2 kp => sa.later kp mu tn
  have len : us.length = xs.length := by obtain ⟨U, ou, _⟩ := sa.its; exact Owns.len ou
  refine ⟨a, us, rfl, ?_⟩
  by_cases et : kd = .t
  · refine .inr ⟨sa.tp et, w3 _ H1 G' S' T st2 tn tk pall ⟨fun i H2 kp hi => ?_, fun i H2 x H3 d kp hd hy => ?_, fun i H2 kp hi => ?_⟩⟩
    · rw [enumD_len, ← len] at hi
      exact ⟨us, _, (at_ H2 kp).tp et, List.getElem?_eq_getElem hi⟩
    · have s1 := at_ H2 kp
      obtain ⟨q, x, rfl, hq, rfl, f1⟩ := hy
      have kq : Kp [] H2 (upd H2 q (.tup [.int (i : Nat), x])) := kp_new hq
      obtain ⟨U, ou, hU⟩ := (s1.later kq mu_nil fun _ _ => List.not_mem_nil).its
      obtain ⟨y, S1', ey, oy, hy⟩ := Owns.pick i ou (f1 us (s1.tp et))
      rw [enumD_get ey, Nat.zero_add] at hd
      cases hd
      refine ⟨kq, _, .tup (.inl (.inl upd_same)) (.cons (G := []) (G' := []) (.int _) (.cons (G := []) (G' := []) oy .nil)), fun c m => hU c (hy c (by simpa using m))⟩
    · rw [enumD_len, ← len] at hi
      exact ⟨us, (at_ H2 kp).tp et, hi⟩
  · refine .inl ⟨sa.ls et, w3 _ H1 G' S' T st2 tn tk pall ⟨fun i H2 kp hi => ?_, fun i H2 x H3 d kp hd hy => ?_, fun i H2 kp hi => ?_⟩⟩
    · rw [enumD_len, ← len] at hi
      exact ⟨us, _, (at_ H2 kp).ls et, List.getElem?_eq_getElem hi⟩
    · have s1 := at_ H2 kp
      obtain ⟨q, x, rfl, hq, rfl, f1⟩ := hy
      have kq : Kp [] H2 (upd H2 q (.tup [.int (i : Nat), x])) := kp_new hq
      obtain ⟨U, ou, hU⟩ := (s1.later kq mu_nil fun _ _ => List.not_mem_nil).its
      obtain ⟨y, S1', ey, oy, hy⟩ := Owns.pick i ou (f1 us (s1.ls et))
      rw [enumD_get ey, Nat.zero_add] at hd
      cases hd
      refine ⟨kq, _, .tup (.inl (.inl upd_same)) (.cons (G := []) (G' := []) (.int _) (.cons (G := []) (G' := []) oy .nil)), fun c m => hU c (hy c (by simpa using m))⟩
    · rw [enumD_len, ← len] at hi
      exact ⟨us, (at_ H2 kp).ls et, hi⟩
end
end Cr
set_option Elab.async false
set_option linter.all false
set_option maxRecDepth 100000
set_option maxHeartbeats 16000000
namespace K01
open PySem PySem.Spec PyProof.Rows L2 Cr
def tp (i : Nat) : Stmt := PySem.Challenge.pw_crosslocks_k01_what_canals_are.main.body.getD i (.Pass ⟨0, 0, 0, 0⟩)

open Cr
def isN : D → Bool
  | .int _ => true
  | _ => false
def isT (n : Int) : D → Bool
  | .tup xs => decide ((xs.length : Int) = n)
  | _ => false
def inR (lo hi : Int) : D → Bool
  | .int i => decide (lo ≤ i) && decide (i ≤ hi)
  | _ => false
def isLk (r b : Int) : D → Bool
  | .tup xs => decide ((xs.length : Int) = 4) && ((xs.take 2).all (inR 0 (r - 1)) && (xs.drop 2).all (inR 0 (b - 1)))
  | _ => false
def isCan : D → Bool
  | .tup [.int r, .int b, .tup ls] => !decide (r < 1) && (!decide (b < 1) && ls.all (isLk r b))
  | _ => false
def isRow (n : Int) : D → Bool
  | .tup xs => decide ((xs.length : Int) = n) && xs.all isN
  | _ => false
def rNum : RB := fun ds k P => ∃ d, ds = [d] ∧ k = 9 ∧ P = fun e => e = .bl (isN d)
def rTupOf : RB := fun ds k P => ∃ (d : D) (n : Int), ds = [d, .int n] ∧ okd d ∧ k = 9 ∧ P = fun e => e = .bl (isT n d)
def rAre : RB := fun ds k P => ∃ (kd : Kd) (xs : List D) (s : D) (lo hi : Int), seqD s = some (kd, xs) ∧ ds = [s, .int lo, .int hi] ∧ xs.length ≤ 100000 ∧ k = 9 ∧ P = fun e => e = .bl (xs.all (inR lo hi))
def rLk : RB := fun ds k P => ∃ (d : D) (r b : Int), ds = [d, .int r, .int b] ∧ okd d ∧ k = 9 ∧ P = fun e => e = .bl (isLk r b d)
def rCan : RB := fun ds k P => ∃ (d : D), ds = [d] ∧ okd d ∧ k = 9 ∧ P = fun e => e = .bl (isCan d)
def rRow : RB := fun ds k P => ∃ (d : D) (n : Int), ds = [d, .int n, .bl false] ∧ okd d ∧ k = 9 ∧ P = fun e => e = .bl (isRow n d)
def rOdd : RI := fun ds k P => ∃ (M : Nat) (d0 : D), ds = [d0] ∧ bx M d0 ∧ M ≤ 2 ^ 60 ∧ k = 0 ∧ P = fun d d' => bx (M + 1) d' ∧ d ∈ oddL
def rOth (n : Nat) : RI := fun ds k P => ∃ (M : Nat) (d0 d : D) (B L h C : Nat), ds = [d0, d] ∧ bx M d0 ∧ M + 10 * h ≤ 2 ^ 50 ∧ Nc B L h C d ∧ h < n ∧ 100 ≤ B ∧ B ≤ 190 ∧ 4 ≤ L ∧ L ≤ 1000 ∧ C ≤ 100000 ∧ k = 0 ∧ P = fun e d' => bx (M + 6 * (h + 1)) d' ∧ Nc (B + 2) (L + 1) (h + 1) (2 * C + 200) e
def riP (M : Nat) (d d' : D) : Prop := bx (M + 100000) d' ∧ d = .bl true
def rRight : RI := fun ds k P => ∃ (M : Nat) (d0 : D), ds = [d0] ∧ bx M d0 ∧ M ≤ 2 ^ 40 ∧ k = 9 ∧ P = riP M
theorem all_map {α : Type} (f : α → Bool) (xs : List α) : (xs.map fun x => D.bl (f x)).all tru = xs.all f := by
  rw [List.all_map]; rfl
theorem isT_true {n : Int} {d : D} (h : isT n d = true) : ∃ xs, d = .tup xs ∧ (xs.length : Int) = n := by
  cases d with
  | tup xs => exact ⟨xs, rfl, of_decide_eq_true h⟩
  | _ => cases h
theorem isLk_no {r b : Int} {d : D} (h : isT 4 d = false) : isLk r b d = false := by
  cases d with
  | tup xs => show (decide ((xs.length : Int) = 4) && _) = false; rw [show decide ((xs.length : Int) = 4) = false from h]; rfl
  | _ => rfl
theorem isLk_tup {r b : Int} {xs : List D} (h : (xs.length : Int) = 4) : isLk r b (.tup xs) = ((xs.take 2).all (inR 0 (r - 1)) && (xs.drop 2).all (inR 0 (b - 1))) := by
  show (decide ((xs.length : Int) = 4) && _) = _
  rw [decide_eq_true h]; rfl
theorem isCan_no {d : D} (h : isT 3 d = false) : isCan d = false := by
  unfold isCan
  split
  · simp [isT] at h
  · rfl
theorem three_of {xs : List D} (h : (xs.length : Int) = 3) : ∃ a b c, xs = [a, b, c] := by
  match xs, h with
  | [a, b, c], _ => exact ⟨a, b, c, rfl⟩
  | [], h => simp at h
  | [_], h => simp at h
  | [_, _], h => simp at h
  | _ :: _ :: _ :: _ :: t, h => simp at h; omega
theorem isN_true {d : D} (h : isN d = true) : ∃ i, d = .int i := by
  cases d with
  | int i => exact ⟨i, rfl⟩
  | _ => cases h
theorem isCan_a {a b c : D} (h : isN a = false) : isCan (.tup [a, b, c]) = false := by
  cases a <;> first | rfl | cases h
theorem isCan_b {i : Int} {b c : D} (h : isN b = false) : isCan (.tup [.int i, b, c]) = false := by
  cases b <;> first | rfl | cases h
theorem isCan_c {i j : Int} {c : D} (h : ∀ ls, c ≠ .tup ls) : isCan (.tup [.int i, .int j, c]) = false := by
  cases c <;> first | rfl | exact absurd rfl (h _)
theorem okd_tups {xs : List D} (h : okd (.tup xs)) : okds xs := by unfold okd at h; exact h.2
theorem isCan_r {r b : Int} {ls : List D} (h : decide (r < 1) = true) : isCan (.tup [.int r, .int b, .tup ls]) = false := by
  show (!decide (r < 1) && _) = false
  rw [h]; rfl
theorem isCan_bb {r b : Int} {ls : List D} (h : decide (b < 1) = true) : isCan (.tup [.int r, .int b, .tup ls]) = false := by
  show (!decide (r < 1) && (!decide (b < 1) && _)) = false
  rw [h]; simp
theorem isCan_ok {r b : Int} {ls : List D} (h : decide (r < 1) = false) (h2 : decide (b < 1) = false) : isCan (.tup [.int r, .int b, .tup ls]) = ls.all (isLk r b) := by
  show (!decide (r < 1) && (!decide (b < 1) && _)) = _
  rw [h, h2]; rfl
def posN : D → Bool
  | .int i => decide (0 < i)
  | _ => false
theorem posN_true {d : D} (h : posN d = true) : ∃ i, d = .int i ∧ 0 < i := by
  cases d with
  | int i => exact ⟨i, rfl, of_decide_eq_true h⟩
  | _ => cases h
theorem isCan_pos {a b c : D} (h : [a, b].all posN = false) : isCan (.tup [a, b, c]) = false := by
  cases hA : isN a with
  | false => exact isCan_a hA
  | true =>
    obtain ⟨r, rfl⟩ := isN_true hA
    cases hB : isN b with
    | false => exact isCan_b hB
    | true =>
      obtain ⟨q, rfl⟩ := isN_true hB
      by_cases hc : ∃ ls, c = .tup ls
      · obtain ⟨ls, rfl⟩ := hc
        have h : (decide (0 < r) && (decide (0 < q) && true)) = false := h
        by_cases h1 : 0 < r
        · refine isCan_bb (decide_eq_true ?_)
          rw [decide_eq_true h1] at h
          by_cases h2 : 0 < q
          · rw [decide_eq_true h2] at h; cases h
          · omega
        · exact isCan_r (decide_eq_true (by omega))
      · exact isCan_c fun ls e => hc ⟨ls, e⟩
theorem isCan_pp {r q : Int} {ls : List D} (h1 : 0 < r) (h2 : 0 < q) : isCan (.tup [.int r, .int q, .tup ls]) = ls.all (isLk r q) := isCan_ok (decide_eq_false (by omega)) (decide_eq_false (by omega))
theorem isRow_tup {n : Int} {xs : List D} (h : (xs.length : Int) = n) : isRow n (.tup xs) = xs.all isN := by
  show (decide ((xs.length : Int) = n) && _) = _
  rw [decide_eq_true h]; rfl
theorem isRow_ne {n : Int} {xs : List D} (h : ¬ (xs.length : Int) = n) : isRow n (.tup xs) = false := by
  show (decide ((xs.length : Int) = n) && _) = _
  rw [decide_eq_false h]; rfl
theorem isRow4 {d : D} (h : isRow 4 d = true) : ∃ a b c e : Int, d = .tup [.int a, .int b, .int c, .int e] := by
  cases d with
  | tup xs =>
    by_cases hl : (xs.length : Int) = 4
    · rw [isRow_tup hl] at h
      match xs, hl with
      | [a, b, c, e], _ =>
        have h : (isN a && (isN b && (isN c && (isN e && true)))) = true := h
        simp only [Bool.and_eq_true] at h
        obtain ⟨i, rfl⟩ := isN_true h.1
        obtain ⟨j, rfl⟩ := isN_true h.2.1
        obtain ⟨k, rfl⟩ := isN_true h.2.2.1
        obtain ⟨l, rfl⟩ := isN_true h.2.2.2.1
        exact ⟨i, j, k, l, rfl⟩
      | [], h => simp at h
      | [_], h => simp at h
      | [_, _], h => simp at h
      | [_, _, _], h => simp at h
      | _ :: _ :: _ :: _ :: _ :: t, h => simp at h; omega
    · rw [isRow_ne hl] at h; cases h
  | _ => cases h
theorem isLk_row {r q : Int} {d : D} (h : isRow 4 d = false) : isLk r q d = false := by
  cases d with
  | tup xs =>
    by_cases hl : (xs.length : Int) = 4
    · rw [isRow_tup hl] at h
      rw [isLk_tup hl]
      rw [Bool.eq_false_iff] at h ⊢
      intro z
      rw [Bool.and_eq_true, List.all_eq_true, List.all_eq_true] at z
      refine h (List.all_eq_true.mpr fun x hx => ?_)
      have hx2 : x ∈ xs.take 2 ++ xs.drop 2 := by rw [List.take_append_drop]; exact hx
      have : inR 0 (r - 1) x = true ∨ inR 0 (q - 1) x = true := (List.mem_append.mp hx2).imp (z.1 x) (z.2 x)
      cases x <;> first | rfl | (rcases this with t | t <;> cases t)
    · show (decide ((xs.length : Int) = 4) && _) = false
      rw [decide_eq_false hl]; rfl
  | _ => rfl
def endP (r q : Int) (p : Int × Int) : Bool := decide (0 ≤ p.2) && decide (p.2 < if p.1 < 2 then r else q)
theorem isLk_ends {r q a b c e : Int} : isLk r q (.tup [.int a, .int b, .int c, .int e]) = [((0 : Int), a), (1, b), (2, c), (3, e)].all (endP r q) := by
  show (true && ((_ && (_ && true)) && (_ && (_ && true)))) = (_ && (_ && (_ && (_ && true))))
  have k : ∀ lo x : Int, (decide (0 ≤ x) && decide (x ≤ lo - 1)) = (decide (0 ≤ x) && decide (x < lo)) := fun lo x => by
    congr 1
    exact decide_eq_decide.mpr (by omega)
  simp only [inR, endP, k, Bool.true_and, Bool.and_true]
  simp [Bool.and_assoc]
theorem all_false {α : Type} {f : α → Bool} {xs : List α} {x : α} (h : x ∈ xs) (e : f x = false) : xs.all f = false := by
  rw [Bool.eq_false_iff]
  intro z
  rw [List.all_eq_true.mp z x h] at e
  cases e
theorem take_snoc {α : Type} {f : α → Bool} {xs : List α} {i : Nat} {x : α} (hd : xs[i]? = some x) (h : ∀ y ∈ xs.take i, f y = true) (e : f x = true) : ∀ y ∈ xs.take (i + 1), f y = true := by
  intro y hy
  rw [List.take_add_one, hd] at hy
  rcases List.mem_append.mp hy with hy | hy
  · exact h y hy
  · rw [show y = x by simpa using hy]; exact e
theorem isCan_no3 {a b c : D} (h : ∀ ls, c ≠ .tup ls) : isCan (.tup [a, b, c]) = false := by
  cases a <;> first | rfl | (cases b <;> first | rfl | exact isCan_c h)
theorem isCan_cT {w : Int} {u : Nat} {c : Cnl} (h : Okc w u c) : isCan (cT c) = true := by
  have hr := h.r
  have hb := h.b
  rw [show cT c = .tup [.int c.r, .int c.b, .tup (c.ls.map lkT)] from rfl, isCan_pp (by omega) (by omega), List.all_map, List.all_eq_true]
  intro l hl
  obtain ⟨h1, h2, h3, h4⟩ := h.l l hl
  show isLk c.r c.b (.tup [.int l.1, .int l.2.1, .int l.2.2.1, .int l.2.2.2]) = true
  rw [isLk_ends]
  simp [endP]
  omega
theorem at9_3 {r q : Int} {c : D} : at9 (.tup [.int r, .int q, c]) = at9 c := by simp [Cr.at9, Cr.at9s]
theorem okd_len {xs : List D} (h : okd (.tup xs)) : xs.length ≤ 100000 := by unfold okd at h; exact h.1
theorem go_rNum {gD : List D → List D} {is : List Item} {e : Cr.Env} {Q : Item → Cr.Env → Prop} {d0 : D} (hv : (wVals is e).map gD = some [d0]) (hq : Q (.t 9 (.bl (isN d0))) e)  : LookW 1 gD rNum is e Q := by
  obtain ⟨ds, hds, e1⟩ := Option.map_eq_some_iff.mp hv
  refine ⟨ds, 9, fun d => d = .bl (isN d0), hds, by rw [e1]; rfl, by (rw [e1]; exact ⟨d0, rfl, rfl, rfl⟩), .inl ⟨fun d hd => by (rw [hd]; exact rfl), fun d hd => by (rw [hd]; exact hq)⟩⟩
theorem go_rTupOf {gD : List D → List D} {is : List Item} {e : Cr.Env} {Q : Item → Cr.Env → Prop} {d0 : D} {n : Int} (hv : (wVals is e).map gD = some [d0, .int n]) (hq : Q (.t 9 (.bl (isT n d0))) e) (h1 : okd d0) : LookW 2 gD rTupOf is e Q := by
  obtain ⟨ds, hds, e1⟩ := Option.map_eq_some_iff.mp hv
  refine ⟨ds, 9, fun d => d = .bl (isT n d0), hds, by rw [e1]; rfl, by (rw [e1]; exact ⟨d0, n, rfl, h1, rfl, rfl⟩), .inl ⟨fun d hd => by (rw [hd]; exact rfl), fun d hd => by (rw [hd]; exact hq)⟩⟩
theorem go_rAre {gD : List D → List D} {is : List Item} {e : Cr.Env} {Q : Item → Cr.Env → Prop} {kd : Kd} {xs : List D} {s : D} {lo hi : Int} (hv : (wVals is e).map gD = some [s, .int lo, .int hi]) (hq : Q (.t 9 (.bl (xs.all (inR lo hi)))) e) (h1 : seqD s = some (kd, xs)) (h2 : xs.length ≤ 100000) : LookW 3 gD rAre is e Q := by
  obtain ⟨ds, hds, e1⟩ := Option.map_eq_some_iff.mp hv
  refine ⟨ds, 9, fun d => d = .bl (xs.all (inR lo hi)), hds, by rw [e1]; rfl, by (rw [e1]; exact ⟨kd, xs, s, lo, hi, h1, rfl, h2, rfl, rfl⟩), .inl ⟨fun d hd => by (rw [hd]; exact rfl), fun d hd => by (rw [hd]; exact hq)⟩⟩
theorem go_rLk {gD : List D → List D} {is : List Item} {e : Cr.Env} {Q : Item → Cr.Env → Prop} {d0 : D} {r b : Int} (hv : (wVals is e).map gD = some [d0, .int r, .int b]) (hq : Q (.t 9 (.bl (isLk r b d0))) e) (h1 : okd d0) : LookW 3 gD rLk is e Q := by
  obtain ⟨ds, hds, e1⟩ := Option.map_eq_some_iff.mp hv
  refine ⟨ds, 9, fun d => d = .bl (isLk r b d0), hds, by rw [e1]; rfl, by (rw [e1]; exact ⟨d0, r, b, rfl, h1, rfl, rfl⟩), .inl ⟨fun d hd => by (rw [hd]; exact rfl), fun d hd => by (rw [hd]; exact hq)⟩⟩
theorem go_rCan {gD : List D → List D} {is : List Item} {e : Cr.Env} {Q : Item → Cr.Env → Prop} {d0 : D} (hv : (wVals is e).map gD = some [d0]) (hq : Q (.t 9 (.bl (isCan d0))) e) (h1 : okd d0) : LookW 1 gD rCan is e Q := by
  obtain ⟨ds, hds, e1⟩ := Option.map_eq_some_iff.mp hv
  refine ⟨ds, 9, fun d => d = .bl (isCan d0), hds, by rw [e1]; rfl, by (rw [e1]; exact ⟨d0, rfl, h1, rfl, rfl⟩), .inl ⟨fun d hd => by (rw [hd]; exact rfl), fun d hd => by (rw [hd]; exact hq)⟩⟩
theorem go_rRow {gD : List D → List D} {is : List Item} {e : Cr.Env} {Q : Item → Cr.Env → Prop} {d0 : D} {n : Int} (hv : (wVals is e).map gD = some [d0, .int n, .bl false]) (hq : Q (.t 9 (.bl (isRow n d0))) e) (h1 : okd d0) : LookW 3 gD rRow is e Q := by
  obtain ⟨ds, hds, e1⟩ := Option.map_eq_some_iff.mp hv
  refine ⟨ds, 9, fun d => d = .bl (isRow n d0), hds, by rw [e1]; rfl, by (rw [e1]; exact ⟨d0, n, rfl, h1, rfl, rfl⟩), .inl ⟨fun d hd => by (rw [hd]; exact rfl), fun d hd => by (rw [hd]; exact hq)⟩⟩

theorem go_odd {i k0 : Nat} {M : Nat} {d0 : D} {e : Cr.Env} {Q : Item → Cr.Env → Prop} (he : e[i]? = some (some (k0, d0))) (hk : 1 ≤ k0) (hb : bx M d0) (hM : M ≤ 2 ^ 60) (hq : ∀ (d d1 : D), d ∈ oddL → bx (M + 1) d1 → Q (.t 0 d) (e.set i (some (1, d1)))) : ChgW 1 1 rOdd [.w i] e Q := by
  refine ⟨?_⟩
  unfold wChg
  simp only [he]
  exact ⟨[], _, _, rfl, rfl, okM_le hk, ⟨M, _, rfl, hb, hM, rfl, rfl⟩, .inr ⟨he, fun d d1 hp => hq d d1 hp.2 hp.1⟩⟩
theorem go_oth (n : Nat) {i k0 : Nat} {M B L h C : Nat} {d0 d : D} {r : List Item} {e : Cr.Env} {Q : Item → Cr.Env → Prop} (he : e[i]? = some (some (k0, d0))) (hv : wVals r (e.set i none) = some [d]) (hk : 1 ≤ k0) (hb : bx M d0) (hM : M + 10 * h ≤ 2 ^ 50) (hn : Nc B L h C d) (h1 : h < n) (h2 : 100 ≤ B) (h3 : B ≤ 190) (h4 : 4 ≤ L) (h5 : L ≤ 1000) (h6 : C ≤ 100000)
    (hq : wGives r e fun _ e' => e'[i]? = some (some (k0, d0)) ∧ ∀ (d' d1 : D), Nc (B + 2) (L + 1) (h + 1) (2 * C + 200) d' → bx (M + 6 * (h + 1)) d1 → Q (.t 0 d') (e'.set i (some (1, d1)))) : ChgW 2 1 (rOth n) (.w i :: r) e Q := by
  refine ⟨?_⟩
  unfold wChg
  simp only [he]
  exact ⟨_, _, _, hv, rfl, okM_le hk, ⟨M, _, _, B, L, h, C, rfl, hb, hM, hn, h1, h2, h3, h4, h5, h6, rfl, rfl⟩, .inr (wGives_mono (fun _ _ z => ⟨z.1, fun d d1 hp => z.2 d d1 hp.2 hp.1⟩) hq)⟩
/-- a list or a tuple of good ones -/
theorem Nc.seq {B L h C : Nat} {xs : List D} (hx : ∀ x ∈ xs, gd B L x ∧ dep x ≤ h) (hl : xs.length ≤ L) (hb : blks xs ≤ C) : Nc B L (h + 1) C (.lst xs) ∧ Nc B L (h + 1) C (.tup xs) := by
  have hd : deps xs ≤ h := by
    induction xs with
    | nil => exact Nat.zero_le _
    | cons x r ih =>
      unfold deps
      refine Nat.max_le.mpr ⟨(hx x List.mem_cons_self).2, ih (fun y hy => hx y (List.mem_cons_of_mem _ hy)) (by simp at hl; omega) (by rw [blks_cons] at hb; omega)⟩
  have hg := gds_iff.mpr fun x m => (hx x m).1
  exact ⟨⟨by unfold gd; exact ⟨hl, hg⟩, by unfold dep; omega, by rw [blk_lst]; exact hb⟩, ⟨by unfold gd; exact ⟨hl, hg⟩, by unfold dep; omega, by rw [blk_tup]; exact hb⟩⟩
theorem Nc.of_seq {B L h C : Nat} {xs : List D} {d : D} (hd : d = .lst xs ∨ d = .tup xs) (n : Nc B L h C d) : (∀ x ∈ xs, gd B L x ∧ dep x + 1 ≤ h) ∧ xs.length ≤ L ∧ blks xs ≤ C := by
  obtain ⟨g, dp, bk⟩ := n
  rcases hd with rfl | rfl
  · unfold gd at g
    unfold dep at dp
    rw [blk_lst] at bk
    exact ⟨fun x m => ⟨gds_iff.mp g.2 x m, by have := deps_mem m; omega⟩, g.1, bk⟩
  · unfold gd at g
    unfold dep at dp
    rw [blk_tup] at bk
    exact ⟨fun x m => ⟨gds_iff.mp g.2 x m, by have := deps_mem m; omega⟩, g.1, bk⟩
theorem Nc.atom {B L h C : Nat} {d : D} (hg : gd B L d) (hd : dep d = 0) (hb : blk d = 0) : Nc B L h C d := ⟨hg, by omega, by omega⟩
theorem mem_set {xs : List D} {i : Nat} {y x : D} (h : x ∈ xs.set i y) : x ∈ xs ∨ x = y := List.mem_or_eq_of_mem_set h
abbrev s__law_take : Stmt := tp 11
abbrev N__law_take : List Str := ["_law_box_here", "_law_size", "_law_found", "_law_blend"]
theorem sc__law_take : FnScope N__law_take ["_law_box_here", "_law_size"] (defScope s__law_take) := ⟨rfl, rfl, rfl, by decide +kernel, rfl, by decide +kernel, by decide +kernel⟩
theorem cl__law_take {P : Program} {w : World} {K : PySem.W.Frag} {mg : Str → Option Value} {base : Heap} (h__law_take : Known K mg "_law_take" s__law_take ["_law_box_here", "_law_size"])  : Cl P w K mg base L2.CX0 1 "_law_take" s__law_take ["_law_box_here", "_law_size"] (spI K 2 1 rTake) := by
  obtain ⟨f, fd, F, hm, hb⟩ := h__law_take
  refine Cl.I F hm hb sc__law_take rfl fun cdv A outer s H E G Sh v0 ds k' Pd hr hl hR => ?_
  refine ⟨_, (vss_cons (vs_if (vt_c (cr_gt) (vi_ix (nv 0) vi_int) vi_int) (vss_cons (vs_set (i := 2) sc__law_take.nd rfl (by first | exact .inl rfl | exact .inr rfl) (by simp) (vi_mod (vi_ix (nv 0) vi_int) (nv 1))) (vss_cons (vs_setIx (i := 0) rfl (by first | exact Or.inl rfl | exact Or.inr (Or.inl rfl) | exact Or.inr (Or.inr rfl)) (vi_fdiv (vi_ix (nv 0) vi_int) (nv 1)) vi_int) (vss_one (vs_retM (i := 2) rfl (by first | exact Or.inl rfl | exact Or.inr (Or.inl rfl) | exact Or.inr (Or.inr rfl)))))) vss_nil) (vss_cons (vs_setIx (i := 0) rfl (by first | exact Or.inl rfl | exact Or.inr (Or.inl rfl) | exact Or.inr (Or.inr rfl)) (vi_add (vi_ix (nv 0) vi_int) vi_int) vi_int) (vss_cons (vs_set (i := 3) sc__law_take.nd rfl (by first | exact .inl rfl | exact .inr rfl) (by simp) (vi_mod (vi_add (vi_ix (nv 0) vi_int) (vi_mul vi_int (vi_ix (nv 0) vi_int))) vi_int)) (vss_cons (vs_set (i := 3) sc__law_take.nd rfl (by first | exact .inl rfl | exact .inr rfl) (by simp) (vi_mod (vi_add (vi_add (vi_mul (nv 3) (nv 3)) (vi_mul vi_int (vi_ix (nv 0) vi_int))) vi_int) vi_int)) (vss_cons (vs_set (i := 3) sc__law_take.nd rfl (by first | exact .inl rfl | exact .inr rfl) (by simp) (vi_mod (vi_add (vi_mul (nv 3) (vi_add (vi_fdiv (nv 3) vi_int) vi_int)) (vi_ix (nv 0) vi_int)) vi_int)) (vss_one (vs_ret (vi_mod (vi_fdiv (nv 3) vi_int) (nv 1))))))))), ?_⟩

  obtain ⟨M, d0, n, rfl, ⟨a, b, c, rfl, ha, hb2, hc, hcM⟩, hM, hn, hn2, rfl, rfl⟩ := hR
  repeat ((conv => whnf); first | (with_reducible refine And.intro ?_ ?_; rotate_left) | with_reducible refine Exists.intro _ (And.intro rfl ?_) | refine Br.yes rfl ?_ | refine Br.no rfl ?_ | refine Br.yes (by first | rfl | exact at9_cT _ | exact at9_sT _ | exact at9_intt _ | exact at9_int _ | exact at9_lkTt _ | exact at9_lkT _ | exact at9_lkX _ | exact at9_lkS _ _ _ | exact at9_tog _ _ _ _ | exact at9_c3 _ | exact at9_fl _ | exact h9 _ my | exact h9 | (simp only [Cr.at9, Cr.at9s, List.map_cons, List.map_nil, at9_int, at9_intt, at9_lkT, at9_lkTt, at9_lkX, at9_lkS, at9_tog, at9_cT, at9_sT, Bool.and_true, Bool.and_self]; done) | fail) ?_ | refine Br.no h9 ?_ | fail)
  · conv => whnf
    refine Br.mk (fun h => ?_) (fun h => ?_)
    · repeat ((conv => whnf); first | (with_reducible refine And.intro ?_ ?_; rotate_left) | with_reducible refine Exists.intro _ (And.intro rfl ?_) | refine Br.yes rfl ?_ | refine Br.no rfl ?_ | refine Br.yes (by first | rfl | exact at9_cT _ | exact at9_sT _ | exact at9_intt _ | exact at9_int _ | exact at9_lkTt _ | exact at9_lkT _ | exact at9_lkX _ | exact at9_lkS _ _ _ | exact at9_tog _ _ _ _ | exact at9_c3 _ | exact at9_fl _ | exact h9 _ my | exact h9 | (simp only [Cr.at9, Cr.at9s, List.map_cons, List.map_nil, at9_int, at9_intt, at9_lkT, at9_lkTt, at9_lkX, at9_lkS, at9_tog, at9_cT, at9_sT, Bool.and_true, Bool.and_self]; done) | fail) ?_ | refine Br.no h9 ?_ | fail)
      · refine ⟨_, _, rfl, okM_le (by decide), ⟨_, _, _, rfl, Int.ediv_nonneg ha (by omega), hb2, hc, by omega⟩, _, rfl, Int.emod_nonneg _ (by omega), Int.emod_lt_of_pos _ hn⟩
      all_goals first | exact rfl | exact hn | exact ⟨hn, lg64 hn2⟩ | exact okM_le (Nat.le_refl _) | exact Nat.le_of_ble_eq_true rfl | (dsimp only; decide) | exact lgs 99 99 (by first | omega | (dsimp only; omega) | decide) (by first | omega | (dsimp only; omega) | decide) | (dsimp only; exact ⟨by decide, by decide⟩)
    · repeat ((conv => whnf); first | (with_reducible refine And.intro ?_ ?_; rotate_left) | with_reducible refine Exists.intro _ (And.intro rfl ?_) | refine Br.yes rfl ?_ | refine Br.no rfl ?_ | refine Br.yes (by first | rfl | exact at9_cT _ | exact at9_sT _ | exact at9_intt _ | exact at9_int _ | exact at9_lkTt _ | exact at9_lkT _ | exact at9_lkX _ | exact at9_lkS _ _ _ | exact at9_tog _ _ _ _ | exact at9_c3 _ | exact at9_fl _ | exact h9 _ my | exact h9 | (simp only [Cr.at9, Cr.at9s, List.map_cons, List.map_nil, at9_int, at9_intt, at9_lkT, at9_lkTt, at9_lkX, at9_lkS, at9_tog, at9_cT, at9_sT, Bool.and_true, Bool.and_self]; done) | fail) ?_ | refine Br.no h9 ?_ | fail)
      · refine ⟨_, _, rfl, okM_le (by decide), ⟨_, _, _, rfl, ha, hb2, (by omega), ?_⟩, _, rfl, Int.emod_nonneg _ (by omega), Int.emod_lt_of_pos _ hn⟩
        show (c + 1).toNat ≤ M + 1
        omega
      all_goals first | exact rfl | exact hn | exact ⟨hn, lg64 hn2⟩ | exact okM_le (Nat.le_refl _) | exact Nat.le_of_ble_eq_true rfl | (dsimp only; decide) | exact lgs 99 99 (by first | omega | (dsimp only; omega) | decide) (by first | omega | (dsimp only; omega) | decide) | (dsimp only; exact ⟨by decide, by decide⟩)
  all_goals first | exact rfl | exact hn | exact ⟨hn, lg64 hn2⟩ | exact okM_le (Nat.le_refl _) | exact Nat.le_of_ble_eq_true rfl | (dsimp only; decide) | exact lgs 99 99 (by first | omega | (dsimp only; omega) | decide) (by first | omega | (dsimp only; omega) | decide) | (dsimp only; exact ⟨by decide, by decide⟩)
abbrev s__law_of : Stmt := tp 12
abbrev N__law_of : List Str := ["_law_box_here", "_law_some"]
theorem sc__law_of : FnScope N__law_of ["_law_box_here", "_law_some"] (defScope s__law_of) := ⟨rfl, rfl, rfl, by decide +kernel, rfl, by decide +kernel, by decide +kernel⟩
theorem cl__law_of {P : Program} {w : World} {K : PySem.W.Frag} {mg : Str → Option Value} {base : Heap} (h__law_of : Known K mg "_law_of" s__law_of ["_law_box_here", "_law_some"]) (m_len : mg "len" = none) (c__law_take : Cl P w K mg base L2.CX0 1 "_law_take" s__law_take ["_law_box_here", "_law_size"] (spI K 2 1 rTake)) : Cl P w K mg base L2.CX0 2 "_law_of" s__law_of ["_law_box_here", "_law_some"] (spI K 2 1 rOf) := by
  obtain ⟨f, fd, F, hm, hb⟩ := h__law_of
  refine Cl.I F hm hb sc__law_of rfl fun cdv A outer s H E G Sh v0 ds k' Pd hr hl hR => ?_
  refine ⟨_, (vss_one (vs_ret (vi_ix (nv 1) (vi_callI c__law_take (hr.less (by omega)) noE (va_cons (nv 0) (va_cons (vi_fb fb_len m_len (va_cons (nv 1) va_nil)) va_nil)))))), ?_⟩

  obtain ⟨M, d0, s', kd, xs, rfl, hbx, hM, hs, hne, hlen, h9, rfl⟩ := hR
  have hpos : 0 < xs.length := List.length_pos_iff.mpr hne
  have h9s : at9s xs = false → k' = 0 := fun h => by
    rcases h9 with ⟨h9, _⟩ | h9
    · rw [at9s_of h9] at h; cases h
    · exact h9
  have h90 : k' ≤ 9 := by rcases h9 with ⟨_, h9⟩ | h9 <;> omega
  cases s' <;> cases hs
  all_goals (
    rw [show entI N__law_of.length 1 [d0, _] = [some (1, d0), some (md _, _)] from rfl]
    rcases md_or _ with ⟨hmd, h9m⟩ | ⟨hmd, h9m⟩ <;> rw [hmd])
  all_goals (
    repeat ((conv => whnf); first | (with_reducible refine And.intro ?_ ?_; rotate_left) | with_reducible refine Exists.intro _ (And.intro rfl ?_))
    refine go_take rfl rfl (Nat.le_of_ble_eq_true rfl) hbx hM (by omega) (by omega) (fun i d1 h0 hi hb1 => ?_)
    obtain ⟨y, hy, my⟩ := atI_mem h0 hi
    conv => whnf
    rw [hy]
    conv => whnf
    cases q9 : at9 y with
    | true =>
      refine Br.yes rfl ?_
      repeat ((conv => whnf); first | (with_reducible refine And.intro ?_ ?_; rotate_left) | with_reducible refine Exists.intro _ (And.intro rfl ?_))
      · exact ⟨_, _, rfl, okM_le (Nat.le_of_ble_eq_true rfl), hb1, my⟩
      all_goals first | exact okM_le h90 | exact rfl
    | false =>
      have qs : at9s xs = false := by
        cases z : at9s xs with
        | false => rfl
        | true => rw [at9s_mem z my] at q9; cases q9
      refine Br.no rfl ?_
      rw [h9s qs]
      repeat ((conv => whnf); first | (with_reducible refine And.intro ?_ ?_; rotate_left) | with_reducible refine Exists.intro _ (And.intro rfl ?_) | refine Br.yes rfl ?_ | refine Br.no rfl ?_ | refine Br.yes (by first | rfl | exact at9_cT _ | exact at9_sT _ | exact at9_intt _ | exact at9_int _ | exact at9_lkTt _ | exact at9_lkT _ | exact at9_lkX _ | exact at9_lkS _ _ _ | exact at9_tog _ _ _ _ | exact at9_c3 _ | exact at9_fl _ | exact h9 _ my | exact h9 | (simp only [Cr.at9, Cr.at9s, List.map_cons, List.map_nil, at9_int, at9_intt, at9_lkT, at9_lkTt, at9_lkX, at9_lkS, at9_tog, at9_cT, at9_sT, Bool.and_true, Bool.and_self]; done) | fail) ?_ | refine Br.no h9 ?_ | refine Br.no qs ?_ | fail)
      · exact ⟨_, _, rfl, okM_le (Nat.le_of_ble_eq_true rfl), hb1, my⟩
      all_goals first | exact okM_le (Nat.zero_le _) | exact rfl)
abbrev s__law_canal : Stmt := tp 13
abbrev N__law_canal : List Str := ["_law_box_here", "_law_wide", "_law_utmost", "_law_sizes", "_law_kind", "_law_gates", "_law_k", "_law_ends", "_law_tide", "_law_size"]
theorem sc__law_canal : FnScope N__law_canal ["_law_box_here", "_law_wide", "_law_utmost"] (defScope s__law_canal) := ⟨rfl, rfl, rfl, by decide +kernel, rfl, by decide +kernel, by decide +kernel⟩
abbrev scc__law_canal_0 : Scope := { kind := .function, names := [(PySem.Str.ofString ".0", PySem.NameKind.local), (PySem.Str.ofString "_law_tide", PySem.NameKind.local), (PySem.Str.ofString "_law_take", PySem.NameKind.globalImplicit), (PySem.Str.ofString "_law_box_here", PySem.NameKind.free), (PySem.Str.ofString "_law_wide", PySem.NameKind.free)], isGenerator := false, isCoroutine := false, more := [] }
abbrev scc__law_canal_1 : Scope := { kind := .function, names := [(PySem.Str.ofString ".0", PySem.NameKind.local), (PySem.Str.ofString "_law_size", PySem.NameKind.local), (PySem.Str.ofString "_law_take", PySem.NameKind.globalImplicit), (PySem.Str.ofString "_law_box_here", PySem.NameKind.free)], isGenerator := false, isCoroutine := false, more := [] }
abbrev scr__law_canal_0 : Scope := { kind := .function, names := [(PySem.Str.ofString ".0", PySem.NameKind.local), (PySem.Str.ofString "_law_tide", PySem.NameKind.local), (PySem.Str.ofString "_law_take", PySem.NameKind.globalImplicit), (PySem.Str.ofString "_law_box_here", PySem.NameKind.cell), (PySem.Str.ofString "_law_wide", PySem.NameKind.cell)], isGenerator := false, isCoroutine := false, more := [] }
abbrev scr__law_canal_1 : Scope := { kind := .function, names := [(PySem.Str.ofString ".0", PySem.NameKind.local), (PySem.Str.ofString "_law_size", PySem.NameKind.local), (PySem.Str.ofString "_law_take", PySem.NameKind.globalImplicit), (PySem.Str.ofString "_law_box_here", PySem.NameKind.cell)], isGenerator := false, isCoroutine := false, more := [] }
theorem cl__law_canal {P : Program} {w : World} {K : PySem.W.Frag} {mg : Str → Option Value} {base : Heap} (h__law_canal : Known K mg "_law_canal" s__law_canal ["_law_box_here", "_law_wide", "_law_utmost"]) (m_list : mg "list" = none) (m_range : mg "range" = none) (m_tuple : mg "tuple" = none) (c__law_of : Cl P w K mg base L2.CX0 2 "_law_of" s__law_of ["_law_box_here", "_law_some"] (spI K 2 1 rOf)) (c__law_take : Cl P w K mg base L2.CX0 1 "_law_take" s__law_take ["_law_box_here", "_law_size"] (spI K 2 1 rTake)) : Cl P w K mg base L2.CX0 3 "_law_canal" s__law_canal ["_law_box_here", "_law_wide", "_law_utmost"] (spI K 3 1 rCanal) := by
  obtain ⟨f, fd, F, hm, hb⟩ := h__law_canal
  refine Cl.I F hm hb sc__law_canal rfl fun cdv A outer s H E G Sh v0 ds k' Pd hr hl hR => ?_
  refine ⟨_, (vss_cons (vs_par (i := 3) (j := 4) rfl sc__law_canal.nd rfl rfl (by decide) rfl rfl (by simp) (by simp) (va_cons (vi_lc s (own := [("_law_tide", 8)]) rfl sc__law_canal.nd (vit_range1 m_range vi_int) (blkOk_by (N := N__law_canal) (sc := (defScope s__law_canal)) (scope := scc__law_canal_0) (own := [("_law_tide", 8)]) (by decide +kernel)) (by decide) (by simp) (fun _ _ _ _ _ => (vg_name (i := 8) sc__law_canal.nd rfl (by first | exact .inl rfl | exact .inr rfl) (by simp))) (fun _ _ _ _ _ => vts_nil) (fun _ _ _ _ _ => (vi_add vi_int (vi_callI c__law_take (hr.less (by omega)) noE (va_cons (nv 0) (va_cons (nv 1) va_nil)))))) (va_cons (vi_callI c__law_take (hr.less (by omega)) noE (va_cons (nv 0) (va_cons vi_int va_nil))) va_nil)) (by rfl)) (vss_cons (vs_set (i := 5) sc__law_canal.nd rfl (by first | exact .inl rfl | exact .inr rfl) (by simp) (vi_list va_nil)) (vss_cons (vs_for (passes_of rfl) rfl (vit_range1 m_range (vi_callI c__law_take (hr.less (by omega)) noE (va_cons (nv 0) (va_cons (vi_add (nv 2) vi_int) va_nil)))) (vg_name (i := 6) sc__law_canal.nd rfl (by first | exact .inl rfl | exact .inr rfl) (by simp)) (vss_cons (vs_if (VW.vt (vw_and (vt_c (cr_eq hr.r.units) (nv 4) vi_int) (vw_and1 (vt_c (cr_ne hr.r.units) (nv 5) (vi_list va_nil))))) (vss_one (vs_set (i := 7) sc__law_canal.nd rfl (by first | exact .inl rfl | exact .inr rfl) (by simp) (vi_add (vi_slice (vi_listOf m_list (vi_ix (nv 5) (vi_neg vi_int))) vo_none (vo_some vi_int)) (vi_list (va_cons (vi_callI c__law_take (hr.less (by omega)) noE (va_cons (nv 0) (va_cons (vi_ix (nv 3) vi_int) va_nil))) (va_cons (vi_callI c__law_take (hr.less (by omega)) noE (va_cons (nv 0) (va_cons (vi_ix (nv 3) vi_int) va_nil))) va_nil)))))) (vss_one (vs_if (vt_c (cr_eq hr.r.units) (nv 4) vi_int) (vss_one (vs_set (i := 7) sc__law_canal.nd rfl (by first | exact .inl rfl | exact .inr rfl) (by simp) (vi_list (va_cons (vi_mod (nv 6) (vi_ix (nv 3) vi_int)) (va_cons (vi_mod (vi_add (nv 6) vi_int) (vi_ix (nv 3) vi_int)) (va_cons (vi_callI c__law_take (hr.less (by omega)) noE (va_cons (nv 0) (va_cons (vi_ix (nv 3) vi_int) va_nil))) (va_cons (vi_callI c__law_take (hr.less (by omega)) noE (va_cons (nv 0) (va_cons (vi_ix (nv 3) vi_int) va_nil))) va_nil))))))) (vss_one (vs_if (VW.vt (vw_and (vt_c (cr_eq hr.r.units) (nv 4) vi_int) (vw_and1 (vt_c (cr_ne hr.r.units) (nv 5) (vi_list va_nil))))) (vss_cons (vs_set (i := 7) sc__law_canal.nd rfl (by first | exact .inl rfl | exact .inr rfl) (by simp) (vi_listOf m_list (vi_callI c__law_of (hr.less (by omega)) noE (va_cons (nv 0) (va_cons (nv 5) va_nil))))) (vss_one (vs_setIx (i := 7) rfl (by first | exact Or.inl rfl | exact Or.inr (Or.inl rfl) | exact Or.inr (Or.inr rfl)) vi_int (vi_callI c__law_take (hr.less (by omega)) noE (va_cons (nv 0) (va_cons vi_int va_nil)))))) (vss_one (vs_setLc s (i := 7) (own := [("_law_size", 9)]) rfl sc__law_canal.nd rfl rfl (sw_true rfl rfl rfl (by decide +kernel)) (by simp) (vit_seq (vi_tup (va_cons (vi_ix (nv 3) vi_int) (va_cons (vi_ix (nv 3) vi_int) (va_cons (vi_ix (nv 3) vi_int) (va_cons (vi_ix (nv 3) vi_int) va_nil)))))) (blkOk_by (N := N__law_canal) (sc := (defScope s__law_canal)) (scope := scc__law_canal_1) (own := [("_law_size", 9)]) (by decide +kernel)) (by decide) (by simp) (fun _ _ _ _ _ => (vg_name (i := 9) sc__law_canal.nd rfl (by first | exact .inl rfl | exact .inr rfl) (by simp))) (fun _ _ _ _ _ => vts_nil) (fun _ _ _ _ _ => (vi_callI c__law_take (hr.less (by omega)) noE (va_cons (nv 0) (va_cons (nv 9) va_nil))))))))))) (vss_one (vs_expr (vi_push (i := 5) rfl (by first | exact Or.inl rfl | exact Or.inr (Or.inl rfl) | exact Or.inr (Or.inr rfl)) (vi_tupOf m_tuple (nv 7))))))) (vss_one (vs_ret (vi_tup (va_cons (vi_ix (nv 3) vi_int) (va_cons (vi_ix (nv 3) vi_int) (va_cons (vi_tupOf m_tuple (nv 5)) va_nil))))))))), ?_⟩

  obtain ⟨M, d0, w', u, rfl, hbx, hM, hw1, hw2, hu, rfl, rfl⟩ := hR
  rw [show entI N__law_canal.length 1 [d0, .int w', .int u] = [some (1, d0), some (9, .int w'), some (9, .int u), none, none, none, none, none, none, none] from rfl]
  repeat ((conv => whnf); first | (with_reducible refine And.intro ?_ ?_; rotate_left) | with_reducible refine Exists.intro _ (And.intro rfl ?_) | refine Br.yes rfl ?_ | refine Br.no rfl ?_ | refine Br.yes (by first | rfl | exact at9_cT _ | exact at9_sT _ | exact at9_intt _ | exact at9_int _ | exact at9_lkTt _ | exact at9_lkT _ | exact at9_lkX _ | exact at9_lkS _ _ _ | exact at9_tog _ _ _ _ | exact at9_c3 _ | exact at9_fl _ | exact h9 _ my | exact h9 | (simp only [Cr.at9, Cr.at9s, List.map_cons, List.map_nil, at9_int, at9_intt, at9_lkT, at9_lkTt, at9_lkX, at9_lkS, at9_tog, at9_cT, at9_sT, Bool.and_true, Bool.and_self]; done) | fail) ?_ | refine Br.no h9 ?_ | fail)
  · refine lc_by (fun i k acc env => 9 ≤ k ∧ ∃ (d' : D) (rs : List Int), env = [some (1, d'), some (9, .int w'), some (9, .int u), none, none, none, none, none, none, none] ∧ bx (M + i) d' ∧ acc = rs.map D.int ∧ rs.length = i ∧ ∀ r ∈ rs, 1 ≤ r ∧ r ≤ w') ⟨Nat.le_refl _, d0, [], rfl, hbx, rfl, rfl, fun r hr => absurd hr List.not_mem_nil⟩ (fun i dd k acc env hd hI Y hY => ?_) (fun k acc env hI => ?_)
    · obtain ⟨hk, d', rs, rfl, hb, rfl, hrl, hr⟩ := hI
      have hi2 : i < 2 := (List.getElem?_eq_some_iff.mp hd).1
      repeat ((conv => whnf); first | (with_reducible refine And.intro ?_ ?_; rotate_left) | with_reducible refine Exists.intro _ (And.intro rfl ?_) | refine Br.yes rfl ?_ | refine Br.no rfl ?_ | refine Br.yes (by first | rfl | exact at9_cT _ | exact at9_sT _ | exact at9_intt _ | exact at9_int _ | exact at9_lkTt _ | exact at9_lkT _ | exact at9_lkX _ | exact at9_lkS _ _ _ | exact at9_tog _ _ _ _ | exact at9_c3 _ | exact at9_fl _ | exact h9 _ my | exact h9 | (simp only [Cr.at9, Cr.at9s, List.map_cons, List.map_nil, at9_int, at9_intt, at9_lkT, at9_lkTt, at9_lkX, at9_lkS, at9_tog, at9_cT, at9_sT, Bool.and_true, Bool.and_self]; done) | fail) ?_ | refine Br.no h9 ?_ | fail)
      · refine ⟨_, _, _, rfl, rfl, okM_le (Nat.le_of_ble_eq_true rfl), ⟨M + i, _, _, rfl, hb, (by omega), (by omega), (by omega), rfl, rfl⟩, .inl ⟨tk_full, fun d d1 hp => ?_⟩⟩
        obtain ⟨hb1, j, rfl, h0, h1⟩ := hp
        repeat ((conv => whnf); first | (with_reducible refine And.intro ?_ ?_; rotate_left) | with_reducible refine Exists.intro _ (And.intro rfl ?_) | refine Br.yes rfl ?_ | refine Br.no rfl ?_ | refine Br.yes (by first | rfl | exact at9_cT _ | exact at9_sT _ | exact at9_intt _ | exact at9_int _ | exact at9_lkTt _ | exact at9_lkT _ | exact at9_lkX _ | exact at9_lkS _ _ _ | exact at9_tog _ _ _ _ | exact at9_c3 _ | exact at9_fl _ | exact h9 _ my | exact h9 | (simp only [Cr.at9, Cr.at9s, List.map_cons, List.map_nil, at9_int, at9_intt, at9_lkT, at9_lkTt, at9_lkX, at9_lkS, at9_tog, at9_cT, at9_sT, Bool.and_true, Bool.and_self]; done) | fail) ?_ | refine Br.no h9 ?_ | fail)
        · conv => whnf
          refine hY _ _ _ ⟨Nat.le_min.mpr ⟨hk, Nat.le_refl _⟩, d1, rs ++ [1 + j], rfl, bx_mono hb1 (by omega), by rw [List.map_append]; rfl, by rw [List.length_append, hrl]; rfl, ?_⟩
          intro r hr'
          rcases List.mem_append.mp hr' with hr' | hr'
          · exact hr r hr'
          · rw [List.mem_singleton.mp hr']; omega
        all_goals first | exact rfl | exact trivial | assumption | exact Nat.le_of_ble_eq_true rfl | exact okM_le (Nat.le_of_ble_eq_true rfl) | exact ⟨rfl, rfl⟩ | exact ⟨_, _, rfl⟩ | exact Nat.le_trans (Nat.min_le_right _ _) (Nat.le_of_ble_eq_true rfl) | exact ⟨by decide, by decide⟩ | exact ⟨Nat.le_of_ble_eq_true rfl, Nat.le_of_ble_eq_true rfl⟩ | exact lt_line (by simp; omega) | (refine fits_of ?_; simp; done) | (refine fits_of ?_; simp; omega) | (refine fits_of ?_; rw [List.length_map]; omega) | (dsimp only; omega) | omega
      all_goals first | exact rfl | exact trivial | assumption | exact Nat.le_of_ble_eq_true rfl | exact okM_le (Nat.le_of_ble_eq_true rfl) | exact ⟨rfl, rfl⟩ | exact ⟨_, _, rfl⟩ | exact Nat.le_trans (Nat.min_le_right _ _) (Nat.le_of_ble_eq_true rfl) | exact ⟨by decide, by decide⟩ | exact ⟨Nat.le_of_ble_eq_true rfl, Nat.le_of_ble_eq_true rfl⟩ | exact lt_line (by simp; omega) | (refine fits_of ?_; simp; done) | (refine fits_of ?_; simp; omega) | (refine fits_of ?_; rw [List.length_map]; omega) | (dsimp only; omega) | omega
    · obtain ⟨hk, d', rs, rfl, hb, rfl, hrl, hr⟩ := hI
      obtain ⟨r0, b0, rfl⟩ : ∃ r0 b0, rs = [r0, b0] := by
        match rs, hrl with
        | [x, y], _ => exact ⟨x, y, rfl⟩
      have hr0 := hr r0 (by simp)
      have hb0 := hr b0 (by simp)
      repeat ((conv => whnf); first | (with_reducible refine And.intro ?_ ?_; rotate_left) | with_reducible refine Exists.intro _ (And.intro rfl ?_) | refine Br.yes rfl ?_ | refine Br.no rfl ?_ | refine Br.yes (by first | rfl | exact at9_cT _ | exact at9_sT _ | exact at9_intt _ | exact at9_int _ | exact at9_lkTt _ | exact at9_lkT _ | exact at9_lkX _ | exact at9_lkS _ _ _ | exact at9_tog _ _ _ _ | exact at9_c3 _ | exact at9_fl _ | exact h9 _ my | exact h9 | (simp only [Cr.at9, Cr.at9s, List.map_cons, List.map_nil, at9_int, at9_intt, at9_lkT, at9_lkTt, at9_lkX, at9_lkS, at9_tog, at9_cT, at9_sT, Bool.and_true, Bool.and_self]; done) | fail) ?_ | refine Br.no h9 ?_ | fail)
      · refine ⟨_, _, _, rfl, rfl, okM_le (Nat.le_of_ble_eq_true rfl), ⟨M + 2, _, _, rfl, hb, (by omega), (by omega), (by omega), rfl, rfl⟩, .inl ⟨tk_full, fun d d1 hp => ?_⟩⟩
        obtain ⟨hb1, kd, rfl, hk0, hk1⟩ := hp
        repeat ((conv => whnf); first | (with_reducible refine And.intro ?_ ?_; rotate_left) | with_reducible refine Exists.intro _ (And.intro rfl ?_) | refine Br.yes rfl ?_ | refine Br.no rfl ?_ | refine Br.yes (by first | rfl | exact at9_cT _ | exact at9_sT _ | exact at9_intt _ | exact at9_int _ | exact at9_lkTt _ | exact at9_lkT _ | exact at9_lkX _ | exact at9_lkS _ _ _ | exact at9_tog _ _ _ _ | exact at9_c3 _ | exact at9_fl _ | exact h9 _ my | exact h9 | (simp only [Cr.at9, Cr.at9s, List.map_cons, List.map_nil, at9_int, at9_intt, at9_lkT, at9_lkTt, at9_lkX, at9_lkS, at9_tog, at9_cT, at9_sT, Bool.and_true, Bool.and_self]; done) | fail) ?_ | refine Br.no h9 ?_ | fail)
        · refine ⟨_, _, _, rfl, rfl, okM_le (Nat.le_of_ble_eq_true rfl), ⟨M + 3, _, _, rfl, hb1, (by omega), (by omega), (by omega), rfl, rfl⟩, .inl ⟨tk_full, fun d d1 hp => ?_⟩⟩
          obtain ⟨hb2, m, rfl, hm0, hm1⟩ := hp
          repeat ((conv => whnf); first | (with_reducible refine And.intro ?_ ?_; rotate_left) | with_reducible refine Exists.intro _ (And.intro rfl ?_) | refine Br.yes rfl ?_ | refine Br.no rfl ?_ | refine Br.yes (by first | rfl | exact at9_cT _ | exact at9_sT _ | exact at9_intt _ | exact at9_int _ | exact at9_lkTt _ | exact at9_lkT _ | exact at9_lkX _ | exact at9_lkS _ _ _ | exact at9_tog _ _ _ _ | exact at9_c3 _ | exact at9_fl _ | exact h9 _ my | exact h9 | (simp only [Cr.at9, Cr.at9s, List.map_cons, List.map_nil, at9_int, at9_intt, at9_lkT, at9_lkTt, at9_lkX, at9_lkS, at9_tog, at9_cT, at9_sT, Bool.and_true, Bool.and_self]; done) | fail) ?_ | refine Br.no h9 ?_ | fail)
          · conv => whnf
            refine for_by (I := cnI M w' u r0 b0 kd (k + 1)) ⟨_, [], none, none, none, none, rfl, bx_mono hb2 (by omega), rfl, fun l hl => absurd hl List.not_mem_nil⟩ (fun i dd env hd hI Y hY => ?_) (fun env hI => ?_)
            · obtain ⟨d', gs, e6, e7, e8, e9, rfl, hb, hgl, hgo⟩ := hI
              have hi : i < 101 := by
                have := (List.getElem?_eq_some_iff.mp hd).1
                unfold rangeD at this
                rw [List.length_map, List.length_range] at this
                omega
              obtain ⟨ii, hii⟩ : ∃ ii : Int, dd = .int ii := by
                unfold rangeD at hd
                rw [List.getElem?_map] at hd
                cases q : (List.range m.toNat)[i]? with
                | none => rw [q] at hd; cases hd
                | some z => rw [q] at hd; exact ⟨_, (Option.some.inj hd).symm⟩
              subst hii
              have hkd : kd = 0 ∨ kd = 1 ∨ kd = 2 ∨ kd = 3 ∨ kd = 4 := by omega
              by_cases hB : kd = 2
              · subst hB
                repeat ((conv => whnf); first | (with_reducible refine And.intro ?_ ?_; rotate_left) | with_reducible refine Exists.intro _ (And.intro rfl ?_) | refine Br.yes rfl ?_ | refine Br.no rfl ?_ | refine Br.yes (by first | rfl | exact at9_cT _ | exact at9_sT _ | exact at9_intt _ | exact at9_int _ | exact at9_lkTt _ | exact at9_lkT _ | exact at9_lkX _ | exact at9_lkS _ _ _ | exact at9_tog _ _ _ _ | exact at9_c3 _ | exact at9_fl _ | exact h9 _ my | exact h9 | (simp only [Cr.at9, Cr.at9s, List.map_cons, List.map_nil, at9_int, at9_intt, at9_lkT, at9_lkTt, at9_lkX, at9_lkS, at9_tog, at9_cT, at9_sT, Bool.and_true, Bool.and_self]; done) | fail) ?_ | refine Br.no h9 ?_ | fail)
                · refine ⟨_, _, _, rfl, rfl, okM_le (Nat.le_of_ble_eq_true rfl), ⟨M + 4 + 5 * i, _, _, rfl, hb, (by omega), (by omega), (by omega), rfl, rfl⟩, .inl ⟨tk_full, fun d d1 hp => ?_⟩⟩
                  obtain ⟨hc1, j1, rfl, h10, h11⟩ := hp
                  repeat ((conv => whnf); first | (with_reducible refine And.intro ?_ ?_; rotate_left) | with_reducible refine Exists.intro _ (And.intro rfl ?_) | refine Br.yes rfl ?_ | refine Br.no rfl ?_ | refine Br.yes (by first | rfl | exact at9_cT _ | exact at9_sT _ | exact at9_intt _ | exact at9_int _ | exact at9_lkTt _ | exact at9_lkT _ | exact at9_lkX _ | exact at9_lkS _ _ _ | exact at9_tog _ _ _ _ | exact at9_c3 _ | exact at9_fl _ | exact h9 _ my | exact h9 | (simp only [Cr.at9, Cr.at9s, List.map_cons, List.map_nil, at9_int, at9_intt, at9_lkT, at9_lkTt, at9_lkX, at9_lkS, at9_tog, at9_cT, at9_sT, Bool.and_true, Bool.and_self]; done) | fail) ?_ | refine Br.no h9 ?_ | fail)
                  · refine ⟨_, _, _, rfl, rfl, okM_le (Nat.le_of_ble_eq_true rfl), ⟨M + 4 + 5 * i + 1, _, _, rfl, hc1, (by omega), (by omega), (by omega), rfl, rfl⟩, .inl ⟨tk_full, fun d d1 hp => ?_⟩⟩
                    obtain ⟨hc2, j2, rfl, h20, h21⟩ := hp
                    repeat ((conv => whnf); first | (with_reducible refine And.intro ?_ ?_; rotate_left) | with_reducible refine Exists.intro _ (And.intro rfl ?_) | refine Br.yes rfl ?_ | refine Br.no rfl ?_ | refine Br.yes (by first | rfl | exact at9_cT _ | exact at9_sT _ | exact at9_intt _ | exact at9_int _ | exact at9_lkTt _ | exact at9_lkT _ | exact at9_lkX _ | exact at9_lkS _ _ _ | exact at9_tog _ _ _ _ | exact at9_c3 _ | exact at9_fl _ | exact h9 _ my | exact h9 | (simp only [Cr.at9, Cr.at9s, List.map_cons, List.map_nil, at9_int, at9_intt, at9_lkT, at9_lkTt, at9_lkX, at9_lkS, at9_tog, at9_cT, at9_sT, Bool.and_true, Bool.and_self]; done) | fail) ?_ | refine Br.no h9 ?_ | fail)
                    · conv => whnf
                      refine hY _ ⟨_, gs ++ [(ii % r0, (ii + 1) % r0, j1, j2)], _, _, _, _, by rw [List.map_append]; rfl, bx_mono hc2 (by omega), by rw [List.length_append, hgl]; rfl, ?_⟩
                      intro l hl
                      rcases List.mem_append.mp hl with hl | hl
                      · exact hgo l hl
                      · rw [List.mem_singleton.mp hl]
                        exact ⟨⟨Int.emod_nonneg _ (by omega), Int.emod_lt_of_pos _ (by omega)⟩, ⟨Int.emod_nonneg _ (by omega), Int.emod_lt_of_pos _ (by omega)⟩, ⟨h10, h11⟩, h20, h21⟩
                    all_goals first | exact rfl | exact trivial | assumption | exact Nat.le_of_ble_eq_true rfl | exact okM_le (Nat.le_of_ble_eq_true rfl) | exact ⟨rfl, rfl⟩ | exact ⟨_, _, rfl⟩ | exact Nat.le_trans (Nat.min_le_right _ _) (Nat.le_of_ble_eq_true rfl) | exact ⟨by decide, by decide⟩ | exact ⟨Nat.le_of_ble_eq_true rfl, Nat.le_of_ble_eq_true rfl⟩ | exact lt_line (by simp; omega) | (refine fits_of ?_; simp; done) | (refine fits_of ?_; simp; omega) | (refine fits_of ?_; rw [List.length_map]; omega) | (dsimp only; omega) | omega
                  all_goals first | exact rfl | exact trivial | assumption | exact Nat.le_of_ble_eq_true rfl | exact okM_le (Nat.le_of_ble_eq_true rfl) | exact ⟨rfl, rfl⟩ | exact ⟨_, _, rfl⟩ | exact Nat.le_trans (Nat.min_le_right _ _) (Nat.le_of_ble_eq_true rfl) | exact ⟨by decide, by decide⟩ | exact ⟨Nat.le_of_ble_eq_true rfl, Nat.le_of_ble_eq_true rfl⟩ | exact lt_line (by simp; omega) | (refine fits_of ?_; simp; done) | (refine fits_of ?_; simp; omega) | (refine fits_of ?_; rw [List.length_map]; omega) | (dsimp only; omega) | omega
                all_goals first | exact rfl | exact trivial | assumption | exact Nat.le_of_ble_eq_true rfl | exact okM_le (Nat.le_of_ble_eq_true rfl) | exact ⟨rfl, rfl⟩ | exact ⟨_, _, rfl⟩ | exact Nat.le_trans (Nat.min_le_right _ _) (Nat.le_of_ble_eq_true rfl) | exact ⟨by decide, by decide⟩ | exact ⟨Nat.le_of_ble_eq_true rfl, Nat.le_of_ble_eq_true rfl⟩ | exact lt_line (by simp; omega) | (refine fits_of ?_; simp; done) | (refine fits_of ?_; simp; omega) | (refine fits_of ?_; rw [List.length_map]; omega) | (dsimp only; omega) | omega
              · rcases hkd with rfl | rfl | rfl | rfl | rfl
                · repeat ((conv => whnf); first | (with_reducible refine And.intro ?_ ?_; rotate_left) | with_reducible refine Exists.intro _ (And.intro rfl ?_) | refine Br.yes rfl ?_ | refine Br.no rfl ?_ | refine Br.yes (by first | rfl | exact at9_cT _ | exact at9_sT _ | exact at9_intt _ | exact at9_int _ | exact at9_lkTt _ | exact at9_lkT _ | exact at9_lkX _ | exact at9_lkS _ _ _ | exact at9_tog _ _ _ _ | exact at9_c3 _ | exact at9_fl _ | exact h9 _ my | exact h9 | (simp only [Cr.at9, Cr.at9s, List.map_cons, List.map_nil, at9_int, at9_intt, at9_lkT, at9_lkTt, at9_lkX, at9_lkS, at9_tog, at9_cT, at9_sT, Bool.and_true, Bool.and_self]; done) | fail) ?_ | refine Br.no h9 ?_ | fail)
                  · conv => whnf
                    refine lc_by (dnI (M + 4 + 5 * i) w' u r0 b0 0 ii (k + 1) gs e7 e8) ⟨Nat.le_refl _, _, [], rfl, hb, rfl, rfl, fun t j h => by simp at h⟩ (fun i2 d2 k2 acc env hd2 hI2 Y2 hY2 => ?_) (fun k2 acc env hI2 => ?_)
                    · obtain ⟨hk2, d3, js, rfl, hb3, rfl, hjl, hjs⟩ := hI2
                      obtain ⟨lim, hlim, hp1, hp2⟩ : ∃ lim : Int, [r0, r0, b0, b0][i2]? = some lim ∧ 1 ≤ lim ∧ lim ≤ 100 := by
                        have := (List.getElem?_eq_some_iff.mp hd2).1
                        match i2, this with
                        | 0, _ => exact ⟨r0, rfl, hr0.1, by omega⟩
                        | 1, _ => exact ⟨r0, rfl, hr0.1, by omega⟩
                        | 2, _ => exact ⟨b0, rfl, hb0.1, by omega⟩
                        | 3, _ => exact ⟨b0, rfl, hb0.1, by omega⟩
                        | t + 4, h => exact absurd (show t + 4 < 4 from h) (by omega)
                      have hd2 : d2 = .int lim := by
                        match i2, hlim, hd2 with
                        | 0, h, h2 => cases h; exact (Option.some.inj h2).symm
                        | 1, h, h2 => cases h; exact (Option.some.inj h2).symm
                        | 2, h, h2 => cases h; exact (Option.some.inj h2).symm
                        | 3, h, h2 => cases h; exact (Option.some.inj h2).symm
                        | t + 4, h, _ => cases h
                      subst hd2
                      have hi2 : i2 < 4 := (List.getElem?_eq_some_iff.mp hlim).1
                      repeat ((conv => whnf); first | (with_reducible refine And.intro ?_ ?_; rotate_left) | with_reducible refine Exists.intro _ (And.intro rfl ?_) | refine Br.yes rfl ?_ | refine Br.no rfl ?_ | refine Br.yes (by first | rfl | exact at9_cT _ | exact at9_sT _ | exact at9_intt _ | exact at9_int _ | exact at9_lkTt _ | exact at9_lkT _ | exact at9_lkX _ | exact at9_lkS _ _ _ | exact at9_tog _ _ _ _ | exact at9_c3 _ | exact at9_fl _ | exact h9 _ my | exact h9 | (simp only [Cr.at9, Cr.at9s, List.map_cons, List.map_nil, at9_int, at9_intt, at9_lkT, at9_lkTt, at9_lkX, at9_lkS, at9_tog, at9_cT, at9_sT, Bool.and_true, Bool.and_self]; done) | fail) ?_ | refine Br.no h9 ?_ | fail)
                      · refine ⟨_, _, _, rfl, rfl, okM_le (Nat.le_of_ble_eq_true rfl), ⟨M + 4 + 5 * i + i2, _, _, rfl, hb3, (by omega), (by omega), (by omega), rfl, rfl⟩, .inl ⟨tk_full, fun d d1 hp => ?_⟩⟩
                        obtain ⟨hc1, j, rfl, h10, h11⟩ := hp
                        repeat ((conv => whnf); first | (with_reducible refine And.intro ?_ ?_; rotate_left) | with_reducible refine Exists.intro _ (And.intro rfl ?_) | refine Br.yes rfl ?_ | refine Br.no rfl ?_ | refine Br.yes (by first | rfl | exact at9_cT _ | exact at9_sT _ | exact at9_intt _ | exact at9_int _ | exact at9_lkTt _ | exact at9_lkT _ | exact at9_lkX _ | exact at9_lkS _ _ _ | exact at9_tog _ _ _ _ | exact at9_c3 _ | exact at9_fl _ | exact h9 _ my | exact h9 | (simp only [Cr.at9, Cr.at9s, List.map_cons, List.map_nil, at9_int, at9_intt, at9_lkT, at9_lkTt, at9_lkX, at9_lkS, at9_tog, at9_cT, at9_sT, Bool.and_true, Bool.and_self]; done) | fail) ?_ | refine Br.no h9 ?_ | fail)
                        · conv => whnf
                          refine hY2 _ _ _ ⟨Nat.le_min.mpr ⟨hk2, Nat.le_refl _⟩, _, js ++ [j], rfl, bx_mono hc1 (by omega), by rw [List.map_append]; rfl, by rw [List.length_append, hjl]; rfl, fun t j' ht => ?_⟩
                          rcases Nat.lt_trichotomy t js.length with q | q | q
                          · rw [List.getElem?_append_left q] at ht
                            exact hjs t j' ht
                          · subst q
                            rw [List.getElem?_append_right (Nat.le_refl _), Nat.sub_self] at ht
                            cases ht
                            exact ⟨lim, by rw [hjl]; exact hlim, h10, h11⟩
                          · rw [List.getElem?_eq_none (by rw [List.length_append, List.length_singleton]; omega)] at ht
                            cases ht
                        all_goals first | exact rfl | exact trivial | assumption | exact Nat.le_of_ble_eq_true rfl | exact okM_le (Nat.le_of_ble_eq_true rfl) | exact ⟨rfl, rfl⟩ | exact ⟨_, _, rfl⟩ | exact Nat.le_trans (Nat.min_le_right _ _) (Nat.le_of_ble_eq_true rfl) | exact ⟨by decide, by decide⟩ | exact ⟨Nat.le_of_ble_eq_true rfl, Nat.le_of_ble_eq_true rfl⟩ | exact lt_line (by simp; omega) | (refine fits_of ?_; simp; done) | (refine fits_of ?_; simp; omega) | (refine fits_of ?_; rw [List.length_map]; omega) | (dsimp only; omega) | omega
                      all_goals first | exact rfl | exact trivial | assumption | exact Nat.le_of_ble_eq_true rfl | exact okM_le (Nat.le_of_ble_eq_true rfl) | exact ⟨rfl, rfl⟩ | exact ⟨_, _, rfl⟩ | exact Nat.le_trans (Nat.min_le_right _ _) (Nat.le_of_ble_eq_true rfl) | exact ⟨by decide, by decide⟩ | exact ⟨Nat.le_of_ble_eq_true rfl, Nat.le_of_ble_eq_true rfl⟩ | exact lt_line (by simp; omega) | (refine fits_of ?_; simp; done) | (refine fits_of ?_; simp; omega) | (refine fits_of ?_; rw [List.length_map]; omega) | (dsimp only; omega) | omega
                    · obtain ⟨hk2, d3, js, rfl, hb3, rfl, hjl, hjs⟩ := hI2
                      obtain ⟨a, c, x, y, rfl, hol⟩ := four hjl hjs
                      have hb3 : bx (M + 4 + 5 * i + 4) d3 := hb3
                      repeat ((conv => whnf); first | (with_reducible refine And.intro ?_ ?_; rotate_left) | with_reducible refine Exists.intro _ (And.intro rfl ?_) | refine Br.yes rfl ?_ | refine Br.no rfl ?_ | refine Br.yes (by first | rfl | exact at9_cT _ | exact at9_sT _ | exact at9_intt _ | exact at9_int _ | exact at9_lkTt _ | exact at9_lkT _ | exact at9_lkX _ | exact at9_lkS _ _ _ | exact at9_tog _ _ _ _ | exact at9_c3 _ | exact at9_fl _ | exact h9 _ my | exact h9 | (simp only [Cr.at9, Cr.at9s, List.map_cons, List.map_nil, at9_int, at9_intt, at9_lkT, at9_lkTt, at9_lkX, at9_lkS, at9_tog, at9_cT, at9_sT, Bool.and_true, Bool.and_self]; done) | fail) ?_ | refine Br.no h9 ?_ | fail)
                      · conv => whnf
                        refine hY _ ⟨_, gs ++ [(a, c, x, y)], _, _, _, _, by rw [List.map_append]; rfl, bx_mono hb3 (by omega), by rw [List.length_append, hgl]; rfl, ?_⟩
                        intro l hl
                        rcases List.mem_append.mp hl with hl | hl
                        · exact hgo l hl
                        · rw [List.mem_singleton.mp hl]
                          exact hol
                      all_goals first | exact rfl | exact trivial | assumption | exact Nat.le_of_ble_eq_true rfl | exact okM_le (Nat.le_of_ble_eq_true rfl) | exact ⟨rfl, rfl⟩ | exact ⟨_, _, rfl⟩ | exact Nat.le_trans (Nat.min_le_right _ _) (Nat.le_of_ble_eq_true rfl) | exact ⟨by decide, by decide⟩ | exact ⟨Nat.le_of_ble_eq_true rfl, Nat.le_of_ble_eq_true rfl⟩ | exact lt_line (by simp; omega) | (refine fits_of ?_; simp; done) | (refine fits_of ?_; simp; omega) | (refine fits_of ?_; rw [List.length_map]; omega) | (dsimp only; omega) | omega
                  all_goals first | exact rfl | exact trivial | assumption | exact Nat.le_of_ble_eq_true rfl | exact okM_le (Nat.le_of_ble_eq_true rfl) | exact ⟨rfl, rfl⟩ | exact ⟨_, _, rfl⟩ | exact Nat.le_trans (Nat.min_le_right _ _) (Nat.le_of_ble_eq_true rfl) | exact ⟨by decide, by decide⟩ | exact ⟨Nat.le_of_ble_eq_true rfl, Nat.le_of_ble_eq_true rfl⟩ | exact lt_line (by simp; omega) | (refine fits_of ?_; simp; done) | (refine fits_of ?_; simp; omega) | (refine fits_of ?_; rw [List.length_map]; omega) | (dsimp only; omega) | omega
                · cases gs with
                  | nil =>
                    repeat ((conv => whnf); first | (with_reducible refine And.intro ?_ ?_; rotate_left) | with_reducible refine Exists.intro _ (And.intro rfl ?_) | refine Br.yes rfl ?_ | refine Br.no rfl ?_ | refine Br.yes (by first | rfl | exact at9_cT _ | exact at9_sT _ | exact at9_intt _ | exact at9_int _ | exact at9_lkTt _ | exact at9_lkT _ | exact at9_lkX _ | exact at9_lkS _ _ _ | exact at9_tog _ _ _ _ | exact at9_c3 _ | exact at9_fl _ | exact h9 _ my | exact h9 | (simp only [Cr.at9, Cr.at9s, List.map_cons, List.map_nil, at9_int, at9_intt, at9_lkT, at9_lkTt, at9_lkX, at9_lkS, at9_tog, at9_cT, at9_sT, Bool.and_true, Bool.and_self]; done) | fail) ?_ | refine Br.no h9 ?_ | fail)
                    · conv => whnf
                      refine lc_by (dnI (M + 4 + 5 * i) w' u r0 b0 1 ii (k + 1) [] e7 e8) ⟨Nat.le_refl _, _, [], rfl, hb, rfl, rfl, fun t j h => by simp at h⟩ (fun i2 d2 k2 acc env hd2 hI2 Y2 hY2 => ?_) (fun k2 acc env hI2 => ?_)
                      · obtain ⟨hk2, d3, js, rfl, hb3, rfl, hjl, hjs⟩ := hI2
                        obtain ⟨lim, hlim, hp1, hp2⟩ : ∃ lim : Int, [r0, r0, b0, b0][i2]? = some lim ∧ 1 ≤ lim ∧ lim ≤ 100 := by
                          have := (List.getElem?_eq_some_iff.mp hd2).1
                          match i2, this with
                          | 0, _ => exact ⟨r0, rfl, hr0.1, by omega⟩
                          | 1, _ => exact ⟨r0, rfl, hr0.1, by omega⟩
                          | 2, _ => exact ⟨b0, rfl, hb0.1, by omega⟩
                          | 3, _ => exact ⟨b0, rfl, hb0.1, by omega⟩
                          | t + 4, h => exact absurd (show t + 4 < 4 from h) (by omega)
                        have hd2 : d2 = .int lim := by
                          match i2, hlim, hd2 with
                          | 0, h, h2 => cases h; exact (Option.some.inj h2).symm
                          | 1, h, h2 => cases h; exact (Option.some.inj h2).symm
                          | 2, h, h2 => cases h; exact (Option.some.inj h2).symm
                          | 3, h, h2 => cases h; exact (Option.some.inj h2).symm
                          | t + 4, h, _ => cases h
                        subst hd2
                        have hi2 : i2 < 4 := (List.getElem?_eq_some_iff.mp hlim).1
                        repeat ((conv => whnf); first | (with_reducible refine And.intro ?_ ?_; rotate_left) | with_reducible refine Exists.intro _ (And.intro rfl ?_) | refine Br.yes rfl ?_ | refine Br.no rfl ?_ | refine Br.yes (by first | rfl | exact at9_cT _ | exact at9_sT _ | exact at9_intt _ | exact at9_int _ | exact at9_lkTt _ | exact at9_lkT _ | exact at9_lkX _ | exact at9_lkS _ _ _ | exact at9_tog _ _ _ _ | exact at9_c3 _ | exact at9_fl _ | exact h9 _ my | exact h9 | (simp only [Cr.at9, Cr.at9s, List.map_cons, List.map_nil, at9_int, at9_intt, at9_lkT, at9_lkTt, at9_lkX, at9_lkS, at9_tog, at9_cT, at9_sT, Bool.and_true, Bool.and_self]; done) | fail) ?_ | refine Br.no h9 ?_ | fail)
                        · refine ⟨_, _, _, rfl, rfl, okM_le (Nat.le_of_ble_eq_true rfl), ⟨M + 4 + 5 * i + i2, _, _, rfl, hb3, (by omega), (by omega), (by omega), rfl, rfl⟩, .inl ⟨tk_full, fun d d1 hp => ?_⟩⟩
                          obtain ⟨hc1, j, rfl, h10, h11⟩ := hp
                          repeat ((conv => whnf); first | (with_reducible refine And.intro ?_ ?_; rotate_left) | with_reducible refine Exists.intro _ (And.intro rfl ?_) | refine Br.yes rfl ?_ | refine Br.no rfl ?_ | refine Br.yes (by first | rfl | exact at9_cT _ | exact at9_sT _ | exact at9_intt _ | exact at9_int _ | exact at9_lkTt _ | exact at9_lkT _ | exact at9_lkX _ | exact at9_lkS _ _ _ | exact at9_tog _ _ _ _ | exact at9_c3 _ | exact at9_fl _ | exact h9 _ my | exact h9 | (simp only [Cr.at9, Cr.at9s, List.map_cons, List.map_nil, at9_int, at9_intt, at9_lkT, at9_lkTt, at9_lkX, at9_lkS, at9_tog, at9_cT, at9_sT, Bool.and_true, Bool.and_self]; done) | fail) ?_ | refine Br.no h9 ?_ | fail)
                          · conv => whnf
                            refine hY2 _ _ _ ⟨Nat.le_min.mpr ⟨hk2, Nat.le_refl _⟩, _, js ++ [j], rfl, bx_mono hc1 (by omega), by rw [List.map_append]; rfl, by rw [List.length_append, hjl]; rfl, fun t j' ht => ?_⟩
                            rcases Nat.lt_trichotomy t js.length with q | q | q
                            · rw [List.getElem?_append_left q] at ht
                              exact hjs t j' ht
                            · subst q
                              rw [List.getElem?_append_right (Nat.le_refl _), Nat.sub_self] at ht
                              cases ht
                              exact ⟨lim, by rw [hjl]; exact hlim, h10, h11⟩
                            · rw [List.getElem?_eq_none (by rw [List.length_append, List.length_singleton]; omega)] at ht
                              cases ht
                          all_goals first | exact rfl | exact trivial | assumption | exact Nat.le_of_ble_eq_true rfl | exact okM_le (Nat.le_of_ble_eq_true rfl) | exact ⟨rfl, rfl⟩ | exact ⟨_, _, rfl⟩ | exact Nat.le_trans (Nat.min_le_right _ _) (Nat.le_of_ble_eq_true rfl) | exact ⟨by decide, by decide⟩ | exact ⟨Nat.le_of_ble_eq_true rfl, Nat.le_of_ble_eq_true rfl⟩ | exact lt_line (by simp; omega) | (refine fits_of ?_; simp; done) | (refine fits_of ?_; simp; omega) | (refine fits_of ?_; rw [List.length_map]; omega) | (dsimp only; omega) | omega
                        all_goals first | exact rfl | exact trivial | assumption | exact Nat.le_of_ble_eq_true rfl | exact okM_le (Nat.le_of_ble_eq_true rfl) | exact ⟨rfl, rfl⟩ | exact ⟨_, _, rfl⟩ | exact Nat.le_trans (Nat.min_le_right _ _) (Nat.le_of_ble_eq_true rfl) | exact ⟨by decide, by decide⟩ | exact ⟨Nat.le_of_ble_eq_true rfl, Nat.le_of_ble_eq_true rfl⟩ | exact lt_line (by simp; omega) | (refine fits_of ?_; simp; done) | (refine fits_of ?_; simp; omega) | (refine fits_of ?_; rw [List.length_map]; omega) | (dsimp only; omega) | omega
                      · obtain ⟨hk2, d3, js, rfl, hb3, rfl, hjl, hjs⟩ := hI2
                        obtain ⟨a, c, x, y, rfl, hol⟩ := four hjl hjs
                        have hb3 : bx (M + 4 + 5 * i + 4) d3 := hb3
                        repeat ((conv => whnf); first | (with_reducible refine And.intro ?_ ?_; rotate_left) | with_reducible refine Exists.intro _ (And.intro rfl ?_) | refine Br.yes rfl ?_ | refine Br.no rfl ?_ | refine Br.yes (by first | rfl | exact at9_cT _ | exact at9_sT _ | exact at9_intt _ | exact at9_int _ | exact at9_lkTt _ | exact at9_lkT _ | exact at9_lkX _ | exact at9_lkS _ _ _ | exact at9_tog _ _ _ _ | exact at9_c3 _ | exact at9_fl _ | exact h9 _ my | exact h9 | (simp only [Cr.at9, Cr.at9s, List.map_cons, List.map_nil, at9_int, at9_intt, at9_lkT, at9_lkTt, at9_lkX, at9_lkS, at9_tog, at9_cT, at9_sT, Bool.and_true, Bool.and_self]; done) | fail) ?_ | refine Br.no h9 ?_ | fail)
                        · conv => whnf
                          refine hY _ ⟨_, [] ++ [(a, c, x, y)], _, _, _, _, by rw [List.map_append]; rfl, bx_mono hb3 (by omega), by rw [List.length_append, hgl]; rfl, ?_⟩
                          intro l hl
                          rcases List.mem_append.mp hl with hl | hl
                          · exact hgo l hl
                          · rw [List.mem_singleton.mp hl]
                            exact hol
                        all_goals first | exact rfl | exact trivial | assumption | exact Nat.le_of_ble_eq_true rfl | exact okM_le (Nat.le_of_ble_eq_true rfl) | exact ⟨rfl, rfl⟩ | exact ⟨_, _, rfl⟩ | exact Nat.le_trans (Nat.min_le_right _ _) (Nat.le_of_ble_eq_true rfl) | exact ⟨by decide, by decide⟩ | exact ⟨Nat.le_of_ble_eq_true rfl, Nat.le_of_ble_eq_true rfl⟩ | exact lt_line (by simp; omega) | (refine fits_of ?_; simp; done) | (refine fits_of ?_; simp; omega) | (refine fits_of ?_; rw [List.length_map]; omega) | (dsimp only; omega) | omega
                    all_goals first | exact rfl | exact trivial | assumption | exact Nat.le_of_ble_eq_true rfl | exact okM_le (Nat.le_of_ble_eq_true rfl) | exact ⟨rfl, rfl⟩ | exact ⟨_, _, rfl⟩ | exact Nat.le_trans (Nat.min_le_right _ _) (Nat.le_of_ble_eq_true rfl) | exact ⟨by decide, by decide⟩ | exact ⟨Nat.le_of_ble_eq_true rfl, Nat.le_of_ble_eq_true rfl⟩ | exact lt_line (by simp; omega) | (refine fits_of ?_; simp; done) | (refine fits_of ?_; simp; omega) | (refine fits_of ?_; rw [List.length_map]; omega) | (dsimp only; omega) | omega
                  | cons l0 gr =>
                    obtain ⟨l', hl', hlast⟩ := atI_last (gs := (l0 :: gr)) (by simp)
                    have ho := hgo l' hl'
                    repeat ((conv => whnf); first | (with_reducible refine And.intro ?_ ?_; rotate_left) | with_reducible refine Exists.intro _ (And.intro rfl ?_) | rw [hlast] | refine Br.yes rfl ?_ | refine Br.no rfl ?_ | refine Br.yes (by first | rfl | exact at9_cT _ | exact at9_sT _ | exact at9_intt _ | exact at9_int _ | exact at9_lkTt _ | exact at9_lkT _ | exact at9_lkX _ | exact at9_lkS _ _ _ | exact at9_tog _ _ _ _ | exact at9_c3 _ | exact at9_fl _ | exact h9 _ my | exact h9 | (simp only [Cr.at9, Cr.at9s, List.map_cons, List.map_nil, at9_int, at9_intt, at9_lkT, at9_lkTt, at9_lkX, at9_lkS, at9_tog, at9_cT, at9_sT, Bool.and_true, Bool.and_self]; done) | fail) ?_ | refine Br.no h9 ?_ | fail)
                    · refine ⟨_, _, _, rfl, rfl, okM_le (Nat.le_of_ble_eq_true rfl), ⟨M + 4 + 5 * i, _, _, rfl, hb, (by omega), (by omega), (by omega), rfl, rfl⟩, .inl ⟨tk_full, fun d d1 hp => ?_⟩⟩
                      obtain ⟨hc1, j1, rfl, h10, h11⟩ := hp
                      repeat ((conv => whnf); first | (with_reducible refine And.intro ?_ ?_; rotate_left) | with_reducible refine Exists.intro _ (And.intro rfl ?_) | rw [hlast] | refine Br.yes rfl ?_ | refine Br.no rfl ?_ | refine Br.yes (by first | rfl | exact at9_cT _ | exact at9_sT _ | exact at9_intt _ | exact at9_int _ | exact at9_lkTt _ | exact at9_lkT _ | exact at9_lkX _ | exact at9_lkS _ _ _ | exact at9_tog _ _ _ _ | exact at9_c3 _ | exact at9_fl _ | exact h9 _ my | exact h9 | (simp only [Cr.at9, Cr.at9s, List.map_cons, List.map_nil, at9_int, at9_intt, at9_lkT, at9_lkTt, at9_lkX, at9_lkS, at9_tog, at9_cT, at9_sT, Bool.and_true, Bool.and_self]; done) | fail) ?_ | refine Br.no h9 ?_ | fail)
                      · refine ⟨_, _, _, rfl, rfl, okM_le (Nat.le_of_ble_eq_true rfl), ⟨M + 4 + 5 * i + 1, _, _, rfl, hc1, (by omega), (by omega), (by omega), rfl, rfl⟩, .inl ⟨tk_full, fun d d1 hp => ?_⟩⟩
                        obtain ⟨hc2, j2, rfl, h20, h21⟩ := hp
                        repeat ((conv => whnf); first | (with_reducible refine And.intro ?_ ?_; rotate_left) | with_reducible refine Exists.intro _ (And.intro rfl ?_) | rw [hlast] | refine Br.yes rfl ?_ | refine Br.no rfl ?_ | refine Br.yes (by first | rfl | exact at9_cT _ | exact at9_sT _ | exact at9_intt _ | exact at9_int _ | exact at9_lkTt _ | exact at9_lkT _ | exact at9_lkX _ | exact at9_lkS _ _ _ | exact at9_tog _ _ _ _ | exact at9_c3 _ | exact at9_fl _ | exact h9 _ my | exact h9 | (simp only [Cr.at9, Cr.at9s, List.map_cons, List.map_nil, at9_int, at9_intt, at9_lkT, at9_lkTt, at9_lkX, at9_lkS, at9_tog, at9_cT, at9_sT, Bool.and_true, Bool.and_self]; done) | fail) ?_ | refine Br.no h9 ?_ | fail)
                        · conv => whnf
                          refine hY _ ⟨_, (l0 :: gr) ++ [(l'.1, l'.2.1, j1, j2)], _, _, _, _, by rw [List.map_append]; rfl, bx_mono hc2 (by omega), by rw [List.length_append, hgl]; rfl, ?_⟩
                          intro l hl
                          rcases List.mem_append.mp hl with hl | hl
                          · exact hgo l hl
                          · rw [List.mem_singleton.mp hl]
                            exact ⟨ho.1, ho.2.1, ⟨h10, h11⟩, h20, h21⟩
                        all_goals first | exact rfl | exact trivial | assumption | exact Nat.le_of_ble_eq_true rfl | exact okM_le (Nat.le_of_ble_eq_true rfl) | exact ⟨rfl, rfl⟩ | exact ⟨_, _, rfl⟩ | exact Nat.le_trans (Nat.min_le_right _ _) (Nat.le_of_ble_eq_true rfl) | exact ⟨by decide, by decide⟩ | exact ⟨Nat.le_of_ble_eq_true rfl, Nat.le_of_ble_eq_true rfl⟩ | exact lt_line (by simp; omega) | (refine fits_of ?_; simp; done) | (refine fits_of ?_; simp; omega) | (refine fits_of ?_; rw [List.length_map]; omega) | (dsimp only; omega) | omega
                      all_goals first | exact rfl | exact trivial | assumption | exact Nat.le_of_ble_eq_true rfl | exact okM_le (Nat.le_of_ble_eq_true rfl) | exact ⟨rfl, rfl⟩ | exact ⟨_, _, rfl⟩ | exact Nat.le_trans (Nat.min_le_right _ _) (Nat.le_of_ble_eq_true rfl) | exact ⟨by decide, by decide⟩ | exact ⟨Nat.le_of_ble_eq_true rfl, Nat.le_of_ble_eq_true rfl⟩ | exact lt_line (by simp; omega) | (refine fits_of ?_; simp; done) | (refine fits_of ?_; simp; omega) | (refine fits_of ?_; rw [List.length_map]; omega) | (dsimp only; omega) | omega
                    all_goals first | exact rfl | exact trivial | assumption | exact Nat.le_of_ble_eq_true rfl | exact okM_le (Nat.le_of_ble_eq_true rfl) | exact ⟨rfl, rfl⟩ | exact ⟨_, _, rfl⟩ | exact Nat.le_trans (Nat.min_le_right _ _) (Nat.le_of_ble_eq_true rfl) | exact ⟨by decide, by decide⟩ | exact ⟨Nat.le_of_ble_eq_true rfl, Nat.le_of_ble_eq_true rfl⟩ | exact lt_line (by simp; omega) | (refine fits_of ?_; simp; done) | (refine fits_of ?_; simp; omega) | (refine fits_of ?_; rw [List.length_map]; omega) | (dsimp only; omega) | omega
                · exact absurd rfl hB
                · cases gs with
                  | nil =>
                    repeat ((conv => whnf); first | (with_reducible refine And.intro ?_ ?_; rotate_left) | with_reducible refine Exists.intro _ (And.intro rfl ?_) | refine Br.yes rfl ?_ | refine Br.no rfl ?_ | refine Br.yes (by first | rfl | exact at9_cT _ | exact at9_sT _ | exact at9_intt _ | exact at9_int _ | exact at9_lkTt _ | exact at9_lkT _ | exact at9_lkX _ | exact at9_lkS _ _ _ | exact at9_tog _ _ _ _ | exact at9_c3 _ | exact at9_fl _ | exact h9 _ my | exact h9 | (simp only [Cr.at9, Cr.at9s, List.map_cons, List.map_nil, at9_int, at9_intt, at9_lkT, at9_lkTt, at9_lkX, at9_lkS, at9_tog, at9_cT, at9_sT, Bool.and_true, Bool.and_self]; done) | fail) ?_ | refine Br.no h9 ?_ | fail)
                    · conv => whnf
                      refine lc_by (dnI (M + 4 + 5 * i) w' u r0 b0 3 ii (k + 1) [] e7 e8) ⟨Nat.le_refl _, _, [], rfl, hb, rfl, rfl, fun t j h => by simp at h⟩ (fun i2 d2 k2 acc env hd2 hI2 Y2 hY2 => ?_) (fun k2 acc env hI2 => ?_)
                      · obtain ⟨hk2, d3, js, rfl, hb3, rfl, hjl, hjs⟩ := hI2
                        obtain ⟨lim, hlim, hp1, hp2⟩ : ∃ lim : Int, [r0, r0, b0, b0][i2]? = some lim ∧ 1 ≤ lim ∧ lim ≤ 100 := by
                          have := (List.getElem?_eq_some_iff.mp hd2).1
                          match i2, this with
                          | 0, _ => exact ⟨r0, rfl, hr0.1, by omega⟩
                          | 1, _ => exact ⟨r0, rfl, hr0.1, by omega⟩
                          | 2, _ => exact ⟨b0, rfl, hb0.1, by omega⟩
                          | 3, _ => exact ⟨b0, rfl, hb0.1, by omega⟩
                          | t + 4, h => exact absurd (show t + 4 < 4 from h) (by omega)
                        have hd2 : d2 = .int lim := by
                          match i2, hlim, hd2 with
                          | 0, h, h2 => cases h; exact (Option.some.inj h2).symm
                          | 1, h, h2 => cases h; exact (Option.some.inj h2).symm
                          | 2, h, h2 => cases h; exact (Option.some.inj h2).symm
                          | 3, h, h2 => cases h; exact (Option.some.inj h2).symm
                          | t + 4, h, _ => cases h
                        subst hd2
                        have hi2 : i2 < 4 := (List.getElem?_eq_some_iff.mp hlim).1
                        repeat ((conv => whnf); first | (with_reducible refine And.intro ?_ ?_; rotate_left) | with_reducible refine Exists.intro _ (And.intro rfl ?_) | refine Br.yes rfl ?_ | refine Br.no rfl ?_ | refine Br.yes (by first | rfl | exact at9_cT _ | exact at9_sT _ | exact at9_intt _ | exact at9_int _ | exact at9_lkTt _ | exact at9_lkT _ | exact at9_lkX _ | exact at9_lkS _ _ _ | exact at9_tog _ _ _ _ | exact at9_c3 _ | exact at9_fl _ | exact h9 _ my | exact h9 | (simp only [Cr.at9, Cr.at9s, List.map_cons, List.map_nil, at9_int, at9_intt, at9_lkT, at9_lkTt, at9_lkX, at9_lkS, at9_tog, at9_cT, at9_sT, Bool.and_true, Bool.and_self]; done) | fail) ?_ | refine Br.no h9 ?_ | fail)
                        · refine ⟨_, _, _, rfl, rfl, okM_le (Nat.le_of_ble_eq_true rfl), ⟨M + 4 + 5 * i + i2, _, _, rfl, hb3, (by omega), (by omega), (by omega), rfl, rfl⟩, .inl ⟨tk_full, fun d d1 hp => ?_⟩⟩
                          obtain ⟨hc1, j, rfl, h10, h11⟩ := hp
                          repeat ((conv => whnf); first | (with_reducible refine And.intro ?_ ?_; rotate_left) | with_reducible refine Exists.intro _ (And.intro rfl ?_) | refine Br.yes rfl ?_ | refine Br.no rfl ?_ | refine Br.yes (by first | rfl | exact at9_cT _ | exact at9_sT _ | exact at9_intt _ | exact at9_int _ | exact at9_lkTt _ | exact at9_lkT _ | exact at9_lkX _ | exact at9_lkS _ _ _ | exact at9_tog _ _ _ _ | exact at9_c3 _ | exact at9_fl _ | exact h9 _ my | exact h9 | (simp only [Cr.at9, Cr.at9s, List.map_cons, List.map_nil, at9_int, at9_intt, at9_lkT, at9_lkTt, at9_lkX, at9_lkS, at9_tog, at9_cT, at9_sT, Bool.and_true, Bool.and_self]; done) | fail) ?_ | refine Br.no h9 ?_ | fail)
                          · conv => whnf
                            refine hY2 _ _ _ ⟨Nat.le_min.mpr ⟨hk2, Nat.le_refl _⟩, _, js ++ [j], rfl, bx_mono hc1 (by omega), by rw [List.map_append]; rfl, by rw [List.length_append, hjl]; rfl, fun t j' ht => ?_⟩
                            rcases Nat.lt_trichotomy t js.length with q | q | q
                            · rw [List.getElem?_append_left q] at ht
                              exact hjs t j' ht
                            · subst q
                              rw [List.getElem?_append_right (Nat.le_refl _), Nat.sub_self] at ht
                              cases ht
                              exact ⟨lim, by rw [hjl]; exact hlim, h10, h11⟩
                            · rw [List.getElem?_eq_none (by rw [List.length_append, List.length_singleton]; omega)] at ht
                              cases ht
                          all_goals first | exact rfl | exact trivial | assumption | exact Nat.le_of_ble_eq_true rfl | exact okM_le (Nat.le_of_ble_eq_true rfl) | exact ⟨rfl, rfl⟩ | exact ⟨_, _, rfl⟩ | exact Nat.le_trans (Nat.min_le_right _ _) (Nat.le_of_ble_eq_true rfl) | exact ⟨by decide, by decide⟩ | exact ⟨Nat.le_of_ble_eq_true rfl, Nat.le_of_ble_eq_true rfl⟩ | exact lt_line (by simp; omega) | (refine fits_of ?_; simp; done) | (refine fits_of ?_; simp; omega) | (refine fits_of ?_; rw [List.length_map]; omega) | (dsimp only; omega) | omega
                        all_goals first | exact rfl | exact trivial | assumption | exact Nat.le_of_ble_eq_true rfl | exact okM_le (Nat.le_of_ble_eq_true rfl) | exact ⟨rfl, rfl⟩ | exact ⟨_, _, rfl⟩ | exact Nat.le_trans (Nat.min_le_right _ _) (Nat.le_of_ble_eq_true rfl) | exact ⟨by decide, by decide⟩ | exact ⟨Nat.le_of_ble_eq_true rfl, Nat.le_of_ble_eq_true rfl⟩ | exact lt_line (by simp; omega) | (refine fits_of ?_; simp; done) | (refine fits_of ?_; simp; omega) | (refine fits_of ?_; rw [List.length_map]; omega) | (dsimp only; omega) | omega
                      · obtain ⟨hk2, d3, js, rfl, hb3, rfl, hjl, hjs⟩ := hI2
                        obtain ⟨a, c, x, y, rfl, hol⟩ := four hjl hjs
                        have hb3 : bx (M + 4 + 5 * i + 4) d3 := hb3
                        repeat ((conv => whnf); first | (with_reducible refine And.intro ?_ ?_; rotate_left) | with_reducible refine Exists.intro _ (And.intro rfl ?_) | refine Br.yes rfl ?_ | refine Br.no rfl ?_ | refine Br.yes (by first | rfl | exact at9_cT _ | exact at9_sT _ | exact at9_intt _ | exact at9_int _ | exact at9_lkTt _ | exact at9_lkT _ | exact at9_lkX _ | exact at9_lkS _ _ _ | exact at9_tog _ _ _ _ | exact at9_c3 _ | exact at9_fl _ | exact h9 _ my | exact h9 | (simp only [Cr.at9, Cr.at9s, List.map_cons, List.map_nil, at9_int, at9_intt, at9_lkT, at9_lkTt, at9_lkX, at9_lkS, at9_tog, at9_cT, at9_sT, Bool.and_true, Bool.and_self]; done) | fail) ?_ | refine Br.no h9 ?_ | fail)
                        · conv => whnf
                          refine hY _ ⟨_, [] ++ [(a, c, x, y)], _, _, _, _, by rw [List.map_append]; rfl, bx_mono hb3 (by omega), by rw [List.length_append, hgl]; rfl, ?_⟩
                          intro l hl
                          rcases List.mem_append.mp hl with hl | hl
                          · exact hgo l hl
                          · rw [List.mem_singleton.mp hl]
                            exact hol
                        all_goals first | exact rfl | exact trivial | assumption | exact Nat.le_of_ble_eq_true rfl | exact okM_le (Nat.le_of_ble_eq_true rfl) | exact ⟨rfl, rfl⟩ | exact ⟨_, _, rfl⟩ | exact Nat.le_trans (Nat.min_le_right _ _) (Nat.le_of_ble_eq_true rfl) | exact ⟨by decide, by decide⟩ | exact ⟨Nat.le_of_ble_eq_true rfl, Nat.le_of_ble_eq_true rfl⟩ | exact lt_line (by simp; omega) | (refine fits_of ?_; simp; done) | (refine fits_of ?_; simp; omega) | (refine fits_of ?_; rw [List.length_map]; omega) | (dsimp only; omega) | omega
                    all_goals first | exact rfl | exact trivial | assumption | exact Nat.le_of_ble_eq_true rfl | exact okM_le (Nat.le_of_ble_eq_true rfl) | exact ⟨rfl, rfl⟩ | exact ⟨_, _, rfl⟩ | exact Nat.le_trans (Nat.min_le_right _ _) (Nat.le_of_ble_eq_true rfl) | exact ⟨by decide, by decide⟩ | exact ⟨Nat.le_of_ble_eq_true rfl, Nat.le_of_ble_eq_true rfl⟩ | exact lt_line (by simp; omega) | (refine fits_of ?_; simp; done) | (refine fits_of ?_; simp; omega) | (refine fits_of ?_; rw [List.length_map]; omega) | (dsimp only; omega) | omega
                  | cons l0 gr =>
                    repeat ((conv => whnf); first | (with_reducible refine And.intro ?_ ?_; rotate_left) | with_reducible refine Exists.intro _ (And.intro rfl ?_) | refine Br.yes rfl ?_ | refine Br.no rfl ?_ | refine Br.yes (by first | rfl | exact at9_cT _ | exact at9_sT _ | exact at9_intt _ | exact at9_int _ | exact at9_lkTt _ | exact at9_lkT _ | exact at9_lkX _ | exact at9_lkS _ _ _ | exact at9_tog _ _ _ _ | exact at9_c3 _ | exact at9_fl _ | exact h9 _ my | exact h9 | (simp only [Cr.at9, Cr.at9s, List.map_cons, List.map_nil, at9_int, at9_intt, at9_lkT, at9_lkTt, at9_lkX, at9_lkS, at9_tog, at9_cT, at9_sT, Bool.and_true, Bool.and_self]; done) | fail) ?_ | refine Br.no h9 ?_ | fail)
                    · refine ⟨_, _, _, rfl, rfl, okM_le (Nat.le_of_ble_eq_true rfl), ⟨M + 4 + 5 * i, _, _, .l, (l0 :: gr).map lkT, rfl, hb, (by omega), rfl, (by simp), (by rw [List.length_map]; omega), .inl ⟨(fun x hx => by (obtain ⟨_, _, rfl⟩ := List.mem_map.mp hx; rfl)), rfl⟩, rfl⟩, .inl ⟨fun d d1 hp => ⟨full_at9 _ _ (by (obtain ⟨_, _, rfl⟩ := List.mem_map.mp hp.2; rfl)), bx_full hp.1⟩, fun d d1 hp => ?_⟩⟩
                      obtain ⟨hc1, hmem⟩ := hp
                      obtain ⟨l', hl', rfl⟩ := List.mem_map.mp hmem
                      have ho := hgo l' hl'
                      repeat ((conv => whnf); first | (with_reducible refine And.intro ?_ ?_; rotate_left) | with_reducible refine Exists.intro _ (And.intro rfl ?_) | refine Br.yes rfl ?_ | refine Br.no rfl ?_ | refine Br.yes (by first | rfl | exact at9_cT _ | exact at9_sT _ | exact at9_intt _ | exact at9_int _ | exact at9_lkTt _ | exact at9_lkT _ | exact at9_lkX _ | exact at9_lkS _ _ _ | exact at9_tog _ _ _ _ | exact at9_c3 _ | exact at9_fl _ | exact h9 _ my | exact h9 | (simp only [Cr.at9, Cr.at9s, List.map_cons, List.map_nil, at9_int, at9_intt, at9_lkT, at9_lkTt, at9_lkX, at9_lkS, at9_tog, at9_cT, at9_sT, Bool.and_true, Bool.and_self]; done) | fail) ?_ | refine Br.no h9 ?_ | fail)
                      · refine ⟨_, _, _, rfl, rfl, okM_le (Nat.le_of_ble_eq_true rfl), ⟨M + 4 + 5 * i + 1, _, _, rfl, hc1, (by omega), (by omega), (by omega), rfl, rfl⟩, .inl ⟨tk_full, fun d d1 hp => ?_⟩⟩
                        obtain ⟨hc2, j, rfl, hj0, hj1⟩ := hp
                        have hj : j = 0 ∨ j = 1 ∨ j = 2 ∨ j = 3 := by omega
                        rcases hj with rfl | rfl | rfl | rfl
                        · repeat ((conv => whnf); first | (with_reducible refine And.intro ?_ ?_; rotate_left) | with_reducible refine Exists.intro _ (And.intro rfl ?_) | refine Br.yes rfl ?_ | refine Br.no rfl ?_ | refine Br.yes (by first | rfl | exact at9_cT _ | exact at9_sT _ | exact at9_intt _ | exact at9_int _ | exact at9_lkTt _ | exact at9_lkT _ | exact at9_lkX _ | exact at9_lkS _ _ _ | exact at9_tog _ _ _ _ | exact at9_c3 _ | exact at9_fl _ | exact h9 _ my | exact h9 | (simp only [Cr.at9, Cr.at9s, List.map_cons, List.map_nil, at9_int, at9_intt, at9_lkT, at9_lkTt, at9_lkX, at9_lkS, at9_tog, at9_cT, at9_sT, Bool.and_true, Bool.and_self]; done) | fail) ?_ | refine Br.no h9 ?_ | fail)
                          · conv => whnf
                            refine hY _ ⟨_, (l0 :: gr) ++ [(0, l'.2.1, l'.2.2.1, l'.2.2.2)], _, _, _, _, by rw [List.map_append]; rfl, bx_mono hc2 (by omega), by rw [List.length_append, hgl]; rfl, ?_⟩
                            intro l hl
                            rcases List.mem_append.mp hl with hl | hl
                            · exact hgo l hl
                            · rw [List.mem_singleton.mp hl]
                              exact ⟨⟨Int.le_refl _, show (0 : Int) < r0 by omega⟩, ho.2.1, ho.2.2.1, ho.2.2.2⟩
                          all_goals first | exact rfl | exact trivial | assumption | exact Nat.le_of_ble_eq_true rfl | exact okM_le (Nat.le_of_ble_eq_true rfl) | exact ⟨rfl, rfl⟩ | exact ⟨_, _, rfl⟩ | exact Nat.le_trans (Nat.min_le_right _ _) (Nat.le_of_ble_eq_true rfl) | exact ⟨by decide, by decide⟩ | exact ⟨Nat.le_of_ble_eq_true rfl, Nat.le_of_ble_eq_true rfl⟩ | exact lt_line (by simp; omega) | (refine fits_of ?_; simp; done) | (refine fits_of ?_; simp; omega) | (refine fits_of ?_; rw [List.length_map]; omega) | (dsimp only; omega) | omega
                        · repeat ((conv => whnf); first | (with_reducible refine And.intro ?_ ?_; rotate_left) | with_reducible refine Exists.intro _ (And.intro rfl ?_) | refine Br.yes rfl ?_ | refine Br.no rfl ?_ | refine Br.yes (by first | rfl | exact at9_cT _ | exact at9_sT _ | exact at9_intt _ | exact at9_int _ | exact at9_lkTt _ | exact at9_lkT _ | exact at9_lkX _ | exact at9_lkS _ _ _ | exact at9_tog _ _ _ _ | exact at9_c3 _ | exact at9_fl _ | exact h9 _ my | exact h9 | (simp only [Cr.at9, Cr.at9s, List.map_cons, List.map_nil, at9_int, at9_intt, at9_lkT, at9_lkTt, at9_lkX, at9_lkS, at9_tog, at9_cT, at9_sT, Bool.and_true, Bool.and_self]; done) | fail) ?_ | refine Br.no h9 ?_ | fail)
                          · conv => whnf
                            refine hY _ ⟨_, (l0 :: gr) ++ [(l'.1, 0, l'.2.2.1, l'.2.2.2)], _, _, _, _, by rw [List.map_append]; rfl, bx_mono hc2 (by omega), by rw [List.length_append, hgl]; rfl, ?_⟩
                            intro l hl
                            rcases List.mem_append.mp hl with hl | hl
                            · exact hgo l hl
                            · rw [List.mem_singleton.mp hl]
                              exact ⟨ho.1, ⟨Int.le_refl _, show (0 : Int) < r0 by omega⟩, ho.2.2.1, ho.2.2.2⟩
                          all_goals first | exact rfl | exact trivial | assumption | exact Nat.le_of_ble_eq_true rfl | exact okM_le (Nat.le_of_ble_eq_true rfl) | exact ⟨rfl, rfl⟩ | exact ⟨_, _, rfl⟩ | exact Nat.le_trans (Nat.min_le_right _ _) (Nat.le_of_ble_eq_true rfl) | exact ⟨by decide, by decide⟩ | exact ⟨Nat.le_of_ble_eq_true rfl, Nat.le_of_ble_eq_true rfl⟩ | exact lt_line (by simp; omega) | (refine fits_of ?_; simp; done) | (refine fits_of ?_; simp; omega) | (refine fits_of ?_; rw [List.length_map]; omega) | (dsimp only; omega) | omega
                        · repeat ((conv => whnf); first | (with_reducible refine And.intro ?_ ?_; rotate_left) | with_reducible refine Exists.intro _ (And.intro rfl ?_) | refine Br.yes rfl ?_ | refine Br.no rfl ?_ | refine Br.yes (by first | rfl | exact at9_cT _ | exact at9_sT _ | exact at9_intt _ | exact at9_int _ | exact at9_lkTt _ | exact at9_lkT _ | exact at9_lkX _ | exact at9_lkS _ _ _ | exact at9_tog _ _ _ _ | exact at9_c3 _ | exact at9_fl _ | exact h9 _ my | exact h9 | (simp only [Cr.at9, Cr.at9s, List.map_cons, List.map_nil, at9_int, at9_intt, at9_lkT, at9_lkTt, at9_lkX, at9_lkS, at9_tog, at9_cT, at9_sT, Bool.and_true, Bool.and_self]; done) | fail) ?_ | refine Br.no h9 ?_ | fail)
                          · conv => whnf
                            refine hY _ ⟨_, (l0 :: gr) ++ [(l'.1, l'.2.1, 0, l'.2.2.2)], _, _, _, _, by rw [List.map_append]; rfl, bx_mono hc2 (by omega), by rw [List.length_append, hgl]; rfl, ?_⟩
                            intro l hl
                            rcases List.mem_append.mp hl with hl | hl
                            · exact hgo l hl
                            · rw [List.mem_singleton.mp hl]
                              exact ⟨ho.1, ho.2.1, ⟨Int.le_refl _, show (0 : Int) < b0 by omega⟩, ho.2.2.2⟩
                          all_goals first | exact rfl | exact trivial | assumption | exact Nat.le_of_ble_eq_true rfl | exact okM_le (Nat.le_of_ble_eq_true rfl) | exact ⟨rfl, rfl⟩ | exact ⟨_, _, rfl⟩ | exact Nat.le_trans (Nat.min_le_right _ _) (Nat.le_of_ble_eq_true rfl) | exact ⟨by decide, by decide⟩ | exact ⟨Nat.le_of_ble_eq_true rfl, Nat.le_of_ble_eq_true rfl⟩ | exact lt_line (by simp; omega) | (refine fits_of ?_; simp; done) | (refine fits_of ?_; simp; omega) | (refine fits_of ?_; rw [List.length_map]; omega) | (dsimp only; omega) | omega
                        · repeat ((conv => whnf); first | (with_reducible refine And.intro ?_ ?_; rotate_left) | with_reducible refine Exists.intro _ (And.intro rfl ?_) | refine Br.yes rfl ?_ | refine Br.no rfl ?_ | refine Br.yes (by first | rfl | exact at9_cT _ | exact at9_sT _ | exact at9_intt _ | exact at9_int _ | exact at9_lkTt _ | exact at9_lkT _ | exact at9_lkX _ | exact at9_lkS _ _ _ | exact at9_tog _ _ _ _ | exact at9_c3 _ | exact at9_fl _ | exact h9 _ my | exact h9 | (simp only [Cr.at9, Cr.at9s, List.map_cons, List.map_nil, at9_int, at9_intt, at9_lkT, at9_lkTt, at9_lkX, at9_lkS, at9_tog, at9_cT, at9_sT, Bool.and_true, Bool.and_self]; done) | fail) ?_ | refine Br.no h9 ?_ | fail)
                          · conv => whnf
                            refine hY _ ⟨_, (l0 :: gr) ++ [(l'.1, l'.2.1, l'.2.2.1, 0)], _, _, _, _, by rw [List.map_append]; rfl, bx_mono hc2 (by omega), by rw [List.length_append, hgl]; rfl, ?_⟩
                            intro l hl
                            rcases List.mem_append.mp hl with hl | hl
                            · exact hgo l hl
                            · rw [List.mem_singleton.mp hl]
                              exact ⟨ho.1, ho.2.1, ho.2.2.1, ⟨Int.le_refl _, show (0 : Int) < b0 by omega⟩⟩
                          all_goals first | exact rfl | exact trivial | assumption | exact Nat.le_of_ble_eq_true rfl | exact okM_le (Nat.le_of_ble_eq_true rfl) | exact ⟨rfl, rfl⟩ | exact ⟨_, _, rfl⟩ | exact Nat.le_trans (Nat.min_le_right _ _) (Nat.le_of_ble_eq_true rfl) | exact ⟨by decide, by decide⟩ | exact ⟨Nat.le_of_ble_eq_true rfl, Nat.le_of_ble_eq_true rfl⟩ | exact lt_line (by simp; omega) | (refine fits_of ?_; simp; done) | (refine fits_of ?_; simp; omega) | (refine fits_of ?_; rw [List.length_map]; omega) | (dsimp only; omega) | omega
                      all_goals first | exact rfl | exact trivial | assumption | exact Nat.le_of_ble_eq_true rfl | exact okM_le (Nat.le_of_ble_eq_true rfl) | exact ⟨rfl, rfl⟩ | exact ⟨_, _, rfl⟩ | exact Nat.le_trans (Nat.min_le_right _ _) (Nat.le_of_ble_eq_true rfl) | exact ⟨by decide, by decide⟩ | exact ⟨Nat.le_of_ble_eq_true rfl, Nat.le_of_ble_eq_true rfl⟩ | exact lt_line (by simp; omega) | (refine fits_of ?_; simp; done) | (refine fits_of ?_; simp; omega) | (refine fits_of ?_; rw [List.length_map]; omega) | (dsimp only; omega) | omega
                    all_goals first | exact rfl | exact trivial | assumption | exact Nat.le_of_ble_eq_true rfl | exact okM_le (Nat.le_of_ble_eq_true rfl) | exact ⟨rfl, rfl⟩ | exact ⟨_, _, rfl⟩ | exact Nat.le_trans (Nat.min_le_right _ _) (Nat.le_of_ble_eq_true rfl) | exact ⟨by decide, by decide⟩ | exact ⟨Nat.le_of_ble_eq_true rfl, Nat.le_of_ble_eq_true rfl⟩ | exact lt_line (by simp; omega) | (refine fits_of ?_; simp; done) | (refine fits_of ?_; simp; omega) | (refine fits_of ?_; rw [List.length_map]; omega) | (dsimp only; omega) | omega
                · repeat ((conv => whnf); first | (with_reducible refine And.intro ?_ ?_; rotate_left) | with_reducible refine Exists.intro _ (And.intro rfl ?_) | refine Br.yes rfl ?_ | refine Br.no rfl ?_ | refine Br.yes (by first | rfl | exact at9_cT _ | exact at9_sT _ | exact at9_intt _ | exact at9_int _ | exact at9_lkTt _ | exact at9_lkT _ | exact at9_lkX _ | exact at9_lkS _ _ _ | exact at9_tog _ _ _ _ | exact at9_c3 _ | exact at9_fl _ | exact h9 _ my | exact h9 | (simp only [Cr.at9, Cr.at9s, List.map_cons, List.map_nil, at9_int, at9_intt, at9_lkT, at9_lkTt, at9_lkX, at9_lkS, at9_tog, at9_cT, at9_sT, Bool.and_true, Bool.and_self]; done) | fail) ?_ | refine Br.no h9 ?_ | fail)
                  · conv => whnf
                    refine lc_by (dnI (M + 4 + 5 * i) w' u r0 b0 4 ii (k + 1) gs e7 e8) ⟨Nat.le_refl _, _, [], rfl, hb, rfl, rfl, fun t j h => by simp at h⟩ (fun i2 d2 k2 acc env hd2 hI2 Y2 hY2 => ?_) (fun k2 acc env hI2 => ?_)
                    · obtain ⟨hk2, d3, js, rfl, hb3, rfl, hjl, hjs⟩ := hI2
                      obtain ⟨lim, hlim, hp1, hp2⟩ : ∃ lim : Int, [r0, r0, b0, b0][i2]? = some lim ∧ 1 ≤ lim ∧ lim ≤ 100 := by
                        have := (List.getElem?_eq_some_iff.mp hd2).1
                        match i2, this with
                        | 0, _ => exact ⟨r0, rfl, hr0.1, by omega⟩
                        | 1, _ => exact ⟨r0, rfl, hr0.1, by omega⟩
                        | 2, _ => exact ⟨b0, rfl, hb0.1, by omega⟩
                        | 3, _ => exact ⟨b0, rfl, hb0.1, by omega⟩
                        | t + 4, h => exact absurd (show t + 4 < 4 from h) (by omega)
                      have hd2 : d2 = .int lim := by
                        match i2, hlim, hd2 with
                        | 0, h, h2 => cases h; exact (Option.some.inj h2).symm
                        | 1, h, h2 => cases h; exact (Option.some.inj h2).symm
                        | 2, h, h2 => cases h; exact (Option.some.inj h2).symm
                        | 3, h, h2 => cases h; exact (Option.some.inj h2).symm
                        | t + 4, h, _ => cases h
                      subst hd2
                      have hi2 : i2 < 4 := (List.getElem?_eq_some_iff.mp hlim).1
                      repeat ((conv => whnf); first | (with_reducible refine And.intro ?_ ?_; rotate_left) | with_reducible refine Exists.intro _ (And.intro rfl ?_) | refine Br.yes rfl ?_ | refine Br.no rfl ?_ | refine Br.yes (by first | rfl | exact at9_cT _ | exact at9_sT _ | exact at9_intt _ | exact at9_int _ | exact at9_lkTt _ | exact at9_lkT _ | exact at9_lkX _ | exact at9_lkS _ _ _ | exact at9_tog _ _ _ _ | exact at9_c3 _ | exact at9_fl _ | exact h9 _ my | exact h9 | (simp only [Cr.at9, Cr.at9s, List.map_cons, List.map_nil, at9_int, at9_intt, at9_lkT, at9_lkTt, at9_lkX, at9_lkS, at9_tog, at9_cT, at9_sT, Bool.and_true, Bool.and_self]; done) | fail) ?_ | refine Br.no h9 ?_ | fail)
                      · refine ⟨_, _, _, rfl, rfl, okM_le (Nat.le_of_ble_eq_true rfl), ⟨M + 4 + 5 * i + i2, _, _, rfl, hb3, (by omega), (by omega), (by omega), rfl, rfl⟩, .inl ⟨tk_full, fun d d1 hp => ?_⟩⟩
                        obtain ⟨hc1, j, rfl, h10, h11⟩ := hp
                        repeat ((conv => whnf); first | (with_reducible refine And.intro ?_ ?_; rotate_left) | with_reducible refine Exists.intro _ (And.intro rfl ?_) | refine Br.yes rfl ?_ | refine Br.no rfl ?_ | refine Br.yes (by first | rfl | exact at9_cT _ | exact at9_sT _ | exact at9_intt _ | exact at9_int _ | exact at9_lkTt _ | exact at9_lkT _ | exact at9_lkX _ | exact at9_lkS _ _ _ | exact at9_tog _ _ _ _ | exact at9_c3 _ | exact at9_fl _ | exact h9 _ my | exact h9 | (simp only [Cr.at9, Cr.at9s, List.map_cons, List.map_nil, at9_int, at9_intt, at9_lkT, at9_lkTt, at9_lkX, at9_lkS, at9_tog, at9_cT, at9_sT, Bool.and_true, Bool.and_self]; done) | fail) ?_ | refine Br.no h9 ?_ | fail)
                        · conv => whnf
                          refine hY2 _ _ _ ⟨Nat.le_min.mpr ⟨hk2, Nat.le_refl _⟩, _, js ++ [j], rfl, bx_mono hc1 (by omega), by rw [List.map_append]; rfl, by rw [List.length_append, hjl]; rfl, fun t j' ht => ?_⟩
                          rcases Nat.lt_trichotomy t js.length with q | q | q
                          · rw [List.getElem?_append_left q] at ht
                            exact hjs t j' ht
                          · subst q
                            rw [List.getElem?_append_right (Nat.le_refl _), Nat.sub_self] at ht
                            cases ht
                            exact ⟨lim, by rw [hjl]; exact hlim, h10, h11⟩
                          · rw [List.getElem?_eq_none (by rw [List.length_append, List.length_singleton]; omega)] at ht
                            cases ht
                        all_goals first | exact rfl | exact trivial | assumption | exact Nat.le_of_ble_eq_true rfl | exact okM_le (Nat.le_of_ble_eq_true rfl) | exact ⟨rfl, rfl⟩ | exact ⟨_, _, rfl⟩ | exact Nat.le_trans (Nat.min_le_right _ _) (Nat.le_of_ble_eq_true rfl) | exact ⟨by decide, by decide⟩ | exact ⟨Nat.le_of_ble_eq_true rfl, Nat.le_of_ble_eq_true rfl⟩ | exact lt_line (by simp; omega) | (refine fits_of ?_; simp; done) | (refine fits_of ?_; simp; omega) | (refine fits_of ?_; rw [List.length_map]; omega) | (dsimp only; omega) | omega
                      all_goals first | exact rfl | exact trivial | assumption | exact Nat.le_of_ble_eq_true rfl | exact okM_le (Nat.le_of_ble_eq_true rfl) | exact ⟨rfl, rfl⟩ | exact ⟨_, _, rfl⟩ | exact Nat.le_trans (Nat.min_le_right _ _) (Nat.le_of_ble_eq_true rfl) | exact ⟨by decide, by decide⟩ | exact ⟨Nat.le_of_ble_eq_true rfl, Nat.le_of_ble_eq_true rfl⟩ | exact lt_line (by simp; omega) | (refine fits_of ?_; simp; done) | (refine fits_of ?_; simp; omega) | (refine fits_of ?_; rw [List.length_map]; omega) | (dsimp only; omega) | omega
                    · obtain ⟨hk2, d3, js, rfl, hb3, rfl, hjl, hjs⟩ := hI2
                      obtain ⟨a, c, x, y, rfl, hol⟩ := four hjl hjs
                      have hb3 : bx (M + 4 + 5 * i + 4) d3 := hb3
                      repeat ((conv => whnf); first | (with_reducible refine And.intro ?_ ?_; rotate_left) | with_reducible refine Exists.intro _ (And.intro rfl ?_) | refine Br.yes rfl ?_ | refine Br.no rfl ?_ | refine Br.yes (by first | rfl | exact at9_cT _ | exact at9_sT _ | exact at9_intt _ | exact at9_int _ | exact at9_lkTt _ | exact at9_lkT _ | exact at9_lkX _ | exact at9_lkS _ _ _ | exact at9_tog _ _ _ _ | exact at9_c3 _ | exact at9_fl _ | exact h9 _ my | exact h9 | (simp only [Cr.at9, Cr.at9s, List.map_cons, List.map_nil, at9_int, at9_intt, at9_lkT, at9_lkTt, at9_lkX, at9_lkS, at9_tog, at9_cT, at9_sT, Bool.and_true, Bool.and_self]; done) | fail) ?_ | refine Br.no h9 ?_ | fail)
                      · conv => whnf
                        refine hY _ ⟨_, gs ++ [(a, c, x, y)], _, _, _, _, by rw [List.map_append]; rfl, bx_mono hb3 (by omega), by rw [List.length_append, hgl]; rfl, ?_⟩
                        intro l hl
                        rcases List.mem_append.mp hl with hl | hl
                        · exact hgo l hl
                        · rw [List.mem_singleton.mp hl]
                          exact hol
                      all_goals first | exact rfl | exact trivial | assumption | exact Nat.le_of_ble_eq_true rfl | exact okM_le (Nat.le_of_ble_eq_true rfl) | exact ⟨rfl, rfl⟩ | exact ⟨_, _, rfl⟩ | exact Nat.le_trans (Nat.min_le_right _ _) (Nat.le_of_ble_eq_true rfl) | exact ⟨by decide, by decide⟩ | exact ⟨Nat.le_of_ble_eq_true rfl, Nat.le_of_ble_eq_true rfl⟩ | exact lt_line (by simp; omega) | (refine fits_of ?_; simp; done) | (refine fits_of ?_; simp; omega) | (refine fits_of ?_; rw [List.length_map]; omega) | (dsimp only; omega) | omega
                  all_goals first | exact rfl | exact trivial | assumption | exact Nat.le_of_ble_eq_true rfl | exact okM_le (Nat.le_of_ble_eq_true rfl) | exact ⟨rfl, rfl⟩ | exact ⟨_, _, rfl⟩ | exact Nat.le_trans (Nat.min_le_right _ _) (Nat.le_of_ble_eq_true rfl) | exact ⟨by decide, by decide⟩ | exact ⟨Nat.le_of_ble_eq_true rfl, Nat.le_of_ble_eq_true rfl⟩ | exact lt_line (by simp; omega) | (refine fits_of ?_; simp; done) | (refine fits_of ?_; simp; omega) | (refine fits_of ?_; rw [List.length_map]; omega) | (dsimp only; omega) | omega
            · obtain ⟨d', gs, e6, e7, e8, e9, rfl, hb, hgl, hgo⟩ := hI
              have hlen : (rangeD 0 m.toNat).length = m.toNat := by unfold rangeD; rw [List.length_map, List.length_range]
              repeat ((conv => whnf); first | (with_reducible refine And.intro ?_ ?_; rotate_left) | with_reducible refine Exists.intro _ (And.intro rfl ?_) | refine Br.yes rfl ?_ | refine Br.no rfl ?_ | refine Br.yes (by first | rfl | exact at9_cT _ | exact at9_sT _ | exact at9_intt _ | exact at9_int _ | exact at9_lkTt _ | exact at9_lkT _ | exact at9_lkX _ | exact at9_lkS _ _ _ | exact at9_tog _ _ _ _ | exact at9_c3 _ | exact at9_fl _ | exact h9 _ my | exact h9 | (simp only [Cr.at9, Cr.at9s, List.map_cons, List.map_nil, at9_int, at9_intt, at9_lkT, at9_lkTt, at9_lkX, at9_lkS, at9_tog, at9_cT, at9_sT, Bool.and_true, Bool.and_self]; done) | fail) ?_ | refine Br.no h9 ?_ | fail)
              · exact ⟨_, _, rfl, okM_le (Nat.le_of_ble_eq_true rfl), bx_mono hb (by omega), ⟨r0, b0, gs⟩, rfl, hr0, hb0, by show gs.length ≤ u; omega, hgo⟩
              all_goals first | exact rfl | exact trivial | assumption | exact Nat.le_of_ble_eq_true rfl | exact okM_le (Nat.le_of_ble_eq_true rfl) | exact ⟨rfl, rfl⟩ | exact ⟨_, _, rfl⟩ | exact Nat.le_trans (Nat.min_le_right _ _) (Nat.le_of_ble_eq_true rfl) | exact ⟨by decide, by decide⟩ | exact ⟨Nat.le_of_ble_eq_true rfl, Nat.le_of_ble_eq_true rfl⟩ | exact lt_line (by simp; omega) | (refine fits_of ?_; simp; done) | (refine fits_of ?_; simp; omega) | (refine fits_of ?_; rw [List.length_map]; omega) | (dsimp only; omega) | omega
          all_goals first | exact rfl | exact trivial | assumption | exact Nat.le_of_ble_eq_true rfl | exact okM_le (Nat.le_of_ble_eq_true rfl) | exact ⟨rfl, rfl⟩ | exact ⟨_, _, rfl⟩ | exact Nat.le_trans (Nat.min_le_right _ _) (Nat.le_of_ble_eq_true rfl) | exact ⟨by decide, by decide⟩ | exact ⟨Nat.le_of_ble_eq_true rfl, Nat.le_of_ble_eq_true rfl⟩ | exact lt_line (by simp; omega) | (refine fits_of ?_; simp; done) | (refine fits_of ?_; simp; omega) | (refine fits_of ?_; rw [List.length_map]; omega) | (dsimp only; omega) | omega
        all_goals first | exact rfl | exact trivial | assumption | exact Nat.le_of_ble_eq_true rfl | exact okM_le (Nat.le_of_ble_eq_true rfl) | exact ⟨rfl, rfl⟩ | exact ⟨_, _, rfl⟩ | exact Nat.le_trans (Nat.min_le_right _ _) (Nat.le_of_ble_eq_true rfl) | exact ⟨by decide, by decide⟩ | exact ⟨Nat.le_of_ble_eq_true rfl, Nat.le_of_ble_eq_true rfl⟩ | exact lt_line (by simp; omega) | (refine fits_of ?_; simp; done) | (refine fits_of ?_; simp; omega) | (refine fits_of ?_; rw [List.length_map]; omega) | (dsimp only; omega) | omega
      all_goals first | exact rfl | exact trivial | assumption | exact Nat.le_of_ble_eq_true rfl | exact okM_le (Nat.le_of_ble_eq_true rfl) | exact ⟨rfl, rfl⟩ | exact ⟨_, _, rfl⟩ | exact Nat.le_trans (Nat.min_le_right _ _) (Nat.le_of_ble_eq_true rfl) | exact ⟨by decide, by decide⟩ | exact ⟨Nat.le_of_ble_eq_true rfl, Nat.le_of_ble_eq_true rfl⟩ | exact lt_line (by simp; omega) | (refine fits_of ?_; simp; done) | (refine fits_of ?_; simp; omega) | (refine fits_of ?_; rw [List.length_map]; omega) | (dsimp only; omega) | omega
  all_goals first | exact rfl | exact trivial | assumption | exact Nat.le_of_ble_eq_true rfl | exact okM_le (Nat.le_of_ble_eq_true rfl) | exact ⟨rfl, rfl⟩ | exact ⟨_, _, rfl⟩ | exact Nat.le_trans (Nat.min_le_right _ _) (Nat.le_of_ble_eq_true rfl) | exact ⟨by decide, by decide⟩ | exact ⟨Nat.le_of_ble_eq_true rfl, Nat.le_of_ble_eq_true rfl⟩ | exact lt_line (by simp; omega) | (refine fits_of ?_; simp; done) | (refine fits_of ?_; simp; omega) | (refine fits_of ?_; rw [List.length_map]; omega) | (dsimp only; omega) | omega
abbrev s__law_lists : Stmt := tp 14
abbrev N__law_lists : List Str := ["_law_what", "_law_part"]
theorem sc__law_lists : FnScope N__law_lists ["_law_what"] (defScope s__law_lists) := ⟨rfl, rfl, rfl, by decide +kernel, rfl, by decide +kernel, by decide +kernel⟩
abbrev scc__law_lists_0 : Scope := { kind := .function, names := [(PySem.Str.ofString ".0", PySem.NameKind.local), (PySem.Str.ofString "_law_part", PySem.NameKind.local), (PySem.Str.ofString "_law_lists", PySem.NameKind.globalImplicit)], isGenerator := false, isCoroutine := false, more := [] }
abbrev scr__law_lists_0 : Scope := { kind := .function, names := [(PySem.Str.ofString ".0", PySem.NameKind.local), (PySem.Str.ofString "_law_part", PySem.NameKind.local), (PySem.Str.ofString "_law_lists", PySem.NameKind.globalImplicit)], isGenerator := false, isCoroutine := false, more := [] }
theorem cl__law_lists {P : Program} {w : World} {K : PySem.W.Frag} {mg : Str → Option Value} {base : Heap} (h__law_lists : Known K mg "_law_lists" s__law_lists ["_law_what"]) (m_isinstance : mg "isinstance" = none) (m_list : mg "list" = none) (m_tuple : mg "tuple" = none) {n : Nat} (hn9 : n < 9) (c__law_lists : Cl P w K mg base L2.CX0 n "_law_lists" s__law_lists ["_law_what"] (spB K 1 (rLists n))) : Cl P w K mg base L2.CX0 (n + 1) "_law_lists" s__law_lists ["_law_what"] (spB K 1 (rLists (n + 1))) := by
  obtain ⟨f, fd, F, hm, hb⟩ := h__law_lists
  refine Cl.B F hm hb sc__law_lists rfl fun cdv A outer s H E Sh ds k' Pd hr hl hR => ?_
  refine ⟨_, (vss_one (vs_ret (vi_if (vt_truth (vi_isi2 .list .tuple rfl rfl m_isinstance m_list m_tuple (nv 0))) (vi_lc s (own := [("_law_part", 1)]) rfl sc__law_lists.nd (vit_seq (nv 0)) (blkOk_by (N := N__law_lists) (sc := (defScope s__law_lists)) (scope := scc__law_lists_0) (own := [("_law_part", 1)]) (by decide +kernel)) (by decide) (by simp) (fun _ _ _ _ _ => (vg_name (i := 1) sc__law_lists.nd rfl (by first | exact .inl rfl | exact .inr rfl) (by simp))) (fun _ _ _ _ _ => vts_nil) (fun _ _ _ _ _ => (vi_callB c__law_lists (hr.less (by omega)) noE (va_cons (nv 1) va_nil)))) (nv 0)))), ?_⟩

  obtain ⟨d, rfl, hdep, hok, rfl, rfl⟩ := hR
  rw [show ent N__law_lists.length [d] = [some (md d, d), none] from rfl]
  cases d with
  | tup xs =>
    cases h9 : at9 (.tup xs) with
    | true =>
      rw [md_at h9]
      repeat ((conv => whnf); first | (with_reducible refine And.intro ?_ ?_; rotate_left) | with_reducible refine Exists.intro _ (And.intro rfl ?_) | rw [h9] | refine Br.yes rfl ?_ | refine Br.no rfl ?_ | refine Br.yes (by first | rfl | exact at9_cT _ | exact at9_sT _ | exact at9_intt _ | exact at9_int _ | exact at9_lkTt _ | exact at9_lkT _ | exact at9_lkX _ | exact at9_lkS _ _ _ | exact at9_tog _ _ _ _ | exact at9_c3 _ | exact at9_fl _ | exact h9 _ my | exact h9 | (simp only [Cr.at9, Cr.at9s, List.map_cons, List.map_nil, at9_int, at9_intt, at9_lkT, at9_lkTt, at9_lkX, at9_lkS, at9_tog, at9_cT, at9_sT, Bool.and_true, Bool.and_self]; done) | fail) ?_ | refine Br.no h9 ?_ | fail)
      · conv => whnf
        refine lc_self (xs := xs) (out := toL) n (by omega) (by unfold okd at hok; omega) (fun x hx Y Z hY => ?_) (fun k hk => ?_)
        · repeat ((conv => whnf); first | (with_reducible refine And.intro ?_ ?_; rotate_left) | with_reducible refine Exists.intro _ (And.intro rfl ?_) | rw [h9] | refine Br.yes rfl ?_ | refine Br.no rfl ?_ | refine Br.yes (by first | rfl | exact at9_cT _ | exact at9_sT _ | exact at9_intt _ | exact at9_int _ | exact at9_lkTt _ | exact at9_lkT _ | exact at9_lkX _ | exact at9_lkS _ _ _ | exact at9_tog _ _ _ _ | exact at9_c3 _ | exact at9_fl _ | exact h9 _ my | exact h9 | (simp only [Cr.at9, Cr.at9s, List.map_cons, List.map_nil, at9_int, at9_intt, at9_lkT, at9_lkTt, at9_lkX, at9_lkS, at9_tog, at9_cT, at9_sT, Bool.and_true, Bool.and_self]; done) | fail) ?_ | refine Br.no h9 ?_ | fail)
          refine ⟨[x], n, _, rfl, rfl, ⟨x, rfl, ?_, okds_mem (by unfold okd at hok; exact hok.2) hx, rfl, rfl⟩, .inl ⟨?_, fun d hd => ?_⟩⟩
          · have := deps_mem hx; unfold dep at hdep; omega
          · intro d hd
            rw [hd]
            refine full_toL x n ?_ (okds_mem (by unfold okd at hok; exact hok.2) hx)
            have := deps_mem hx; unfold dep at hdep; omega
          · subst hd
            conv => whnf
            exact hY _ _ (by first | (simp [wipeE_set, wipeE_idem]; done) | (simp [wipeE]; done) | rfl) (Nat.le_refl _)
          all_goals first | exact trivial | exact rfl | exact Nat.le_of_ble_eq_true rfl | exact okM_le (by omega) | ((conv => whnf); exact rfl)
        · repeat ((conv => whnf); first | (with_reducible refine And.intro ?_ ?_; rotate_left) | with_reducible refine Exists.intro _ (And.intro rfl ?_) | rw [h9] | refine Br.yes rfl ?_ | refine Br.no rfl ?_ | refine Br.yes (by first | rfl | exact at9_cT _ | exact at9_sT _ | exact at9_intt _ | exact at9_int _ | exact at9_lkTt _ | exact at9_lkT _ | exact at9_lkX _ | exact at9_lkS _ _ _ | exact at9_tog _ _ _ _ | exact at9_c3 _ | exact at9_fl _ | exact h9 _ my | exact h9 | (simp only [Cr.at9, Cr.at9s, List.map_cons, List.map_nil, at9_int, at9_intt, at9_lkT, at9_lkTt, at9_lkX, at9_lkS, at9_tog, at9_cT, at9_sT, Bool.and_true, Bool.and_self]; done) | fail) ?_ | refine Br.no h9 ?_ | fail)
          · show D.lst (xs.map toL) = D.lst (toLs xs)
            rw [toLs_map]
          all_goals first | exact trivial | exact rfl | exact Nat.le_of_ble_eq_true rfl | exact okM_le (by omega) | ((conv => whnf); exact rfl)
      all_goals first | exact trivial | exact rfl | exact Nat.le_of_ble_eq_true rfl | exact okM_le (by omega) | ((conv => whnf); exact rfl)
    | false =>
      rw [md_no h9]
      repeat ((conv => whnf); first | (with_reducible refine And.intro ?_ ?_; rotate_left) | with_reducible refine Exists.intro _ (And.intro rfl ?_) | rw [h9] | refine Br.yes rfl ?_ | refine Br.no rfl ?_ | refine Br.yes (by first | rfl | exact at9_cT _ | exact at9_sT _ | exact at9_intt _ | exact at9_int _ | exact at9_lkTt _ | exact at9_lkT _ | exact at9_lkX _ | exact at9_lkS _ _ _ | exact at9_tog _ _ _ _ | exact at9_c3 _ | exact at9_fl _ | exact h9 _ my | exact h9 | (simp only [Cr.at9, Cr.at9s, List.map_cons, List.map_nil, at9_int, at9_intt, at9_lkT, at9_lkTt, at9_lkX, at9_lkS, at9_tog, at9_cT, at9_sT, Bool.and_true, Bool.and_self]; done) | fail) ?_ | refine Br.no h9 ?_ | fail)
      · conv => whnf
        refine lc_self (xs := xs) (out := toL) n (by omega) (by unfold okd at hok; omega) (fun x hx Y Z hY => ?_) (fun k hk => ?_)
        · repeat ((conv => whnf); first | (with_reducible refine And.intro ?_ ?_; rotate_left) | with_reducible refine Exists.intro _ (And.intro rfl ?_) | rw [h9] | refine Br.yes rfl ?_ | refine Br.no rfl ?_ | refine Br.yes (by first | rfl | exact at9_cT _ | exact at9_sT _ | exact at9_intt _ | exact at9_int _ | exact at9_lkTt _ | exact at9_lkT _ | exact at9_lkX _ | exact at9_lkS _ _ _ | exact at9_tog _ _ _ _ | exact at9_c3 _ | exact at9_fl _ | exact h9 _ my | exact h9 | (simp only [Cr.at9, Cr.at9s, List.map_cons, List.map_nil, at9_int, at9_intt, at9_lkT, at9_lkTt, at9_lkX, at9_lkS, at9_tog, at9_cT, at9_sT, Bool.and_true, Bool.and_self]; done) | fail) ?_ | refine Br.no h9 ?_ | fail)
          refine ⟨[x], n, _, rfl, rfl, ⟨x, rfl, ?_, okds_mem (by unfold okd at hok; exact hok.2) hx, rfl, rfl⟩, .inl ⟨?_, fun d hd => ?_⟩⟩
          · have := deps_mem hx; unfold dep at hdep; omega
          · intro d hd
            rw [hd]
            refine full_toL x n ?_ (okds_mem (by unfold okd at hok; exact hok.2) hx)
            have := deps_mem hx; unfold dep at hdep; omega
          · subst hd
            conv => whnf
            exact hY _ _ (by first | (simp [wipeE_set, wipeE_idem]; done) | (simp [wipeE]; done) | rfl) (Nat.le_refl _)
          all_goals first | exact trivial | exact rfl | exact Nat.le_of_ble_eq_true rfl | exact okM_le (by omega) | ((conv => whnf); exact rfl)
        · repeat ((conv => whnf); first | (with_reducible refine And.intro ?_ ?_; rotate_left) | with_reducible refine Exists.intro _ (And.intro rfl ?_) | rw [h9] | refine Br.yes rfl ?_ | refine Br.no rfl ?_ | refine Br.yes (by first | rfl | exact at9_cT _ | exact at9_sT _ | exact at9_intt _ | exact at9_int _ | exact at9_lkTt _ | exact at9_lkT _ | exact at9_lkX _ | exact at9_lkS _ _ _ | exact at9_tog _ _ _ _ | exact at9_c3 _ | exact at9_fl _ | exact h9 _ my | exact h9 | (simp only [Cr.at9, Cr.at9s, List.map_cons, List.map_nil, at9_int, at9_intt, at9_lkT, at9_lkTt, at9_lkX, at9_lkS, at9_tog, at9_cT, at9_sT, Bool.and_true, Bool.and_self]; done) | fail) ?_ | refine Br.no h9 ?_ | fail)
          · show D.lst (xs.map toL) = D.lst (toLs xs)
            rw [toLs_map]
          all_goals first | exact trivial | exact rfl | exact Nat.le_of_ble_eq_true rfl | exact okM_le (by omega) | ((conv => whnf); exact rfl)
      all_goals first | exact trivial | exact rfl | exact Nat.le_of_ble_eq_true rfl | exact okM_le (by omega) | ((conv => whnf); exact rfl)
  | lst xs =>
    have h9 : at9 (.lst xs) = false := rfl
    rw [md_no h9]
    repeat ((conv => whnf); first | (with_reducible refine And.intro ?_ ?_; rotate_left) | with_reducible refine Exists.intro _ (And.intro rfl ?_) | rw [h9] | refine Br.yes rfl ?_ | refine Br.no rfl ?_ | refine Br.yes (by first | rfl | exact at9_cT _ | exact at9_sT _ | exact at9_intt _ | exact at9_int _ | exact at9_lkTt _ | exact at9_lkT _ | exact at9_lkX _ | exact at9_lkS _ _ _ | exact at9_tog _ _ _ _ | exact at9_c3 _ | exact at9_fl _ | exact h9 _ my | exact h9 | (simp only [Cr.at9, Cr.at9s, List.map_cons, List.map_nil, at9_int, at9_intt, at9_lkT, at9_lkTt, at9_lkX, at9_lkS, at9_tog, at9_cT, at9_sT, Bool.and_true, Bool.and_self]; done) | fail) ?_ | refine Br.no h9 ?_ | fail)
    · conv => whnf
      refine lc_self (xs := xs) (out := toL) n (by omega) (by unfold okd at hok; omega) (fun x hx Y Z hY => ?_) (fun k hk => ?_)
      · repeat ((conv => whnf); first | (with_reducible refine And.intro ?_ ?_; rotate_left) | with_reducible refine Exists.intro _ (And.intro rfl ?_) | rw [h9] | refine Br.yes rfl ?_ | refine Br.no rfl ?_ | refine Br.yes (by first | rfl | exact at9_cT _ | exact at9_sT _ | exact at9_intt _ | exact at9_int _ | exact at9_lkTt _ | exact at9_lkT _ | exact at9_lkX _ | exact at9_lkS _ _ _ | exact at9_tog _ _ _ _ | exact at9_c3 _ | exact at9_fl _ | exact h9 _ my | exact h9 | (simp only [Cr.at9, Cr.at9s, List.map_cons, List.map_nil, at9_int, at9_intt, at9_lkT, at9_lkTt, at9_lkX, at9_lkS, at9_tog, at9_cT, at9_sT, Bool.and_true, Bool.and_self]; done) | fail) ?_ | refine Br.no h9 ?_ | fail)
        refine ⟨[x], n, _, rfl, rfl, ⟨x, rfl, ?_, okds_mem (by unfold okd at hok; exact hok.2) hx, rfl, rfl⟩, .inl ⟨?_, fun d hd => ?_⟩⟩
        · have := deps_mem hx; unfold dep at hdep; omega
        · intro d hd
          rw [hd]
          refine full_toL x n ?_ (okds_mem (by unfold okd at hok; exact hok.2) hx)
          have := deps_mem hx; unfold dep at hdep; omega
        · subst hd
          conv => whnf
          exact hY _ _ (by first | (simp [wipeE_set, wipeE_idem]; done) | (simp [wipeE]; done) | rfl) (Nat.le_refl _)
        all_goals first | exact trivial | exact rfl | exact Nat.le_of_ble_eq_true rfl | exact okM_le (by omega) | ((conv => whnf); exact rfl)
      · repeat ((conv => whnf); first | (with_reducible refine And.intro ?_ ?_; rotate_left) | with_reducible refine Exists.intro _ (And.intro rfl ?_) | rw [h9] | refine Br.yes rfl ?_ | refine Br.no rfl ?_ | refine Br.yes (by first | rfl | exact at9_cT _ | exact at9_sT _ | exact at9_intt _ | exact at9_int _ | exact at9_lkTt _ | exact at9_lkT _ | exact at9_lkX _ | exact at9_lkS _ _ _ | exact at9_tog _ _ _ _ | exact at9_c3 _ | exact at9_fl _ | exact h9 _ my | exact h9 | (simp only [Cr.at9, Cr.at9s, List.map_cons, List.map_nil, at9_int, at9_intt, at9_lkT, at9_lkTt, at9_lkX, at9_lkS, at9_tog, at9_cT, at9_sT, Bool.and_true, Bool.and_self]; done) | fail) ?_ | refine Br.no h9 ?_ | fail)
        · show D.lst (xs.map toL) = D.lst (toLs xs)
          rw [toLs_map]
        all_goals first | exact trivial | exact rfl | exact Nat.le_of_ble_eq_true rfl | exact okM_le (by omega) | ((conv => whnf); exact rfl)
    all_goals first | exact trivial | exact rfl | exact Nat.le_of_ble_eq_true rfl | exact okM_le (by omega) | ((conv => whnf); exact rfl)
  | fl xs => unfold okd at hok; exact hok.elim
  | non =>
    repeat ((conv => whnf); first | (with_reducible refine And.intro ?_ ?_; rotate_left) | with_reducible refine Exists.intro _ (And.intro rfl ?_) | rw [h9] | refine Br.yes rfl ?_ | refine Br.no rfl ?_ | refine Br.yes (by first | rfl | exact at9_cT _ | exact at9_sT _ | exact at9_intt _ | exact at9_int _ | exact at9_lkTt _ | exact at9_lkT _ | exact at9_lkX _ | exact at9_lkS _ _ _ | exact at9_tog _ _ _ _ | exact at9_c3 _ | exact at9_fl _ | exact h9 _ my | exact h9 | (simp only [Cr.at9, Cr.at9s, List.map_cons, List.map_nil, at9_int, at9_intt, at9_lkT, at9_lkTt, at9_lkX, at9_lkS, at9_tog, at9_cT, at9_sT, Bool.and_true, Bool.and_self]; done) | fail) ?_ | refine Br.no h9 ?_ | fail)
    all_goals first | exact trivial | exact rfl | exact Nat.le_of_ble_eq_true rfl | exact okM_le (by omega) | ((conv => whnf); exact rfl)
  | bl b =>
    repeat ((conv => whnf); first | (with_reducible refine And.intro ?_ ?_; rotate_left) | with_reducible refine Exists.intro _ (And.intro rfl ?_) | rw [h9] | refine Br.yes rfl ?_ | refine Br.no rfl ?_ | refine Br.yes (by first | rfl | exact at9_cT _ | exact at9_sT _ | exact at9_intt _ | exact at9_int _ | exact at9_lkTt _ | exact at9_lkT _ | exact at9_lkX _ | exact at9_lkS _ _ _ | exact at9_tog _ _ _ _ | exact at9_c3 _ | exact at9_fl _ | exact h9 _ my | exact h9 | (simp only [Cr.at9, Cr.at9s, List.map_cons, List.map_nil, at9_int, at9_intt, at9_lkT, at9_lkTt, at9_lkX, at9_lkS, at9_tog, at9_cT, at9_sT, Bool.and_true, Bool.and_self]; done) | fail) ?_ | refine Br.no h9 ?_ | fail)
    all_goals first | exact trivial | exact rfl | exact Nat.le_of_ble_eq_true rfl | exact okM_le (by omega) | ((conv => whnf); exact rfl)
  | int i =>
    repeat ((conv => whnf); first | (with_reducible refine And.intro ?_ ?_; rotate_left) | with_reducible refine Exists.intro _ (And.intro rfl ?_) | rw [h9] | refine Br.yes rfl ?_ | refine Br.no rfl ?_ | refine Br.yes (by first | rfl | exact at9_cT _ | exact at9_sT _ | exact at9_intt _ | exact at9_int _ | exact at9_lkTt _ | exact at9_lkT _ | exact at9_lkX _ | exact at9_lkS _ _ _ | exact at9_tog _ _ _ _ | exact at9_c3 _ | exact at9_fl _ | exact h9 _ my | exact h9 | (simp only [Cr.at9, Cr.at9s, List.map_cons, List.map_nil, at9_int, at9_intt, at9_lkT, at9_lkTt, at9_lkX, at9_lkS, at9_tog, at9_cT, at9_sT, Bool.and_true, Bool.and_self]; done) | fail) ?_ | refine Br.no h9 ?_ | fail)
    all_goals first | exact trivial | exact rfl | exact Nat.le_of_ble_eq_true rfl | exact okM_le (by omega) | ((conv => whnf); exact rfl)
  | str z =>
    repeat ((conv => whnf); first | (with_reducible refine And.intro ?_ ?_; rotate_left) | with_reducible refine Exists.intro _ (And.intro rfl ?_) | rw [h9] | refine Br.yes rfl ?_ | refine Br.no rfl ?_ | refine Br.yes (by first | rfl | exact at9_cT _ | exact at9_sT _ | exact at9_intt _ | exact at9_int _ | exact at9_lkTt _ | exact at9_lkT _ | exact at9_lkX _ | exact at9_lkS _ _ _ | exact at9_tog _ _ _ _ | exact at9_c3 _ | exact at9_fl _ | exact h9 _ my | exact h9 | (simp only [Cr.at9, Cr.at9s, List.map_cons, List.map_nil, at9_int, at9_intt, at9_lkT, at9_lkTt, at9_lkX, at9_lkS, at9_tog, at9_cT, at9_sT, Bool.and_true, Bool.and_self]; done) | fail) ?_ | refine Br.no h9 ?_ | fail)
    all_goals first | exact trivial | exact rfl | exact Nat.le_of_ble_eq_true rfl | exact okM_le (by omega) | ((conv => whnf); exact rfl)
abbrev s__law_odd : Stmt := tp 15
abbrev N__law_odd : List Str := ["_law_box_here", "_law_some"]
theorem sc__law_odd : FnScope N__law_odd ["_law_box_here"] (defScope s__law_odd) := ⟨rfl, rfl, rfl, by decide +kernel, rfl, by decide +kernel, by decide +kernel⟩
theorem cl__law_odd {P : Program} {w : World} {K : PySem.W.Frag} {mg : Str → Option Value} {base : Heap} (h__law_odd : Known K mg "_law_odd" s__law_odd ["_law_box_here"])  (c__law_of : Cl P w K mg base L2.CX0 2 "_law_of" s__law_of ["_law_box_here", "_law_some"] (spI K 2 1 rOf)) : Cl P w K mg base L2.CX0 3 "_law_odd" s__law_odd ["_law_box_here"] (spI K 1 1 rOdd) := by
  obtain ⟨f, fd, F, hm, hb⟩ := h__law_odd
  refine Cl.I F hm hb sc__law_odd rfl fun cdv A outer s H E G Sh v0 ds k' Pd hr hl hR => ?_
  refine ⟨_, (vss_cons (vs_set (i := 1) sc__law_odd.nd rfl (by first | exact .inl rfl | exact .inr rfl) (by simp) (vi_list (va_cons vi_non (va_cons vi_bl (va_cons vi_bl (va_cons vi_int (va_cons vi_int (va_cons vi_int (va_cons (vi_neg vi_int) (va_cons vi_int (va_cons vi_str (va_cons vi_str (va_cons vi_str (va_cons (vi_tup va_nil) (va_cons (vi_list va_nil) (va_cons (vi_tup (va_cons vi_int va_nil)) (va_cons (vi_list (va_cons vi_int va_nil)) (va_cons (vi_tup (va_cons vi_int (va_cons vi_int va_nil))) (va_cons (vi_list (va_cons vi_int (va_cons vi_int va_nil))) (va_cons (vi_tup (va_cons vi_int (va_cons vi_int (va_cons vi_int (va_cons vi_int va_nil))))) va_nil)))))))))))))))))))) (vss_one (vs_ret (vi_callI c__law_of (hr.less (by omega)) noE (va_cons (nv 0) (va_cons (vi_add (nv 1) (vi_list (va_cons (vi_pow vi_int vi_int) va_nil))) va_nil)))))), ?_⟩

  obtain ⟨M, d0, rfl, hb0, hM, rfl, rfl⟩ := hR
  rw [show entI N__law_odd.length 1 [d0] = [some (1, d0), none] from rfl]
  repeat ((conv => whnf); first | (with_reducible refine And.intro ?_ ?_; rotate_left) | with_reducible refine Exists.intro _ (And.intro rfl ?_) | refine Br.yes rfl ?_ | refine Br.no rfl ?_ | refine Br.yes (by first | rfl | exact at9_cT _ | exact at9_sT _ | exact at9_intt _ | exact at9_int _ | exact at9_lkTt _ | exact at9_lkT _ | exact at9_lkX _ | exact at9_lkS _ _ _ | exact at9_tog _ _ _ _ | exact at9_c3 _ | exact at9_fl _ | exact h9 _ my | exact h9 | (simp only [Cr.at9, Cr.at9s, List.map_cons, List.map_nil, at9_int, at9_intt, at9_lkT, at9_lkTt, at9_lkX, at9_lkS, at9_tog, at9_cT, at9_sT, Bool.and_true, Bool.and_self]; done) | fail) ?_ | refine Br.no h9 ?_ | refine go_rNum rfl ?_ | refine go_rTupOf rfl ?_ ?_ | refine go_rAre rfl ?_ rfl ?_ | refine go_rLk rfl ?_ ?_ | refine go_rCan rfl ?_ ?_ | refine go_rRow rfl ?_ ?_ | fail)
  · refine go_of0 (kd := .l) (xs := oddL) rfl rfl rfl (Nat.le_of_ble_eq_true rfl) hb0 (by omega) (by simp [oddL]) (by simp [oddL]) ?_
    conv => whnf
    refine ⟨rfl, fun d d1 hm hb1 => ?_⟩
    repeat ((conv => whnf); first | (with_reducible refine And.intro ?_ ?_; rotate_left) | with_reducible refine Exists.intro _ (And.intro rfl ?_) | refine Br.yes rfl ?_ | refine Br.no rfl ?_ | refine Br.yes (by first | rfl | exact at9_cT _ | exact at9_sT _ | exact at9_intt _ | exact at9_int _ | exact at9_lkTt _ | exact at9_lkT _ | exact at9_lkX _ | exact at9_lkS _ _ _ | exact at9_tog _ _ _ _ | exact at9_c3 _ | exact at9_fl _ | exact h9 _ my | exact h9 | (simp only [Cr.at9, Cr.at9s, List.map_cons, List.map_nil, at9_int, at9_intt, at9_lkT, at9_lkTt, at9_lkX, at9_lkS, at9_tog, at9_cT, at9_sT, Bool.and_true, Bool.and_self]; done) | fail) ?_ | refine Br.no h9 ?_ | refine go_rNum rfl ?_ | refine go_rTupOf rfl ?_ ?_ | refine go_rAre rfl ?_ rfl ?_ | refine go_rLk rfl ?_ ?_ | refine go_rCan rfl ?_ ?_ | refine go_rRow rfl ?_ ?_ | fail)
    · exact ⟨_, _, rfl, okM_le (Nat.le_of_ble_eq_true rfl), hb1, hm⟩
    all_goals first | (with_reducible exact rfl) | assumption | exact trivial | exact Nat.le_of_ble_eq_true rfl | exact okM_le (Nat.le_of_ble_eq_true rfl) | exact ⟨rfl, rfl⟩ | exact fits_of (Nat.le_of_ble_eq_true rfl) | exact fun d hd => by (obtain ⟨_, _, rfl⟩ := List.mem_map.mp hd; exact trivial) | (refine fits_of ?_; simp; omega) | exact ⟨Nat.le_of_ble_eq_true rfl, Nat.le_of_ble_eq_true rfl⟩ | exact ⟨by decide, by decide⟩ | (dsimp only; exact ⟨by decide, by decide⟩) | omega | exact rfl
  all_goals first | (with_reducible exact rfl) | assumption | exact trivial | exact Nat.le_of_ble_eq_true rfl | exact okM_le (Nat.le_of_ble_eq_true rfl) | exact ⟨rfl, rfl⟩ | exact fits_of (Nat.le_of_ble_eq_true rfl) | exact fun d hd => by (obtain ⟨_, _, rfl⟩ := List.mem_map.mp hd; exact trivial) | (refine fits_of ?_; simp; omega) | exact ⟨Nat.le_of_ble_eq_true rfl, Nat.le_of_ble_eq_true rfl⟩ | exact ⟨by decide, by decide⟩ | (dsimp only; exact ⟨by decide, by decide⟩) | omega | exact rfl
abbrev s__law_otherwise : Stmt := tp 16
abbrev N__law_otherwise : List Str := ["_law_box_here", "_law_what", "_law_spot", "_law_kind", "_law_some"]
theorem sc__law_otherwise : FnScope N__law_otherwise ["_law_box_here", "_law_what"] (defScope s__law_otherwise) := ⟨rfl, rfl, rfl, by decide +kernel, rfl, by decide +kernel, by decide +kernel⟩
theorem cl__law_otherwise {P : Program} {w : World} {K : PySem.W.Frag} {mg : Str → Option Value} {base : Heap} (h__law_otherwise : Known K mg "_law_otherwise" s__law_otherwise ["_law_box_here", "_law_what"]) (m_bool : mg "bool" = none) (m_int : mg "int" = none) (m_isinstance : mg "isinstance" = none) (m_len : mg "len" = none) (m_list : mg "list" = none) (m_str : mg "str" = none) (m_tuple : mg "tuple" = none) (c__law_odd : Cl P w K mg base L2.CX0 3 "_law_odd" s__law_odd ["_law_box_here"] (spI K 1 1 rOdd)) (c__law_take : Cl P w K mg base L2.CX0 1 "_law_take" s__law_take ["_law_box_here", "_law_size"] (spI K 2 1 rTake)) {n : Nat} (hn9 : n < 60) (c__law_otherwise : Cl P w K mg base L2.CX0 (n + 3) "_law_otherwise" s__law_otherwise ["_law_box_here", "_law_what"] (spI K 2 1 (rOth n))) : Cl P w K mg base L2.CX0 (n + 4) "_law_otherwise" s__law_otherwise ["_law_box_here", "_law_what"] (spI K 2 1 (rOth (n + 1))) := by
  obtain ⟨f, fd, F, hm, hb⟩ := h__law_otherwise
  refine Cl.I F hm hb sc__law_otherwise rfl fun cdv A outer s H E G Sh v0 ds k' Pd hr hl hR => ?_
  refine ⟨_, (vss_cons (vs_if (VW.vt (vw_and (vt_truth (vi_isi2 .list .tuple rfl rfl m_isinstance m_list m_tuple (nv 1))) (vw_and (vt_c (cr_gt) (vi_fb fb_len m_len (va_cons (nv 1) va_nil)) vi_int) (vw_and1 (vt_c (cr_gt) (vi_callI c__law_take (hr.less (by omega)) noE (va_cons (nv 0) (va_cons vi_int va_nil))) vi_int))))) (vss_cons (vs_par (i := 2) (j := 3) rfl sc__law_otherwise.nd rfl rfl (by decide) rfl rfl (by simp) (by simp) (va_cons (vi_callI c__law_take (hr.less (by omega)) noE (va_cons (nv 0) (va_cons (vi_fb fb_len m_len (va_cons (nv 1) va_nil)) va_nil))) (va_cons (vi_callI c__law_take (hr.less (by omega)) noE (va_cons (nv 0) (va_cons vi_int va_nil))) va_nil)) (by rfl)) (vss_cons (vs_set (i := 4) sc__law_otherwise.nd rfl (by first | exact .inl rfl | exact .inr rfl) (by simp) (vi_listOf m_list (nv 1))) (vss_cons (vs_if (vt_c (cr_eq hr.r.units) (nv 3) vi_int) (vss_one (vs_set (i := 4) sc__law_otherwise.nd rfl (by first | exact .inl rfl | exact .inr rfl) (by simp) (vi_add (vi_slice (nv 4) vo_none (vo_some (nv 2))) (vi_slice (nv 4) (vo_some (vi_add (nv 2) vi_int)) vo_none)))) (vss_one (vs_if (vt_c (cr_eq hr.r.units) (nv 3) vi_int) (vss_one (vs_set (i := 4) sc__law_otherwise.nd rfl (by first | exact .inl rfl | exact .inr rfl) (by simp) (vi_add (vi_add (vi_slice (nv 4) vo_none (vo_some (nv 2))) (vi_slice (nv 4) (vo_some (nv 2)) (vo_some (vi_add (nv 2) vi_int)))) (vi_slice (nv 4) (vo_some (nv 2)) vo_none)))) (vss_one (vs_if (vt_c (cr_eq hr.r.units) (nv 3) vi_int) (vss_one (vs_ret (vi_if (vt_truth (vi_isi1 .list rfl m_isinstance m_list (nv 1))) (vi_tupOf m_tuple (nv 4)) (nv 4)))) (vss_one (vs_setIx (i := 4) rfl (by first | exact Or.inl rfl | exact Or.inr (Or.inl rfl) | exact Or.inr (Or.inr rfl)) (vi_callI c__law_otherwise (hr.less (by omega)) noE (va_cons (nv 0) (va_cons (vi_ix (nv 4) (nv 2)) va_nil))) (nv 2)))))))) (vss_one (vs_ret (vi_if (vt_truth (vi_isi1 .list rfl m_isinstance m_list (nv 1))) (nv 4) (vi_tupOf m_tuple (nv 4)))))))) vss_nil) (vss_cons (vs_if (VW.vt (vw_and (vt_truth (vi_isi1 .int rfl m_isinstance m_int (nv 1))) (vw_and (vt_not (vt_truth (vi_isi1 .bool rfl m_isinstance m_bool (nv 1)))) (vw_and1 (vt_c (cr_gt) (vi_callI c__law_take (hr.less (by omega)) noE (va_cons (nv 0) (va_cons vi_int va_nil))) vi_int))))) (vss_one (vs_ret (vi_ix (vi_list (va_cons (vi_add (nv 1) vi_int) (va_cons (vi_sub (nv 1) vi_int) (va_cons (vi_sub vi_int (nv 1)) (va_cons (vi_c (cr_eq hr.r.units) (nv 1) vi_int) (va_cons (vi_ft ft_str m_str (va_cons (nv 1) va_nil)) (va_cons (vi_mul vi_int (nv 1)) (va_cons (vi_add (nv 1) vi_int) va_nil)))))))) (vi_callI c__law_take (hr.less (by omega)) noE (va_cons (nv 0) (va_cons vi_int va_nil)))))) vss_nil) (vss_one (vs_ret (vi_callI c__law_odd (hr.less (by omega)) noE (va_cons (nv 0) va_nil)))))), ?_⟩

  obtain ⟨M, d0, d, B', L, h, C, rfl, hb0, hM, hnc, hhn, hB1, hB2, hL1, hL2, hC, rfl, rfl⟩ := hR
  rcases md_or d with ⟨hmd, h9⟩ | ⟨hmd, h9⟩
  all_goals (
    rw [show entI N__law_otherwise.length 1 [d0, d] = [some (1, d0), some (md d, d), none, none, none] from rfl, hmd]
    cases d with
    | int i =>
      have hi : i.natAbs < 2 ^ B' := by have := hnc.g; unfold gd at this; exact this
      have hpw : 2 ^ (B' + 2) = 4 * 2 ^ B' := by rw [Nat.pow_add, Nat.mul_comm]
      have hbig : 4 ≤ 2 ^ B' := Nat.le_trans (show 4 ≤ 2 ^ 2 by decide) (Nat.pow_le_pow_right (by decide) (by omega))
      have hlg : i.natAbs.log2 < B' := lg_lt hi (by omega)
      repeat ((conv => whnf); first | (with_reducible refine And.intro ?_ ?_; rotate_left) | with_reducible refine Exists.intro _ (And.intro rfl ?_) | rw [hA] | rw [hBd] | rw [hCd] | rw [hDd] | rw [hat] | rw [hix] | rw [hl0] | rw [e0] | rw [e1] | rw [e2] | refine Br.yes rfl ?_ | refine Br.no rfl ?_ | refine Br.yes (by first | rfl | exact at9_cT _ | exact at9_sT _ | exact at9_intt _ | exact at9_int _ | exact at9_lkTt _ | exact at9_lkT _ | exact at9_lkX _ | exact at9_lkS _ _ _ | exact at9_tog _ _ _ _ | exact at9_c3 _ | exact at9_fl _ | exact h9 _ my | exact h9 | (simp only [Cr.at9, Cr.at9s, List.map_cons, List.map_nil, at9_int, at9_intt, at9_lkT, at9_lkTt, at9_lkX, at9_lkS, at9_tog, at9_cT, at9_sT, Bool.and_true, Bool.and_self]; done) | fail) ?_ | refine Br.no h9 ?_ | refine go_rNum rfl ?_ | refine go_rTupOf rfl ?_ ?_ | refine go_rAre rfl ?_ rfl ?_ | refine go_rLk rfl ?_ ?_ | refine go_rCan rfl ?_ ?_ | refine go_rRow rfl ?_ ?_ | refine Br.yes hl0 ?_ | refine Br.no hl0 ?_ | refine Br.yes qC ?_ | refine Br.no qC ?_ | refine Br.yes qE ?_ | refine Br.no qE ?_ | refine Br.yes qx ?_ | refine Br.no qx ?_ | refine Br.yes qy ?_ | refine Br.no qy ?_ | refine Br.yes qS ?_ | refine Br.no qS ?_ | refine Br.yes h9s ?_ | refine Br.no h9s ?_ | fail)
      · refine go_take rfl rfl (Nat.le_of_ble_eq_true rfl) hb0 (by omega) (by omega) (by omega) (fun j1 d1 hj1 hj1b hb1 => ?_)
        conv => whnf
        refine Br.mk (fun q => ?_) (fun q => ?_)
        · repeat ((conv => whnf); first | (with_reducible refine And.intro ?_ ?_; rotate_left) | with_reducible refine Exists.intro _ (And.intro rfl ?_) | rw [hA] | rw [hBd] | rw [hCd] | rw [hDd] | rw [hat] | rw [hix] | rw [hl0] | rw [e0] | rw [e1] | rw [e2] | refine Br.yes rfl ?_ | refine Br.no rfl ?_ | refine Br.yes (by first | rfl | exact at9_cT _ | exact at9_sT _ | exact at9_intt _ | exact at9_int _ | exact at9_lkTt _ | exact at9_lkT _ | exact at9_lkX _ | exact at9_lkS _ _ _ | exact at9_tog _ _ _ _ | exact at9_c3 _ | exact at9_fl _ | exact h9 _ my | exact h9 | (simp only [Cr.at9, Cr.at9s, List.map_cons, List.map_nil, at9_int, at9_intt, at9_lkT, at9_lkTt, at9_lkX, at9_lkS, at9_tog, at9_cT, at9_sT, Bool.and_true, Bool.and_self]; done) | fail) ?_ | refine Br.no h9 ?_ | refine go_rNum rfl ?_ | refine go_rTupOf rfl ?_ ?_ | refine go_rAre rfl ?_ rfl ?_ | refine go_rLk rfl ?_ ?_ | refine go_rCan rfl ?_ ?_ | refine go_rRow rfl ?_ ?_ | refine Br.yes hl0 ?_ | refine Br.no hl0 ?_ | refine Br.yes qC ?_ | refine Br.no qC ?_ | refine Br.yes qE ?_ | refine Br.no qE ?_ | refine Br.yes qx ?_ | refine Br.no qx ?_ | refine Br.yes qy ?_ | refine Br.no qy ?_ | refine Br.yes qS ?_ | refine Br.no qS ?_ | refine Br.yes h9s ?_ | refine Br.no h9s ?_ | fail)
          · refine go_take rfl rfl (Nat.le_of_ble_eq_true rfl) hb1 (by omega) (by omega) (by omega) (fun j2 d2 hj2 hj2b hb2 => ?_)
            have hj : j2 = 0 ∨ j2 = 1 ∨ j2 = 2 ∨ j2 = 3 ∨ j2 = 4 ∨ j2 = 5 ∨ j2 = 6 := by omega
            rcases hj with rfl | rfl | rfl | rfl | rfl | rfl | rfl
            all_goals (
              repeat ((conv => whnf); first | (with_reducible refine And.intro ?_ ?_; rotate_left) | with_reducible refine Exists.intro _ (And.intro rfl ?_) | rw [hA] | rw [hBd] | rw [hCd] | rw [hDd] | rw [hat] | rw [hix] | rw [hl0] | rw [e0] | rw [e1] | rw [e2] | refine Br.yes rfl ?_ | refine Br.no rfl ?_ | refine Br.yes (by first | rfl | exact at9_cT _ | exact at9_sT _ | exact at9_intt _ | exact at9_int _ | exact at9_lkTt _ | exact at9_lkT _ | exact at9_lkX _ | exact at9_lkS _ _ _ | exact at9_tog _ _ _ _ | exact at9_c3 _ | exact at9_fl _ | exact h9 _ my | exact h9 | (simp only [Cr.at9, Cr.at9s, List.map_cons, List.map_nil, at9_int, at9_intt, at9_lkT, at9_lkTt, at9_lkX, at9_lkS, at9_tog, at9_cT, at9_sT, Bool.and_true, Bool.and_self]; done) | fail) ?_ | refine Br.no h9 ?_ | refine go_rNum rfl ?_ | refine go_rTupOf rfl ?_ ?_ | refine go_rAre rfl ?_ rfl ?_ | refine go_rLk rfl ?_ ?_ | refine go_rCan rfl ?_ ?_ | refine go_rRow rfl ?_ ?_ | refine Br.yes hl0 ?_ | refine Br.no hl0 ?_ | refine Br.yes qC ?_ | refine Br.no qC ?_ | refine Br.yes qE ?_ | refine Br.no qE ?_ | refine Br.yes qx ?_ | refine Br.no qx ?_ | refine Br.yes qy ?_ | refine Br.no qy ?_ | refine Br.yes qS ?_ | refine Br.no qS ?_ | refine Br.yes h9s ?_ | refine Br.no h9s ?_ | fail)
              · refine ⟨_, _, rfl, okM_le (Nat.le_of_ble_eq_true rfl), bx_mono hb2 (by omega), ?_⟩
                first | exact Nc.atom (by unfold gd; (try dsimp only); omega) (by unfold dep; rfl) (blk_int _) | exact Nc.atom (by unfold gd; trivial) (by unfold dep; rfl) (blk_bl _) | exact Nc.mono (intText_gd (B := B') (L := L) hi (by omega) (by omega)) (by omega) (by omega) (by omega) (by omega)
              all_goals first | (with_reducible exact rfl) | assumption | exact trivial | exact Nat.le_of_ble_eq_true rfl | exact okM_le (Nat.le_of_ble_eq_true rfl) | exact ⟨rfl, rfl⟩ | exact fits_of (Nat.le_of_ble_eq_true rfl) | exact fun d hd => by (obtain ⟨_, _, rfl⟩ := List.mem_map.mp hd; exact trivial) | (refine fits_of ?_; simp; omega) | exact ⟨Nat.le_of_ble_eq_true rfl, Nat.le_of_ble_eq_true rfl⟩ | exact ⟨by decide, by decide⟩ | (dsimp only; exact ⟨by decide, by decide⟩) | (refine fits_of ?_; simp only [hA, hBd, hCd, hDd, List.length_take, List.length_drop, List.length_append]; omega) | omega | exact rfl)
          all_goals first | (dsimp only; omega) | exact Nat.lt_of_lt_of_le hlg (by omega) | exact (show (2 : Int).natAbs.log2 + i.natAbs.log2 < 100000000 by rw [show (2 : Int).natAbs.log2 = 1 by decide]; omega) | (with_reducible exact rfl) | assumption | exact trivial | exact Nat.le_of_ble_eq_true rfl | exact okM_le (Nat.le_of_ble_eq_true rfl) | exact ⟨rfl, rfl⟩ | exact fits_of (Nat.le_of_ble_eq_true rfl) | exact fun d hd => by (obtain ⟨_, _, rfl⟩ := List.mem_map.mp hd; exact trivial) | (refine fits_of ?_; simp; omega) | exact ⟨Nat.le_of_ble_eq_true rfl, Nat.le_of_ble_eq_true rfl⟩ | exact ⟨by decide, by decide⟩ | (dsimp only; exact ⟨by decide, by decide⟩) | omega | exact rfl
        · repeat ((conv => whnf); first | (with_reducible refine And.intro ?_ ?_; rotate_left) | with_reducible refine Exists.intro _ (And.intro rfl ?_) | rw [hA] | rw [hBd] | rw [hCd] | rw [hDd] | rw [hat] | rw [hix] | rw [hl0] | rw [e0] | rw [e1] | rw [e2] | refine Br.yes rfl ?_ | refine Br.no rfl ?_ | refine Br.yes (by first | rfl | exact at9_cT _ | exact at9_sT _ | exact at9_intt _ | exact at9_int _ | exact at9_lkTt _ | exact at9_lkT _ | exact at9_lkX _ | exact at9_lkS _ _ _ | exact at9_tog _ _ _ _ | exact at9_c3 _ | exact at9_fl _ | exact h9 _ my | exact h9 | (simp only [Cr.at9, Cr.at9s, List.map_cons, List.map_nil, at9_int, at9_intt, at9_lkT, at9_lkTt, at9_lkX, at9_lkS, at9_tog, at9_cT, at9_sT, Bool.and_true, Bool.and_self]; done) | fail) ?_ | refine Br.no h9 ?_ | refine go_rNum rfl ?_ | refine go_rTupOf rfl ?_ ?_ | refine go_rAre rfl ?_ rfl ?_ | refine go_rLk rfl ?_ ?_ | refine go_rCan rfl ?_ ?_ | refine go_rRow rfl ?_ ?_ | refine Br.yes hl0 ?_ | refine Br.no hl0 ?_ | refine Br.yes qC ?_ | refine Br.no qC ?_ | refine Br.yes qE ?_ | refine Br.no qE ?_ | refine Br.yes qx ?_ | refine Br.no qx ?_ | refine Br.yes qy ?_ | refine Br.no qy ?_ | refine Br.yes qS ?_ | refine Br.no qS ?_ | refine Br.yes h9s ?_ | refine Br.no h9s ?_ | fail)
          · refine go_odd rfl (Nat.le_of_ble_eq_true rfl) hb1 (by omega) (fun e d1 hm hb => ?_)
            repeat ((conv => whnf); first | (with_reducible refine And.intro ?_ ?_; rotate_left) | with_reducible refine Exists.intro _ (And.intro rfl ?_) | rw [hA] | rw [hBd] | rw [hCd] | rw [hDd] | rw [hat] | rw [hix] | rw [hl0] | rw [e0] | rw [e1] | rw [e2] | refine Br.yes rfl ?_ | refine Br.no rfl ?_ | refine Br.yes (by first | rfl | exact at9_cT _ | exact at9_sT _ | exact at9_intt _ | exact at9_int _ | exact at9_lkTt _ | exact at9_lkT _ | exact at9_lkX _ | exact at9_lkS _ _ _ | exact at9_tog _ _ _ _ | exact at9_c3 _ | exact at9_fl _ | exact h9 _ my | exact h9 | (simp only [Cr.at9, Cr.at9s, List.map_cons, List.map_nil, at9_int, at9_intt, at9_lkT, at9_lkTt, at9_lkX, at9_lkS, at9_tog, at9_cT, at9_sT, Bool.and_true, Bool.and_self]; done) | fail) ?_ | refine Br.no h9 ?_ | refine go_rNum rfl ?_ | refine go_rTupOf rfl ?_ ?_ | refine go_rAre rfl ?_ rfl ?_ | refine go_rLk rfl ?_ ?_ | refine go_rCan rfl ?_ ?_ | refine go_rRow rfl ?_ ?_ | refine Br.yes hl0 ?_ | refine Br.no hl0 ?_ | refine Br.yes qC ?_ | refine Br.no qC ?_ | refine Br.yes qE ?_ | refine Br.no qE ?_ | refine Br.yes qx ?_ | refine Br.no qx ?_ | refine Br.yes qy ?_ | refine Br.no qy ?_ | refine Br.yes qS ?_ | refine Br.no qS ?_ | refine Br.yes h9s ?_ | refine Br.no h9s ?_ | fail)
            · exact ⟨_, _, rfl, okM_le (Nat.le_of_ble_eq_true rfl), bx_mono hb (by omega), (odd_nc e hm).mono (by omega) (by omega) (by omega) (by omega)⟩
            all_goals first | (with_reducible exact rfl) | assumption | exact trivial | exact Nat.le_of_ble_eq_true rfl | exact okM_le (Nat.le_of_ble_eq_true rfl) | exact ⟨rfl, rfl⟩ | exact fits_of (Nat.le_of_ble_eq_true rfl) | exact fun d hd => by (obtain ⟨_, _, rfl⟩ := List.mem_map.mp hd; exact trivial) | (refine fits_of ?_; simp; omega) | exact ⟨Nat.le_of_ble_eq_true rfl, Nat.le_of_ble_eq_true rfl⟩ | exact ⟨by decide, by decide⟩ | (dsimp only; exact ⟨by decide, by decide⟩) | (refine fits_of ?_; simp only [hA, hBd, hCd, hDd, List.length_take, List.length_drop, List.length_append]; omega) | omega | exact rfl
          all_goals first | (with_reducible exact rfl) | assumption | exact trivial | exact Nat.le_of_ble_eq_true rfl | exact okM_le (Nat.le_of_ble_eq_true rfl) | exact ⟨rfl, rfl⟩ | exact fits_of (Nat.le_of_ble_eq_true rfl) | exact fun d hd => by (obtain ⟨_, _, rfl⟩ := List.mem_map.mp hd; exact trivial) | (refine fits_of ?_; simp; omega) | exact ⟨Nat.le_of_ble_eq_true rfl, Nat.le_of_ble_eq_true rfl⟩ | exact ⟨by decide, by decide⟩ | (dsimp only; exact ⟨by decide, by decide⟩) | (refine fits_of ?_; simp only [hA, hBd, hCd, hDd, List.length_take, List.length_drop, List.length_append]; omega) | omega | exact rfl
      all_goals first | (with_reducible exact rfl) | assumption | exact trivial | exact Nat.le_of_ble_eq_true rfl | exact okM_le (Nat.le_of_ble_eq_true rfl) | exact ⟨rfl, rfl⟩ | exact fits_of (Nat.le_of_ble_eq_true rfl) | exact fun d hd => by (obtain ⟨_, _, rfl⟩ := List.mem_map.mp hd; exact trivial) | (refine fits_of ?_; simp; omega) | exact ⟨Nat.le_of_ble_eq_true rfl, Nat.le_of_ble_eq_true rfl⟩ | exact ⟨by decide, by decide⟩ | (dsimp only; exact ⟨by decide, by decide⟩) | (refine fits_of ?_; simp only [hA, hBd, hCd, hDd, List.length_take, List.length_drop, List.length_append]; omega) | omega | exact rfl
    | fl xs => have := hnc.g; unfold gd at this; exact this.elim
    | tup xs =>
      obtain ⟨hx, hlen, hbk⟩ := Nc.of_seq (.inr rfl) hnc
      cases hl0 : decide ((0 : Int) < (xs.length : Int)) with
      | false =>
        repeat ((conv => whnf); first | (with_reducible refine And.intro ?_ ?_; rotate_left) | with_reducible refine Exists.intro _ (And.intro rfl ?_) | rw [hA] | rw [hBd] | rw [hCd] | rw [hDd] | rw [hat] | rw [hix] | rw [hl0] | rw [e0] | rw [e1] | rw [e2] | refine Br.yes rfl ?_ | refine Br.no rfl ?_ | refine Br.yes (by first | rfl | exact at9_cT _ | exact at9_sT _ | exact at9_intt _ | exact at9_int _ | exact at9_lkTt _ | exact at9_lkT _ | exact at9_lkX _ | exact at9_lkS _ _ _ | exact at9_tog _ _ _ _ | exact at9_c3 _ | exact at9_fl _ | exact h9 _ my | exact h9 | (simp only [Cr.at9, Cr.at9s, List.map_cons, List.map_nil, at9_int, at9_intt, at9_lkT, at9_lkTt, at9_lkX, at9_lkS, at9_tog, at9_cT, at9_sT, Bool.and_true, Bool.and_self]; done) | fail) ?_ | refine Br.no h9 ?_ | refine go_rNum rfl ?_ | refine go_rTupOf rfl ?_ ?_ | refine go_rAre rfl ?_ rfl ?_ | refine go_rLk rfl ?_ ?_ | refine go_rCan rfl ?_ ?_ | refine go_rRow rfl ?_ ?_ | refine Br.yes hl0 ?_ | refine Br.no hl0 ?_ | refine Br.yes qC ?_ | refine Br.no qC ?_ | refine Br.yes qE ?_ | refine Br.no qE ?_ | refine Br.yes qx ?_ | refine Br.no qx ?_ | refine Br.yes qy ?_ | refine Br.no qy ?_ | refine Br.yes qS ?_ | refine Br.no qS ?_ | refine Br.yes h9s ?_ | refine Br.no h9s ?_ | fail)
        · refine go_odd rfl (Nat.le_of_ble_eq_true rfl) hb0 (by omega) (fun e d1 hm hb => ?_)
          repeat ((conv => whnf); first | (with_reducible refine And.intro ?_ ?_; rotate_left) | with_reducible refine Exists.intro _ (And.intro rfl ?_) | rw [hA] | rw [hBd] | rw [hCd] | rw [hDd] | rw [hat] | rw [hix] | rw [hl0] | rw [e0] | rw [e1] | rw [e2] | refine Br.yes rfl ?_ | refine Br.no rfl ?_ | refine Br.yes (by first | rfl | exact at9_cT _ | exact at9_sT _ | exact at9_intt _ | exact at9_int _ | exact at9_lkTt _ | exact at9_lkT _ | exact at9_lkX _ | exact at9_lkS _ _ _ | exact at9_tog _ _ _ _ | exact at9_c3 _ | exact at9_fl _ | exact h9 _ my | exact h9 | (simp only [Cr.at9, Cr.at9s, List.map_cons, List.map_nil, at9_int, at9_intt, at9_lkT, at9_lkTt, at9_lkX, at9_lkS, at9_tog, at9_cT, at9_sT, Bool.and_true, Bool.and_self]; done) | fail) ?_ | refine Br.no h9 ?_ | refine go_rNum rfl ?_ | refine go_rTupOf rfl ?_ ?_ | refine go_rAre rfl ?_ rfl ?_ | refine go_rLk rfl ?_ ?_ | refine go_rCan rfl ?_ ?_ | refine go_rRow rfl ?_ ?_ | refine Br.yes hl0 ?_ | refine Br.no hl0 ?_ | refine Br.yes qC ?_ | refine Br.no qC ?_ | refine Br.yes qE ?_ | refine Br.no qE ?_ | refine Br.yes qx ?_ | refine Br.no qx ?_ | refine Br.yes qy ?_ | refine Br.no qy ?_ | refine Br.yes qS ?_ | refine Br.no qS ?_ | refine Br.yes h9s ?_ | refine Br.no h9s ?_ | fail)
          · exact ⟨_, _, rfl, okM_le (Nat.le_of_ble_eq_true rfl), bx_mono hb (by omega), (odd_nc e hm).mono (by omega) (by omega) (by omega) (by omega)⟩
          all_goals first | (with_reducible exact rfl) | assumption | exact trivial | exact Nat.le_of_ble_eq_true rfl | exact okM_le (Nat.le_of_ble_eq_true rfl) | exact ⟨rfl, rfl⟩ | exact fits_of (Nat.le_of_ble_eq_true rfl) | exact fun d hd => by (obtain ⟨_, _, rfl⟩ := List.mem_map.mp hd; exact trivial) | (refine fits_of ?_; simp; omega) | exact ⟨Nat.le_of_ble_eq_true rfl, Nat.le_of_ble_eq_true rfl⟩ | exact ⟨by decide, by decide⟩ | (dsimp only; exact ⟨by decide, by decide⟩) | (refine fits_of ?_; simp only [hA, hBd, hCd, hDd, List.length_take, List.length_drop, List.length_append]; omega) | omega | exact rfl
        all_goals first | (with_reducible exact rfl) | assumption | exact trivial | exact Nat.le_of_ble_eq_true rfl | exact okM_le (Nat.le_of_ble_eq_true rfl) | exact ⟨rfl, rfl⟩ | exact fits_of (Nat.le_of_ble_eq_true rfl) | exact fun d hd => by (obtain ⟨_, _, rfl⟩ := List.mem_map.mp hd; exact trivial) | (refine fits_of ?_; simp; omega) | exact ⟨Nat.le_of_ble_eq_true rfl, Nat.le_of_ble_eq_true rfl⟩ | exact ⟨by decide, by decide⟩ | (dsimp only; exact ⟨by decide, by decide⟩) | (refine fits_of ?_; simp only [hA, hBd, hCd, hDd, List.length_take, List.length_drop, List.length_append]; omega) | omega | exact rfl
      | true =>
        have hl1 : 0 < xs.length := by have := of_decide_eq_true hl0; omega
        have hh1 : 1 ≤ h := by
          cases hxx : xs with
          | nil => rw [hxx] at hl1; cases hl1
          | cons a r => have := (hx a (by rw [hxx]; simp)).2; omega
        repeat ((conv => whnf); first | (with_reducible refine And.intro ?_ ?_; rotate_left) | with_reducible refine Exists.intro _ (And.intro rfl ?_) | rw [hA] | rw [hBd] | rw [hCd] | rw [hDd] | rw [hat] | rw [hix] | rw [hl0] | rw [e0] | rw [e1] | rw [e2] | refine Br.yes rfl ?_ | refine Br.no rfl ?_ | refine Br.yes (by first | rfl | exact at9_cT _ | exact at9_sT _ | exact at9_intt _ | exact at9_int _ | exact at9_lkTt _ | exact at9_lkT _ | exact at9_lkX _ | exact at9_lkS _ _ _ | exact at9_tog _ _ _ _ | exact at9_c3 _ | exact at9_fl _ | exact h9 _ my | exact h9 | (simp only [Cr.at9, Cr.at9s, List.map_cons, List.map_nil, at9_int, at9_intt, at9_lkT, at9_lkTt, at9_lkX, at9_lkS, at9_tog, at9_cT, at9_sT, Bool.and_true, Bool.and_self]; done) | fail) ?_ | refine Br.no h9 ?_ | refine go_rNum rfl ?_ | refine go_rTupOf rfl ?_ ?_ | refine go_rAre rfl ?_ rfl ?_ | refine go_rLk rfl ?_ ?_ | refine go_rCan rfl ?_ ?_ | refine go_rRow rfl ?_ ?_ | refine Br.yes hl0 ?_ | refine Br.no hl0 ?_ | refine Br.yes qC ?_ | refine Br.no qC ?_ | refine Br.yes qE ?_ | refine Br.no qE ?_ | refine Br.yes qx ?_ | refine Br.no qx ?_ | refine Br.yes qy ?_ | refine Br.no qy ?_ | refine Br.yes qS ?_ | refine Br.no qS ?_ | refine Br.yes h9s ?_ | refine Br.no h9s ?_ | fail)
        · refine go_take rfl rfl (Nat.le_of_ble_eq_true rfl) hb0 (by omega) (by omega) (by omega) (fun j1 d1 hj1 hj1b hb1 => ?_)
          conv => whnf
          refine Br.mk (fun q => ?_) (fun q => ?_)
          · repeat ((conv => whnf); first | (with_reducible refine And.intro ?_ ?_; rotate_left) | with_reducible refine Exists.intro _ (And.intro rfl ?_) | rw [hA] | rw [hBd] | rw [hCd] | rw [hDd] | rw [hat] | rw [hix] | rw [hl0] | rw [e0] | rw [e1] | rw [e2] | refine Br.yes rfl ?_ | refine Br.no rfl ?_ | refine Br.yes (by first | rfl | exact at9_cT _ | exact at9_sT _ | exact at9_intt _ | exact at9_int _ | exact at9_lkTt _ | exact at9_lkT _ | exact at9_lkX _ | exact at9_lkS _ _ _ | exact at9_tog _ _ _ _ | exact at9_c3 _ | exact at9_fl _ | exact h9 _ my | exact h9 | (simp only [Cr.at9, Cr.at9s, List.map_cons, List.map_nil, at9_int, at9_intt, at9_lkT, at9_lkTt, at9_lkX, at9_lkS, at9_tog, at9_cT, at9_sT, Bool.and_true, Bool.and_self]; done) | fail) ?_ | refine Br.no h9 ?_ | refine go_rNum rfl ?_ | refine go_rTupOf rfl ?_ ?_ | refine go_rAre rfl ?_ rfl ?_ | refine go_rLk rfl ?_ ?_ | refine go_rCan rfl ?_ ?_ | refine go_rRow rfl ?_ ?_ | refine Br.yes hl0 ?_ | refine Br.no hl0 ?_ | refine Br.yes qC ?_ | refine Br.no qC ?_ | refine Br.yes qE ?_ | refine Br.no qE ?_ | refine Br.yes qx ?_ | refine Br.no qx ?_ | refine Br.yes qy ?_ | refine Br.no qy ?_ | refine Br.yes qS ?_ | refine Br.no qS ?_ | refine Br.yes h9s ?_ | refine Br.no h9s ?_ | fail)
            · refine go_take rfl rfl (Nat.le_of_ble_eq_true rfl) hb1 (by omega) (by omega) (by omega) (fun j2 d2 hj2 hj2b hb2 => ?_)
              repeat ((conv => whnf); first | (with_reducible refine And.intro ?_ ?_; rotate_left) | with_reducible refine Exists.intro _ (And.intro rfl ?_) | rw [hA] | rw [hBd] | rw [hCd] | rw [hDd] | rw [hat] | rw [hix] | rw [hl0] | rw [e0] | rw [e1] | rw [e2] | refine Br.yes rfl ?_ | refine Br.no rfl ?_ | refine Br.yes (by first | rfl | exact at9_cT _ | exact at9_sT _ | exact at9_intt _ | exact at9_int _ | exact at9_lkTt _ | exact at9_lkT _ | exact at9_lkX _ | exact at9_lkS _ _ _ | exact at9_tog _ _ _ _ | exact at9_c3 _ | exact at9_fl _ | exact h9 _ my | exact h9 | (simp only [Cr.at9, Cr.at9s, List.map_cons, List.map_nil, at9_int, at9_intt, at9_lkT, at9_lkTt, at9_lkX, at9_lkS, at9_tog, at9_cT, at9_sT, Bool.and_true, Bool.and_self]; done) | fail) ?_ | refine Br.no h9 ?_ | refine go_rNum rfl ?_ | refine go_rTupOf rfl ?_ ?_ | refine go_rAre rfl ?_ rfl ?_ | refine go_rLk rfl ?_ ?_ | refine go_rCan rfl ?_ ?_ | refine go_rRow rfl ?_ ?_ | refine Br.yes hl0 ?_ | refine Br.no hl0 ?_ | refine Br.yes qC ?_ | refine Br.no qC ?_ | refine Br.yes qE ?_ | refine Br.no qE ?_ | refine Br.yes qx ?_ | refine Br.no qx ?_ | refine Br.yes qy ?_ | refine Br.no qy ?_ | refine Br.yes qS ?_ | refine Br.no qS ?_ | refine Br.yes h9s ?_ | refine Br.no h9s ?_ | fail)
              · refine go_take rfl rfl (Nat.le_of_ble_eq_true rfl) hb2 (by omega) (by omega) (by omega) (fun j3 d3 hj3 hj3b hb3 => ?_)
                obtain ⟨p, rfl⟩ : ∃ p : Nat, j2 = (p : Int) := ⟨j2.toNat, by omega⟩
                have hp : p < xs.length := by omega
                have hA : cutL xs none (some (p : Int)) = xs.take p := cutL_take xs p
                have hBd : cutL xs (some ((p : Int) + 1)) none = xs.drop (p + 1) := cutL_drop xs (p + 1)
                have hCd : cutL xs (some (p : Int)) (some ((p : Int) + 1)) = (xs.drop p).take 1 := by rw [show (p : Int) + 1 = ((p + 1 : Nat) : Int) from rfl, cutL_mid, Nat.add_sub_cancel_left]
                have hDd : cutL xs (some (p : Int)) none = xs.drop p := cutL_drop xs p
                have hsp := blks_split xs p
                have hat : atI xs (p : Int) = some xs[p] := by rw [Cr.atI_nat]; exact List.getElem?_eq_getElem hp
                have hix : ixN xs.length (p : Int) = some p := by rw [ixN_nat, if_pos hp]
                have hmem : xs[p] ∈ xs := List.getElem_mem hp
                cases e0 : deq (.int j3) (.int 0) with
                | true =>
                  have hN := Nc.seq (B := B' + 2) (L := L + 1) (h := h) (C := 2 * C + 200) (xs := xs.take p ++ xs.drop (p + 1)) (fun x m => by
                    have m2 : x ∈ xs := (List.mem_append.mp m).elim (fun m => List.mem_of_mem_take m) fun m => List.mem_of_mem_drop m
                    exact ⟨gd_mono (by omega) (by omega) x (hx x m2).1, by have := (hx x m2).2; omega⟩) (by rw [List.length_append, List.length_take, List.length_drop]; omega) (by
                    have := blks_split (xs.drop p) 1
                    rw [show (xs.drop p).drop 1 = xs.drop (p + 1) by rw [List.drop_drop]] at this
                    rw [blks_app]
                    omega)
                  cases qC : at9s (xs.take p ++ xs.drop (p + 1))
                  all_goals (
                    repeat ((conv => whnf); first | (with_reducible refine And.intro ?_ ?_; rotate_left) | with_reducible refine Exists.intro _ (And.intro rfl ?_) | rw [hA] | rw [hBd] | rw [hCd] | rw [hDd] | rw [hat] | rw [hix] | rw [hl0] | rw [e0] | rw [e1] | rw [e2] | refine Br.yes rfl ?_ | refine Br.no rfl ?_ | refine Br.yes (by first | rfl | exact at9_cT _ | exact at9_sT _ | exact at9_intt _ | exact at9_int _ | exact at9_lkTt _ | exact at9_lkT _ | exact at9_lkX _ | exact at9_lkS _ _ _ | exact at9_tog _ _ _ _ | exact at9_c3 _ | exact at9_fl _ | exact h9 _ my | exact h9 | (simp only [Cr.at9, Cr.at9s, List.map_cons, List.map_nil, at9_int, at9_intt, at9_lkT, at9_lkTt, at9_lkX, at9_lkS, at9_tog, at9_cT, at9_sT, Bool.and_true, Bool.and_self]; done) | fail) ?_ | refine Br.no h9 ?_ | refine go_rNum rfl ?_ | refine go_rTupOf rfl ?_ ?_ | refine go_rAre rfl ?_ rfl ?_ | refine go_rLk rfl ?_ ?_ | refine go_rCan rfl ?_ ?_ | refine go_rRow rfl ?_ ?_ | refine Br.yes hl0 ?_ | refine Br.no hl0 ?_ | refine Br.yes qC ?_ | refine Br.no qC ?_ | refine Br.yes qE ?_ | refine Br.no qE ?_ | refine Br.yes qx ?_ | refine Br.no qx ?_ | refine Br.yes qy ?_ | refine Br.no qy ?_ | refine Br.yes qS ?_ | refine Br.no qS ?_ | refine Br.yes h9s ?_ | refine Br.no h9s ?_ | fail)
                    · exact ⟨_, _, rfl, okM_le (Nat.le_of_ble_eq_true rfl), bx_mono hb3 (by omega), hN.2⟩
                    all_goals first | (with_reducible exact rfl) | assumption | exact trivial | exact Nat.le_of_ble_eq_true rfl | exact okM_le (Nat.le_of_ble_eq_true rfl) | exact ⟨rfl, rfl⟩ | exact fits_of (Nat.le_of_ble_eq_true rfl) | exact fun d hd => by (obtain ⟨_, _, rfl⟩ := List.mem_map.mp hd; exact trivial) | (refine fits_of ?_; simp; omega) | exact ⟨Nat.le_of_ble_eq_true rfl, Nat.le_of_ble_eq_true rfl⟩ | exact ⟨by decide, by decide⟩ | (dsimp only; exact ⟨by decide, by decide⟩) | (refine fits_of ?_; simp only [hA, hBd, hCd, hDd, List.length_take, List.length_drop, List.length_append]; omega) | omega | exact rfl)
                | false =>
                  cases e1 : deq (.int j3) (.int 1) with
                  | true =>
                    have hN := Nc.seq (B := B' + 2) (L := L + 1) (h := h) (C := 2 * C + 200) (xs := xs.take p ++ (xs.drop p).take 1 ++ xs.drop p) (fun x m => by
                      have m2 : x ∈ xs := (List.mem_append.mp m).elim (fun m => (List.mem_append.mp m).elim (fun m => List.mem_of_mem_take m) fun m => List.mem_of_mem_drop (List.mem_of_mem_take m)) fun m => List.mem_of_mem_drop m
                      exact ⟨gd_mono (by omega) (by omega) x (hx x m2).1, by have := (hx x m2).2; omega⟩) (by rw [List.length_append, List.length_append, List.length_take, List.length_take, List.length_drop]; omega) (by
                      have := blks_split (xs.drop p) 1
                      rw [blks_app, blks_app]
                      omega)
                    cases qE : at9s (xs.take p ++ (xs.drop p).take 1 ++ xs.drop p)
                    all_goals (
                      repeat ((conv => whnf); first | (with_reducible refine And.intro ?_ ?_; rotate_left) | with_reducible refine Exists.intro _ (And.intro rfl ?_) | rw [hA] | rw [hBd] | rw [hCd] | rw [hDd] | rw [hat] | rw [hix] | rw [hl0] | rw [e0] | rw [e1] | rw [e2] | refine Br.yes rfl ?_ | refine Br.no rfl ?_ | refine Br.yes (by first | rfl | exact at9_cT _ | exact at9_sT _ | exact at9_intt _ | exact at9_int _ | exact at9_lkTt _ | exact at9_lkT _ | exact at9_lkX _ | exact at9_lkS _ _ _ | exact at9_tog _ _ _ _ | exact at9_c3 _ | exact at9_fl _ | exact h9 _ my | exact h9 | (simp only [Cr.at9, Cr.at9s, List.map_cons, List.map_nil, at9_int, at9_intt, at9_lkT, at9_lkTt, at9_lkX, at9_lkS, at9_tog, at9_cT, at9_sT, Bool.and_true, Bool.and_self]; done) | fail) ?_ | refine Br.no h9 ?_ | refine go_rNum rfl ?_ | refine go_rTupOf rfl ?_ ?_ | refine go_rAre rfl ?_ rfl ?_ | refine go_rLk rfl ?_ ?_ | refine go_rCan rfl ?_ ?_ | refine go_rRow rfl ?_ ?_ | refine Br.yes hl0 ?_ | refine Br.no hl0 ?_ | refine Br.yes qC ?_ | refine Br.no qC ?_ | refine Br.yes qE ?_ | refine Br.no qE ?_ | refine Br.yes qx ?_ | refine Br.no qx ?_ | refine Br.yes qy ?_ | refine Br.no qy ?_ | refine Br.yes qS ?_ | refine Br.no qS ?_ | refine Br.yes h9s ?_ | refine Br.no h9s ?_ | fail)
                      · exact ⟨_, _, rfl, okM_le (Nat.le_of_ble_eq_true rfl), bx_mono hb3 (by omega), hN.2⟩
                      all_goals first | (with_reducible exact rfl) | assumption | exact trivial | exact Nat.le_of_ble_eq_true rfl | exact okM_le (Nat.le_of_ble_eq_true rfl) | exact ⟨rfl, rfl⟩ | exact fits_of (Nat.le_of_ble_eq_true rfl) | exact fun d hd => by (obtain ⟨_, _, rfl⟩ := List.mem_map.mp hd; exact trivial) | (refine fits_of ?_; simp; omega) | exact ⟨Nat.le_of_ble_eq_true rfl, Nat.le_of_ble_eq_true rfl⟩ | exact ⟨by decide, by decide⟩ | (dsimp only; exact ⟨by decide, by decide⟩) | (refine fits_of ?_; simp only [hA, hBd, hCd, hDd, List.length_take, List.length_drop, List.length_append]; omega) | omega | exact rfl)
                  | false =>
                    cases e2 : deq (.int j3) (.int 2) with
                    | true =>
                      have hN := Nc.seq (B := B' + 2) (L := L + 1) (h := h) (C := 2 * C + 200) (xs := xs) (fun x m => ⟨gd_mono (by omega) (by omega) x (hx x m).1, by have := (hx x m).2; omega⟩) (by omega) (by omega)
                      repeat ((conv => whnf); first | (with_reducible refine And.intro ?_ ?_; rotate_left) | with_reducible refine Exists.intro _ (And.intro rfl ?_) | rw [hA] | rw [hBd] | rw [hCd] | rw [hDd] | rw [hat] | rw [hix] | rw [hl0] | rw [e0] | rw [e1] | rw [e2] | refine Br.yes rfl ?_ | refine Br.no rfl ?_ | refine Br.yes (by first | rfl | exact at9_cT _ | exact at9_sT _ | exact at9_intt _ | exact at9_int _ | exact at9_lkTt _ | exact at9_lkT _ | exact at9_lkX _ | exact at9_lkS _ _ _ | exact at9_tog _ _ _ _ | exact at9_c3 _ | exact at9_fl _ | exact h9 _ my | exact h9 | (simp only [Cr.at9, Cr.at9s, List.map_cons, List.map_nil, at9_int, at9_intt, at9_lkT, at9_lkTt, at9_lkX, at9_lkS, at9_tog, at9_cT, at9_sT, Bool.and_true, Bool.and_self]; done) | fail) ?_ | refine Br.no h9 ?_ | refine go_rNum rfl ?_ | refine go_rTupOf rfl ?_ ?_ | refine go_rAre rfl ?_ rfl ?_ | refine go_rLk rfl ?_ ?_ | refine go_rCan rfl ?_ ?_ | refine go_rRow rfl ?_ ?_ | refine Br.yes hl0 ?_ | refine Br.no hl0 ?_ | refine Br.yes qC ?_ | refine Br.no qC ?_ | refine Br.yes qE ?_ | refine Br.no qE ?_ | refine Br.yes qx ?_ | refine Br.no qx ?_ | refine Br.yes qy ?_ | refine Br.no qy ?_ | refine Br.yes qS ?_ | refine Br.no qS ?_ | refine Br.yes h9s ?_ | refine Br.no h9s ?_ | fail)
                      · exact ⟨_, _, rfl, okM_le (Nat.le_of_ble_eq_true rfl), bx_mono hb3 (by omega), hN.1⟩
                      all_goals first | (with_reducible exact rfl) | assumption | exact trivial | exact Nat.le_of_ble_eq_true rfl | exact okM_le (Nat.le_of_ble_eq_true rfl) | exact ⟨rfl, rfl⟩ | exact fits_of (Nat.le_of_ble_eq_true rfl) | exact fun d hd => by (obtain ⟨_, _, rfl⟩ := List.mem_map.mp hd; exact trivial) | (refine fits_of ?_; simp; omega) | exact ⟨Nat.le_of_ble_eq_true rfl, Nat.le_of_ble_eq_true rfl⟩ | exact ⟨by decide, by decide⟩ | (dsimp only; exact ⟨by decide, by decide⟩) | (refine fits_of ?_; simp only [hA, hBd, hCd, hDd, List.length_take, List.length_drop, List.length_append]; omega) | omega | exact rfl
                    | false =>
                      have hxm := hx _ hmem
                      have hbm := blks_mem hmem
                      have hncx : Nc B' L (h - 1) (blk xs[p]) xs[p] := ⟨hxm.1, by omega, Nat.le_refl _⟩
                      cases qx : at9 xs[p]
                      all_goals (
                        repeat ((conv => whnf); first | (with_reducible refine And.intro ?_ ?_; rotate_left) | with_reducible refine Exists.intro _ (And.intro rfl ?_) | rw [hA] | rw [hBd] | rw [hCd] | rw [hDd] | rw [hat] | rw [hix] | rw [hl0] | rw [e0] | rw [e1] | rw [e2] | refine Br.yes rfl ?_ | refine Br.no rfl ?_ | refine Br.yes (by first | rfl | exact at9_cT _ | exact at9_sT _ | exact at9_intt _ | exact at9_int _ | exact at9_lkTt _ | exact at9_lkT _ | exact at9_lkX _ | exact at9_lkS _ _ _ | exact at9_tog _ _ _ _ | exact at9_c3 _ | exact at9_fl _ | exact h9 _ my | exact h9 | (simp only [Cr.at9, Cr.at9s, List.map_cons, List.map_nil, at9_int, at9_intt, at9_lkT, at9_lkTt, at9_lkX, at9_lkS, at9_tog, at9_cT, at9_sT, Bool.and_true, Bool.and_self]; done) | fail) ?_ | refine Br.no h9 ?_ | refine go_rNum rfl ?_ | refine go_rTupOf rfl ?_ ?_ | refine go_rAre rfl ?_ rfl ?_ | refine go_rLk rfl ?_ ?_ | refine go_rCan rfl ?_ ?_ | refine go_rRow rfl ?_ ?_ | refine Br.yes hl0 ?_ | refine Br.no hl0 ?_ | refine Br.yes qC ?_ | refine Br.no qC ?_ | refine Br.yes qE ?_ | refine Br.no qE ?_ | refine Br.yes qx ?_ | refine Br.no qx ?_ | refine Br.yes qy ?_ | refine Br.no qy ?_ | refine Br.yes qS ?_ | refine Br.no qS ?_ | refine Br.yes h9s ?_ | refine Br.no h9s ?_ | fail)
                        · refine go_oth n rfl rfl (Nat.le_of_ble_eq_true rfl) hb3 (by omega) hncx (by omega) hB1 hB2 hL1 hL2 (by omega) ?_
                          conv => whnf
                          refine ⟨rfl, fun y d4 hNy hb4 => ?_⟩
                          have hN := Nc.seq (B := B' + 2) (L := L + 1) (h := h) (C := 2 * C + 200) (xs := xs.set p y) (fun x m => by
                            rcases mem_set m with m | rfl
                            · exact ⟨gd_mono (by omega) (by omega) x (hx x m).1, by have := (hx x m).2; omega⟩
                            · exact ⟨hNy.g, by have := hNy.dp; omega⟩) (by rw [List.length_set]; omega) (by
                            have := blks_set (y := y) (List.getElem?_eq_getElem hp)
                            have := hNy.bk
                            omega)
                          cases qy : at9 y <;> cases qS : at9s (xs.set p y)
                          all_goals (
                            repeat ((conv => whnf); first | (with_reducible refine And.intro ?_ ?_; rotate_left) | with_reducible refine Exists.intro _ (And.intro rfl ?_) | rw [hA] | rw [hBd] | rw [hCd] | rw [hDd] | rw [hat] | rw [hix] | rw [hl0] | rw [e0] | rw [e1] | rw [e2] | refine Br.yes rfl ?_ | refine Br.no rfl ?_ | refine Br.yes (by first | rfl | exact at9_cT _ | exact at9_sT _ | exact at9_intt _ | exact at9_int _ | exact at9_lkTt _ | exact at9_lkT _ | exact at9_lkX _ | exact at9_lkS _ _ _ | exact at9_tog _ _ _ _ | exact at9_c3 _ | exact at9_fl _ | exact h9 _ my | exact h9 | (simp only [Cr.at9, Cr.at9s, List.map_cons, List.map_nil, at9_int, at9_intt, at9_lkT, at9_lkTt, at9_lkX, at9_lkS, at9_tog, at9_cT, at9_sT, Bool.and_true, Bool.and_self]; done) | fail) ?_ | refine Br.no h9 ?_ | refine go_rNum rfl ?_ | refine go_rTupOf rfl ?_ ?_ | refine go_rAre rfl ?_ rfl ?_ | refine go_rLk rfl ?_ ?_ | refine go_rCan rfl ?_ ?_ | refine go_rRow rfl ?_ ?_ | refine Br.yes hl0 ?_ | refine Br.no hl0 ?_ | refine Br.yes qC ?_ | refine Br.no qC ?_ | refine Br.yes qE ?_ | refine Br.no qE ?_ | refine Br.yes qx ?_ | refine Br.no qx ?_ | refine Br.yes qy ?_ | refine Br.no qy ?_ | refine Br.yes qS ?_ | refine Br.no qS ?_ | refine Br.yes h9s ?_ | refine Br.no h9s ?_ | fail)
                            · exact ⟨_, _, rfl, okM_le (Nat.le_of_ble_eq_true rfl), bx_mono hb4 (by omega), hN.2⟩
                            all_goals first | (with_reducible exact rfl) | assumption | exact trivial | exact Nat.le_of_ble_eq_true rfl | exact okM_le (Nat.le_of_ble_eq_true rfl) | exact ⟨rfl, rfl⟩ | exact fits_of (Nat.le_of_ble_eq_true rfl) | exact fun d hd => by (obtain ⟨_, _, rfl⟩ := List.mem_map.mp hd; exact trivial) | (refine fits_of ?_; simp; omega) | exact ⟨Nat.le_of_ble_eq_true rfl, Nat.le_of_ble_eq_true rfl⟩ | exact ⟨by decide, by decide⟩ | (dsimp only; exact ⟨by decide, by decide⟩) | (refine fits_of ?_; simp only [hA, hBd, hCd, hDd, List.length_take, List.length_drop, List.length_append]; omega) | omega | exact rfl)
                        all_goals first | (with_reducible exact rfl) | assumption | exact trivial | exact Nat.le_of_ble_eq_true rfl | exact okM_le (Nat.le_of_ble_eq_true rfl) | exact ⟨rfl, rfl⟩ | exact fits_of (Nat.le_of_ble_eq_true rfl) | exact fun d hd => by (obtain ⟨_, _, rfl⟩ := List.mem_map.mp hd; exact trivial) | (refine fits_of ?_; simp; omega) | exact ⟨Nat.le_of_ble_eq_true rfl, Nat.le_of_ble_eq_true rfl⟩ | exact ⟨by decide, by decide⟩ | (dsimp only; exact ⟨by decide, by decide⟩) | (refine fits_of ?_; simp only [hA, hBd, hCd, hDd, List.length_take, List.length_drop, List.length_append]; omega) | omega | exact rfl)
              all_goals first | (with_reducible exact rfl) | assumption | exact trivial | exact Nat.le_of_ble_eq_true rfl | exact okM_le (Nat.le_of_ble_eq_true rfl) | exact ⟨rfl, rfl⟩ | exact fits_of (Nat.le_of_ble_eq_true rfl) | exact fun d hd => by (obtain ⟨_, _, rfl⟩ := List.mem_map.mp hd; exact trivial) | (refine fits_of ?_; simp; omega) | exact ⟨Nat.le_of_ble_eq_true rfl, Nat.le_of_ble_eq_true rfl⟩ | exact ⟨by decide, by decide⟩ | (dsimp only; exact ⟨by decide, by decide⟩) | (refine fits_of ?_; simp only [hA, hBd, hCd, hDd, List.length_take, List.length_drop, List.length_append]; omega) | omega | exact rfl
            all_goals first | (with_reducible exact rfl) | assumption | exact trivial | exact Nat.le_of_ble_eq_true rfl | exact okM_le (Nat.le_of_ble_eq_true rfl) | exact ⟨rfl, rfl⟩ | exact fits_of (Nat.le_of_ble_eq_true rfl) | exact fun d hd => by (obtain ⟨_, _, rfl⟩ := List.mem_map.mp hd; exact trivial) | (refine fits_of ?_; simp; omega) | exact ⟨Nat.le_of_ble_eq_true rfl, Nat.le_of_ble_eq_true rfl⟩ | exact ⟨by decide, by decide⟩ | (dsimp only; exact ⟨by decide, by decide⟩) | (refine fits_of ?_; simp only [hA, hBd, hCd, hDd, List.length_take, List.length_drop, List.length_append]; omega) | omega | exact rfl
          · repeat ((conv => whnf); first | (with_reducible refine And.intro ?_ ?_; rotate_left) | with_reducible refine Exists.intro _ (And.intro rfl ?_) | rw [hA] | rw [hBd] | rw [hCd] | rw [hDd] | rw [hat] | rw [hix] | rw [hl0] | rw [e0] | rw [e1] | rw [e2] | refine Br.yes rfl ?_ | refine Br.no rfl ?_ | refine Br.yes (by first | rfl | exact at9_cT _ | exact at9_sT _ | exact at9_intt _ | exact at9_int _ | exact at9_lkTt _ | exact at9_lkT _ | exact at9_lkX _ | exact at9_lkS _ _ _ | exact at9_tog _ _ _ _ | exact at9_c3 _ | exact at9_fl _ | exact h9 _ my | exact h9 | (simp only [Cr.at9, Cr.at9s, List.map_cons, List.map_nil, at9_int, at9_intt, at9_lkT, at9_lkTt, at9_lkX, at9_lkS, at9_tog, at9_cT, at9_sT, Bool.and_true, Bool.and_self]; done) | fail) ?_ | refine Br.no h9 ?_ | refine go_rNum rfl ?_ | refine go_rTupOf rfl ?_ ?_ | refine go_rAre rfl ?_ rfl ?_ | refine go_rLk rfl ?_ ?_ | refine go_rCan rfl ?_ ?_ | refine go_rRow rfl ?_ ?_ | refine Br.yes hl0 ?_ | refine Br.no hl0 ?_ | refine Br.yes qC ?_ | refine Br.no qC ?_ | refine Br.yes qE ?_ | refine Br.no qE ?_ | refine Br.yes qx ?_ | refine Br.no qx ?_ | refine Br.yes qy ?_ | refine Br.no qy ?_ | refine Br.yes qS ?_ | refine Br.no qS ?_ | refine Br.yes h9s ?_ | refine Br.no h9s ?_ | fail)
            · refine go_odd rfl (Nat.le_of_ble_eq_true rfl) hb1 (by omega) (fun e d1 hm hb => ?_)
              repeat ((conv => whnf); first | (with_reducible refine And.intro ?_ ?_; rotate_left) | with_reducible refine Exists.intro _ (And.intro rfl ?_) | rw [hA] | rw [hBd] | rw [hCd] | rw [hDd] | rw [hat] | rw [hix] | rw [hl0] | rw [e0] | rw [e1] | rw [e2] | refine Br.yes rfl ?_ | refine Br.no rfl ?_ | refine Br.yes (by first | rfl | exact at9_cT _ | exact at9_sT _ | exact at9_intt _ | exact at9_int _ | exact at9_lkTt _ | exact at9_lkT _ | exact at9_lkX _ | exact at9_lkS _ _ _ | exact at9_tog _ _ _ _ | exact at9_c3 _ | exact at9_fl _ | exact h9 _ my | exact h9 | (simp only [Cr.at9, Cr.at9s, List.map_cons, List.map_nil, at9_int, at9_intt, at9_lkT, at9_lkTt, at9_lkX, at9_lkS, at9_tog, at9_cT, at9_sT, Bool.and_true, Bool.and_self]; done) | fail) ?_ | refine Br.no h9 ?_ | refine go_rNum rfl ?_ | refine go_rTupOf rfl ?_ ?_ | refine go_rAre rfl ?_ rfl ?_ | refine go_rLk rfl ?_ ?_ | refine go_rCan rfl ?_ ?_ | refine go_rRow rfl ?_ ?_ | refine Br.yes hl0 ?_ | refine Br.no hl0 ?_ | refine Br.yes qC ?_ | refine Br.no qC ?_ | refine Br.yes qE ?_ | refine Br.no qE ?_ | refine Br.yes qx ?_ | refine Br.no qx ?_ | refine Br.yes qy ?_ | refine Br.no qy ?_ | refine Br.yes qS ?_ | refine Br.no qS ?_ | refine Br.yes h9s ?_ | refine Br.no h9s ?_ | fail)
              · exact ⟨_, _, rfl, okM_le (Nat.le_of_ble_eq_true rfl), bx_mono hb (by omega), (odd_nc e hm).mono (by omega) (by omega) (by omega) (by omega)⟩
              all_goals first | (with_reducible exact rfl) | assumption | exact trivial | exact Nat.le_of_ble_eq_true rfl | exact okM_le (Nat.le_of_ble_eq_true rfl) | exact ⟨rfl, rfl⟩ | exact fits_of (Nat.le_of_ble_eq_true rfl) | exact fun d hd => by (obtain ⟨_, _, rfl⟩ := List.mem_map.mp hd; exact trivial) | (refine fits_of ?_; simp; omega) | exact ⟨Nat.le_of_ble_eq_true rfl, Nat.le_of_ble_eq_true rfl⟩ | exact ⟨by decide, by decide⟩ | (dsimp only; exact ⟨by decide, by decide⟩) | (refine fits_of ?_; simp only [hA, hBd, hCd, hDd, List.length_take, List.length_drop, List.length_append]; omega) | omega | exact rfl
            all_goals first | (with_reducible exact rfl) | assumption | exact trivial | exact Nat.le_of_ble_eq_true rfl | exact okM_le (Nat.le_of_ble_eq_true rfl) | exact ⟨rfl, rfl⟩ | exact fits_of (Nat.le_of_ble_eq_true rfl) | exact fun d hd => by (obtain ⟨_, _, rfl⟩ := List.mem_map.mp hd; exact trivial) | (refine fits_of ?_; simp; omega) | exact ⟨Nat.le_of_ble_eq_true rfl, Nat.le_of_ble_eq_true rfl⟩ | exact ⟨by decide, by decide⟩ | (dsimp only; exact ⟨by decide, by decide⟩) | (refine fits_of ?_; simp only [hA, hBd, hCd, hDd, List.length_take, List.length_drop, List.length_append]; omega) | omega | exact rfl
        all_goals first | (with_reducible exact rfl) | assumption | exact trivial | exact Nat.le_of_ble_eq_true rfl | exact okM_le (Nat.le_of_ble_eq_true rfl) | exact ⟨rfl, rfl⟩ | exact fits_of (Nat.le_of_ble_eq_true rfl) | exact fun d hd => by (obtain ⟨_, _, rfl⟩ := List.mem_map.mp hd; exact trivial) | (refine fits_of ?_; simp; omega) | exact ⟨Nat.le_of_ble_eq_true rfl, Nat.le_of_ble_eq_true rfl⟩ | exact ⟨by decide, by decide⟩ | (dsimp only; exact ⟨by decide, by decide⟩) | (refine fits_of ?_; simp only [hA, hBd, hCd, hDd, List.length_take, List.length_drop, List.length_append]; omega) | omega | exact rfl
    | lst xs =>
      obtain ⟨hx, hlen, hbk⟩ := Nc.of_seq (.inl rfl) hnc
      cases h9s : at9s xs
      all_goals (
        cases hl0 : decide ((0 : Int) < (xs.length : Int)) with
        | false =>
          repeat ((conv => whnf); first | (with_reducible refine And.intro ?_ ?_; rotate_left) | with_reducible refine Exists.intro _ (And.intro rfl ?_) | rw [hA] | rw [hBd] | rw [hCd] | rw [hDd] | rw [hat] | rw [hix] | rw [hl0] | rw [e0] | rw [e1] | rw [e2] | refine Br.yes rfl ?_ | refine Br.no rfl ?_ | refine Br.yes (by first | rfl | exact at9_cT _ | exact at9_sT _ | exact at9_intt _ | exact at9_int _ | exact at9_lkTt _ | exact at9_lkT _ | exact at9_lkX _ | exact at9_lkS _ _ _ | exact at9_tog _ _ _ _ | exact at9_c3 _ | exact at9_fl _ | exact h9 _ my | exact h9 | (simp only [Cr.at9, Cr.at9s, List.map_cons, List.map_nil, at9_int, at9_intt, at9_lkT, at9_lkTt, at9_lkX, at9_lkS, at9_tog, at9_cT, at9_sT, Bool.and_true, Bool.and_self]; done) | fail) ?_ | refine Br.no h9 ?_ | refine go_rNum rfl ?_ | refine go_rTupOf rfl ?_ ?_ | refine go_rAre rfl ?_ rfl ?_ | refine go_rLk rfl ?_ ?_ | refine go_rCan rfl ?_ ?_ | refine go_rRow rfl ?_ ?_ | refine Br.yes hl0 ?_ | refine Br.no hl0 ?_ | refine Br.yes qC ?_ | refine Br.no qC ?_ | refine Br.yes qE ?_ | refine Br.no qE ?_ | refine Br.yes qx ?_ | refine Br.no qx ?_ | refine Br.yes qy ?_ | refine Br.no qy ?_ | refine Br.yes qS ?_ | refine Br.no qS ?_ | refine Br.yes h9s ?_ | refine Br.no h9s ?_ | fail)
          · refine go_odd rfl (Nat.le_of_ble_eq_true rfl) hb0 (by omega) (fun e d1 hm hb => ?_)
            repeat ((conv => whnf); first | (with_reducible refine And.intro ?_ ?_; rotate_left) | with_reducible refine Exists.intro _ (And.intro rfl ?_) | rw [hA] | rw [hBd] | rw [hCd] | rw [hDd] | rw [hat] | rw [hix] | rw [hl0] | rw [e0] | rw [e1] | rw [e2] | refine Br.yes rfl ?_ | refine Br.no rfl ?_ | refine Br.yes (by first | rfl | exact at9_cT _ | exact at9_sT _ | exact at9_intt _ | exact at9_int _ | exact at9_lkTt _ | exact at9_lkT _ | exact at9_lkX _ | exact at9_lkS _ _ _ | exact at9_tog _ _ _ _ | exact at9_c3 _ | exact at9_fl _ | exact h9 _ my | exact h9 | (simp only [Cr.at9, Cr.at9s, List.map_cons, List.map_nil, at9_int, at9_intt, at9_lkT, at9_lkTt, at9_lkX, at9_lkS, at9_tog, at9_cT, at9_sT, Bool.and_true, Bool.and_self]; done) | fail) ?_ | refine Br.no h9 ?_ | refine go_rNum rfl ?_ | refine go_rTupOf rfl ?_ ?_ | refine go_rAre rfl ?_ rfl ?_ | refine go_rLk rfl ?_ ?_ | refine go_rCan rfl ?_ ?_ | refine go_rRow rfl ?_ ?_ | refine Br.yes hl0 ?_ | refine Br.no hl0 ?_ | refine Br.yes qC ?_ | refine Br.no qC ?_ | refine Br.yes qE ?_ | refine Br.no qE ?_ | refine Br.yes qx ?_ | refine Br.no qx ?_ | refine Br.yes qy ?_ | refine Br.no qy ?_ | refine Br.yes qS ?_ | refine Br.no qS ?_ | refine Br.yes h9s ?_ | refine Br.no h9s ?_ | fail)
            · exact ⟨_, _, rfl, okM_le (Nat.le_of_ble_eq_true rfl), bx_mono hb (by omega), (odd_nc e hm).mono (by omega) (by omega) (by omega) (by omega)⟩
            all_goals first | (with_reducible exact rfl) | assumption | exact trivial | exact Nat.le_of_ble_eq_true rfl | exact okM_le (Nat.le_of_ble_eq_true rfl) | exact ⟨rfl, rfl⟩ | exact fits_of (Nat.le_of_ble_eq_true rfl) | exact fun d hd => by (obtain ⟨_, _, rfl⟩ := List.mem_map.mp hd; exact trivial) | (refine fits_of ?_; simp; omega) | exact ⟨Nat.le_of_ble_eq_true rfl, Nat.le_of_ble_eq_true rfl⟩ | exact ⟨by decide, by decide⟩ | (dsimp only; exact ⟨by decide, by decide⟩) | (refine fits_of ?_; simp only [hA, hBd, hCd, hDd, List.length_take, List.length_drop, List.length_append]; omega) | omega | exact rfl
          all_goals first | (with_reducible exact rfl) | assumption | exact trivial | exact Nat.le_of_ble_eq_true rfl | exact okM_le (Nat.le_of_ble_eq_true rfl) | exact ⟨rfl, rfl⟩ | exact fits_of (Nat.le_of_ble_eq_true rfl) | exact fun d hd => by (obtain ⟨_, _, rfl⟩ := List.mem_map.mp hd; exact trivial) | (refine fits_of ?_; simp; omega) | exact ⟨Nat.le_of_ble_eq_true rfl, Nat.le_of_ble_eq_true rfl⟩ | exact ⟨by decide, by decide⟩ | (dsimp only; exact ⟨by decide, by decide⟩) | (refine fits_of ?_; simp only [hA, hBd, hCd, hDd, List.length_take, List.length_drop, List.length_append]; omega) | omega | exact rfl
        | true =>
          have hl1 : 0 < xs.length := by have := of_decide_eq_true hl0; omega
          have hh1 : 1 ≤ h := by
            cases hxx : xs with
            | nil => rw [hxx] at hl1; cases hl1
            | cons a r => have := (hx a (by rw [hxx]; simp)).2; omega
          repeat ((conv => whnf); first | (with_reducible refine And.intro ?_ ?_; rotate_left) | with_reducible refine Exists.intro _ (And.intro rfl ?_) | rw [hA] | rw [hBd] | rw [hCd] | rw [hDd] | rw [hat] | rw [hix] | rw [hl0] | rw [e0] | rw [e1] | rw [e2] | refine Br.yes rfl ?_ | refine Br.no rfl ?_ | refine Br.yes (by first | rfl | exact at9_cT _ | exact at9_sT _ | exact at9_intt _ | exact at9_int _ | exact at9_lkTt _ | exact at9_lkT _ | exact at9_lkX _ | exact at9_lkS _ _ _ | exact at9_tog _ _ _ _ | exact at9_c3 _ | exact at9_fl _ | exact h9 _ my | exact h9 | (simp only [Cr.at9, Cr.at9s, List.map_cons, List.map_nil, at9_int, at9_intt, at9_lkT, at9_lkTt, at9_lkX, at9_lkS, at9_tog, at9_cT, at9_sT, Bool.and_true, Bool.and_self]; done) | fail) ?_ | refine Br.no h9 ?_ | refine go_rNum rfl ?_ | refine go_rTupOf rfl ?_ ?_ | refine go_rAre rfl ?_ rfl ?_ | refine go_rLk rfl ?_ ?_ | refine go_rCan rfl ?_ ?_ | refine go_rRow rfl ?_ ?_ | refine Br.yes hl0 ?_ | refine Br.no hl0 ?_ | refine Br.yes qC ?_ | refine Br.no qC ?_ | refine Br.yes qE ?_ | refine Br.no qE ?_ | refine Br.yes qx ?_ | refine Br.no qx ?_ | refine Br.yes qy ?_ | refine Br.no qy ?_ | refine Br.yes qS ?_ | refine Br.no qS ?_ | refine Br.yes h9s ?_ | refine Br.no h9s ?_ | fail)
          · refine go_take rfl rfl (Nat.le_of_ble_eq_true rfl) hb0 (by omega) (by omega) (by omega) (fun j1 d1 hj1 hj1b hb1 => ?_)
            conv => whnf
            refine Br.mk (fun q => ?_) (fun q => ?_)
            · repeat ((conv => whnf); first | (with_reducible refine And.intro ?_ ?_; rotate_left) | with_reducible refine Exists.intro _ (And.intro rfl ?_) | rw [hA] | rw [hBd] | rw [hCd] | rw [hDd] | rw [hat] | rw [hix] | rw [hl0] | rw [e0] | rw [e1] | rw [e2] | refine Br.yes rfl ?_ | refine Br.no rfl ?_ | refine Br.yes (by first | rfl | exact at9_cT _ | exact at9_sT _ | exact at9_intt _ | exact at9_int _ | exact at9_lkTt _ | exact at9_lkT _ | exact at9_lkX _ | exact at9_lkS _ _ _ | exact at9_tog _ _ _ _ | exact at9_c3 _ | exact at9_fl _ | exact h9 _ my | exact h9 | (simp only [Cr.at9, Cr.at9s, List.map_cons, List.map_nil, at9_int, at9_intt, at9_lkT, at9_lkTt, at9_lkX, at9_lkS, at9_tog, at9_cT, at9_sT, Bool.and_true, Bool.and_self]; done) | fail) ?_ | refine Br.no h9 ?_ | refine go_rNum rfl ?_ | refine go_rTupOf rfl ?_ ?_ | refine go_rAre rfl ?_ rfl ?_ | refine go_rLk rfl ?_ ?_ | refine go_rCan rfl ?_ ?_ | refine go_rRow rfl ?_ ?_ | refine Br.yes hl0 ?_ | refine Br.no hl0 ?_ | refine Br.yes qC ?_ | refine Br.no qC ?_ | refine Br.yes qE ?_ | refine Br.no qE ?_ | refine Br.yes qx ?_ | refine Br.no qx ?_ | refine Br.yes qy ?_ | refine Br.no qy ?_ | refine Br.yes qS ?_ | refine Br.no qS ?_ | refine Br.yes h9s ?_ | refine Br.no h9s ?_ | fail)
              · refine go_take rfl rfl (Nat.le_of_ble_eq_true rfl) hb1 (by omega) (by omega) (by omega) (fun j2 d2 hj2 hj2b hb2 => ?_)
                repeat ((conv => whnf); first | (with_reducible refine And.intro ?_ ?_; rotate_left) | with_reducible refine Exists.intro _ (And.intro rfl ?_) | rw [hA] | rw [hBd] | rw [hCd] | rw [hDd] | rw [hat] | rw [hix] | rw [hl0] | rw [e0] | rw [e1] | rw [e2] | refine Br.yes rfl ?_ | refine Br.no rfl ?_ | refine Br.yes (by first | rfl | exact at9_cT _ | exact at9_sT _ | exact at9_intt _ | exact at9_int _ | exact at9_lkTt _ | exact at9_lkT _ | exact at9_lkX _ | exact at9_lkS _ _ _ | exact at9_tog _ _ _ _ | exact at9_c3 _ | exact at9_fl _ | exact h9 _ my | exact h9 | (simp only [Cr.at9, Cr.at9s, List.map_cons, List.map_nil, at9_int, at9_intt, at9_lkT, at9_lkTt, at9_lkX, at9_lkS, at9_tog, at9_cT, at9_sT, Bool.and_true, Bool.and_self]; done) | fail) ?_ | refine Br.no h9 ?_ | refine go_rNum rfl ?_ | refine go_rTupOf rfl ?_ ?_ | refine go_rAre rfl ?_ rfl ?_ | refine go_rLk rfl ?_ ?_ | refine go_rCan rfl ?_ ?_ | refine go_rRow rfl ?_ ?_ | refine Br.yes hl0 ?_ | refine Br.no hl0 ?_ | refine Br.yes qC ?_ | refine Br.no qC ?_ | refine Br.yes qE ?_ | refine Br.no qE ?_ | refine Br.yes qx ?_ | refine Br.no qx ?_ | refine Br.yes qy ?_ | refine Br.no qy ?_ | refine Br.yes qS ?_ | refine Br.no qS ?_ | refine Br.yes h9s ?_ | refine Br.no h9s ?_ | fail)
                · refine go_take rfl rfl (Nat.le_of_ble_eq_true rfl) hb2 (by omega) (by omega) (by omega) (fun j3 d3 hj3 hj3b hb3 => ?_)
                  obtain ⟨p, rfl⟩ : ∃ p : Nat, j2 = (p : Int) := ⟨j2.toNat, by omega⟩
                  have hp : p < xs.length := by omega
                  have hA : cutL xs none (some (p : Int)) = xs.take p := cutL_take xs p
                  have hBd : cutL xs (some ((p : Int) + 1)) none = xs.drop (p + 1) := cutL_drop xs (p + 1)
                  have hCd : cutL xs (some (p : Int)) (some ((p : Int) + 1)) = (xs.drop p).take 1 := by rw [show (p : Int) + 1 = ((p + 1 : Nat) : Int) from rfl, cutL_mid, Nat.add_sub_cancel_left]
                  have hDd : cutL xs (some (p : Int)) none = xs.drop p := cutL_drop xs p
                  have hsp := blks_split xs p
                  have hat : atI xs (p : Int) = some xs[p] := by rw [Cr.atI_nat]; exact List.getElem?_eq_getElem hp
                  have hix : ixN xs.length (p : Int) = some p := by rw [ixN_nat, if_pos hp]
                  have hmem : xs[p] ∈ xs := List.getElem_mem hp
                  cases e0 : deq (.int j3) (.int 0) with
                  | true =>
                    have hN := Nc.seq (B := B' + 2) (L := L + 1) (h := h) (C := 2 * C + 200) (xs := xs.take p ++ xs.drop (p + 1)) (fun x m => by
                      have m2 : x ∈ xs := (List.mem_append.mp m).elim (fun m => List.mem_of_mem_take m) fun m => List.mem_of_mem_drop m
                      exact ⟨gd_mono (by omega) (by omega) x (hx x m2).1, by have := (hx x m2).2; omega⟩) (by rw [List.length_append, List.length_take, List.length_drop]; omega) (by
                      have := blks_split (xs.drop p) 1
                      rw [show (xs.drop p).drop 1 = xs.drop (p + 1) by rw [List.drop_drop]] at this
                      rw [blks_app]
                      omega)
                    cases qC : at9s (xs.take p ++ xs.drop (p + 1))
                    all_goals (
                      repeat ((conv => whnf); first | (with_reducible refine And.intro ?_ ?_; rotate_left) | with_reducible refine Exists.intro _ (And.intro rfl ?_) | rw [hA] | rw [hBd] | rw [hCd] | rw [hDd] | rw [hat] | rw [hix] | rw [hl0] | rw [e0] | rw [e1] | rw [e2] | refine Br.yes rfl ?_ | refine Br.no rfl ?_ | refine Br.yes (by first | rfl | exact at9_cT _ | exact at9_sT _ | exact at9_intt _ | exact at9_int _ | exact at9_lkTt _ | exact at9_lkT _ | exact at9_lkX _ | exact at9_lkS _ _ _ | exact at9_tog _ _ _ _ | exact at9_c3 _ | exact at9_fl _ | exact h9 _ my | exact h9 | (simp only [Cr.at9, Cr.at9s, List.map_cons, List.map_nil, at9_int, at9_intt, at9_lkT, at9_lkTt, at9_lkX, at9_lkS, at9_tog, at9_cT, at9_sT, Bool.and_true, Bool.and_self]; done) | fail) ?_ | refine Br.no h9 ?_ | refine go_rNum rfl ?_ | refine go_rTupOf rfl ?_ ?_ | refine go_rAre rfl ?_ rfl ?_ | refine go_rLk rfl ?_ ?_ | refine go_rCan rfl ?_ ?_ | refine go_rRow rfl ?_ ?_ | refine Br.yes hl0 ?_ | refine Br.no hl0 ?_ | refine Br.yes qC ?_ | refine Br.no qC ?_ | refine Br.yes qE ?_ | refine Br.no qE ?_ | refine Br.yes qx ?_ | refine Br.no qx ?_ | refine Br.yes qy ?_ | refine Br.no qy ?_ | refine Br.yes qS ?_ | refine Br.no qS ?_ | refine Br.yes h9s ?_ | refine Br.no h9s ?_ | fail)
                      · exact ⟨_, _, rfl, okM_le (Nat.le_of_ble_eq_true rfl), bx_mono hb3 (by omega), hN.1⟩
                      all_goals first | (with_reducible exact rfl) | assumption | exact trivial | exact Nat.le_of_ble_eq_true rfl | exact okM_le (Nat.le_of_ble_eq_true rfl) | exact ⟨rfl, rfl⟩ | exact fits_of (Nat.le_of_ble_eq_true rfl) | exact fun d hd => by (obtain ⟨_, _, rfl⟩ := List.mem_map.mp hd; exact trivial) | (refine fits_of ?_; simp; omega) | exact ⟨Nat.le_of_ble_eq_true rfl, Nat.le_of_ble_eq_true rfl⟩ | exact ⟨by decide, by decide⟩ | (dsimp only; exact ⟨by decide, by decide⟩) | (refine fits_of ?_; simp only [hA, hBd, hCd, hDd, List.length_take, List.length_drop, List.length_append]; omega) | omega | exact rfl)
                  | false =>
                    cases e1 : deq (.int j3) (.int 1) with
                    | true =>
                      have hN := Nc.seq (B := B' + 2) (L := L + 1) (h := h) (C := 2 * C + 200) (xs := xs.take p ++ (xs.drop p).take 1 ++ xs.drop p) (fun x m => by
                        have m2 : x ∈ xs := (List.mem_append.mp m).elim (fun m => (List.mem_append.mp m).elim (fun m => List.mem_of_mem_take m) fun m => List.mem_of_mem_drop (List.mem_of_mem_take m)) fun m => List.mem_of_mem_drop m
                        exact ⟨gd_mono (by omega) (by omega) x (hx x m2).1, by have := (hx x m2).2; omega⟩) (by rw [List.length_append, List.length_append, List.length_take, List.length_take, List.length_drop]; omega) (by
                        have := blks_split (xs.drop p) 1
                        rw [blks_app, blks_app]
                        omega)
                      cases qE : at9s (xs.take p ++ (xs.drop p).take 1 ++ xs.drop p)
                      all_goals (
                        repeat ((conv => whnf); first | (with_reducible refine And.intro ?_ ?_; rotate_left) | with_reducible refine Exists.intro _ (And.intro rfl ?_) | rw [hA] | rw [hBd] | rw [hCd] | rw [hDd] | rw [hat] | rw [hix] | rw [hl0] | rw [e0] | rw [e1] | rw [e2] | refine Br.yes rfl ?_ | refine Br.no rfl ?_ | refine Br.yes (by first | rfl | exact at9_cT _ | exact at9_sT _ | exact at9_intt _ | exact at9_int _ | exact at9_lkTt _ | exact at9_lkT _ | exact at9_lkX _ | exact at9_lkS _ _ _ | exact at9_tog _ _ _ _ | exact at9_c3 _ | exact at9_fl _ | exact h9 _ my | exact h9 | (simp only [Cr.at9, Cr.at9s, List.map_cons, List.map_nil, at9_int, at9_intt, at9_lkT, at9_lkTt, at9_lkX, at9_lkS, at9_tog, at9_cT, at9_sT, Bool.and_true, Bool.and_self]; done) | fail) ?_ | refine Br.no h9 ?_ | refine go_rNum rfl ?_ | refine go_rTupOf rfl ?_ ?_ | refine go_rAre rfl ?_ rfl ?_ | refine go_rLk rfl ?_ ?_ | refine go_rCan rfl ?_ ?_ | refine go_rRow rfl ?_ ?_ | refine Br.yes hl0 ?_ | refine Br.no hl0 ?_ | refine Br.yes qC ?_ | refine Br.no qC ?_ | refine Br.yes qE ?_ | refine Br.no qE ?_ | refine Br.yes qx ?_ | refine Br.no qx ?_ | refine Br.yes qy ?_ | refine Br.no qy ?_ | refine Br.yes qS ?_ | refine Br.no qS ?_ | refine Br.yes h9s ?_ | refine Br.no h9s ?_ | fail)
                        · exact ⟨_, _, rfl, okM_le (Nat.le_of_ble_eq_true rfl), bx_mono hb3 (by omega), hN.1⟩
                        all_goals first | (with_reducible exact rfl) | assumption | exact trivial | exact Nat.le_of_ble_eq_true rfl | exact okM_le (Nat.le_of_ble_eq_true rfl) | exact ⟨rfl, rfl⟩ | exact fits_of (Nat.le_of_ble_eq_true rfl) | exact fun d hd => by (obtain ⟨_, _, rfl⟩ := List.mem_map.mp hd; exact trivial) | (refine fits_of ?_; simp; omega) | exact ⟨Nat.le_of_ble_eq_true rfl, Nat.le_of_ble_eq_true rfl⟩ | exact ⟨by decide, by decide⟩ | (dsimp only; exact ⟨by decide, by decide⟩) | (refine fits_of ?_; simp only [hA, hBd, hCd, hDd, List.length_take, List.length_drop, List.length_append]; omega) | omega | exact rfl)
                    | false =>
                      cases e2 : deq (.int j3) (.int 2) with
                      | true =>
                        have hN := Nc.seq (B := B' + 2) (L := L + 1) (h := h) (C := 2 * C + 200) (xs := xs) (fun x m => ⟨gd_mono (by omega) (by omega) x (hx x m).1, by have := (hx x m).2; omega⟩) (by omega) (by omega)
                        repeat ((conv => whnf); first | (with_reducible refine And.intro ?_ ?_; rotate_left) | with_reducible refine Exists.intro _ (And.intro rfl ?_) | rw [hA] | rw [hBd] | rw [hCd] | rw [hDd] | rw [hat] | rw [hix] | rw [hl0] | rw [e0] | rw [e1] | rw [e2] | refine Br.yes rfl ?_ | refine Br.no rfl ?_ | refine Br.yes (by first | rfl | exact at9_cT _ | exact at9_sT _ | exact at9_intt _ | exact at9_int _ | exact at9_lkTt _ | exact at9_lkT _ | exact at9_lkX _ | exact at9_lkS _ _ _ | exact at9_tog _ _ _ _ | exact at9_c3 _ | exact at9_fl _ | exact h9 _ my | exact h9 | (simp only [Cr.at9, Cr.at9s, List.map_cons, List.map_nil, at9_int, at9_intt, at9_lkT, at9_lkTt, at9_lkX, at9_lkS, at9_tog, at9_cT, at9_sT, Bool.and_true, Bool.and_self]; done) | fail) ?_ | refine Br.no h9 ?_ | refine go_rNum rfl ?_ | refine go_rTupOf rfl ?_ ?_ | refine go_rAre rfl ?_ rfl ?_ | refine go_rLk rfl ?_ ?_ | refine go_rCan rfl ?_ ?_ | refine go_rRow rfl ?_ ?_ | refine Br.yes hl0 ?_ | refine Br.no hl0 ?_ | refine Br.yes qC ?_ | refine Br.no qC ?_ | refine Br.yes qE ?_ | refine Br.no qE ?_ | refine Br.yes qx ?_ | refine Br.no qx ?_ | refine Br.yes qy ?_ | refine Br.no qy ?_ | refine Br.yes qS ?_ | refine Br.no qS ?_ | refine Br.yes h9s ?_ | refine Br.no h9s ?_ | fail)
                        · exact ⟨_, _, rfl, okM_le (Nat.le_of_ble_eq_true rfl), bx_mono hb3 (by omega), hN.2⟩
                        all_goals first | (with_reducible exact rfl) | assumption | exact trivial | exact Nat.le_of_ble_eq_true rfl | exact okM_le (Nat.le_of_ble_eq_true rfl) | exact ⟨rfl, rfl⟩ | exact fits_of (Nat.le_of_ble_eq_true rfl) | exact fun d hd => by (obtain ⟨_, _, rfl⟩ := List.mem_map.mp hd; exact trivial) | (refine fits_of ?_; simp; omega) | exact ⟨Nat.le_of_ble_eq_true rfl, Nat.le_of_ble_eq_true rfl⟩ | exact ⟨by decide, by decide⟩ | (dsimp only; exact ⟨by decide, by decide⟩) | (refine fits_of ?_; simp only [hA, hBd, hCd, hDd, List.length_take, List.length_drop, List.length_append]; omega) | omega | exact rfl
                      | false =>
                        have hxm := hx _ hmem
                        have hbm := blks_mem hmem
                        have hncx : Nc B' L (h - 1) (blk xs[p]) xs[p] := ⟨hxm.1, by omega, Nat.le_refl _⟩
                        cases qx : at9 xs[p]
                        all_goals (
                          repeat ((conv => whnf); first | (with_reducible refine And.intro ?_ ?_; rotate_left) | with_reducible refine Exists.intro _ (And.intro rfl ?_) | rw [hA] | rw [hBd] | rw [hCd] | rw [hDd] | rw [hat] | rw [hix] | rw [hl0] | rw [e0] | rw [e1] | rw [e2] | refine Br.yes rfl ?_ | refine Br.no rfl ?_ | refine Br.yes (by first | rfl | exact at9_cT _ | exact at9_sT _ | exact at9_intt _ | exact at9_int _ | exact at9_lkTt _ | exact at9_lkT _ | exact at9_lkX _ | exact at9_lkS _ _ _ | exact at9_tog _ _ _ _ | exact at9_c3 _ | exact at9_fl _ | exact h9 _ my | exact h9 | (simp only [Cr.at9, Cr.at9s, List.map_cons, List.map_nil, at9_int, at9_intt, at9_lkT, at9_lkTt, at9_lkX, at9_lkS, at9_tog, at9_cT, at9_sT, Bool.and_true, Bool.and_self]; done) | fail) ?_ | refine Br.no h9 ?_ | refine go_rNum rfl ?_ | refine go_rTupOf rfl ?_ ?_ | refine go_rAre rfl ?_ rfl ?_ | refine go_rLk rfl ?_ ?_ | refine go_rCan rfl ?_ ?_ | refine go_rRow rfl ?_ ?_ | refine Br.yes hl0 ?_ | refine Br.no hl0 ?_ | refine Br.yes qC ?_ | refine Br.no qC ?_ | refine Br.yes qE ?_ | refine Br.no qE ?_ | refine Br.yes qx ?_ | refine Br.no qx ?_ | refine Br.yes qy ?_ | refine Br.no qy ?_ | refine Br.yes qS ?_ | refine Br.no qS ?_ | refine Br.yes h9s ?_ | refine Br.no h9s ?_ | fail)
                          · refine go_oth n rfl rfl (Nat.le_of_ble_eq_true rfl) hb3 (by omega) hncx (by omega) hB1 hB2 hL1 hL2 (by omega) ?_
                            conv => whnf
                            refine ⟨rfl, fun y d4 hNy hb4 => ?_⟩
                            have hN := Nc.seq (B := B' + 2) (L := L + 1) (h := h) (C := 2 * C + 200) (xs := xs.set p y) (fun x m => by
                              rcases mem_set m with m | rfl
                              · exact ⟨gd_mono (by omega) (by omega) x (hx x m).1, by have := (hx x m).2; omega⟩
                              · exact ⟨hNy.g, by have := hNy.dp; omega⟩) (by rw [List.length_set]; omega) (by
                              have := blks_set (y := y) (List.getElem?_eq_getElem hp)
                              have := hNy.bk
                              omega)
                            cases qy : at9 y <;> cases qS : at9s (xs.set p y)
                            all_goals (
                              repeat ((conv => whnf); first | (with_reducible refine And.intro ?_ ?_; rotate_left) | with_reducible refine Exists.intro _ (And.intro rfl ?_) | rw [hA] | rw [hBd] | rw [hCd] | rw [hDd] | rw [hat] | rw [hix] | rw [hl0] | rw [e0] | rw [e1] | rw [e2] | refine Br.yes rfl ?_ | refine Br.no rfl ?_ | refine Br.yes (by first | rfl | exact at9_cT _ | exact at9_sT _ | exact at9_intt _ | exact at9_int _ | exact at9_lkTt _ | exact at9_lkT _ | exact at9_lkX _ | exact at9_lkS _ _ _ | exact at9_tog _ _ _ _ | exact at9_c3 _ | exact at9_fl _ | exact h9 _ my | exact h9 | (simp only [Cr.at9, Cr.at9s, List.map_cons, List.map_nil, at9_int, at9_intt, at9_lkT, at9_lkTt, at9_lkX, at9_lkS, at9_tog, at9_cT, at9_sT, Bool.and_true, Bool.and_self]; done) | fail) ?_ | refine Br.no h9 ?_ | refine go_rNum rfl ?_ | refine go_rTupOf rfl ?_ ?_ | refine go_rAre rfl ?_ rfl ?_ | refine go_rLk rfl ?_ ?_ | refine go_rCan rfl ?_ ?_ | refine go_rRow rfl ?_ ?_ | refine Br.yes hl0 ?_ | refine Br.no hl0 ?_ | refine Br.yes qC ?_ | refine Br.no qC ?_ | refine Br.yes qE ?_ | refine Br.no qE ?_ | refine Br.yes qx ?_ | refine Br.no qx ?_ | refine Br.yes qy ?_ | refine Br.no qy ?_ | refine Br.yes qS ?_ | refine Br.no qS ?_ | refine Br.yes h9s ?_ | refine Br.no h9s ?_ | fail)
                              · exact ⟨_, _, rfl, okM_le (Nat.le_of_ble_eq_true rfl), bx_mono hb4 (by omega), hN.1⟩
                              all_goals first | (with_reducible exact rfl) | assumption | exact trivial | exact Nat.le_of_ble_eq_true rfl | exact okM_le (Nat.le_of_ble_eq_true rfl) | exact ⟨rfl, rfl⟩ | exact fits_of (Nat.le_of_ble_eq_true rfl) | exact fun d hd => by (obtain ⟨_, _, rfl⟩ := List.mem_map.mp hd; exact trivial) | (refine fits_of ?_; simp; omega) | exact ⟨Nat.le_of_ble_eq_true rfl, Nat.le_of_ble_eq_true rfl⟩ | exact ⟨by decide, by decide⟩ | (dsimp only; exact ⟨by decide, by decide⟩) | (refine fits_of ?_; simp only [hA, hBd, hCd, hDd, List.length_take, List.length_drop, List.length_append]; omega) | omega | exact rfl)
                          all_goals first | (with_reducible exact rfl) | assumption | exact trivial | exact Nat.le_of_ble_eq_true rfl | exact okM_le (Nat.le_of_ble_eq_true rfl) | exact ⟨rfl, rfl⟩ | exact fits_of (Nat.le_of_ble_eq_true rfl) | exact fun d hd => by (obtain ⟨_, _, rfl⟩ := List.mem_map.mp hd; exact trivial) | (refine fits_of ?_; simp; omega) | exact ⟨Nat.le_of_ble_eq_true rfl, Nat.le_of_ble_eq_true rfl⟩ | exact ⟨by decide, by decide⟩ | (dsimp only; exact ⟨by decide, by decide⟩) | (refine fits_of ?_; simp only [hA, hBd, hCd, hDd, List.length_take, List.length_drop, List.length_append]; omega) | omega | exact rfl)
                all_goals first | (with_reducible exact rfl) | assumption | exact trivial | exact Nat.le_of_ble_eq_true rfl | exact okM_le (Nat.le_of_ble_eq_true rfl) | exact ⟨rfl, rfl⟩ | exact fits_of (Nat.le_of_ble_eq_true rfl) | exact fun d hd => by (obtain ⟨_, _, rfl⟩ := List.mem_map.mp hd; exact trivial) | (refine fits_of ?_; simp; omega) | exact ⟨Nat.le_of_ble_eq_true rfl, Nat.le_of_ble_eq_true rfl⟩ | exact ⟨by decide, by decide⟩ | (dsimp only; exact ⟨by decide, by decide⟩) | (refine fits_of ?_; simp only [hA, hBd, hCd, hDd, List.length_take, List.length_drop, List.length_append]; omega) | omega | exact rfl
              all_goals first | (with_reducible exact rfl) | assumption | exact trivial | exact Nat.le_of_ble_eq_true rfl | exact okM_le (Nat.le_of_ble_eq_true rfl) | exact ⟨rfl, rfl⟩ | exact fits_of (Nat.le_of_ble_eq_true rfl) | exact fun d hd => by (obtain ⟨_, _, rfl⟩ := List.mem_map.mp hd; exact trivial) | (refine fits_of ?_; simp; omega) | exact ⟨Nat.le_of_ble_eq_true rfl, Nat.le_of_ble_eq_true rfl⟩ | exact ⟨by decide, by decide⟩ | (dsimp only; exact ⟨by decide, by decide⟩) | (refine fits_of ?_; simp only [hA, hBd, hCd, hDd, List.length_take, List.length_drop, List.length_append]; omega) | omega | exact rfl
            · repeat ((conv => whnf); first | (with_reducible refine And.intro ?_ ?_; rotate_left) | with_reducible refine Exists.intro _ (And.intro rfl ?_) | rw [hA] | rw [hBd] | rw [hCd] | rw [hDd] | rw [hat] | rw [hix] | rw [hl0] | rw [e0] | rw [e1] | rw [e2] | refine Br.yes rfl ?_ | refine Br.no rfl ?_ | refine Br.yes (by first | rfl | exact at9_cT _ | exact at9_sT _ | exact at9_intt _ | exact at9_int _ | exact at9_lkTt _ | exact at9_lkT _ | exact at9_lkX _ | exact at9_lkS _ _ _ | exact at9_tog _ _ _ _ | exact at9_c3 _ | exact at9_fl _ | exact h9 _ my | exact h9 | (simp only [Cr.at9, Cr.at9s, List.map_cons, List.map_nil, at9_int, at9_intt, at9_lkT, at9_lkTt, at9_lkX, at9_lkS, at9_tog, at9_cT, at9_sT, Bool.and_true, Bool.and_self]; done) | fail) ?_ | refine Br.no h9 ?_ | refine go_rNum rfl ?_ | refine go_rTupOf rfl ?_ ?_ | refine go_rAre rfl ?_ rfl ?_ | refine go_rLk rfl ?_ ?_ | refine go_rCan rfl ?_ ?_ | refine go_rRow rfl ?_ ?_ | refine Br.yes hl0 ?_ | refine Br.no hl0 ?_ | refine Br.yes qC ?_ | refine Br.no qC ?_ | refine Br.yes qE ?_ | refine Br.no qE ?_ | refine Br.yes qx ?_ | refine Br.no qx ?_ | refine Br.yes qy ?_ | refine Br.no qy ?_ | refine Br.yes qS ?_ | refine Br.no qS ?_ | refine Br.yes h9s ?_ | refine Br.no h9s ?_ | fail)
              · refine go_odd rfl (Nat.le_of_ble_eq_true rfl) hb1 (by omega) (fun e d1 hm hb => ?_)
                repeat ((conv => whnf); first | (with_reducible refine And.intro ?_ ?_; rotate_left) | with_reducible refine Exists.intro _ (And.intro rfl ?_) | rw [hA] | rw [hBd] | rw [hCd] | rw [hDd] | rw [hat] | rw [hix] | rw [hl0] | rw [e0] | rw [e1] | rw [e2] | refine Br.yes rfl ?_ | refine Br.no rfl ?_ | refine Br.yes (by first | rfl | exact at9_cT _ | exact at9_sT _ | exact at9_intt _ | exact at9_int _ | exact at9_lkTt _ | exact at9_lkT _ | exact at9_lkX _ | exact at9_lkS _ _ _ | exact at9_tog _ _ _ _ | exact at9_c3 _ | exact at9_fl _ | exact h9 _ my | exact h9 | (simp only [Cr.at9, Cr.at9s, List.map_cons, List.map_nil, at9_int, at9_intt, at9_lkT, at9_lkTt, at9_lkX, at9_lkS, at9_tog, at9_cT, at9_sT, Bool.and_true, Bool.and_self]; done) | fail) ?_ | refine Br.no h9 ?_ | refine go_rNum rfl ?_ | refine go_rTupOf rfl ?_ ?_ | refine go_rAre rfl ?_ rfl ?_ | refine go_rLk rfl ?_ ?_ | refine go_rCan rfl ?_ ?_ | refine go_rRow rfl ?_ ?_ | refine Br.yes hl0 ?_ | refine Br.no hl0 ?_ | refine Br.yes qC ?_ | refine Br.no qC ?_ | refine Br.yes qE ?_ | refine Br.no qE ?_ | refine Br.yes qx ?_ | refine Br.no qx ?_ | refine Br.yes qy ?_ | refine Br.no qy ?_ | refine Br.yes qS ?_ | refine Br.no qS ?_ | refine Br.yes h9s ?_ | refine Br.no h9s ?_ | fail)
                · exact ⟨_, _, rfl, okM_le (Nat.le_of_ble_eq_true rfl), bx_mono hb (by omega), (odd_nc e hm).mono (by omega) (by omega) (by omega) (by omega)⟩
                all_goals first | (with_reducible exact rfl) | assumption | exact trivial | exact Nat.le_of_ble_eq_true rfl | exact okM_le (Nat.le_of_ble_eq_true rfl) | exact ⟨rfl, rfl⟩ | exact fits_of (Nat.le_of_ble_eq_true rfl) | exact fun d hd => by (obtain ⟨_, _, rfl⟩ := List.mem_map.mp hd; exact trivial) | (refine fits_of ?_; simp; omega) | exact ⟨Nat.le_of_ble_eq_true rfl, Nat.le_of_ble_eq_true rfl⟩ | exact ⟨by decide, by decide⟩ | (dsimp only; exact ⟨by decide, by decide⟩) | (refine fits_of ?_; simp only [hA, hBd, hCd, hDd, List.length_take, List.length_drop, List.length_append]; omega) | omega | exact rfl
              all_goals first | (with_reducible exact rfl) | assumption | exact trivial | exact Nat.le_of_ble_eq_true rfl | exact okM_le (Nat.le_of_ble_eq_true rfl) | exact ⟨rfl, rfl⟩ | exact fits_of (Nat.le_of_ble_eq_true rfl) | exact fun d hd => by (obtain ⟨_, _, rfl⟩ := List.mem_map.mp hd; exact trivial) | (refine fits_of ?_; simp; omega) | exact ⟨Nat.le_of_ble_eq_true rfl, Nat.le_of_ble_eq_true rfl⟩ | exact ⟨by decide, by decide⟩ | (dsimp only; exact ⟨by decide, by decide⟩) | (refine fits_of ?_; simp only [hA, hBd, hCd, hDd, List.length_take, List.length_drop, List.length_append]; omega) | omega | exact rfl
          all_goals first | (with_reducible exact rfl) | assumption | exact trivial | exact Nat.le_of_ble_eq_true rfl | exact okM_le (Nat.le_of_ble_eq_true rfl) | exact ⟨rfl, rfl⟩ | exact fits_of (Nat.le_of_ble_eq_true rfl) | exact fun d hd => by (obtain ⟨_, _, rfl⟩ := List.mem_map.mp hd; exact trivial) | (refine fits_of ?_; simp; omega) | exact ⟨Nat.le_of_ble_eq_true rfl, Nat.le_of_ble_eq_true rfl⟩ | exact ⟨by decide, by decide⟩ | (dsimp only; exact ⟨by decide, by decide⟩) | (refine fits_of ?_; simp only [hA, hBd, hCd, hDd, List.length_take, List.length_drop, List.length_append]; omega) | omega | exact rfl)
    | _ =>
      repeat ((conv => whnf); first | (with_reducible refine And.intro ?_ ?_; rotate_left) | with_reducible refine Exists.intro _ (And.intro rfl ?_) | rw [hA] | rw [hBd] | rw [hCd] | rw [hDd] | rw [hat] | rw [hix] | rw [hl0] | rw [e0] | rw [e1] | rw [e2] | refine Br.yes rfl ?_ | refine Br.no rfl ?_ | refine Br.yes (by first | rfl | exact at9_cT _ | exact at9_sT _ | exact at9_intt _ | exact at9_int _ | exact at9_lkTt _ | exact at9_lkT _ | exact at9_lkX _ | exact at9_lkS _ _ _ | exact at9_tog _ _ _ _ | exact at9_c3 _ | exact at9_fl _ | exact h9 _ my | exact h9 | (simp only [Cr.at9, Cr.at9s, List.map_cons, List.map_nil, at9_int, at9_intt, at9_lkT, at9_lkTt, at9_lkX, at9_lkS, at9_tog, at9_cT, at9_sT, Bool.and_true, Bool.and_self]; done) | fail) ?_ | refine Br.no h9 ?_ | refine go_rNum rfl ?_ | refine go_rTupOf rfl ?_ ?_ | refine go_rAre rfl ?_ rfl ?_ | refine go_rLk rfl ?_ ?_ | refine go_rCan rfl ?_ ?_ | refine go_rRow rfl ?_ ?_ | refine Br.yes hl0 ?_ | refine Br.no hl0 ?_ | refine Br.yes qC ?_ | refine Br.no qC ?_ | refine Br.yes qE ?_ | refine Br.no qE ?_ | refine Br.yes qx ?_ | refine Br.no qx ?_ | refine Br.yes qy ?_ | refine Br.no qy ?_ | refine Br.yes qS ?_ | refine Br.no qS ?_ | refine Br.yes h9s ?_ | refine Br.no h9s ?_ | fail)
      · refine go_odd rfl (Nat.le_of_ble_eq_true rfl) hb0 (by omega) (fun e d1 hm hb => ?_)
        repeat ((conv => whnf); first | (with_reducible refine And.intro ?_ ?_; rotate_left) | with_reducible refine Exists.intro _ (And.intro rfl ?_) | rw [hA] | rw [hBd] | rw [hCd] | rw [hDd] | rw [hat] | rw [hix] | rw [hl0] | rw [e0] | rw [e1] | rw [e2] | refine Br.yes rfl ?_ | refine Br.no rfl ?_ | refine Br.yes (by first | rfl | exact at9_cT _ | exact at9_sT _ | exact at9_intt _ | exact at9_int _ | exact at9_lkTt _ | exact at9_lkT _ | exact at9_lkX _ | exact at9_lkS _ _ _ | exact at9_tog _ _ _ _ | exact at9_c3 _ | exact at9_fl _ | exact h9 _ my | exact h9 | (simp only [Cr.at9, Cr.at9s, List.map_cons, List.map_nil, at9_int, at9_intt, at9_lkT, at9_lkTt, at9_lkX, at9_lkS, at9_tog, at9_cT, at9_sT, Bool.and_true, Bool.and_self]; done) | fail) ?_ | refine Br.no h9 ?_ | refine go_rNum rfl ?_ | refine go_rTupOf rfl ?_ ?_ | refine go_rAre rfl ?_ rfl ?_ | refine go_rLk rfl ?_ ?_ | refine go_rCan rfl ?_ ?_ | refine go_rRow rfl ?_ ?_ | refine Br.yes hl0 ?_ | refine Br.no hl0 ?_ | refine Br.yes qC ?_ | refine Br.no qC ?_ | refine Br.yes qE ?_ | refine Br.no qE ?_ | refine Br.yes qx ?_ | refine Br.no qx ?_ | refine Br.yes qy ?_ | refine Br.no qy ?_ | refine Br.yes qS ?_ | refine Br.no qS ?_ | refine Br.yes h9s ?_ | refine Br.no h9s ?_ | fail)
        · exact ⟨_, _, rfl, okM_le (Nat.le_of_ble_eq_true rfl), bx_mono hb (by omega), (odd_nc e hm).mono (by omega) (by omega) (by omega) (by omega)⟩
        all_goals first | (with_reducible exact rfl) | assumption | exact trivial | exact Nat.le_of_ble_eq_true rfl | exact okM_le (Nat.le_of_ble_eq_true rfl) | exact ⟨rfl, rfl⟩ | exact fits_of (Nat.le_of_ble_eq_true rfl) | exact fun d hd => by (obtain ⟨_, _, rfl⟩ := List.mem_map.mp hd; exact trivial) | (refine fits_of ?_; simp; omega) | exact ⟨Nat.le_of_ble_eq_true rfl, Nat.le_of_ble_eq_true rfl⟩ | exact ⟨by decide, by decide⟩ | (dsimp only; exact ⟨by decide, by decide⟩) | (refine fits_of ?_; simp only [hA, hBd, hCd, hDd, List.length_take, List.length_drop, List.length_append]; omega) | omega | exact rfl
      all_goals first | (with_reducible exact rfl) | assumption | exact trivial | exact Nat.le_of_ble_eq_true rfl | exact okM_le (Nat.le_of_ble_eq_true rfl) | exact ⟨rfl, rfl⟩ | exact fits_of (Nat.le_of_ble_eq_true rfl) | exact fun d hd => by (obtain ⟨_, _, rfl⟩ := List.mem_map.mp hd; exact trivial) | (refine fits_of ?_; simp; omega) | exact ⟨Nat.le_of_ble_eq_true rfl, Nat.le_of_ble_eq_true rfl⟩ | exact ⟨by decide, by decide⟩ | (dsimp only; exact ⟨by decide, by decide⟩) | (refine fits_of ?_; simp only [hA, hBd, hCd, hDd, List.length_take, List.length_drop, List.length_append]; omega) | omega | exact rfl)
abbrev s__law_same : Stmt := tp 17
abbrev N__law_same : List Str := ["_law_found", "_law_due_here", "_law_both", "_law_mine", "_law_yours"]
theorem sc__law_same : FnScope N__law_same ["_law_found", "_law_due_here"] (defScope s__law_same) := ⟨rfl, rfl, rfl, by decide +kernel, rfl, by decide +kernel, by decide +kernel⟩
abbrev scc__law_same_0 : Scope := { kind := .function, names := [(PySem.Str.ofString ".0", PySem.NameKind.local), (PySem.Str.ofString "_law_mine", PySem.NameKind.local), (PySem.Str.ofString "_law_yours", PySem.NameKind.local), (PySem.Str.ofString "_law_same", PySem.NameKind.globalImplicit)], isGenerator := false, isCoroutine := false, more := [] }
abbrev scr__law_same_0 : Scope := { kind := .function, names := [(PySem.Str.ofString ".0", PySem.NameKind.local), (PySem.Str.ofString "_law_mine", PySem.NameKind.local), (PySem.Str.ofString "_law_yours", PySem.NameKind.local), (PySem.Str.ofString "_law_same", PySem.NameKind.globalImplicit)], isGenerator := false, isCoroutine := false, more := [] }
theorem cl__law_same {P : Program} {w : World} {K : PySem.W.Frag} {mg : Str → Option Value} {base : Heap} (h__law_same : Known K mg "_law_same" s__law_same ["_law_found", "_law_due_here"]) (m_all : mg "all" = none) (m_bool : mg "bool" = none) (m_int : mg "int" = none) (m_isinstance : mg "isinstance" = none) (m_len : mg "len" = none) (m_list : mg "list" = none) (m_str : mg "str" = none) (m_tuple : mg "tuple" = none) (m_zip : mg "zip" = none) {n : Nat} (hn9 : n < 60) (c__law_same : Cl P w K mg base L2.CX0 n "_law_same" s__law_same ["_law_found", "_law_due_here"] (spB K 2 (rSame n))) : Cl P w K mg base L2.CX0 (n + 1) "_law_same" s__law_same ["_law_found", "_law_due_here"] (spB K 2 (rSame (n + 1))) := by
  obtain ⟨f, fd, F, hm, hb⟩ := h__law_same
  refine Cl.B F hm hb sc__law_same rfl fun cdv A outer s H E Sh ds k' Pd hr hl hR => ?_
  refine ⟨_, (vss_cons (vs_if (vt_truth (vi_isi2 .list .tuple rfl rfl m_isinstance m_list m_tuple (nv 1))) (vss_cons (vs_if (VW.vt (vw_or (vt_c (cr_ne hr.r.units) (vi_isi1 .list rfl m_isinstance m_list (nv 0)) (vi_isi1 .list rfl m_isinstance m_list (nv 1))) (vw_or1 (vt_c (cr_ne hr.r.units) (vi_isi1 .tuple rfl m_isinstance m_tuple (nv 0)) (vi_isi1 .tuple rfl m_isinstance m_tuple (nv 1)))))) (vss_one (vs_ret vi_bl)) vss_nil) (vss_cons (vs_set (i := 2) sc__law_same.nd rfl (by first | exact .inl rfl | exact .inr rfl) (by simp) (vi_lz rfl m_list m_zip (va_cons (nv 0) (va_cons (nv 1) va_nil)))) (vss_one (vs_ret (vi_and (vi_c (cr_eq hr.r.units) (vi_fb fb_len m_len (va_cons (nv 0) va_nil)) (vi_fb fb_len m_len (va_cons (nv 1) va_nil))) (vi_one (vi_fb (fb_all rfl) m_all (va_cons (vi_lc s (own := [("_law_mine", 3), ("_law_yours", 4)]) rfl sc__law_same.nd (vit_seq (nv 2)) (blkOk_by (N := N__law_same) (sc := (defScope s__law_same)) (scope := scc__law_same_0) (own := [("_law_mine", 3), ("_law_yours", 4)]) (by decide +kernel)) (by decide) (by simp) (fun _ _ _ _ _ => (vg_tup (n := 2) rfl (vgs_cons (vg_name (i := 3) sc__law_same.nd rfl (by first | exact .inl rfl | exact .inr rfl) (by simp)) (vgs_cons (vg_name (i := 4) sc__law_same.nd rfl (by first | exact .inl rfl | exact .inr rfl) (by simp)) vgs_nil)))) (fun _ _ _ _ _ => vts_nil) (fun _ _ _ _ _ => (vi_callB c__law_same (hr.less (by omega)) noE (va_cons (nv 3) (va_cons (nv 4) va_nil))))) va_nil)))))))) vss_nil) (vss_cons (vs_if (VW.vt (vw_or (vt_c (cr_isN) (nv 1) vi_non) (vw_or1 (vt_truth (vi_isi2 .bool .str rfl rfl m_isinstance m_bool m_str (nv 1)))))) (vss_one (vs_ret (vi_and (vi_c (cr_eq hr.r.units) (vi_isi1 .bool rfl m_isinstance m_bool (nv 0)) (vi_isi1 .bool rfl m_isinstance m_bool (nv 1))) (vi_and (vi_c (cr_eq hr.r.units) (vi_c (cr_isN) (nv 0) vi_non) (vi_c (cr_isN) (nv 1) vi_non)) (vi_one (vi_c (cr_eq hr.r.units) (nv 0) (nv 1))))))) vss_nil) (vss_one (vs_ret (vi_and (vi_isi1 .int rfl m_isinstance m_int (nv 0)) (vi_and (vi_not (vi_isi1 .bool rfl m_isinstance m_bool (nv 0))) (vi_one (vi_c (cr_eq hr.r.units) (nv 0) (nv 1))))))))), ?_⟩

  obtain ⟨d, rfl, hdep, hok, rfl, rfl⟩ := hR
  rw [show ent N__law_same.length [d, d] = [some (md d, d), some (md d, d), none, none, none] from rfl]
  cases d with
  | tup xs =>
    cases h9 : at9 (.tup xs) with
    | true =>
      rw [md_at h9]
      repeat ((conv => whnf); first | (with_reducible refine And.intro ?_ ?_; rotate_left) | with_reducible refine Exists.intro _ (And.intro rfl ?_) | rw [h9] | rw [deq_int] | rw [deq_bl] | rw [deq_str] | refine Br.yes rfl ?_ | refine Br.no rfl ?_ | refine Br.yes (by first | rfl | exact at9_cT _ | exact at9_sT _ | exact at9_intt _ | exact at9_int _ | exact at9_lkTt _ | exact at9_lkT _ | exact at9_lkX _ | exact at9_lkS _ _ _ | exact at9_tog _ _ _ _ | exact at9_c3 _ | exact at9_fl _ | exact h9 _ my | exact h9 | (simp only [Cr.at9, Cr.at9s, List.map_cons, List.map_nil, at9_int, at9_intt, at9_lkT, at9_lkTt, at9_lkX, at9_lkS, at9_tog, at9_cT, at9_sT, Bool.and_true, Bool.and_self]; done) | fail) ?_ | refine Br.no h9 ?_ | fail)
      · conv => whnf
        rw [zipD_self]
        refine lc_map (xs := xs) (enc := fun x => .tup [x, x]) (out := fun _ => .bl true) (by unfold okd at hok; omega) (fun x hx Y Z hY => ?_) ?_
        · repeat ((conv => whnf); first | (with_reducible refine And.intro ?_ ?_; rotate_left) | with_reducible refine Exists.intro _ (And.intro rfl ?_) | rw [h9] | rw [deq_int] | rw [deq_bl] | rw [deq_str] | refine Br.yes rfl ?_ | refine Br.no rfl ?_ | refine Br.yes (by first | rfl | exact at9_cT _ | exact at9_sT _ | exact at9_intt _ | exact at9_int _ | exact at9_lkTt _ | exact at9_lkT _ | exact at9_lkX _ | exact at9_lkS _ _ _ | exact at9_tog _ _ _ _ | exact at9_c3 _ | exact at9_fl _ | exact h9 _ my | exact h9 | (simp only [Cr.at9, Cr.at9s, List.map_cons, List.map_nil, at9_int, at9_intt, at9_lkT, at9_lkTt, at9_lkX, at9_lkS, at9_tog, at9_cT, at9_sT, Bool.and_true, Bool.and_self]; done) | fail) ?_ | refine Br.no h9 ?_ | fail)
          · refine ⟨[x, x], 9, _, rfl, rfl, ⟨x, rfl, ?_, okds_mem (by unfold okd at hok; exact hok.2) hx, rfl, rfl⟩, .inl ⟨fun d hd => by rw [hd]; rfl, fun d hd => ?_⟩⟩
            · have := deps_mem hx; unfold dep at hdep; omega
            · subst hd
              conv => whnf
              exact hY _ _ (by first | (simp [wipeE_set, wipeE_idem]; done) | (simp [wipeE]; done) | rfl) (Nat.le_refl _)
          all_goals first | exact trivial | exact fun d hd => by (obtain ⟨_, _, rfl⟩ := List.mem_map.mp hd; exact trivial) | exact rfl | exact Nat.le_of_ble_eq_true rfl | exact okM_le (by omega) | ((conv => whnf); exact rfl)
        · repeat ((conv => whnf); first | (with_reducible refine And.intro ?_ ?_; rotate_left) | with_reducible refine Exists.intro _ (And.intro rfl ?_) | rw [h9] | rw [deq_int] | rw [deq_bl] | rw [deq_str] | refine Br.yes rfl ?_ | refine Br.no rfl ?_ | refine Br.yes (by first | rfl | exact at9_cT _ | exact at9_sT _ | exact at9_intt _ | exact at9_int _ | exact at9_lkTt _ | exact at9_lkT _ | exact at9_lkX _ | exact at9_lkS _ _ _ | exact at9_tog _ _ _ _ | exact at9_c3 _ | exact at9_fl _ | exact h9 _ my | exact h9 | (simp only [Cr.at9, Cr.at9s, List.map_cons, List.map_nil, at9_int, at9_intt, at9_lkT, at9_lkTt, at9_lkX, at9_lkS, at9_tog, at9_cT, at9_sT, Bool.and_true, Bool.and_self]; done) | fail) ?_ | refine Br.no h9 ?_ | fail)
          · conv => whnf
            rw [all_bl]
          all_goals first | exact trivial | exact fun d hd => by (obtain ⟨_, _, rfl⟩ := List.mem_map.mp hd; exact trivial) | exact rfl | exact Nat.le_of_ble_eq_true rfl | exact okM_le (by omega) | ((conv => whnf); exact rfl)
      all_goals first | exact trivial | exact fun d hd => by (obtain ⟨_, _, rfl⟩ := List.mem_map.mp hd; exact trivial) | exact rfl | exact Nat.le_of_ble_eq_true rfl | exact okM_le (by omega) | ((conv => whnf); exact rfl)
    | false =>
      rw [md_no h9]
      repeat ((conv => whnf); first | (with_reducible refine And.intro ?_ ?_; rotate_left) | with_reducible refine Exists.intro _ (And.intro rfl ?_) | rw [h9] | rw [deq_int] | rw [deq_bl] | rw [deq_str] | refine Br.yes rfl ?_ | refine Br.no rfl ?_ | refine Br.yes (by first | rfl | exact at9_cT _ | exact at9_sT _ | exact at9_intt _ | exact at9_int _ | exact at9_lkTt _ | exact at9_lkT _ | exact at9_lkX _ | exact at9_lkS _ _ _ | exact at9_tog _ _ _ _ | exact at9_c3 _ | exact at9_fl _ | exact h9 _ my | exact h9 | (simp only [Cr.at9, Cr.at9s, List.map_cons, List.map_nil, at9_int, at9_intt, at9_lkT, at9_lkTt, at9_lkX, at9_lkS, at9_tog, at9_cT, at9_sT, Bool.and_true, Bool.and_self]; done) | fail) ?_ | refine Br.no h9 ?_ | fail)
      · conv => whnf
        rw [zipD_self]
        refine lc_map (xs := xs) (enc := fun x => .tup [x, x]) (out := fun _ => .bl true) (by unfold okd at hok; omega) (fun x hx Y Z hY => ?_) ?_
        · repeat ((conv => whnf); first | (with_reducible refine And.intro ?_ ?_; rotate_left) | with_reducible refine Exists.intro _ (And.intro rfl ?_) | rw [h9] | rw [deq_int] | rw [deq_bl] | rw [deq_str] | refine Br.yes rfl ?_ | refine Br.no rfl ?_ | refine Br.yes (by first | rfl | exact at9_cT _ | exact at9_sT _ | exact at9_intt _ | exact at9_int _ | exact at9_lkTt _ | exact at9_lkT _ | exact at9_lkX _ | exact at9_lkS _ _ _ | exact at9_tog _ _ _ _ | exact at9_c3 _ | exact at9_fl _ | exact h9 _ my | exact h9 | (simp only [Cr.at9, Cr.at9s, List.map_cons, List.map_nil, at9_int, at9_intt, at9_lkT, at9_lkTt, at9_lkX, at9_lkS, at9_tog, at9_cT, at9_sT, Bool.and_true, Bool.and_self]; done) | fail) ?_ | refine Br.no h9 ?_ | fail)
          · refine ⟨[x, x], 9, _, rfl, rfl, ⟨x, rfl, ?_, okds_mem (by unfold okd at hok; exact hok.2) hx, rfl, rfl⟩, .inl ⟨fun d hd => by rw [hd]; rfl, fun d hd => ?_⟩⟩
            · have := deps_mem hx; unfold dep at hdep; omega
            · subst hd
              conv => whnf
              exact hY _ _ (by first | (simp [wipeE_set, wipeE_idem]; done) | (simp [wipeE]; done) | rfl) (Nat.le_refl _)
          all_goals first | exact trivial | exact fun d hd => by (obtain ⟨_, _, rfl⟩ := List.mem_map.mp hd; exact trivial) | exact rfl | exact Nat.le_of_ble_eq_true rfl | exact okM_le (by omega) | ((conv => whnf); exact rfl)
        · repeat ((conv => whnf); first | (with_reducible refine And.intro ?_ ?_; rotate_left) | with_reducible refine Exists.intro _ (And.intro rfl ?_) | rw [h9] | rw [deq_int] | rw [deq_bl] | rw [deq_str] | refine Br.yes rfl ?_ | refine Br.no rfl ?_ | refine Br.yes (by first | rfl | exact at9_cT _ | exact at9_sT _ | exact at9_intt _ | exact at9_int _ | exact at9_lkTt _ | exact at9_lkT _ | exact at9_lkX _ | exact at9_lkS _ _ _ | exact at9_tog _ _ _ _ | exact at9_c3 _ | exact at9_fl _ | exact h9 _ my | exact h9 | (simp only [Cr.at9, Cr.at9s, List.map_cons, List.map_nil, at9_int, at9_intt, at9_lkT, at9_lkTt, at9_lkX, at9_lkS, at9_tog, at9_cT, at9_sT, Bool.and_true, Bool.and_self]; done) | fail) ?_ | refine Br.no h9 ?_ | fail)
          · conv => whnf
            rw [all_bl]
          all_goals first | exact trivial | exact fun d hd => by (obtain ⟨_, _, rfl⟩ := List.mem_map.mp hd; exact trivial) | exact rfl | exact Nat.le_of_ble_eq_true rfl | exact okM_le (by omega) | ((conv => whnf); exact rfl)
      all_goals first | exact trivial | exact fun d hd => by (obtain ⟨_, _, rfl⟩ := List.mem_map.mp hd; exact trivial) | exact rfl | exact Nat.le_of_ble_eq_true rfl | exact okM_le (by omega) | ((conv => whnf); exact rfl)
  | lst xs =>
    cases h9 : at9 (.lst xs) with
    | true => cases h9
    | false =>
      rw [md_no h9]
      repeat ((conv => whnf); first | (with_reducible refine And.intro ?_ ?_; rotate_left) | with_reducible refine Exists.intro _ (And.intro rfl ?_) | rw [h9] | rw [deq_int] | rw [deq_bl] | rw [deq_str] | refine Br.yes rfl ?_ | refine Br.no rfl ?_ | refine Br.yes (by first | rfl | exact at9_cT _ | exact at9_sT _ | exact at9_intt _ | exact at9_int _ | exact at9_lkTt _ | exact at9_lkT _ | exact at9_lkX _ | exact at9_lkS _ _ _ | exact at9_tog _ _ _ _ | exact at9_c3 _ | exact at9_fl _ | exact h9 _ my | exact h9 | (simp only [Cr.at9, Cr.at9s, List.map_cons, List.map_nil, at9_int, at9_intt, at9_lkT, at9_lkTt, at9_lkX, at9_lkS, at9_tog, at9_cT, at9_sT, Bool.and_true, Bool.and_self]; done) | fail) ?_ | refine Br.no h9 ?_ | fail)
      · conv => whnf
        rw [zipD_self]
        refine lc_map (xs := xs) (enc := fun x => .tup [x, x]) (out := fun _ => .bl true) (by unfold okd at hok; omega) (fun x hx Y Z hY => ?_) ?_
        · repeat ((conv => whnf); first | (with_reducible refine And.intro ?_ ?_; rotate_left) | with_reducible refine Exists.intro _ (And.intro rfl ?_) | rw [h9] | rw [deq_int] | rw [deq_bl] | rw [deq_str] | refine Br.yes rfl ?_ | refine Br.no rfl ?_ | refine Br.yes (by first | rfl | exact at9_cT _ | exact at9_sT _ | exact at9_intt _ | exact at9_int _ | exact at9_lkTt _ | exact at9_lkT _ | exact at9_lkX _ | exact at9_lkS _ _ _ | exact at9_tog _ _ _ _ | exact at9_c3 _ | exact at9_fl _ | exact h9 _ my | exact h9 | (simp only [Cr.at9, Cr.at9s, List.map_cons, List.map_nil, at9_int, at9_intt, at9_lkT, at9_lkTt, at9_lkX, at9_lkS, at9_tog, at9_cT, at9_sT, Bool.and_true, Bool.and_self]; done) | fail) ?_ | refine Br.no h9 ?_ | fail)
          · refine ⟨[x, x], 9, _, rfl, rfl, ⟨x, rfl, ?_, okds_mem (by unfold okd at hok; exact hok.2) hx, rfl, rfl⟩, .inl ⟨fun d hd => by rw [hd]; rfl, fun d hd => ?_⟩⟩
            · have := deps_mem hx; unfold dep at hdep; omega
            · subst hd
              conv => whnf
              exact hY _ _ (by first | (simp [wipeE_set, wipeE_idem]; done) | (simp [wipeE]; done) | rfl) (Nat.le_refl _)
          all_goals first | exact trivial | exact fun d hd => by (obtain ⟨_, _, rfl⟩ := List.mem_map.mp hd; exact trivial) | exact rfl | exact Nat.le_of_ble_eq_true rfl | exact okM_le (by omega) | ((conv => whnf); exact rfl)
        · repeat ((conv => whnf); first | (with_reducible refine And.intro ?_ ?_; rotate_left) | with_reducible refine Exists.intro _ (And.intro rfl ?_) | rw [h9] | rw [deq_int] | rw [deq_bl] | rw [deq_str] | refine Br.yes rfl ?_ | refine Br.no rfl ?_ | refine Br.yes (by first | rfl | exact at9_cT _ | exact at9_sT _ | exact at9_intt _ | exact at9_int _ | exact at9_lkTt _ | exact at9_lkT _ | exact at9_lkX _ | exact at9_lkS _ _ _ | exact at9_tog _ _ _ _ | exact at9_c3 _ | exact at9_fl _ | exact h9 _ my | exact h9 | (simp only [Cr.at9, Cr.at9s, List.map_cons, List.map_nil, at9_int, at9_intt, at9_lkT, at9_lkTt, at9_lkX, at9_lkS, at9_tog, at9_cT, at9_sT, Bool.and_true, Bool.and_self]; done) | fail) ?_ | refine Br.no h9 ?_ | fail)
          · conv => whnf
            rw [all_bl]
          all_goals first | exact trivial | exact fun d hd => by (obtain ⟨_, _, rfl⟩ := List.mem_map.mp hd; exact trivial) | exact rfl | exact Nat.le_of_ble_eq_true rfl | exact okM_le (by omega) | ((conv => whnf); exact rfl)
      all_goals first | exact trivial | exact fun d hd => by (obtain ⟨_, _, rfl⟩ := List.mem_map.mp hd; exact trivial) | exact rfl | exact Nat.le_of_ble_eq_true rfl | exact okM_le (by omega) | ((conv => whnf); exact rfl)
  | fl xs => unfold okd at hok; exact hok.elim
  | non =>
    repeat ((conv => whnf); first | (with_reducible refine And.intro ?_ ?_; rotate_left) | with_reducible refine Exists.intro _ (And.intro rfl ?_) | rw [h9] | rw [deq_int] | rw [deq_bl] | rw [deq_str] | refine Br.yes rfl ?_ | refine Br.no rfl ?_ | refine Br.yes (by first | rfl | exact at9_cT _ | exact at9_sT _ | exact at9_intt _ | exact at9_int _ | exact at9_lkTt _ | exact at9_lkT _ | exact at9_lkX _ | exact at9_lkS _ _ _ | exact at9_tog _ _ _ _ | exact at9_c3 _ | exact at9_fl _ | exact h9 _ my | exact h9 | (simp only [Cr.at9, Cr.at9s, List.map_cons, List.map_nil, at9_int, at9_intt, at9_lkT, at9_lkTt, at9_lkX, at9_lkS, at9_tog, at9_cT, at9_sT, Bool.and_true, Bool.and_self]; done) | fail) ?_ | refine Br.no h9 ?_ | fail)
    all_goals first | exact trivial | exact fun d hd => by (obtain ⟨_, _, rfl⟩ := List.mem_map.mp hd; exact trivial) | exact rfl | exact Nat.le_of_ble_eq_true rfl | exact okM_le (by omega) | ((conv => whnf); exact rfl)
  | bl b =>
    repeat ((conv => whnf); first | (with_reducible refine And.intro ?_ ?_; rotate_left) | with_reducible refine Exists.intro _ (And.intro rfl ?_) | rw [h9] | rw [deq_int] | rw [deq_bl] | rw [deq_str] | refine Br.yes rfl ?_ | refine Br.no rfl ?_ | refine Br.yes (by first | rfl | exact at9_cT _ | exact at9_sT _ | exact at9_intt _ | exact at9_int _ | exact at9_lkTt _ | exact at9_lkT _ | exact at9_lkX _ | exact at9_lkS _ _ _ | exact at9_tog _ _ _ _ | exact at9_c3 _ | exact at9_fl _ | exact h9 _ my | exact h9 | (simp only [Cr.at9, Cr.at9s, List.map_cons, List.map_nil, at9_int, at9_intt, at9_lkT, at9_lkTt, at9_lkX, at9_lkS, at9_tog, at9_cT, at9_sT, Bool.and_true, Bool.and_self]; done) | fail) ?_ | refine Br.no h9 ?_ | fail)
    all_goals first | exact trivial | exact fun d hd => by (obtain ⟨_, _, rfl⟩ := List.mem_map.mp hd; exact trivial) | exact rfl | exact Nat.le_of_ble_eq_true rfl | exact okM_le (by omega) | ((conv => whnf); exact rfl)
  | int i =>
    repeat ((conv => whnf); first | (with_reducible refine And.intro ?_ ?_; rotate_left) | with_reducible refine Exists.intro _ (And.intro rfl ?_) | rw [h9] | rw [deq_int] | rw [deq_bl] | rw [deq_str] | refine Br.yes rfl ?_ | refine Br.no rfl ?_ | refine Br.yes (by first | rfl | exact at9_cT _ | exact at9_sT _ | exact at9_intt _ | exact at9_int _ | exact at9_lkTt _ | exact at9_lkT _ | exact at9_lkX _ | exact at9_lkS _ _ _ | exact at9_tog _ _ _ _ | exact at9_c3 _ | exact at9_fl _ | exact h9 _ my | exact h9 | (simp only [Cr.at9, Cr.at9s, List.map_cons, List.map_nil, at9_int, at9_intt, at9_lkT, at9_lkTt, at9_lkX, at9_lkS, at9_tog, at9_cT, at9_sT, Bool.and_true, Bool.and_self]; done) | fail) ?_ | refine Br.no h9 ?_ | fail)
    all_goals first | exact trivial | exact fun d hd => by (obtain ⟨_, _, rfl⟩ := List.mem_map.mp hd; exact trivial) | exact rfl | exact Nat.le_of_ble_eq_true rfl | exact okM_le (by omega) | ((conv => whnf); exact rfl)
  | str z =>
    repeat ((conv => whnf); first | (with_reducible refine And.intro ?_ ?_; rotate_left) | with_reducible refine Exists.intro _ (And.intro rfl ?_) | rw [h9] | rw [deq_int] | rw [deq_bl] | rw [deq_str] | refine Br.yes rfl ?_ | refine Br.no rfl ?_ | refine Br.yes (by first | rfl | exact at9_cT _ | exact at9_sT _ | exact at9_intt _ | exact at9_int _ | exact at9_lkTt _ | exact at9_lkT _ | exact at9_lkX _ | exact at9_lkS _ _ _ | exact at9_tog _ _ _ _ | exact at9_c3 _ | exact at9_fl _ | exact h9 _ my | exact h9 | (simp only [Cr.at9, Cr.at9s, List.map_cons, List.map_nil, at9_int, at9_intt, at9_lkT, at9_lkTt, at9_lkX, at9_lkS, at9_tog, at9_cT, at9_sT, Bool.and_true, Bool.and_self]; done) | fail) ?_ | refine Br.no h9 ?_ | fail)
    all_goals first | exact trivial | exact fun d hd => by (obtain ⟨_, _, rfl⟩ := List.mem_map.mp hd; exact trivial) | exact rfl | exact Nat.le_of_ble_eq_true rfl | exact okM_le (by omega) | ((conv => whnf); exact rfl)
abbrev s__law_cells : Stmt := tp 18
abbrev N__law_cells : List Str := ["_law_script", "_law_utmost", "_law_cells_here", "_law_k", "_law_cell"]
theorem sc__law_cells : FnScope N__law_cells ["_law_script", "_law_utmost"] (defScope s__law_cells) := ⟨rfl, rfl, rfl, by decide +kernel, rfl, by decide +kernel, by decide +kernel⟩
theorem cl__law_cells {P : Program} {w : World} {K : PySem.W.Frag} {mg : Str → Option Value} {base : Heap} (h__law_cells : Known K mg "_law_cells" s__law_cells ["_law_script", "_law_utmost"]) (m_enumerate : mg "enumerate" = none) (m_list : mg "list" = none) : Cl P w K mg base L2.CX0 1 "_law_cells" s__law_cells ["_law_script", "_law_utmost"] (spB K 2 rCells) := by
  obtain ⟨f, fd, F, hm, hb⟩ := h__law_cells
  refine Cl.B F hm hb sc__law_cells rfl fun cdv A outer s H E Sh ds k' Pd hr hl hR => ?_
  refine ⟨_, (vss_cons (vs_set (i := 2) sc__law_cells.nd rfl (by first | exact .inl rfl | exact .inr rfl) (by simp) (vi_or (vi_listOf m_list (vi_slice (nv 0) vo_none (vo_some (nv 1)))) (vi_one (vi_list (va_cons vi_int va_nil))))) (vss_cons (vs_for (passes_of rfl) rfl (vit_enumA m_enumerate (vi_slice (nv 0) (vo_some (nv 1)) (vo_some vi_int))) (vg_tup (n := 2) rfl (vgs_cons (vg_name (i := 3) sc__law_cells.nd rfl (by first | exact .inl rfl | exact .inr rfl) (by simp)) (vgs_cons (vg_name (i := 4) sc__law_cells.nd rfl (by first | exact .inl rfl | exact .inr rfl) (by simp)) vgs_nil))) (vss_one (vs_setIx (i := 2) rfl (by first | exact Or.inl rfl | exact Or.inr (Or.inl rfl) | exact Or.inr (Or.inr rfl)) (vi_add (vi_ix (nv 2) (vi_mod (nv 3) (nv 1))) (vi_mul (nv 4) (vi_add (nv 3) vi_int))) (vi_mod (nv 3) (nv 1))))) (vss_one (vs_retM (i := 2) rfl (by first | exact Or.inl rfl | exact Or.inr (Or.inl rfl) | exact Or.inr (Or.inr rfl)))))), ?_⟩

  obtain ⟨ns, u, rfl, hu1, hu, hlen, hsm, rfl, rfl⟩ := hR
  have hcr := cut_rest D.int ns u hlen hu
  have hch := cut_head D.int ns u
  rw [show ent N__law_cells.length [.fl (ns.map D.int), .int u] = [some (md (.fl (ns.map D.int)), .fl (ns.map D.int)), some (9, .int u), none, none, none] from rfl, md_fl]
  repeat ((conv => whnf); first | (with_reducible refine And.intro ?_ ?_; rotate_left) | with_reducible refine Exists.intro _ (And.intro rfl ?_) | rw [hch] | rw [hcr] | rw [hat] | refine Br.yes rfl ?_ | refine Br.no rfl ?_ | refine Br.yes (by first | rfl | exact at9_cT _ | exact at9_sT _ | exact at9_intt _ | exact at9_int _ | exact at9_lkTt _ | exact at9_lkT _ | exact at9_lkX _ | exact at9_lkS _ _ _ | exact at9_tog _ _ _ _ | exact at9_c3 _ | exact at9_fl _ | exact h9 _ my | exact h9 | (simp only [Cr.at9, Cr.at9s, List.map_cons, List.map_nil, at9_int, at9_intt, at9_lkT, at9_lkTt, at9_lkX, at9_lkS, at9_tog, at9_cT, at9_sT, Bool.and_true, Bool.and_self]; done) | fail) ?_ | refine Br.no h9 ?_ | fail)
  · conv => whnf
    refine Br.mk (fun h => ?_) (fun h => ?_)
    · have hne : 0 < (ns.take u).length := by
        cases hh : ns.take u with
        | nil => rw [hh] at h; cases h
        | cons a r => simp
      repeat ((conv => whnf); first | (with_reducible refine And.intro ?_ ?_; rotate_left) | with_reducible refine Exists.intro _ (And.intro rfl ?_) | rw [hch] | rw [hcr] | rw [hat] | refine Br.yes rfl ?_ | refine Br.no rfl ?_ | refine Br.yes (by first | rfl | exact at9_cT _ | exact at9_sT _ | exact at9_intt _ | exact at9_int _ | exact at9_lkTt _ | exact at9_lkT _ | exact at9_lkX _ | exact at9_lkS _ _ _ | exact at9_tog _ _ _ _ | exact at9_c3 _ | exact at9_fl _ | exact h9 _ my | exact h9 | (simp only [Cr.at9, Cr.at9s, List.map_cons, List.map_nil, at9_int, at9_intt, at9_lkT, at9_lkTt, at9_lkX, at9_lkS, at9_tog, at9_cT, at9_sT, Bool.and_true, Bool.and_self]; done) | fail) ?_ | refine Br.no h9 ?_ | fail)
      · conv => whnf
        refine for_by (I := cInv ns u) ⟨ns.take u, none, none, by (try rw [at9_int]); rfl, ?_, ?_, ?_, ?_⟩ (fun i d env hd hI Y hY => ?_) (fun env hI => ?_)
        · exact hne
        · rw [List.length_take]; exact Nat.min_le_left _ _
        · intro h; rw [List.length_take]; omega
        · intro c hc; exact sm_mono (hsm c (List.mem_of_mem_take hc)) (by omega)
        · obtain ⟨cs, e3, e4, rfl, c1, c2, c3, c4⟩ := hI
          obtain ⟨z, hz, rfl⟩ := enum_inv hd
          have hzm : z ∈ ns := List.mem_of_mem_drop (List.mem_of_getElem? hz)
          have hil : i < ns.length - u := by have := (List.getElem?_eq_some_iff.mp hz).1; rwa [List.length_drop] at this
          have cu := c3 (by omega)
          have hix : i % u < cs.length := by rw [cu]; exact Nat.mod_lt _ (by omega)
          have hmod : (i : Int) % (u : Int) = ((i % u : Nat) : Int) := (Int.natCast_emod i u).symm
          have hat : atI (cs.map D.int) ((i : Int) % (u : Int)) = some (.int cs[i % u]) := by rw [hmod]; exact atI_map_nat D.int (List.getElem?_eq_getElem hix)
          have hixn : ixN (cs.map D.int).length ((i : Int) % (u : Int)) = some (i % u) := by rw [hmod, ixN_nat, List.length_map, if_pos hix]
          have hzl : z.natAbs.log2 < 1048576 := sm_lg (hsm z hzm) (by omega)
          repeat ((conv => whnf); first | (with_reducible refine And.intro ?_ ?_; rotate_left) | with_reducible refine Exists.intro _ (And.intro rfl ?_) | rw [hch] | rw [hcr] | rw [hat] | refine Br.yes rfl ?_ | refine Br.no rfl ?_ | refine Br.yes (by first | rfl | exact at9_cT _ | exact at9_sT _ | exact at9_intt _ | exact at9_int _ | exact at9_lkTt _ | exact at9_lkT _ | exact at9_lkX _ | exact at9_lkS _ _ _ | exact at9_tog _ _ _ _ | exact at9_c3 _ | exact at9_fl _ | exact h9 _ my | exact h9 | (simp only [Cr.at9, Cr.at9s, List.map_cons, List.map_nil, at9_int, at9_intt, at9_lkT, at9_lkTt, at9_lkX, at9_lkS, at9_tog, at9_cT, at9_sT, Bool.and_true, Bool.and_self]; done) | fail) ?_ | refine Br.no h9 ?_ | fail)
          · conv => whnf
            refine ⟨_, hixn, hY _ ⟨cs.set (i % u) (cs[i % u] + z * ((i : Int) + 2)), some (9, .int i), some (9, .int z), ?_, ?_, ?_, ?_, ?_⟩⟩
            · rw [List.map_set]; rfl
            · rw [List.length_set]; exact c1
            · rw [List.length_set]; exact c2
            · intro h; rw [List.length_set]; exact c3 h
            · intro c hc
              rcases List.mem_or_eq_of_mem_set hc with hc | rfl
              · exact sm_mono (c4 c hc) (by omega)
              · refine sm_mono (sm_add (c4 _ (List.getElem_mem hix)) (sm_mono (sm_mul (hsm z hzm) (f := 7) (show ((i : Int) + 2).natAbs < 2 ^ 7 by omega)) (f := 1048600 + i) (by omega))) (by omega)
          all_goals first | exact rfl | exact trivial | assumption | exact Nat.le_of_ble_eq_true rfl | exact okM_le (Nat.le_of_ble_eq_true rfl) | (refine fits_of ?_; simp; done) | (dsimp only; omega) | (dsimp only; decide) | exact Nat.lt_of_lt_of_le (Nat.add_lt_add hzl (lg_lt (k := 64) (by omega) (by decide))) (by decide)
        · obtain ⟨cs, e3, e4, rfl, c1, c2, c3, c4⟩ := hI
          repeat ((conv => whnf); first | (with_reducible refine And.intro ?_ ?_; rotate_left) | with_reducible refine Exists.intro _ (And.intro rfl ?_) | rw [hch] | rw [hcr] | rw [hat] | refine Br.yes rfl ?_ | refine Br.no rfl ?_ | refine Br.yes (by first | rfl | exact at9_cT _ | exact at9_sT _ | exact at9_intt _ | exact at9_int _ | exact at9_lkTt _ | exact at9_lkT _ | exact at9_lkX _ | exact at9_lkS _ _ _ | exact at9_tog _ _ _ _ | exact at9_c3 _ | exact at9_fl _ | exact h9 _ my | exact h9 | (simp only [Cr.at9, Cr.at9s, List.map_cons, List.map_nil, at9_int, at9_intt, at9_lkT, at9_lkTt, at9_lkX, at9_lkS, at9_tog, at9_cT, at9_sT, Bool.and_true, Bool.and_self]; done) | fail) ?_ | refine Br.no h9 ?_ | fail)
          · exact fun c hc => sm_mono (c4 c hc) (by rw [enumD_len, List.length_map, List.length_drop]; omega)
          all_goals first | exact rfl | exact trivial | assumption | exact Nat.le_of_ble_eq_true rfl | exact okM_le (Nat.le_of_ble_eq_true rfl) | (refine fits_of ?_; simp; done) | (dsimp only; omega) | (dsimp only; decide) | exact Nat.lt_of_lt_of_le (Nat.add_lt_add hzl (lg_lt (k := 64) (by omega) (by decide))) (by decide)
      all_goals first | exact rfl | exact trivial | assumption | exact Nat.le_of_ble_eq_true rfl | exact okM_le (Nat.le_of_ble_eq_true rfl) | (refine fits_of ?_; simp; done) | (dsimp only; omega) | (dsimp only; decide) | exact Nat.lt_of_lt_of_le (Nat.add_lt_add hzl (lg_lt (k := 64) (by omega) (by decide))) (by decide)
    · repeat ((conv => whnf); first | (with_reducible refine And.intro ?_ ?_; rotate_left) | with_reducible refine Exists.intro _ (And.intro rfl ?_) | rw [hch] | rw [hcr] | rw [hat] | refine Br.yes rfl ?_ | refine Br.no rfl ?_ | refine Br.yes (by first | rfl | exact at9_cT _ | exact at9_sT _ | exact at9_intt _ | exact at9_int _ | exact at9_lkTt _ | exact at9_lkT _ | exact at9_lkX _ | exact at9_lkS _ _ _ | exact at9_tog _ _ _ _ | exact at9_c3 _ | exact at9_fl _ | exact h9 _ my | exact h9 | (simp only [Cr.at9, Cr.at9s, List.map_cons, List.map_nil, at9_int, at9_intt, at9_lkT, at9_lkTt, at9_lkX, at9_lkS, at9_tog, at9_cT, at9_sT, Bool.and_true, Bool.and_self]; done) | fail) ?_ | refine Br.no h9 ?_ | fail)
      · conv => whnf
        refine for_by (I := cInv ns u) ⟨[0], none, none, by (try rw [at9_int]); rfl, ?_, ?_, ?_, ?_⟩ (fun i d env hd hI Y hY => ?_) (fun env hI => ?_)
        · exact Nat.zero_lt_one
        · exact hu1
        · intro hh
          exfalso
          cases ns with
          | nil => simp at hh
          | cons a r =>
            cases u with
            | zero => omega
            | succ u => simp [tru] at h
        · intro c hc; rw [List.mem_singleton.mp hc]; exact Nat.two_pow_pos _
        · obtain ⟨cs, e3, e4, rfl, c1, c2, c3, c4⟩ := hI
          obtain ⟨z, hz, rfl⟩ := enum_inv hd
          have hzm : z ∈ ns := List.mem_of_mem_drop (List.mem_of_getElem? hz)
          have hil : i < ns.length - u := by have := (List.getElem?_eq_some_iff.mp hz).1; rwa [List.length_drop] at this
          have cu := c3 (by omega)
          have hix : i % u < cs.length := by rw [cu]; exact Nat.mod_lt _ (by omega)
          have hmod : (i : Int) % (u : Int) = ((i % u : Nat) : Int) := (Int.natCast_emod i u).symm
          have hat : atI (cs.map D.int) ((i : Int) % (u : Int)) = some (.int cs[i % u]) := by rw [hmod]; exact atI_map_nat D.int (List.getElem?_eq_getElem hix)
          have hixn : ixN (cs.map D.int).length ((i : Int) % (u : Int)) = some (i % u) := by rw [hmod, ixN_nat, List.length_map, if_pos hix]
          have hzl : z.natAbs.log2 < 1048576 := sm_lg (hsm z hzm) (by omega)
          repeat ((conv => whnf); first | (with_reducible refine And.intro ?_ ?_; rotate_left) | with_reducible refine Exists.intro _ (And.intro rfl ?_) | rw [hch] | rw [hcr] | rw [hat] | refine Br.yes rfl ?_ | refine Br.no rfl ?_ | refine Br.yes (by first | rfl | exact at9_cT _ | exact at9_sT _ | exact at9_intt _ | exact at9_int _ | exact at9_lkTt _ | exact at9_lkT _ | exact at9_lkX _ | exact at9_lkS _ _ _ | exact at9_tog _ _ _ _ | exact at9_c3 _ | exact at9_fl _ | exact h9 _ my | exact h9 | (simp only [Cr.at9, Cr.at9s, List.map_cons, List.map_nil, at9_int, at9_intt, at9_lkT, at9_lkTt, at9_lkX, at9_lkS, at9_tog, at9_cT, at9_sT, Bool.and_true, Bool.and_self]; done) | fail) ?_ | refine Br.no h9 ?_ | fail)
          · conv => whnf
            refine ⟨_, hixn, hY _ ⟨cs.set (i % u) (cs[i % u] + z * ((i : Int) + 2)), some (9, .int i), some (9, .int z), ?_, ?_, ?_, ?_, ?_⟩⟩
            · rw [List.map_set]; rfl
            · rw [List.length_set]; exact c1
            · rw [List.length_set]; exact c2
            · intro h; rw [List.length_set]; exact c3 h
            · intro c hc
              rcases List.mem_or_eq_of_mem_set hc with hc | rfl
              · exact sm_mono (c4 c hc) (by omega)
              · refine sm_mono (sm_add (c4 _ (List.getElem_mem hix)) (sm_mono (sm_mul (hsm z hzm) (f := 7) (show ((i : Int) + 2).natAbs < 2 ^ 7 by omega)) (f := 1048600 + i) (by omega))) (by omega)
          all_goals first | exact rfl | exact trivial | assumption | exact Nat.le_of_ble_eq_true rfl | exact okM_le (Nat.le_of_ble_eq_true rfl) | (refine fits_of ?_; simp; done) | (dsimp only; omega) | (dsimp only; decide) | exact Nat.lt_of_lt_of_le (Nat.add_lt_add hzl (lg_lt (k := 64) (by omega) (by decide))) (by decide)
        · obtain ⟨cs, e3, e4, rfl, c1, c2, c3, c4⟩ := hI
          repeat ((conv => whnf); first | (with_reducible refine And.intro ?_ ?_; rotate_left) | with_reducible refine Exists.intro _ (And.intro rfl ?_) | rw [hch] | rw [hcr] | rw [hat] | refine Br.yes rfl ?_ | refine Br.no rfl ?_ | refine Br.yes (by first | rfl | exact at9_cT _ | exact at9_sT _ | exact at9_intt _ | exact at9_int _ | exact at9_lkTt _ | exact at9_lkT _ | exact at9_lkX _ | exact at9_lkS _ _ _ | exact at9_tog _ _ _ _ | exact at9_c3 _ | exact at9_fl _ | exact h9 _ my | exact h9 | (simp only [Cr.at9, Cr.at9s, List.map_cons, List.map_nil, at9_int, at9_intt, at9_lkT, at9_lkTt, at9_lkX, at9_lkS, at9_tog, at9_cT, at9_sT, Bool.and_true, Bool.and_self]; done) | fail) ?_ | refine Br.no h9 ?_ | fail)
          · exact fun c hc => sm_mono (c4 c hc) (by rw [enumD_len, List.length_map, List.length_drop]; omega)
          all_goals first | exact rfl | exact trivial | assumption | exact Nat.le_of_ble_eq_true rfl | exact okM_le (Nat.le_of_ble_eq_true rfl) | (refine fits_of ?_; simp; done) | (dsimp only; omega) | (dsimp only; decide) | exact Nat.lt_of_lt_of_le (Nat.add_lt_add hzl (lg_lt (k := 64) (by omega) (by decide))) (by decide)
      all_goals first | exact rfl | exact trivial | assumption | exact Nat.le_of_ble_eq_true rfl | exact okM_le (Nat.le_of_ble_eq_true rfl) | (refine fits_of ?_; simp; done) | (dsimp only; omega) | (dsimp only; decide) | exact Nat.lt_of_lt_of_le (Nat.add_lt_add hzl (lg_lt (k := 64) (by omega) (by decide))) (by decide)
  all_goals first | exact rfl | exact trivial | assumption | exact Nat.le_of_ble_eq_true rfl | exact okM_le (Nat.le_of_ble_eq_true rfl) | (refine fits_of ?_; simp; done) | (dsimp only; omega) | (dsimp only; decide) | exact Nat.lt_of_lt_of_le (Nat.add_lt_add hzl (lg_lt (k := 64) (by omega) (by decide))) (by decide)
abbrev s__law_box : Stmt := tp 19
abbrev N__law_box : List Str := ["_law_cells_here", "_law_k", "_law_cell"]
theorem sc__law_box : FnScope N__law_box ["_law_cells_here", "_law_k"] (defScope s__law_box) := ⟨rfl, rfl, rfl, by decide +kernel, rfl, by decide +kernel, by decide +kernel⟩
theorem cl__law_box {P : Program} {w : World} {K : PySem.W.Frag} {mg : Str → Option Value} {base : Heap} (h__law_box : Known K mg "_law_box" s__law_box ["_law_cells_here", "_law_k"]) (m_abs : mg "abs" = none) (m_int : mg "int" = none) : Cl P w K mg base L2.CX0 1 "_law_box" s__law_box ["_law_cells_here", "_law_k"] (spB K 2 rBox) := by
  obtain ⟨f, fd, F, hm, hb⟩ := h__law_box
  refine Cl.B F hm hb sc__law_box rfl fun cdv A outer s H E Sh ds k' Pd hr hl hR => ?_
  refine ⟨_, (vss_cons (vs_set (i := 2) sc__law_box.nd rfl (by first | exact .inl rfl | exact .inr rfl) (by simp) (vi_ix (nv 0) (nv 1))) (vss_one (vs_ret (vi_list (va_cons (vi_mul (vi_fb fb_abs m_abs (va_cons (nv 2) va_nil)) (vi_ft ft_int m_int (va_cons (vi_c (cr_ge) (vi_fb fb_abs m_abs (va_cons (nv 2) va_nil)) (vi_pow vi_int vi_int)) va_nil))) (va_cons (vi_add (vi_add (vi_mod (nv 2) vi_int) (vi_mul vi_int (nv 1))) vi_int) (va_cons vi_int va_nil))))))), ?_⟩

  obtain ⟨cs, j, c, hj, rfl, hj2, hsm, rfl, rfl⟩ := hR
  have hat := atI_map_nat D.int hj
  have hlg : c.natAbs.log2 < 2000000 := sm_lg hsm (by omega)
  repeat ((conv => whnf); first | (with_reducible refine And.intro ?_ ?_; rotate_left) | with_reducible refine Exists.intro _ (And.intro rfl ?_) | rw [hat] | refine Br.yes rfl ?_ | refine Br.no rfl ?_ | refine Br.yes (by first | rfl | exact at9_cT _ | exact at9_sT _ | exact at9_intt _ | exact at9_int _ | exact at9_lkTt _ | exact at9_lkT _ | exact at9_lkX _ | exact at9_lkS _ _ _ | exact at9_tog _ _ _ _ | exact at9_c3 _ | exact at9_fl _ | exact h9 _ my | exact h9 | (simp only [Cr.at9, Cr.at9s, List.map_cons, List.map_nil, at9_int, at9_intt, at9_lkT, at9_lkTt, at9_lkX, at9_lkS, at9_tog, at9_cT, at9_sT, Bool.and_true, Bool.and_self]; done) | fail) ?_ | refine Br.no h9 ?_ | fail)
  · refine ⟨_, _, _, rfl, ?_, ?_, by decide, by decide⟩
    · refine Int.mul_nonneg (by omega) ?_
      split <;> omega
    · show (c % 2305843009213693951 + 15485863 * (j : Int) + 11).natAbs < 2 ^ 200
      omega
  all_goals first | exact rfl | exact Nat.le_of_ble_eq_true rfl | exact okM_le (Nat.le_of_ble_eq_true rfl) | (refine fits_of ?_; simp; done) | (dsimp only; decide) | (dsimp only; exact ⟨by decide, by decide, by decide⟩) | exact lgs 99 99 (by first | omega | decide) (by first | omega | decide) | (rw [Int.natAbs_natCast]; split <;> (simp [show Nat.log2 1 = 0 by decide, show Nat.log2 0 = 0 by decide]; omega))
abbrev s__law_count : Stmt := tp 9
abbrev N__law_count : List Str := ["_law_item"]
theorem sc__law_count : FnScope N__law_count ["_law_item"] (defScope s__law_count) := ⟨rfl, rfl, rfl, by decide +kernel, rfl, by decide +kernel, by decide +kernel⟩
theorem cl__law_count {P : Program} {w : World} {K : PySem.W.Frag} {mg : Str → Option Value} {base : Heap} (h__law_count : Known K mg "_law_count" s__law_count ["_law_item"]) (m_bool : mg "bool" = none) (m_int : mg "int" = none) (m_isinstance : mg "isinstance" = none) : Cl P w K mg base L2.CX0 1 "_law_count" s__law_count ["_law_item"] (spB K 1 rNum) := by
  obtain ⟨f, fd, F, hm, hb⟩ := h__law_count
  refine Cl.B F hm hb sc__law_count rfl fun cdv A outer s H E Sh ds k' Pd hr hl hR => ?_
  refine ⟨_, (vss_one (vs_ret (vi_and (vi_isi1 .int rfl m_isinstance m_int (nv 0)) (vi_one (vi_not (vi_isi1 .bool rfl m_isinstance m_bool (nv 0))))))), ?_⟩

  obtain ⟨d, rfl, rfl, rfl⟩ := hR
  cases d
  all_goals (
    repeat ((conv => whnf); first | (with_reducible refine And.intro ?_ ?_; rotate_left) | with_reducible refine Exists.intro _ (And.intro rfl ?_) | refine Br.yes rfl ?_ | refine Br.no rfl ?_ | refine Br.yes (by first | rfl | exact at9_cT _ | exact at9_sT _ | exact at9_intt _ | exact at9_int _ | exact at9_lkTt _ | exact at9_lkT _ | exact at9_lkX _ | exact at9_lkS _ _ _ | exact at9_tog _ _ _ _ | exact at9_c3 _ | exact at9_fl _ | exact h9 _ my | exact h9 | (simp only [Cr.at9, Cr.at9s, List.map_cons, List.map_nil, at9_int, at9_intt, at9_lkT, at9_lkTt, at9_lkX, at9_lkS, at9_tog, at9_cT, at9_sT, Bool.and_true, Bool.and_self]; done) | fail) ?_ | refine Br.no h9 ?_ | fail)
    all_goals first | (with_reducible exact rfl) | assumption | exact trivial | exact Nat.le_of_ble_eq_true rfl | exact okM_le (Nat.le_of_ble_eq_true rfl) | exact ⟨rfl, rfl⟩ | exact fits_of (Nat.le_of_ble_eq_true rfl) | exact fun d hd => by (obtain ⟨_, _, rfl⟩ := List.mem_map.mp hd; exact trivial) | (refine fits_of ?_; simp; omega) | exact ⟨Nat.le_of_ble_eq_true rfl, Nat.le_of_ble_eq_true rfl⟩ | exact ⟨by decide, by decide⟩ | (dsimp only; exact ⟨by decide, by decide⟩) | omega | exact rfl)
abbrev s__law_row_of_numbers : Stmt := tp 10
abbrev N__law_row_of_numbers : List Str := ["_law_item", "_law_size", "_law_is_list", "_law_fine", "_law_mine"]
theorem sc__law_row_of_numbers : FnScope N__law_row_of_numbers ["_law_item", "_law_size", "_law_is_list"] (defScope s__law_row_of_numbers) := ⟨rfl, rfl, rfl, by decide +kernel, rfl, by decide +kernel, by decide +kernel⟩
abbrev scc__law_row_of_numbers_0 : Scope := { kind := .function, names := [(PySem.Str.ofString ".0", PySem.NameKind.local), (PySem.Str.ofString "_law_mine", PySem.NameKind.local), (PySem.Str.ofString "_law_count", PySem.NameKind.globalImplicit)], isGenerator := false, isCoroutine := false, more := [] }
abbrev scr__law_row_of_numbers_0 : Scope := { kind := .function, names := [(PySem.Str.ofString ".0", PySem.NameKind.local), (PySem.Str.ofString "_law_mine", PySem.NameKind.local), (PySem.Str.ofString "_law_count", PySem.NameKind.globalImplicit)], isGenerator := false, isCoroutine := false, more := [] }
theorem cl__law_row_of_numbers {P : Program} {w : World} {K : PySem.W.Frag} {mg : Str → Option Value} {base : Heap} (h__law_row_of_numbers : Known K mg "_law_row_of_numbers" s__law_row_of_numbers ["_law_item", "_law_size", "_law_is_list"]) (m_all : mg "all" = none) (m_isinstance : mg "isinstance" = none) (m_len : mg "len" = none) (m_list : mg "list" = none) (m_tuple : mg "tuple" = none) (c__law_count : Cl P w K mg base L2.CX0 1 "_law_count" s__law_count ["_law_item"] (spB K 1 rNum)) : Cl P w K mg base L2.CX0 2 "_law_row_of_numbers" s__law_row_of_numbers ["_law_item", "_law_size", "_law_is_list"] (spB K 3 rRow) := by
  obtain ⟨f, fd, F, hm, hb⟩ := h__law_row_of_numbers
  refine Cl.B F hm hb sc__law_row_of_numbers rfl fun cdv A outer s H E Sh ds k' Pd hr hl hR => ?_
  refine ⟨_, (vss_cons (vs_set (i := 3) sc__law_row_of_numbers.nd rfl (by first | exact .inl rfl | exact .inr rfl) (by simp) (vi_if (vt_truth (nv 2)) (vi_isi1 .list rfl m_isinstance m_list (nv 0)) (vi_isi1 .tuple rfl m_isinstance m_tuple (nv 0)))) (vss_one (vs_ret (vi_and (nv 3) (vi_and (vi_c (cr_eq hr.r.units) (vi_fb fb_len m_len (va_cons (nv 0) va_nil)) (nv 1)) (vi_one (vi_fb (fb_all rfl) m_all (va_cons (vi_lc s (own := [("_law_mine", 4)]) rfl sc__law_row_of_numbers.nd (vit_seq (nv 0)) (blkOk_by (N := N__law_row_of_numbers) (sc := (defScope s__law_row_of_numbers)) (scope := scc__law_row_of_numbers_0) (own := [("_law_mine", 4)]) (by decide +kernel)) (by decide) (by simp) (fun _ _ _ _ _ => (vg_name (i := 4) sc__law_row_of_numbers.nd rfl (by first | exact .inl rfl | exact .inr rfl) (by simp))) (fun _ _ _ _ _ => vts_nil) (fun _ _ _ _ _ => (vi_callB c__law_count (hr.less (by omega)) noE (va_cons (nv 4) va_nil)))) va_nil)))))))), ?_⟩

  obtain ⟨d, n, rfl, hok, rfl, rfl⟩ := hR
  cases d with
  | tup xs =>
    have hln := okd_len hok
    rw [show ent N__law_row_of_numbers.length [.tup xs, .int n, .bl false] = [some (md (.tup xs), .tup xs), some (9, .int n), some (9, .bl false), none, none] from rfl]
    rcases md_or (.tup xs) with ⟨hmd, h9⟩ | ⟨hmd, h9⟩ <;> rw [hmd]
    all_goals (
      cases hq : deq (.int (xs.length : Int)) (.int n) with
      | true =>
        have hq2 : (xs.length : Int) = n := by rw [deq_int2] at hq; exact of_decide_eq_true hq
        repeat ((conv => whnf); first | (with_reducible refine And.intro ?_ ?_; rotate_left) | with_reducible refine Exists.intro _ (And.intro rfl ?_) | refine Br.yes rfl ?_ | refine Br.no rfl ?_ | refine Br.yes (by first | rfl | exact at9_cT _ | exact at9_sT _ | exact at9_intt _ | exact at9_int _ | exact at9_lkTt _ | exact at9_lkT _ | exact at9_lkX _ | exact at9_lkS _ _ _ | exact at9_tog _ _ _ _ | exact at9_c3 _ | exact at9_fl _ | exact h9 _ my | exact h9 | (simp only [Cr.at9, Cr.at9s, List.map_cons, List.map_nil, at9_int, at9_intt, at9_lkT, at9_lkTt, at9_lkX, at9_lkS, at9_tog, at9_cT, at9_sT, Bool.and_true, Bool.and_self]; done) | fail) ?_ | refine Br.no h9 ?_ | refine go_rNum rfl ?_ | refine go_rTupOf rfl ?_ ?_ | refine go_rAre rfl ?_ rfl ?_ | refine go_rLk rfl ?_ ?_ | refine go_rCan rfl ?_ ?_ | refine go_rRow rfl ?_ ?_ | refine Br.yes hq ?_ | refine Br.no hq ?_ | fail)
        · conv => whnf
          refine lc_self (xs := xs) (out := fun x => .bl (isN x)) 9 (Nat.le_refl _) (by omega) (fun x hx Y Z hY => ?_) (fun k hk => ?_)
          · repeat ((conv => whnf); first | (with_reducible refine And.intro ?_ ?_; rotate_left) | with_reducible refine Exists.intro _ (And.intro rfl ?_) | refine Br.yes rfl ?_ | refine Br.no rfl ?_ | refine Br.yes (by first | rfl | exact at9_cT _ | exact at9_sT _ | exact at9_intt _ | exact at9_int _ | exact at9_lkTt _ | exact at9_lkT _ | exact at9_lkX _ | exact at9_lkS _ _ _ | exact at9_tog _ _ _ _ | exact at9_c3 _ | exact at9_fl _ | exact h9 _ my | exact h9 | (simp only [Cr.at9, Cr.at9s, List.map_cons, List.map_nil, at9_int, at9_intt, at9_lkT, at9_lkTt, at9_lkX, at9_lkS, at9_tog, at9_cT, at9_sT, Bool.and_true, Bool.and_self]; done) | fail) ?_ | refine Br.no h9 ?_ | refine go_rNum rfl ?_ | refine go_rTupOf rfl ?_ ?_ | refine go_rAre rfl ?_ rfl ?_ | refine go_rLk rfl ?_ ?_ | refine go_rCan rfl ?_ ?_ | refine go_rRow rfl ?_ ?_ | refine Br.yes hq ?_ | refine Br.no hq ?_ | fail)
            · conv => whnf
              exact hY _ _ (by first | (simp [wipeE_set, wipeE_idem]; done) | (simp [wipeE]; done) | rfl) (Nat.le_refl _)
            all_goals first | (with_reducible exact rfl) | assumption | exact trivial | exact Nat.le_of_ble_eq_true rfl | exact okM_le (Nat.le_of_ble_eq_true rfl) | exact ⟨rfl, rfl⟩ | exact fits_of (Nat.le_of_ble_eq_true rfl) | exact fun d hd => by (obtain ⟨_, _, rfl⟩ := List.mem_map.mp hd; exact trivial) | (refine fits_of ?_; simp; omega) | exact ⟨Nat.le_of_ble_eq_true rfl, Nat.le_of_ble_eq_true rfl⟩ | exact ⟨by decide, by decide⟩ | (dsimp only; exact ⟨by decide, by decide⟩) | omega | exact rfl
          · repeat ((conv => whnf); first | (with_reducible refine And.intro ?_ ?_; rotate_left) | with_reducible refine Exists.intro _ (And.intro rfl ?_) | refine Br.yes rfl ?_ | refine Br.no rfl ?_ | refine Br.yes (by first | rfl | exact at9_cT _ | exact at9_sT _ | exact at9_intt _ | exact at9_int _ | exact at9_lkTt _ | exact at9_lkT _ | exact at9_lkX _ | exact at9_lkS _ _ _ | exact at9_tog _ _ _ _ | exact at9_c3 _ | exact at9_fl _ | exact h9 _ my | exact h9 | (simp only [Cr.at9, Cr.at9s, List.map_cons, List.map_nil, at9_int, at9_intt, at9_lkT, at9_lkTt, at9_lkX, at9_lkS, at9_tog, at9_cT, at9_sT, Bool.and_true, Bool.and_self]; done) | fail) ?_ | refine Br.no h9 ?_ | refine go_rNum rfl ?_ | refine go_rTupOf rfl ?_ ?_ | refine go_rAre rfl ?_ rfl ?_ | refine go_rLk rfl ?_ ?_ | refine go_rCan rfl ?_ ?_ | refine go_rRow rfl ?_ ?_ | refine Br.yes hq ?_ | refine Br.no hq ?_ | fail)
            · show D.bl _ = D.bl _
              rw [all_map, isRow_tup hq2]
            all_goals first | exact fits_of (by omega) | exact fits_of (by simp; omega) | (simp [dep]; done) | (with_reducible exact rfl) | assumption | exact trivial | exact Nat.le_of_ble_eq_true rfl | exact okM_le (Nat.le_of_ble_eq_true rfl) | exact ⟨rfl, rfl⟩ | exact fits_of (Nat.le_of_ble_eq_true rfl) | exact fun d hd => by (obtain ⟨_, _, rfl⟩ := List.mem_map.mp hd; exact trivial) | (refine fits_of ?_; simp; omega) | exact ⟨Nat.le_of_ble_eq_true rfl, Nat.le_of_ble_eq_true rfl⟩ | exact ⟨by decide, by decide⟩ | (dsimp only; exact ⟨by decide, by decide⟩) | omega | exact rfl
        all_goals first | exact fits_of (by omega) | exact fits_of (by simp; omega) | (simp [dep]; done) | (with_reducible exact rfl) | assumption | exact trivial | exact Nat.le_of_ble_eq_true rfl | exact okM_le (Nat.le_of_ble_eq_true rfl) | exact ⟨rfl, rfl⟩ | exact fits_of (Nat.le_of_ble_eq_true rfl) | exact fun d hd => by (obtain ⟨_, _, rfl⟩ := List.mem_map.mp hd; exact trivial) | (refine fits_of ?_; simp; omega) | exact ⟨Nat.le_of_ble_eq_true rfl, Nat.le_of_ble_eq_true rfl⟩ | exact ⟨by decide, by decide⟩ | (dsimp only; exact ⟨by decide, by decide⟩) | omega | exact rfl
      | false =>
        have hq2 : ¬ (xs.length : Int) = n := by rw [deq_int2] at hq; exact of_decide_eq_false hq
        repeat ((conv => whnf); first | (with_reducible refine And.intro ?_ ?_; rotate_left) | with_reducible refine Exists.intro _ (And.intro rfl ?_) | refine Br.yes rfl ?_ | refine Br.no rfl ?_ | refine Br.yes (by first | rfl | exact at9_cT _ | exact at9_sT _ | exact at9_intt _ | exact at9_int _ | exact at9_lkTt _ | exact at9_lkT _ | exact at9_lkX _ | exact at9_lkS _ _ _ | exact at9_tog _ _ _ _ | exact at9_c3 _ | exact at9_fl _ | exact h9 _ my | exact h9 | (simp only [Cr.at9, Cr.at9s, List.map_cons, List.map_nil, at9_int, at9_intt, at9_lkT, at9_lkTt, at9_lkX, at9_lkS, at9_tog, at9_cT, at9_sT, Bool.and_true, Bool.and_self]; done) | fail) ?_ | refine Br.no h9 ?_ | refine go_rNum rfl ?_ | refine go_rTupOf rfl ?_ ?_ | refine go_rAre rfl ?_ rfl ?_ | refine go_rLk rfl ?_ ?_ | refine go_rCan rfl ?_ ?_ | refine go_rRow rfl ?_ ?_ | refine Br.yes hq ?_ | refine Br.no hq ?_ | fail)
        · show D.bl _ = D.bl _
          rw [hq, isRow_ne hq2]
        all_goals first | exact fits_of (by omega) | exact fits_of (by simp; omega) | (simp [dep]; done) | (with_reducible exact rfl) | assumption | exact trivial | exact Nat.le_of_ble_eq_true rfl | exact okM_le (Nat.le_of_ble_eq_true rfl) | exact ⟨rfl, rfl⟩ | exact fits_of (Nat.le_of_ble_eq_true rfl) | exact fun d hd => by (obtain ⟨_, _, rfl⟩ := List.mem_map.mp hd; exact trivial) | (refine fits_of ?_; simp; omega) | exact ⟨Nat.le_of_ble_eq_true rfl, Nat.le_of_ble_eq_true rfl⟩ | exact ⟨by decide, by decide⟩ | (dsimp only; exact ⟨by decide, by decide⟩) | omega | exact rfl)
  | _ =>
    repeat ((conv => whnf); first | (with_reducible refine And.intro ?_ ?_; rotate_left) | with_reducible refine Exists.intro _ (And.intro rfl ?_) | refine Br.yes rfl ?_ | refine Br.no rfl ?_ | refine Br.yes (by first | rfl | exact at9_cT _ | exact at9_sT _ | exact at9_intt _ | exact at9_int _ | exact at9_lkTt _ | exact at9_lkT _ | exact at9_lkX _ | exact at9_lkS _ _ _ | exact at9_tog _ _ _ _ | exact at9_c3 _ | exact at9_fl _ | exact h9 _ my | exact h9 | (simp only [Cr.at9, Cr.at9s, List.map_cons, List.map_nil, at9_int, at9_intt, at9_lkT, at9_lkTt, at9_lkX, at9_lkS, at9_tog, at9_cT, at9_sT, Bool.and_true, Bool.and_self]; done) | fail) ?_ | refine Br.no h9 ?_ | refine go_rNum rfl ?_ | refine go_rTupOf rfl ?_ ?_ | refine go_rAre rfl ?_ rfl ?_ | refine go_rLk rfl ?_ ?_ | refine go_rCan rfl ?_ ?_ | refine go_rRow rfl ?_ ?_ | refine Br.yes hq ?_ | refine Br.no hq ?_ | fail)
    all_goals first | (with_reducible exact rfl) | assumption | exact trivial | exact Nat.le_of_ble_eq_true rfl | exact okM_le (Nat.le_of_ble_eq_true rfl) | exact ⟨rfl, rfl⟩ | exact fits_of (Nat.le_of_ble_eq_true rfl) | exact fun d hd => by (obtain ⟨_, _, rfl⟩ := List.mem_map.mp hd; exact trivial) | (refine fits_of ?_; simp; omega) | exact ⟨Nat.le_of_ble_eq_true rfl, Nat.le_of_ble_eq_true rfl⟩ | exact ⟨by decide, by decide⟩ | (dsimp only; exact ⟨by decide, by decide⟩) | omega | exact rfl
abbrev s__law_due : Stmt := tp 20
abbrev N__law_due : List Str := ["_law_item", "_law_sizes", "_law_gate", "_law_size", "_law_k", "_law_end"]
theorem sc__law_due : FnScope N__law_due ["_law_item"] (defScope s__law_due) := ⟨rfl, rfl, rfl, by decide +kernel, rfl, by decide +kernel, by decide +kernel⟩
abbrev scc__law_due_0 : Scope := { kind := .function, names := [(PySem.Str.ofString ".0", PySem.NameKind.local), (PySem.Str.ofString "_law_size", PySem.NameKind.local), (PySem.Str.ofString "_law_count", PySem.NameKind.globalImplicit)], isGenerator := false, isCoroutine := false, more := [] }
abbrev scc__law_due_1 : Scope := { kind := .function, names := [(PySem.Str.ofString ".0", PySem.NameKind.local), (PySem.Str.ofString "_law_k", PySem.NameKind.local), (PySem.Str.ofString "_law_end", PySem.NameKind.local), (PySem.Str.ofString "_law_sizes", PySem.NameKind.free)], isGenerator := false, isCoroutine := false, more := [] }
abbrev scr__law_due_0 : Scope := { kind := .function, names := [(PySem.Str.ofString ".0", PySem.NameKind.local), (PySem.Str.ofString "_law_size", PySem.NameKind.local), (PySem.Str.ofString "_law_count", PySem.NameKind.globalImplicit)], isGenerator := false, isCoroutine := false, more := [] }
abbrev scr__law_due_1 : Scope := { kind := .function, names := [(PySem.Str.ofString ".0", PySem.NameKind.local), (PySem.Str.ofString "_law_k", PySem.NameKind.local), (PySem.Str.ofString "_law_end", PySem.NameKind.local), (PySem.Str.ofString "_law_sizes", PySem.NameKind.cell)], isGenerator := false, isCoroutine := false, more := [] }
theorem cl__law_due {P : Program} {w : World} {K : PySem.W.Frag} {mg : Str → Option Value} {base : Heap} (h__law_due : Known K mg "_law_due" s__law_due ["_law_item"]) (m_all : mg "all" = none) (m_enumerate : mg "enumerate" = none) (m_isinstance : mg "isinstance" = none) (m_len : mg "len" = none) (m_tuple : mg "tuple" = none) (c__law_count : Cl P w K mg base L2.CX0 1 "_law_count" s__law_count ["_law_item"] (spB K 1 rNum)) (c__law_row_of_numbers : Cl P w K mg base L2.CX0 2 "_law_row_of_numbers" s__law_row_of_numbers ["_law_item", "_law_size", "_law_is_list"] (spB K 3 rRow)) : Cl P w K mg base L2.CX0 3 "_law_due" s__law_due ["_law_item"] (spB K 1 rCan) := by
  obtain ⟨f, fd, F, hm, hb⟩ := h__law_due
  refine Cl.B F hm hb sc__law_due rfl fun cdv A outer s H E Sh ds k' Pd hr hl hR => ?_
  refine ⟨_, (vss_cons (vs_if (VW.vt (vw_or (vt_not (vt_truth (vi_isi1 .tuple rfl m_isinstance m_tuple (nv 0)))) (vw_or (vt_c (cr_ne hr.r.units) (vi_fb fb_len m_len (va_cons (nv 0) va_nil)) vi_int) (vw_or1 (vt_not (vt_truth (vi_isi1 .tuple rfl m_isinstance m_tuple (vi_ix (nv 0) vi_int)))))))) (vss_one (vs_ret vi_bl)) vss_nil) (vss_cons (vs_set (i := 1) sc__law_due.nd rfl (by first | exact .inl rfl | exact .inr rfl) (by simp) (vi_slice (nv 0) vo_none (vo_some vi_int))) (vss_cons (vs_if (vt_not (vt_truth (vi_fb (fb_all rfl) m_all (va_cons (vi_lc s (own := [("_law_size", 3)]) rfl sc__law_due.nd (vit_seq (nv 1)) (blkOk_by (N := N__law_due) (sc := (defScope s__law_due)) (scope := scc__law_due_0) (own := [("_law_size", 3)]) (by decide +kernel)) (by decide) (by simp) (fun _ _ _ _ _ => (vg_name (i := 3) sc__law_due.nd rfl (by first | exact .inl rfl | exact .inr rfl) (by simp))) (fun _ _ _ _ _ => vts_nil) (fun _ _ _ _ _ => (vi_and (vi_callB c__law_count (hr.less (by omega)) noE (va_cons (nv 3) va_nil)) (vi_one (vi_c (cr_gt) (nv 3) vi_int))))) va_nil)))) (vss_one (vs_ret vi_bl)) vss_nil) (vss_cons (vs_for (passes_of rfl) rfl (vit_seq (vi_ix (nv 0) vi_int)) (vg_name (i := 2) sc__law_due.nd rfl (by first | exact .inl rfl | exact .inr rfl) (by simp)) (vss_cons (vs_if (vt_not (vt_truth (vi_callB c__law_row_of_numbers (hr.less (by omega)) noE (va_cons (nv 2) (va_cons vi_int (va_cons vi_bl va_nil)))))) (vss_one (vs_ret vi_bl)) vss_nil) (vss_one (vs_if (vt_not (vt_truth (vi_fb (fb_all rfl) m_all (va_cons (vi_lc s (own := [("_law_k", 4), ("_law_end", 5)]) rfl sc__law_due.nd (vit_enumA m_enumerate (nv 2)) (blkOk_by (N := N__law_due) (sc := (defScope s__law_due)) (scope := scc__law_due_1) (own := [("_law_k", 4), ("_law_end", 5)]) (by decide +kernel)) (by decide) (by simp) (fun _ _ _ _ _ => (vg_tup (n := 2) rfl (vgs_cons (vg_name (i := 4) sc__law_due.nd rfl (by first | exact .inl rfl | exact .inr rfl) (by simp)) (vgs_cons (vg_name (i := 5) sc__law_due.nd rfl (by first | exact .inl rfl | exact .inr rfl) (by simp)) vgs_nil)))) (fun _ _ _ _ _ => vts_nil) (fun _ _ _ _ _ => (vi_chain (cr_le) (cr_lt) vi_int (nv 5) (vi_ix (nv 1) (vi_fdiv (nv 4) vi_int))))) va_nil)))) (vss_one (vs_ret vi_bl)) vss_nil)))) (vss_one (vs_ret vi_bl)))))), ?_⟩

  obtain ⟨d, rfl, hok, rfl, rfl⟩ := hR
  cases d with
  | tup xs =>
    rcases md_or (.tup xs) with ⟨hmd, h9⟩ | ⟨hmd, h9⟩
    all_goals (
      have hln := okd_len hok
      have hoks := okd_tups hok
      rw [show ent N__law_due.length [.tup xs] = [some (md (.tup xs), .tup xs), none, none, none, none, none] from rfl, hmd]
      cases hq : deq (.int (xs.length : Int)) (.int 3) with
      | false =>
        have hq2 : ¬ (xs.length : Int) = 3 := by rw [deq_int2] at hq; exact of_decide_eq_false hq
        have hqn : (!deq (.int (xs.length : Int)) (.int 3)) = true := by rw [hq]; rfl
        have hT : isT 3 (.tup xs) = false := decide_eq_false hq2
        repeat ((conv => whnf); first | (with_reducible refine And.intro ?_ ?_; rotate_left) | with_reducible refine Exists.intro _ (And.intro rfl ?_) | rw [h2] | rw [hq] | rw [all_map] | rw [hp] | rw [hen] | rw [hrow] | refine Br.yes rfl ?_ | refine Br.no rfl ?_ | refine Br.yes (by first | rfl | exact at9_cT _ | exact at9_sT _ | exact at9_intt _ | exact at9_int _ | exact at9_lkTt _ | exact at9_lkT _ | exact at9_lkX _ | exact at9_lkS _ _ _ | exact at9_tog _ _ _ _ | exact at9_c3 _ | exact at9_fl _ | exact h9 _ my | exact h9 | (simp only [Cr.at9, Cr.at9s, List.map_cons, List.map_nil, at9_int, at9_intt, at9_lkT, at9_lkTt, at9_lkX, at9_lkS, at9_tog, at9_cT, at9_sT, Bool.and_true, Bool.and_self]; done) | fail) ?_ | refine Br.no h9 ?_ | refine go_rNum rfl ?_ | refine go_rTupOf rfl ?_ ?_ | refine go_rAre rfl ?_ rfl ?_ | refine go_rLk rfl ?_ ?_ | refine go_rCan rfl ?_ ?_ | refine go_rRow rfl ?_ ?_ | refine Br.yes hq ?_ | refine Br.no hq ?_ | refine Br.yes hqn ?_ | refine Br.no hqn ?_ | refine Br.yes h9c ?_ | refine Br.no h9c ?_ | refine Br.yes h9ab ?_ | refine Br.no h9ab ?_ | refine Br.yes h1 ?_ | refine Br.no h1 ?_ | fail)
        · show D.bl false = D.bl _
          rw [isCan_no hT]
        all_goals first | exact fits_of (by omega) | exact fits_of (by simp; omega) | (simp [dep]; done) | (with_reducible exact rfl) | assumption | exact trivial | exact Nat.le_of_ble_eq_true rfl | exact okM_le (Nat.le_of_ble_eq_true rfl) | exact ⟨rfl, rfl⟩ | exact fits_of (Nat.le_of_ble_eq_true rfl) | exact fun d hd => by (obtain ⟨_, _, rfl⟩ := List.mem_map.mp hd; exact trivial) | (refine fits_of ?_; simp; omega) | exact ⟨Nat.le_of_ble_eq_true rfl, Nat.le_of_ble_eq_true rfl⟩ | exact ⟨by decide, by decide⟩ | (dsimp only; exact ⟨by decide, by decide⟩) | omega | exact rfl
      | true =>
        have hq2 : (xs.length : Int) = 3 := by rw [deq_int2] at hq; exact of_decide_eq_true hq
        have hqn : (!deq (.int (xs.length : Int)) (.int 3)) = false := by rw [hq]; rfl
        obtain ⟨a, b, c, rfl⟩ := three_of hq2
        have h2 : cutL [a, b, c] none (some 2) = [a, b] := cutL_take [a, b, c] 2
        by_cases hc : ∃ ls, c = .tup ls
        · obtain ⟨ls, rfl⟩ := hc
          cases h9c : at9 (.tup ls) <;> cases h9ab : at9s [a, b]
          all_goals (
            cases hp : [a, b].all posN with
            | false =>
              repeat ((conv => whnf); first | (with_reducible refine And.intro ?_ ?_; rotate_left) | with_reducible refine Exists.intro _ (And.intro rfl ?_) | rw [h2] | rw [hq] | rw [all_map] | rw [hp] | rw [hen] | rw [hrow] | refine Br.yes rfl ?_ | refine Br.no rfl ?_ | refine Br.yes (by first | rfl | exact at9_cT _ | exact at9_sT _ | exact at9_intt _ | exact at9_int _ | exact at9_lkTt _ | exact at9_lkT _ | exact at9_lkX _ | exact at9_lkS _ _ _ | exact at9_tog _ _ _ _ | exact at9_c3 _ | exact at9_fl _ | exact h9 _ my | exact h9 | (simp only [Cr.at9, Cr.at9s, List.map_cons, List.map_nil, at9_int, at9_intt, at9_lkT, at9_lkTt, at9_lkX, at9_lkS, at9_tog, at9_cT, at9_sT, Bool.and_true, Bool.and_self]; done) | fail) ?_ | refine Br.no h9 ?_ | refine go_rNum rfl ?_ | refine go_rTupOf rfl ?_ ?_ | refine go_rAre rfl ?_ rfl ?_ | refine go_rLk rfl ?_ ?_ | refine go_rCan rfl ?_ ?_ | refine go_rRow rfl ?_ ?_ | refine Br.yes hq ?_ | refine Br.no hq ?_ | refine Br.yes hqn ?_ | refine Br.no hqn ?_ | refine Br.yes h9c ?_ | refine Br.no h9c ?_ | refine Br.yes h9ab ?_ | refine Br.no h9ab ?_ | refine Br.yes h1 ?_ | refine Br.no h1 ?_ | fail)
              · conv => whnf
                refine lc_self (xs := [a, b]) (out := fun x => .bl (posN x)) 9 (Nat.le_refl _) (by simp) (fun x hx Y Z hY => ?_) (fun k hk => ?_)
                · repeat ((conv => whnf); first | (with_reducible refine And.intro ?_ ?_; rotate_left) | with_reducible refine Exists.intro _ (And.intro rfl ?_) | rw [h2] | rw [hq] | rw [all_map] | rw [hp] | rw [hen] | rw [hrow] | refine Br.yes rfl ?_ | refine Br.no rfl ?_ | refine Br.yes (by first | rfl | exact at9_cT _ | exact at9_sT _ | exact at9_intt _ | exact at9_int _ | exact at9_lkTt _ | exact at9_lkT _ | exact at9_lkX _ | exact at9_lkS _ _ _ | exact at9_tog _ _ _ _ | exact at9_c3 _ | exact at9_fl _ | exact h9 _ my | exact h9 | (simp only [Cr.at9, Cr.at9s, List.map_cons, List.map_nil, at9_int, at9_intt, at9_lkT, at9_lkTt, at9_lkX, at9_lkS, at9_tog, at9_cT, at9_sT, Bool.and_true, Bool.and_self]; done) | fail) ?_ | refine Br.no h9 ?_ | refine go_rNum rfl ?_ | refine go_rTupOf rfl ?_ ?_ | refine go_rAre rfl ?_ rfl ?_ | refine go_rLk rfl ?_ ?_ | refine go_rCan rfl ?_ ?_ | refine go_rRow rfl ?_ ?_ | refine Br.yes hq ?_ | refine Br.no hq ?_ | refine Br.yes hqn ?_ | refine Br.no hqn ?_ | refine Br.yes h9c ?_ | refine Br.no h9c ?_ | refine Br.yes h9ab ?_ | refine Br.no h9ab ?_ | refine Br.yes h1 ?_ | refine Br.no h1 ?_ | fail)
                  · cases x with
                    | int i =>
                      refine Br.yes rfl ?_
                      repeat ((conv => whnf); first | (with_reducible refine And.intro ?_ ?_; rotate_left) | with_reducible refine Exists.intro _ (And.intro rfl ?_) | rw [h2] | rw [hq] | rw [all_map] | rw [hp] | rw [hen] | rw [hrow] | refine Br.yes rfl ?_ | refine Br.no rfl ?_ | refine Br.yes (by first | rfl | exact at9_cT _ | exact at9_sT _ | exact at9_intt _ | exact at9_int _ | exact at9_lkTt _ | exact at9_lkT _ | exact at9_lkX _ | exact at9_lkS _ _ _ | exact at9_tog _ _ _ _ | exact at9_c3 _ | exact at9_fl _ | exact h9 _ my | exact h9 | (simp only [Cr.at9, Cr.at9s, List.map_cons, List.map_nil, at9_int, at9_intt, at9_lkT, at9_lkTt, at9_lkX, at9_lkS, at9_tog, at9_cT, at9_sT, Bool.and_true, Bool.and_self]; done) | fail) ?_ | refine Br.no h9 ?_ | refine go_rNum rfl ?_ | refine go_rTupOf rfl ?_ ?_ | refine go_rAre rfl ?_ rfl ?_ | refine go_rLk rfl ?_ ?_ | refine go_rCan rfl ?_ ?_ | refine go_rRow rfl ?_ ?_ | refine Br.yes hq ?_ | refine Br.no hq ?_ | refine Br.yes hqn ?_ | refine Br.no hqn ?_ | refine Br.yes h9c ?_ | refine Br.no h9c ?_ | refine Br.yes h9ab ?_ | refine Br.no h9ab ?_ | refine Br.yes h1 ?_ | refine Br.no h1 ?_ | fail)
                      · conv => whnf
                        exact hY _ _ (by first | (simp [wipeE_set, wipeE_idem]; done) | (simp [wipeE]; done) | rfl) (Nat.le_refl _)
                      all_goals first | exact fits_of (by omega) | exact fits_of (by simp; omega) | (simp [dep]; done) | (with_reducible exact rfl) | assumption | exact trivial | exact Nat.le_of_ble_eq_true rfl | exact okM_le (Nat.le_of_ble_eq_true rfl) | exact ⟨rfl, rfl⟩ | exact fits_of (Nat.le_of_ble_eq_true rfl) | exact fun d hd => by (obtain ⟨_, _, rfl⟩ := List.mem_map.mp hd; exact trivial) | (refine fits_of ?_; simp; omega) | exact ⟨Nat.le_of_ble_eq_true rfl, Nat.le_of_ble_eq_true rfl⟩ | exact ⟨by decide, by decide⟩ | (dsimp only; exact ⟨by decide, by decide⟩) | omega | exact rfl
                    | _ =>
                      refine Br.no rfl ?_
                      conv => whnf
                      exact hY _ _ (by first | (simp [wipeE_set, wipeE_idem]; done) | (simp [wipeE]; done) | rfl) (Nat.le_refl _)
                  all_goals first | exact fits_of (by omega) | exact fits_of (by simp; omega) | (simp [dep]; done) | (with_reducible exact rfl) | assumption | exact trivial | exact Nat.le_of_ble_eq_true rfl | exact okM_le (Nat.le_of_ble_eq_true rfl) | exact ⟨rfl, rfl⟩ | exact fits_of (Nat.le_of_ble_eq_true rfl) | exact fun d hd => by (obtain ⟨_, _, rfl⟩ := List.mem_map.mp hd; exact trivial) | (refine fits_of ?_; simp; omega) | exact ⟨Nat.le_of_ble_eq_true rfl, Nat.le_of_ble_eq_true rfl⟩ | exact ⟨by decide, by decide⟩ | (dsimp only; exact ⟨by decide, by decide⟩) | omega | exact rfl
                · repeat ((conv => whnf); first | (with_reducible refine And.intro ?_ ?_; rotate_left) | with_reducible refine Exists.intro _ (And.intro rfl ?_) | rw [h2] | rw [hq] | rw [all_map] | rw [hp] | rw [hen] | rw [hrow] | refine Br.yes rfl ?_ | refine Br.no rfl ?_ | refine Br.yes (by first | rfl | exact at9_cT _ | exact at9_sT _ | exact at9_intt _ | exact at9_int _ | exact at9_lkTt _ | exact at9_lkT _ | exact at9_lkX _ | exact at9_lkS _ _ _ | exact at9_tog _ _ _ _ | exact at9_c3 _ | exact at9_fl _ | exact h9 _ my | exact h9 | (simp only [Cr.at9, Cr.at9s, List.map_cons, List.map_nil, at9_int, at9_intt, at9_lkT, at9_lkTt, at9_lkX, at9_lkS, at9_tog, at9_cT, at9_sT, Bool.and_true, Bool.and_self]; done) | fail) ?_ | refine Br.no h9 ?_ | refine go_rNum rfl ?_ | refine go_rTupOf rfl ?_ ?_ | refine go_rAre rfl ?_ rfl ?_ | refine go_rLk rfl ?_ ?_ | refine go_rCan rfl ?_ ?_ | refine go_rRow rfl ?_ ?_ | refine Br.yes hq ?_ | refine Br.no hq ?_ | refine Br.yes hqn ?_ | refine Br.no hqn ?_ | refine Br.yes h9c ?_ | refine Br.no h9c ?_ | refine Br.yes h9ab ?_ | refine Br.no h9ab ?_ | refine Br.yes h1 ?_ | refine Br.no h1 ?_ | fail)
                  · show D.bl false = D.bl _
                    rw [isCan_pos hp]
                  all_goals first | exact fits_of (by omega) | exact fits_of (by simp; omega) | (simp [dep]; done) | (with_reducible exact rfl) | assumption | exact trivial | exact Nat.le_of_ble_eq_true rfl | exact okM_le (Nat.le_of_ble_eq_true rfl) | exact ⟨rfl, rfl⟩ | exact fits_of (Nat.le_of_ble_eq_true rfl) | exact fun d hd => by (obtain ⟨_, _, rfl⟩ := List.mem_map.mp hd; exact trivial) | (refine fits_of ?_; simp; omega) | exact ⟨Nat.le_of_ble_eq_true rfl, Nat.le_of_ble_eq_true rfl⟩ | exact ⟨by decide, by decide⟩ | (dsimp only; exact ⟨by decide, by decide⟩) | omega | exact rfl
              all_goals first | exact fits_of (by omega) | exact fits_of (by simp; omega) | (simp [dep]; done) | (with_reducible exact rfl) | assumption | exact trivial | exact Nat.le_of_ble_eq_true rfl | exact okM_le (Nat.le_of_ble_eq_true rfl) | exact ⟨rfl, rfl⟩ | exact fits_of (Nat.le_of_ble_eq_true rfl) | exact fun d hd => by (obtain ⟨_, _, rfl⟩ := List.mem_map.mp hd; exact trivial) | (refine fits_of ?_; simp; omega) | exact ⟨Nat.le_of_ble_eq_true rfl, Nat.le_of_ble_eq_true rfl⟩ | exact ⟨by decide, by decide⟩ | (dsimp only; exact ⟨by decide, by decide⟩) | omega | exact rfl
            | true =>
              repeat ((conv => whnf); first | (with_reducible refine And.intro ?_ ?_; rotate_left) | with_reducible refine Exists.intro _ (And.intro rfl ?_) | rw [h2] | rw [hq] | rw [all_map] | rw [hp] | rw [hen] | rw [hrow] | refine Br.yes rfl ?_ | refine Br.no rfl ?_ | refine Br.yes (by first | rfl | exact at9_cT _ | exact at9_sT _ | exact at9_intt _ | exact at9_int _ | exact at9_lkTt _ | exact at9_lkT _ | exact at9_lkX _ | exact at9_lkS _ _ _ | exact at9_tog _ _ _ _ | exact at9_c3 _ | exact at9_fl _ | exact h9 _ my | exact h9 | (simp only [Cr.at9, Cr.at9s, List.map_cons, List.map_nil, at9_int, at9_intt, at9_lkT, at9_lkTt, at9_lkX, at9_lkS, at9_tog, at9_cT, at9_sT, Bool.and_true, Bool.and_self]; done) | fail) ?_ | refine Br.no h9 ?_ | refine go_rNum rfl ?_ | refine go_rTupOf rfl ?_ ?_ | refine go_rAre rfl ?_ rfl ?_ | refine go_rLk rfl ?_ ?_ | refine go_rCan rfl ?_ ?_ | refine go_rRow rfl ?_ ?_ | refine Br.yes hq ?_ | refine Br.no hq ?_ | refine Br.yes hqn ?_ | refine Br.no hqn ?_ | refine Br.yes h9c ?_ | refine Br.no h9c ?_ | refine Br.yes h9ab ?_ | refine Br.no h9ab ?_ | refine Br.yes h1 ?_ | refine Br.no h1 ?_ | fail)
              · conv => whnf
                refine lc_self (xs := [a, b]) (out := fun x => .bl (posN x)) 9 (Nat.le_refl _) (by simp) (fun x hx Y Z hY => ?_) (fun k hk => ?_)
                · repeat ((conv => whnf); first | (with_reducible refine And.intro ?_ ?_; rotate_left) | with_reducible refine Exists.intro _ (And.intro rfl ?_) | rw [h2] | rw [hq] | rw [all_map] | rw [hp] | rw [hen] | rw [hrow] | refine Br.yes rfl ?_ | refine Br.no rfl ?_ | refine Br.yes (by first | rfl | exact at9_cT _ | exact at9_sT _ | exact at9_intt _ | exact at9_int _ | exact at9_lkTt _ | exact at9_lkT _ | exact at9_lkX _ | exact at9_lkS _ _ _ | exact at9_tog _ _ _ _ | exact at9_c3 _ | exact at9_fl _ | exact h9 _ my | exact h9 | (simp only [Cr.at9, Cr.at9s, List.map_cons, List.map_nil, at9_int, at9_intt, at9_lkT, at9_lkTt, at9_lkX, at9_lkS, at9_tog, at9_cT, at9_sT, Bool.and_true, Bool.and_self]; done) | fail) ?_ | refine Br.no h9 ?_ | refine go_rNum rfl ?_ | refine go_rTupOf rfl ?_ ?_ | refine go_rAre rfl ?_ rfl ?_ | refine go_rLk rfl ?_ ?_ | refine go_rCan rfl ?_ ?_ | refine go_rRow rfl ?_ ?_ | refine Br.yes hq ?_ | refine Br.no hq ?_ | refine Br.yes hqn ?_ | refine Br.no hqn ?_ | refine Br.yes h9c ?_ | refine Br.no h9c ?_ | refine Br.yes h9ab ?_ | refine Br.no h9ab ?_ | refine Br.yes h1 ?_ | refine Br.no h1 ?_ | fail)
                  · cases x with
                    | int i =>
                      refine Br.yes rfl ?_
                      repeat ((conv => whnf); first | (with_reducible refine And.intro ?_ ?_; rotate_left) | with_reducible refine Exists.intro _ (And.intro rfl ?_) | rw [h2] | rw [hq] | rw [all_map] | rw [hp] | rw [hen] | rw [hrow] | refine Br.yes rfl ?_ | refine Br.no rfl ?_ | refine Br.yes (by first | rfl | exact at9_cT _ | exact at9_sT _ | exact at9_intt _ | exact at9_int _ | exact at9_lkTt _ | exact at9_lkT _ | exact at9_lkX _ | exact at9_lkS _ _ _ | exact at9_tog _ _ _ _ | exact at9_c3 _ | exact at9_fl _ | exact h9 _ my | exact h9 | (simp only [Cr.at9, Cr.at9s, List.map_cons, List.map_nil, at9_int, at9_intt, at9_lkT, at9_lkTt, at9_lkX, at9_lkS, at9_tog, at9_cT, at9_sT, Bool.and_true, Bool.and_self]; done) | fail) ?_ | refine Br.no h9 ?_ | refine go_rNum rfl ?_ | refine go_rTupOf rfl ?_ ?_ | refine go_rAre rfl ?_ rfl ?_ | refine go_rLk rfl ?_ ?_ | refine go_rCan rfl ?_ ?_ | refine go_rRow rfl ?_ ?_ | refine Br.yes hq ?_ | refine Br.no hq ?_ | refine Br.yes hqn ?_ | refine Br.no hqn ?_ | refine Br.yes h9c ?_ | refine Br.no h9c ?_ | refine Br.yes h9ab ?_ | refine Br.no h9ab ?_ | refine Br.yes h1 ?_ | refine Br.no h1 ?_ | fail)
                      · conv => whnf
                        exact hY _ _ (by first | (simp [wipeE_set, wipeE_idem]; done) | (simp [wipeE]; done) | rfl) (Nat.le_refl _)
                      all_goals first | exact fits_of (by omega) | exact fits_of (by simp; omega) | (simp [dep]; done) | (with_reducible exact rfl) | assumption | exact trivial | exact Nat.le_of_ble_eq_true rfl | exact okM_le (Nat.le_of_ble_eq_true rfl) | exact ⟨rfl, rfl⟩ | exact fits_of (Nat.le_of_ble_eq_true rfl) | exact fun d hd => by (obtain ⟨_, _, rfl⟩ := List.mem_map.mp hd; exact trivial) | (refine fits_of ?_; simp; omega) | exact ⟨Nat.le_of_ble_eq_true rfl, Nat.le_of_ble_eq_true rfl⟩ | exact ⟨by decide, by decide⟩ | (dsimp only; exact ⟨by decide, by decide⟩) | omega | exact rfl
                    | _ =>
                      refine Br.no rfl ?_
                      conv => whnf
                      exact hY _ _ (by first | (simp [wipeE_set, wipeE_idem]; done) | (simp [wipeE]; done) | rfl) (Nat.le_refl _)
                  all_goals first | exact fits_of (by omega) | exact fits_of (by simp; omega) | (simp [dep]; done) | (with_reducible exact rfl) | assumption | exact trivial | exact Nat.le_of_ble_eq_true rfl | exact okM_le (Nat.le_of_ble_eq_true rfl) | exact ⟨rfl, rfl⟩ | exact fits_of (Nat.le_of_ble_eq_true rfl) | exact fun d hd => by (obtain ⟨_, _, rfl⟩ := List.mem_map.mp hd; exact trivial) | (refine fits_of ?_; simp; omega) | exact ⟨Nat.le_of_ble_eq_true rfl, Nat.le_of_ble_eq_true rfl⟩ | exact ⟨by decide, by decide⟩ | (dsimp only; exact ⟨by decide, by decide⟩) | omega | exact rfl
                · have hp2 : (posN a && (posN b && true)) = true := hp
                  rw [Bool.and_eq_true, Bool.and_eq_true] at hp2
                  obtain ⟨r, rfl, hr0⟩ := posN_true hp2.1
                  obtain ⟨q, rfl, hq0⟩ := posN_true hp2.2.1
                  have hcan := isCan_pp (ls := ls) hr0 hq0
                  repeat ((conv => whnf); first | (with_reducible refine And.intro ?_ ?_; rotate_left) | with_reducible refine Exists.intro _ (And.intro rfl ?_) | rw [h2] | rw [hq] | rw [all_map] | rw [hp] | rw [hen] | rw [hrow] | refine Br.yes rfl ?_ | refine Br.no rfl ?_ | refine Br.yes (by first | rfl | exact at9_cT _ | exact at9_sT _ | exact at9_intt _ | exact at9_int _ | exact at9_lkTt _ | exact at9_lkT _ | exact at9_lkX _ | exact at9_lkS _ _ _ | exact at9_tog _ _ _ _ | exact at9_c3 _ | exact at9_fl _ | exact h9 _ my | exact h9 | (simp only [Cr.at9, Cr.at9s, List.map_cons, List.map_nil, at9_int, at9_intt, at9_lkT, at9_lkTt, at9_lkX, at9_lkS, at9_tog, at9_cT, at9_sT, Bool.and_true, Bool.and_self]; done) | fail) ?_ | refine Br.no h9 ?_ | refine go_rNum rfl ?_ | refine go_rTupOf rfl ?_ ?_ | refine go_rAre rfl ?_ rfl ?_ | refine go_rLk rfl ?_ ?_ | refine go_rCan rfl ?_ ?_ | refine go_rRow rfl ?_ ?_ | refine Br.yes hq ?_ | refine Br.no hq ?_ | refine Br.yes hqn ?_ | refine Br.no hqn ?_ | refine Br.yes h9c ?_ | refine Br.no h9c ?_ | refine Br.yes h9ab ?_ | refine Br.no h9ab ?_ | refine Br.yes h1 ?_ | refine Br.no h1 ?_ | fail)
                  · conv => whnf
                    refine for_by (fun i env => ∃ (k0 k1 : Nat) (e2 e4 e5 : Slot), env = [some (k0, .tup [.int r, .int q, .tup ls]), some (k1, .tup [.int r, .int q]), e2, none, e4, e5] ∧ ∀ x ∈ ls.take i, isLk r q x = true) ⟨_, _, _, _, _, rfl, fun x hx => by simp at hx⟩ (fun i x env hd hI Y hY => ?_) (fun env hI => ?_)
                    · obtain ⟨k0, k1, e2, e4, e5, rfl, hall⟩ := hI
                      have hx : x ∈ ls := List.mem_of_getElem? hd
                      have hox : okd x := okds_mem (okd_tups (okds_mem hoks (by simp))) hx
                      cases hrow : isRow 4 x with
                      | false =>
                        repeat ((conv => whnf); first | (with_reducible refine And.intro ?_ ?_; rotate_left) | with_reducible refine Exists.intro _ (And.intro rfl ?_) | rw [h2] | rw [hq] | rw [all_map] | rw [hp] | rw [hen] | rw [hrow] | refine Br.yes rfl ?_ | refine Br.no rfl ?_ | refine Br.yes (by first | rfl | exact at9_cT _ | exact at9_sT _ | exact at9_intt _ | exact at9_int _ | exact at9_lkTt _ | exact at9_lkT _ | exact at9_lkX _ | exact at9_lkS _ _ _ | exact at9_tog _ _ _ _ | exact at9_c3 _ | exact at9_fl _ | exact h9 _ my | exact h9 | (simp only [Cr.at9, Cr.at9s, List.map_cons, List.map_nil, at9_int, at9_intt, at9_lkT, at9_lkTt, at9_lkX, at9_lkS, at9_tog, at9_cT, at9_sT, Bool.and_true, Bool.and_self]; done) | fail) ?_ | refine Br.no h9 ?_ | refine go_rNum rfl ?_ | refine go_rTupOf rfl ?_ ?_ | refine go_rAre rfl ?_ rfl ?_ | refine go_rLk rfl ?_ ?_ | refine go_rCan rfl ?_ ?_ | refine go_rRow rfl ?_ ?_ | refine Br.yes hq ?_ | refine Br.no hq ?_ | refine Br.yes hqn ?_ | refine Br.no hqn ?_ | refine Br.yes h9c ?_ | refine Br.no h9c ?_ | refine Br.yes h9ab ?_ | refine Br.no h9ab ?_ | refine Br.yes h1 ?_ | refine Br.no h1 ?_ | fail)
                        · show D.bl false = D.bl _
                          rw [hcan, all_false hx (isLk_row hrow)]
                        all_goals first | exact fits_of (by omega) | exact fits_of (by simp; omega) | (simp [dep]; done) | (with_reducible exact rfl) | assumption | exact trivial | exact Nat.le_of_ble_eq_true rfl | exact okM_le (Nat.le_of_ble_eq_true rfl) | exact ⟨rfl, rfl⟩ | exact fits_of (Nat.le_of_ble_eq_true rfl) | exact fun d hd => by (obtain ⟨_, _, rfl⟩ := List.mem_map.mp hd; exact trivial) | (refine fits_of ?_; simp; omega) | exact ⟨Nat.le_of_ble_eq_true rfl, Nat.le_of_ble_eq_true rfl⟩ | exact ⟨by decide, by decide⟩ | (dsimp only; exact ⟨by decide, by decide⟩) | omega | exact rfl
                      | true =>
                        obtain ⟨a, b, c, e, rfl⟩ := isRow4 hrow
                        have hlk := isLk_ends (r := r) (q := q) (a := a) (b := b) (c := c) (e := e)
                        cases hen : [((0 : Int), a), (1, b), (2, c), (3, e)].all (endP r q) with
                        | false =>
                          repeat ((conv => whnf); first | (with_reducible refine And.intro ?_ ?_; rotate_left) | with_reducible refine Exists.intro _ (And.intro rfl ?_) | rw [h2] | rw [hq] | rw [all_map] | rw [hp] | rw [hen] | rw [hrow] | refine Br.yes rfl ?_ | refine Br.no rfl ?_ | refine Br.yes (by first | rfl | exact at9_cT _ | exact at9_sT _ | exact at9_intt _ | exact at9_int _ | exact at9_lkTt _ | exact at9_lkT _ | exact at9_lkX _ | exact at9_lkS _ _ _ | exact at9_tog _ _ _ _ | exact at9_c3 _ | exact at9_fl _ | exact h9 _ my | exact h9 | (simp only [Cr.at9, Cr.at9s, List.map_cons, List.map_nil, at9_int, at9_intt, at9_lkT, at9_lkTt, at9_lkX, at9_lkS, at9_tog, at9_cT, at9_sT, Bool.and_true, Bool.and_self]; done) | fail) ?_ | refine Br.no h9 ?_ | refine go_rNum rfl ?_ | refine go_rTupOf rfl ?_ ?_ | refine go_rAre rfl ?_ rfl ?_ | refine go_rLk rfl ?_ ?_ | refine go_rCan rfl ?_ ?_ | refine go_rRow rfl ?_ ?_ | refine Br.yes hq ?_ | refine Br.no hq ?_ | refine Br.yes hqn ?_ | refine Br.no hqn ?_ | refine Br.yes h9c ?_ | refine Br.no h9c ?_ | refine Br.yes h9ab ?_ | refine Br.no h9ab ?_ | refine Br.yes h1 ?_ | refine Br.no h1 ?_ | fail)
                          · conv => whnf
                            refine lc_map (xs := [((0 : Int), a), (1, b), (2, c), (3, e)]) (enc := fun p => .tup [.int p.1, .int p.2]) (out := fun p => .bl (endP r q p)) (Nat.le_of_ble_eq_true rfl) (fun p hp Y2 Z2 hY2 => ?_) ?_
                            · simp only [List.mem_cons, List.not_mem_nil, or_false] at hp
                              rcases hp with rfl | rfl | rfl | rfl
                              · cases h1 : decide ((0 : Int) ≤ a) with
                                | false =>
                                  have e1 : endP r q (0, a) = false := by show (decide ((0 : Int) ≤ a) && _) = _; rw [h1]; rfl
                                  repeat ((conv => whnf); first | (with_reducible refine And.intro ?_ ?_; rotate_left) | with_reducible refine Exists.intro _ (And.intro rfl ?_) | rw [h2] | rw [hq] | rw [all_map] | rw [hp] | rw [hen] | rw [hrow] | refine Br.yes rfl ?_ | refine Br.no rfl ?_ | refine Br.yes (by first | rfl | exact at9_cT _ | exact at9_sT _ | exact at9_intt _ | exact at9_int _ | exact at9_lkTt _ | exact at9_lkT _ | exact at9_lkX _ | exact at9_lkS _ _ _ | exact at9_tog _ _ _ _ | exact at9_c3 _ | exact at9_fl _ | exact h9 _ my | exact h9 | (simp only [Cr.at9, Cr.at9s, List.map_cons, List.map_nil, at9_int, at9_intt, at9_lkT, at9_lkTt, at9_lkX, at9_lkS, at9_tog, at9_cT, at9_sT, Bool.and_true, Bool.and_self]; done) | fail) ?_ | refine Br.no h9 ?_ | refine go_rNum rfl ?_ | refine go_rTupOf rfl ?_ ?_ | refine go_rAre rfl ?_ rfl ?_ | refine go_rLk rfl ?_ ?_ | refine go_rCan rfl ?_ ?_ | refine go_rRow rfl ?_ ?_ | refine Br.yes hq ?_ | refine Br.no hq ?_ | refine Br.yes hqn ?_ | refine Br.no hqn ?_ | refine Br.yes h9c ?_ | refine Br.no h9c ?_ | refine Br.yes h9ab ?_ | refine Br.no h9ab ?_ | refine Br.yes h1 ?_ | refine Br.no h1 ?_ | fail)
                                  · conv => whnf
                                    show Y2 9 (D.bl false) _
                                    rw [← e1]
                                    exact hY2 _ _ (by first | (simp [wipeE_set, wipeE_idem]; done) | (simp [wipeE]; done) | rfl) (Nat.le_refl _)
                                  all_goals first | exact fits_of (by omega) | exact fits_of (by simp; omega) | (simp [dep]; done) | (with_reducible exact rfl) | assumption | exact trivial | exact Nat.le_of_ble_eq_true rfl | exact okM_le (Nat.le_of_ble_eq_true rfl) | exact ⟨rfl, rfl⟩ | exact fits_of (Nat.le_of_ble_eq_true rfl) | exact fun d hd => by (obtain ⟨_, _, rfl⟩ := List.mem_map.mp hd; exact trivial) | (refine fits_of ?_; simp; omega) | exact ⟨Nat.le_of_ble_eq_true rfl, Nat.le_of_ble_eq_true rfl⟩ | exact ⟨by decide, by decide⟩ | (dsimp only; exact ⟨by decide, by decide⟩) | omega | exact rfl
                                | true =>
                                  have e1 : endP r q (0, a) = decide (a < r) := by show (decide ((0 : Int) ≤ a) && _) = _; rw [h1]; rfl
                                  repeat ((conv => whnf); first | (with_reducible refine And.intro ?_ ?_; rotate_left) | with_reducible refine Exists.intro _ (And.intro rfl ?_) | rw [h2] | rw [hq] | rw [all_map] | rw [hp] | rw [hen] | rw [hrow] | refine Br.yes rfl ?_ | refine Br.no rfl ?_ | refine Br.yes (by first | rfl | exact at9_cT _ | exact at9_sT _ | exact at9_intt _ | exact at9_int _ | exact at9_lkTt _ | exact at9_lkT _ | exact at9_lkX _ | exact at9_lkS _ _ _ | exact at9_tog _ _ _ _ | exact at9_c3 _ | exact at9_fl _ | exact h9 _ my | exact h9 | (simp only [Cr.at9, Cr.at9s, List.map_cons, List.map_nil, at9_int, at9_intt, at9_lkT, at9_lkTt, at9_lkX, at9_lkS, at9_tog, at9_cT, at9_sT, Bool.and_true, Bool.and_self]; done) | fail) ?_ | refine Br.no h9 ?_ | refine go_rNum rfl ?_ | refine go_rTupOf rfl ?_ ?_ | refine go_rAre rfl ?_ rfl ?_ | refine go_rLk rfl ?_ ?_ | refine go_rCan rfl ?_ ?_ | refine go_rRow rfl ?_ ?_ | refine Br.yes hq ?_ | refine Br.no hq ?_ | refine Br.yes hqn ?_ | refine Br.no hqn ?_ | refine Br.yes h9c ?_ | refine Br.no h9c ?_ | refine Br.yes h9ab ?_ | refine Br.no h9ab ?_ | refine Br.yes h1 ?_ | refine Br.no h1 ?_ | fail)
                                  · conv => whnf
                                    show Y2 9 (D.bl (decide (a < r))) _
                                    rw [← e1]
                                    exact hY2 _ _ (by first | (simp [wipeE_set, wipeE_idem]; done) | (simp [wipeE]; done) | rfl) (Nat.le_refl _)
                                  all_goals first | exact fits_of (by omega) | exact fits_of (by simp; omega) | (simp [dep]; done) | (with_reducible exact rfl) | assumption | exact trivial | exact Nat.le_of_ble_eq_true rfl | exact okM_le (Nat.le_of_ble_eq_true rfl) | exact ⟨rfl, rfl⟩ | exact fits_of (Nat.le_of_ble_eq_true rfl) | exact fun d hd => by (obtain ⟨_, _, rfl⟩ := List.mem_map.mp hd; exact trivial) | (refine fits_of ?_; simp; omega) | exact ⟨Nat.le_of_ble_eq_true rfl, Nat.le_of_ble_eq_true rfl⟩ | exact ⟨by decide, by decide⟩ | (dsimp only; exact ⟨by decide, by decide⟩) | omega | exact rfl
                              · cases h1 : decide ((0 : Int) ≤ b) with
                                | false =>
                                  have e1 : endP r q (1, b) = false := by show (decide ((0 : Int) ≤ b) && _) = _; rw [h1]; rfl
                                  repeat ((conv => whnf); first | (with_reducible refine And.intro ?_ ?_; rotate_left) | with_reducible refine Exists.intro _ (And.intro rfl ?_) | rw [h2] | rw [hq] | rw [all_map] | rw [hp] | rw [hen] | rw [hrow] | refine Br.yes rfl ?_ | refine Br.no rfl ?_ | refine Br.yes (by first | rfl | exact at9_cT _ | exact at9_sT _ | exact at9_intt _ | exact at9_int _ | exact at9_lkTt _ | exact at9_lkT _ | exact at9_lkX _ | exact at9_lkS _ _ _ | exact at9_tog _ _ _ _ | exact at9_c3 _ | exact at9_fl _ | exact h9 _ my | exact h9 | (simp only [Cr.at9, Cr.at9s, List.map_cons, List.map_nil, at9_int, at9_intt, at9_lkT, at9_lkTt, at9_lkX, at9_lkS, at9_tog, at9_cT, at9_sT, Bool.and_true, Bool.and_self]; done) | fail) ?_ | refine Br.no h9 ?_ | refine go_rNum rfl ?_ | refine go_rTupOf rfl ?_ ?_ | refine go_rAre rfl ?_ rfl ?_ | refine go_rLk rfl ?_ ?_ | refine go_rCan rfl ?_ ?_ | refine go_rRow rfl ?_ ?_ | refine Br.yes hq ?_ | refine Br.no hq ?_ | refine Br.yes hqn ?_ | refine Br.no hqn ?_ | refine Br.yes h9c ?_ | refine Br.no h9c ?_ | refine Br.yes h9ab ?_ | refine Br.no h9ab ?_ | refine Br.yes h1 ?_ | refine Br.no h1 ?_ | fail)
                                  · conv => whnf
                                    show Y2 9 (D.bl false) _
                                    rw [← e1]
                                    exact hY2 _ _ (by first | (simp [wipeE_set, wipeE_idem]; done) | (simp [wipeE]; done) | rfl) (Nat.le_refl _)
                                  all_goals first | exact fits_of (by omega) | exact fits_of (by simp; omega) | (simp [dep]; done) | (with_reducible exact rfl) | assumption | exact trivial | exact Nat.le_of_ble_eq_true rfl | exact okM_le (Nat.le_of_ble_eq_true rfl) | exact ⟨rfl, rfl⟩ | exact fits_of (Nat.le_of_ble_eq_true rfl) | exact fun d hd => by (obtain ⟨_, _, rfl⟩ := List.mem_map.mp hd; exact trivial) | (refine fits_of ?_; simp; omega) | exact ⟨Nat.le_of_ble_eq_true rfl, Nat.le_of_ble_eq_true rfl⟩ | exact ⟨by decide, by decide⟩ | (dsimp only; exact ⟨by decide, by decide⟩) | omega | exact rfl
                                | true =>
                                  have e1 : endP r q (1, b) = decide (b < r) := by show (decide ((0 : Int) ≤ b) && _) = _; rw [h1]; rfl
                                  repeat ((conv => whnf); first | (with_reducible refine And.intro ?_ ?_; rotate_left) | with_reducible refine Exists.intro _ (And.intro rfl ?_) | rw [h2] | rw [hq] | rw [all_map] | rw [hp] | rw [hen] | rw [hrow] | refine Br.yes rfl ?_ | refine Br.no rfl ?_ | refine Br.yes (by first | rfl | exact at9_cT _ | exact at9_sT _ | exact at9_intt _ | exact at9_int _ | exact at9_lkTt _ | exact at9_lkT _ | exact at9_lkX _ | exact at9_lkS _ _ _ | exact at9_tog _ _ _ _ | exact at9_c3 _ | exact at9_fl _ | exact h9 _ my | exact h9 | (simp only [Cr.at9, Cr.at9s, List.map_cons, List.map_nil, at9_int, at9_intt, at9_lkT, at9_lkTt, at9_lkX, at9_lkS, at9_tog, at9_cT, at9_sT, Bool.and_true, Bool.and_self]; done) | fail) ?_ | refine Br.no h9 ?_ | refine go_rNum rfl ?_ | refine go_rTupOf rfl ?_ ?_ | refine go_rAre rfl ?_ rfl ?_ | refine go_rLk rfl ?_ ?_ | refine go_rCan rfl ?_ ?_ | refine go_rRow rfl ?_ ?_ | refine Br.yes hq ?_ | refine Br.no hq ?_ | refine Br.yes hqn ?_ | refine Br.no hqn ?_ | refine Br.yes h9c ?_ | refine Br.no h9c ?_ | refine Br.yes h9ab ?_ | refine Br.no h9ab ?_ | refine Br.yes h1 ?_ | refine Br.no h1 ?_ | fail)
                                  · conv => whnf
                                    show Y2 9 (D.bl (decide (b < r))) _
                                    rw [← e1]
                                    exact hY2 _ _ (by first | (simp [wipeE_set, wipeE_idem]; done) | (simp [wipeE]; done) | rfl) (Nat.le_refl _)
                                  all_goals first | exact fits_of (by omega) | exact fits_of (by simp; omega) | (simp [dep]; done) | (with_reducible exact rfl) | assumption | exact trivial | exact Nat.le_of_ble_eq_true rfl | exact okM_le (Nat.le_of_ble_eq_true rfl) | exact ⟨rfl, rfl⟩ | exact fits_of (Nat.le_of_ble_eq_true rfl) | exact fun d hd => by (obtain ⟨_, _, rfl⟩ := List.mem_map.mp hd; exact trivial) | (refine fits_of ?_; simp; omega) | exact ⟨Nat.le_of_ble_eq_true rfl, Nat.le_of_ble_eq_true rfl⟩ | exact ⟨by decide, by decide⟩ | (dsimp only; exact ⟨by decide, by decide⟩) | omega | exact rfl
                              · cases h1 : decide ((0 : Int) ≤ c) with
                                | false =>
                                  have e1 : endP r q (2, c) = false := by show (decide ((0 : Int) ≤ c) && _) = _; rw [h1]; rfl
                                  repeat ((conv => whnf); first | (with_reducible refine And.intro ?_ ?_; rotate_left) | with_reducible refine Exists.intro _ (And.intro rfl ?_) | rw [h2] | rw [hq] | rw [all_map] | rw [hp] | rw [hen] | rw [hrow] | refine Br.yes rfl ?_ | refine Br.no rfl ?_ | refine Br.yes (by first | rfl | exact at9_cT _ | exact at9_sT _ | exact at9_intt _ | exact at9_int _ | exact at9_lkTt _ | exact at9_lkT _ | exact at9_lkX _ | exact at9_lkS _ _ _ | exact at9_tog _ _ _ _ | exact at9_c3 _ | exact at9_fl _ | exact h9 _ my | exact h9 | (simp only [Cr.at9, Cr.at9s, List.map_cons, List.map_nil, at9_int, at9_intt, at9_lkT, at9_lkTt, at9_lkX, at9_lkS, at9_tog, at9_cT, at9_sT, Bool.and_true, Bool.and_self]; done) | fail) ?_ | refine Br.no h9 ?_ | refine go_rNum rfl ?_ | refine go_rTupOf rfl ?_ ?_ | refine go_rAre rfl ?_ rfl ?_ | refine go_rLk rfl ?_ ?_ | refine go_rCan rfl ?_ ?_ | refine go_rRow rfl ?_ ?_ | refine Br.yes hq ?_ | refine Br.no hq ?_ | refine Br.yes hqn ?_ | refine Br.no hqn ?_ | refine Br.yes h9c ?_ | refine Br.no h9c ?_ | refine Br.yes h9ab ?_ | refine Br.no h9ab ?_ | refine Br.yes h1 ?_ | refine Br.no h1 ?_ | fail)
                                  · conv => whnf
                                    show Y2 9 (D.bl false) _
                                    rw [← e1]
                                    exact hY2 _ _ (by first | (simp [wipeE_set, wipeE_idem]; done) | (simp [wipeE]; done) | rfl) (Nat.le_refl _)
                                  all_goals first | exact fits_of (by omega) | exact fits_of (by simp; omega) | (simp [dep]; done) | (with_reducible exact rfl) | assumption | exact trivial | exact Nat.le_of_ble_eq_true rfl | exact okM_le (Nat.le_of_ble_eq_true rfl) | exact ⟨rfl, rfl⟩ | exact fits_of (Nat.le_of_ble_eq_true rfl) | exact fun d hd => by (obtain ⟨_, _, rfl⟩ := List.mem_map.mp hd; exact trivial) | (refine fits_of ?_; simp; omega) | exact ⟨Nat.le_of_ble_eq_true rfl, Nat.le_of_ble_eq_true rfl⟩ | exact ⟨by decide, by decide⟩ | (dsimp only; exact ⟨by decide, by decide⟩) | omega | exact rfl
                                | true =>
                                  have e1 : endP r q (2, c) = decide (c < q) := by show (decide ((0 : Int) ≤ c) && _) = _; rw [h1]; rfl
                                  repeat ((conv => whnf); first | (with_reducible refine And.intro ?_ ?_; rotate_left) | with_reducible refine Exists.intro _ (And.intro rfl ?_) | rw [h2] | rw [hq] | rw [all_map] | rw [hp] | rw [hen] | rw [hrow] | refine Br.yes rfl ?_ | refine Br.no rfl ?_ | refine Br.yes (by first | rfl | exact at9_cT _ | exact at9_sT _ | exact at9_intt _ | exact at9_int _ | exact at9_lkTt _ | exact at9_lkT _ | exact at9_lkX _ | exact at9_lkS _ _ _ | exact at9_tog _ _ _ _ | exact at9_c3 _ | exact at9_fl _ | exact h9 _ my | exact h9 | (simp only [Cr.at9, Cr.at9s, List.map_cons, List.map_nil, at9_int, at9_intt, at9_lkT, at9_lkTt, at9_lkX, at9_lkS, at9_tog, at9_cT, at9_sT, Bool.and_true, Bool.and_self]; done) | fail) ?_ | refine Br.no h9 ?_ | refine go_rNum rfl ?_ | refine go_rTupOf rfl ?_ ?_ | refine go_rAre rfl ?_ rfl ?_ | refine go_rLk rfl ?_ ?_ | refine go_rCan rfl ?_ ?_ | refine go_rRow rfl ?_ ?_ | refine Br.yes hq ?_ | refine Br.no hq ?_ | refine Br.yes hqn ?_ | refine Br.no hqn ?_ | refine Br.yes h9c ?_ | refine Br.no h9c ?_ | refine Br.yes h9ab ?_ | refine Br.no h9ab ?_ | refine Br.yes h1 ?_ | refine Br.no h1 ?_ | fail)
                                  · conv => whnf
                                    show Y2 9 (D.bl (decide (c < q))) _
                                    rw [← e1]
                                    exact hY2 _ _ (by first | (simp [wipeE_set, wipeE_idem]; done) | (simp [wipeE]; done) | rfl) (Nat.le_refl _)
                                  all_goals first | exact fits_of (by omega) | exact fits_of (by simp; omega) | (simp [dep]; done) | (with_reducible exact rfl) | assumption | exact trivial | exact Nat.le_of_ble_eq_true rfl | exact okM_le (Nat.le_of_ble_eq_true rfl) | exact ⟨rfl, rfl⟩ | exact fits_of (Nat.le_of_ble_eq_true rfl) | exact fun d hd => by (obtain ⟨_, _, rfl⟩ := List.mem_map.mp hd; exact trivial) | (refine fits_of ?_; simp; omega) | exact ⟨Nat.le_of_ble_eq_true rfl, Nat.le_of_ble_eq_true rfl⟩ | exact ⟨by decide, by decide⟩ | (dsimp only; exact ⟨by decide, by decide⟩) | omega | exact rfl
                              · cases h1 : decide ((0 : Int) ≤ e) with
                                | false =>
                                  have e1 : endP r q (3, e) = false := by show (decide ((0 : Int) ≤ e) && _) = _; rw [h1]; rfl
                                  repeat ((conv => whnf); first | (with_reducible refine And.intro ?_ ?_; rotate_left) | with_reducible refine Exists.intro _ (And.intro rfl ?_) | rw [h2] | rw [hq] | rw [all_map] | rw [hp] | rw [hen] | rw [hrow] | refine Br.yes rfl ?_ | refine Br.no rfl ?_ | refine Br.yes (by first | rfl | exact at9_cT _ | exact at9_sT _ | exact at9_intt _ | exact at9_int _ | exact at9_lkTt _ | exact at9_lkT _ | exact at9_lkX _ | exact at9_lkS _ _ _ | exact at9_tog _ _ _ _ | exact at9_c3 _ | exact at9_fl _ | exact h9 _ my | exact h9 | (simp only [Cr.at9, Cr.at9s, List.map_cons, List.map_nil, at9_int, at9_intt, at9_lkT, at9_lkTt, at9_lkX, at9_lkS, at9_tog, at9_cT, at9_sT, Bool.and_true, Bool.and_self]; done) | fail) ?_ | refine Br.no h9 ?_ | refine go_rNum rfl ?_ | refine go_rTupOf rfl ?_ ?_ | refine go_rAre rfl ?_ rfl ?_ | refine go_rLk rfl ?_ ?_ | refine go_rCan rfl ?_ ?_ | refine go_rRow rfl ?_ ?_ | refine Br.yes hq ?_ | refine Br.no hq ?_ | refine Br.yes hqn ?_ | refine Br.no hqn ?_ | refine Br.yes h9c ?_ | refine Br.no h9c ?_ | refine Br.yes h9ab ?_ | refine Br.no h9ab ?_ | refine Br.yes h1 ?_ | refine Br.no h1 ?_ | fail)
                                  · conv => whnf
                                    show Y2 9 (D.bl false) _
                                    rw [← e1]
                                    exact hY2 _ _ (by first | (simp [wipeE_set, wipeE_idem]; done) | (simp [wipeE]; done) | rfl) (Nat.le_refl _)
                                  all_goals first | exact fits_of (by omega) | exact fits_of (by simp; omega) | (simp [dep]; done) | (with_reducible exact rfl) | assumption | exact trivial | exact Nat.le_of_ble_eq_true rfl | exact okM_le (Nat.le_of_ble_eq_true rfl) | exact ⟨rfl, rfl⟩ | exact fits_of (Nat.le_of_ble_eq_true rfl) | exact fun d hd => by (obtain ⟨_, _, rfl⟩ := List.mem_map.mp hd; exact trivial) | (refine fits_of ?_; simp; omega) | exact ⟨Nat.le_of_ble_eq_true rfl, Nat.le_of_ble_eq_true rfl⟩ | exact ⟨by decide, by decide⟩ | (dsimp only; exact ⟨by decide, by decide⟩) | omega | exact rfl
                                | true =>
                                  have e1 : endP r q (3, e) = decide (e < q) := by show (decide ((0 : Int) ≤ e) && _) = _; rw [h1]; rfl
                                  repeat ((conv => whnf); first | (with_reducible refine And.intro ?_ ?_; rotate_left) | with_reducible refine Exists.intro _ (And.intro rfl ?_) | rw [h2] | rw [hq] | rw [all_map] | rw [hp] | rw [hen] | rw [hrow] | refine Br.yes rfl ?_ | refine Br.no rfl ?_ | refine Br.yes (by first | rfl | exact at9_cT _ | exact at9_sT _ | exact at9_intt _ | exact at9_int _ | exact at9_lkTt _ | exact at9_lkT _ | exact at9_lkX _ | exact at9_lkS _ _ _ | exact at9_tog _ _ _ _ | exact at9_c3 _ | exact at9_fl _ | exact h9 _ my | exact h9 | (simp only [Cr.at9, Cr.at9s, List.map_cons, List.map_nil, at9_int, at9_intt, at9_lkT, at9_lkTt, at9_lkX, at9_lkS, at9_tog, at9_cT, at9_sT, Bool.and_true, Bool.and_self]; done) | fail) ?_ | refine Br.no h9 ?_ | refine go_rNum rfl ?_ | refine go_rTupOf rfl ?_ ?_ | refine go_rAre rfl ?_ rfl ?_ | refine go_rLk rfl ?_ ?_ | refine go_rCan rfl ?_ ?_ | refine go_rRow rfl ?_ ?_ | refine Br.yes hq ?_ | refine Br.no hq ?_ | refine Br.yes hqn ?_ | refine Br.no hqn ?_ | refine Br.yes h9c ?_ | refine Br.no h9c ?_ | refine Br.yes h9ab ?_ | refine Br.no h9ab ?_ | refine Br.yes h1 ?_ | refine Br.no h1 ?_ | fail)
                                  · conv => whnf
                                    show Y2 9 (D.bl (decide (e < q))) _
                                    rw [← e1]
                                    exact hY2 _ _ (by first | (simp [wipeE_set, wipeE_idem]; done) | (simp [wipeE]; done) | rfl) (Nat.le_refl _)
                                  all_goals first | exact fits_of (by omega) | exact fits_of (by simp; omega) | (simp [dep]; done) | (with_reducible exact rfl) | assumption | exact trivial | exact Nat.le_of_ble_eq_true rfl | exact okM_le (Nat.le_of_ble_eq_true rfl) | exact ⟨rfl, rfl⟩ | exact fits_of (Nat.le_of_ble_eq_true rfl) | exact fun d hd => by (obtain ⟨_, _, rfl⟩ := List.mem_map.mp hd; exact trivial) | (refine fits_of ?_; simp; omega) | exact ⟨Nat.le_of_ble_eq_true rfl, Nat.le_of_ble_eq_true rfl⟩ | exact ⟨by decide, by decide⟩ | (dsimp only; exact ⟨by decide, by decide⟩) | omega | exact rfl
                            · repeat ((conv => whnf); first | (with_reducible refine And.intro ?_ ?_; rotate_left) | with_reducible refine Exists.intro _ (And.intro rfl ?_) | rw [h2] | rw [hq] | rw [all_map] | rw [hp] | rw [hen] | rw [hrow] | refine Br.yes rfl ?_ | refine Br.no rfl ?_ | refine Br.yes (by first | rfl | exact at9_cT _ | exact at9_sT _ | exact at9_intt _ | exact at9_int _ | exact at9_lkTt _ | exact at9_lkT _ | exact at9_lkX _ | exact at9_lkS _ _ _ | exact at9_tog _ _ _ _ | exact at9_c3 _ | exact at9_fl _ | exact h9 _ my | exact h9 | (simp only [Cr.at9, Cr.at9s, List.map_cons, List.map_nil, at9_int, at9_intt, at9_lkT, at9_lkTt, at9_lkX, at9_lkS, at9_tog, at9_cT, at9_sT, Bool.and_true, Bool.and_self]; done) | fail) ?_ | refine Br.no h9 ?_ | refine go_rNum rfl ?_ | refine go_rTupOf rfl ?_ ?_ | refine go_rAre rfl ?_ rfl ?_ | refine go_rLk rfl ?_ ?_ | refine go_rCan rfl ?_ ?_ | refine go_rRow rfl ?_ ?_ | refine Br.yes hq ?_ | refine Br.no hq ?_ | refine Br.yes hqn ?_ | refine Br.no hqn ?_ | refine Br.yes h9c ?_ | refine Br.no h9c ?_ | refine Br.yes h9ab ?_ | refine Br.no h9ab ?_ | refine Br.yes h1 ?_ | refine Br.no h1 ?_ | fail)
                              · show D.bl false = D.bl _
                                rw [hcan, all_false hx (by rw [hlk, hen])]
                              all_goals first | exact fits_of (by omega) | exact fits_of (by simp; omega) | (simp [dep]; done) | (with_reducible exact rfl) | assumption | exact trivial | exact Nat.le_of_ble_eq_true rfl | exact okM_le (Nat.le_of_ble_eq_true rfl) | exact ⟨rfl, rfl⟩ | exact fits_of (Nat.le_of_ble_eq_true rfl) | exact fun d hd => by (obtain ⟨_, _, rfl⟩ := List.mem_map.mp hd; exact trivial) | (refine fits_of ?_; simp; omega) | exact ⟨Nat.le_of_ble_eq_true rfl, Nat.le_of_ble_eq_true rfl⟩ | exact ⟨by decide, by decide⟩ | (dsimp only; exact ⟨by decide, by decide⟩) | omega | exact rfl
                          all_goals first | exact fits_of (by omega) | exact fits_of (by simp; omega) | (simp [dep]; done) | (with_reducible exact rfl) | assumption | exact trivial | exact Nat.le_of_ble_eq_true rfl | exact okM_le (Nat.le_of_ble_eq_true rfl) | exact ⟨rfl, rfl⟩ | exact fits_of (Nat.le_of_ble_eq_true rfl) | exact fun d hd => by (obtain ⟨_, _, rfl⟩ := List.mem_map.mp hd; exact trivial) | (refine fits_of ?_; simp; omega) | exact ⟨Nat.le_of_ble_eq_true rfl, Nat.le_of_ble_eq_true rfl⟩ | exact ⟨by decide, by decide⟩ | (dsimp only; exact ⟨by decide, by decide⟩) | omega | exact rfl
                        | true =>
                          repeat ((conv => whnf); first | (with_reducible refine And.intro ?_ ?_; rotate_left) | with_reducible refine Exists.intro _ (And.intro rfl ?_) | rw [h2] | rw [hq] | rw [all_map] | rw [hp] | rw [hen] | rw [hrow] | refine Br.yes rfl ?_ | refine Br.no rfl ?_ | refine Br.yes (by first | rfl | exact at9_cT _ | exact at9_sT _ | exact at9_intt _ | exact at9_int _ | exact at9_lkTt _ | exact at9_lkT _ | exact at9_lkX _ | exact at9_lkS _ _ _ | exact at9_tog _ _ _ _ | exact at9_c3 _ | exact at9_fl _ | exact h9 _ my | exact h9 | (simp only [Cr.at9, Cr.at9s, List.map_cons, List.map_nil, at9_int, at9_intt, at9_lkT, at9_lkTt, at9_lkX, at9_lkS, at9_tog, at9_cT, at9_sT, Bool.and_true, Bool.and_self]; done) | fail) ?_ | refine Br.no h9 ?_ | refine go_rNum rfl ?_ | refine go_rTupOf rfl ?_ ?_ | refine go_rAre rfl ?_ rfl ?_ | refine go_rLk rfl ?_ ?_ | refine go_rCan rfl ?_ ?_ | refine go_rRow rfl ?_ ?_ | refine Br.yes hq ?_ | refine Br.no hq ?_ | refine Br.yes hqn ?_ | refine Br.no hqn ?_ | refine Br.yes h9c ?_ | refine Br.no h9c ?_ | refine Br.yes h9ab ?_ | refine Br.no h9ab ?_ | refine Br.yes h1 ?_ | refine Br.no h1 ?_ | fail)
                          · conv => whnf
                            refine lc_map (xs := [((0 : Int), a), (1, b), (2, c), (3, e)]) (enc := fun p => .tup [.int p.1, .int p.2]) (out := fun p => .bl (endP r q p)) (Nat.le_of_ble_eq_true rfl) (fun p hp Y2 Z2 hY2 => ?_) ?_
                            · simp only [List.mem_cons, List.not_mem_nil, or_false] at hp
                              rcases hp with rfl | rfl | rfl | rfl
                              · cases h1 : decide ((0 : Int) ≤ a) with
                                | false =>
                                  have e1 : endP r q (0, a) = false := by show (decide ((0 : Int) ≤ a) && _) = _; rw [h1]; rfl
                                  repeat ((conv => whnf); first | (with_reducible refine And.intro ?_ ?_; rotate_left) | with_reducible refine Exists.intro _ (And.intro rfl ?_) | rw [h2] | rw [hq] | rw [all_map] | rw [hp] | rw [hen] | rw [hrow] | refine Br.yes rfl ?_ | refine Br.no rfl ?_ | refine Br.yes (by first | rfl | exact at9_cT _ | exact at9_sT _ | exact at9_intt _ | exact at9_int _ | exact at9_lkTt _ | exact at9_lkT _ | exact at9_lkX _ | exact at9_lkS _ _ _ | exact at9_tog _ _ _ _ | exact at9_c3 _ | exact at9_fl _ | exact h9 _ my | exact h9 | (simp only [Cr.at9, Cr.at9s, List.map_cons, List.map_nil, at9_int, at9_intt, at9_lkT, at9_lkTt, at9_lkX, at9_lkS, at9_tog, at9_cT, at9_sT, Bool.and_true, Bool.and_self]; done) | fail) ?_ | refine Br.no h9 ?_ | refine go_rNum rfl ?_ | refine go_rTupOf rfl ?_ ?_ | refine go_rAre rfl ?_ rfl ?_ | refine go_rLk rfl ?_ ?_ | refine go_rCan rfl ?_ ?_ | refine go_rRow rfl ?_ ?_ | refine Br.yes hq ?_ | refine Br.no hq ?_ | refine Br.yes hqn ?_ | refine Br.no hqn ?_ | refine Br.yes h9c ?_ | refine Br.no h9c ?_ | refine Br.yes h9ab ?_ | refine Br.no h9ab ?_ | refine Br.yes h1 ?_ | refine Br.no h1 ?_ | fail)
                                  · conv => whnf
                                    show Y2 9 (D.bl false) _
                                    rw [← e1]
                                    exact hY2 _ _ (by first | (simp [wipeE_set, wipeE_idem]; done) | (simp [wipeE]; done) | rfl) (Nat.le_refl _)
                                  all_goals first | exact fits_of (by omega) | exact fits_of (by simp; omega) | (simp [dep]; done) | (with_reducible exact rfl) | assumption | exact trivial | exact Nat.le_of_ble_eq_true rfl | exact okM_le (Nat.le_of_ble_eq_true rfl) | exact ⟨rfl, rfl⟩ | exact fits_of (Nat.le_of_ble_eq_true rfl) | exact fun d hd => by (obtain ⟨_, _, rfl⟩ := List.mem_map.mp hd; exact trivial) | (refine fits_of ?_; simp; omega) | exact ⟨Nat.le_of_ble_eq_true rfl, Nat.le_of_ble_eq_true rfl⟩ | exact ⟨by decide, by decide⟩ | (dsimp only; exact ⟨by decide, by decide⟩) | omega | exact rfl
                                | true =>
                                  have e1 : endP r q (0, a) = decide (a < r) := by show (decide ((0 : Int) ≤ a) && _) = _; rw [h1]; rfl
                                  repeat ((conv => whnf); first | (with_reducible refine And.intro ?_ ?_; rotate_left) | with_reducible refine Exists.intro _ (And.intro rfl ?_) | rw [h2] | rw [hq] | rw [all_map] | rw [hp] | rw [hen] | rw [hrow] | refine Br.yes rfl ?_ | refine Br.no rfl ?_ | refine Br.yes (by first | rfl | exact at9_cT _ | exact at9_sT _ | exact at9_intt _ | exact at9_int _ | exact at9_lkTt _ | exact at9_lkT _ | exact at9_lkX _ | exact at9_lkS _ _ _ | exact at9_tog _ _ _ _ | exact at9_c3 _ | exact at9_fl _ | exact h9 _ my | exact h9 | (simp only [Cr.at9, Cr.at9s, List.map_cons, List.map_nil, at9_int, at9_intt, at9_lkT, at9_lkTt, at9_lkX, at9_lkS, at9_tog, at9_cT, at9_sT, Bool.and_true, Bool.and_self]; done) | fail) ?_ | refine Br.no h9 ?_ | refine go_rNum rfl ?_ | refine go_rTupOf rfl ?_ ?_ | refine go_rAre rfl ?_ rfl ?_ | refine go_rLk rfl ?_ ?_ | refine go_rCan rfl ?_ ?_ | refine go_rRow rfl ?_ ?_ | refine Br.yes hq ?_ | refine Br.no hq ?_ | refine Br.yes hqn ?_ | refine Br.no hqn ?_ | refine Br.yes h9c ?_ | refine Br.no h9c ?_ | refine Br.yes h9ab ?_ | refine Br.no h9ab ?_ | refine Br.yes h1 ?_ | refine Br.no h1 ?_ | fail)
                                  · conv => whnf
                                    show Y2 9 (D.bl (decide (a < r))) _
                                    rw [← e1]
                                    exact hY2 _ _ (by first | (simp [wipeE_set, wipeE_idem]; done) | (simp [wipeE]; done) | rfl) (Nat.le_refl _)
                                  all_goals first | exact fits_of (by omega) | exact fits_of (by simp; omega) | (simp [dep]; done) | (with_reducible exact rfl) | assumption | exact trivial | exact Nat.le_of_ble_eq_true rfl | exact okM_le (Nat.le_of_ble_eq_true rfl) | exact ⟨rfl, rfl⟩ | exact fits_of (Nat.le_of_ble_eq_true rfl) | exact fun d hd => by (obtain ⟨_, _, rfl⟩ := List.mem_map.mp hd; exact trivial) | (refine fits_of ?_; simp; omega) | exact ⟨Nat.le_of_ble_eq_true rfl, Nat.le_of_ble_eq_true rfl⟩ | exact ⟨by decide, by decide⟩ | (dsimp only; exact ⟨by decide, by decide⟩) | omega | exact rfl
                              · cases h1 : decide ((0 : Int) ≤ b) with
                                | false =>
                                  have e1 : endP r q (1, b) = false := by show (decide ((0 : Int) ≤ b) && _) = _; rw [h1]; rfl
                                  repeat ((conv => whnf); first | (with_reducible refine And.intro ?_ ?_; rotate_left) | with_reducible refine Exists.intro _ (And.intro rfl ?_) | rw [h2] | rw [hq] | rw [all_map] | rw [hp] | rw [hen] | rw [hrow] | refine Br.yes rfl ?_ | refine Br.no rfl ?_ | refine Br.yes (by first | rfl | exact at9_cT _ | exact at9_sT _ | exact at9_intt _ | exact at9_int _ | exact at9_lkTt _ | exact at9_lkT _ | exact at9_lkX _ | exact at9_lkS _ _ _ | exact at9_tog _ _ _ _ | exact at9_c3 _ | exact at9_fl _ | exact h9 _ my | exact h9 | (simp only [Cr.at9, Cr.at9s, List.map_cons, List.map_nil, at9_int, at9_intt, at9_lkT, at9_lkTt, at9_lkX, at9_lkS, at9_tog, at9_cT, at9_sT, Bool.and_true, Bool.and_self]; done) | fail) ?_ | refine Br.no h9 ?_ | refine go_rNum rfl ?_ | refine go_rTupOf rfl ?_ ?_ | refine go_rAre rfl ?_ rfl ?_ | refine go_rLk rfl ?_ ?_ | refine go_rCan rfl ?_ ?_ | refine go_rRow rfl ?_ ?_ | refine Br.yes hq ?_ | refine Br.no hq ?_ | refine Br.yes hqn ?_ | refine Br.no hqn ?_ | refine Br.yes h9c ?_ | refine Br.no h9c ?_ | refine Br.yes h9ab ?_ | refine Br.no h9ab ?_ | refine Br.yes h1 ?_ | refine Br.no h1 ?_ | fail)
                                  · conv => whnf
                                    show Y2 9 (D.bl false) _
                                    rw [← e1]
                                    exact hY2 _ _ (by first | (simp [wipeE_set, wipeE_idem]; done) | (simp [wipeE]; done) | rfl) (Nat.le_refl _)
                                  all_goals first | exact fits_of (by omega) | exact fits_of (by simp; omega) | (simp [dep]; done) | (with_reducible exact rfl) | assumption | exact trivial | exact Nat.le_of_ble_eq_true rfl | exact okM_le (Nat.le_of_ble_eq_true rfl) | exact ⟨rfl, rfl⟩ | exact fits_of (Nat.le_of_ble_eq_true rfl) | exact fun d hd => by (obtain ⟨_, _, rfl⟩ := List.mem_map.mp hd; exact trivial) | (refine fits_of ?_; simp; omega) | exact ⟨Nat.le_of_ble_eq_true rfl, Nat.le_of_ble_eq_true rfl⟩ | exact ⟨by decide, by decide⟩ | (dsimp only; exact ⟨by decide, by decide⟩) | omega | exact rfl
                                | true =>
                                  have e1 : endP r q (1, b) = decide (b < r) := by show (decide ((0 : Int) ≤ b) && _) = _; rw [h1]; rfl
                                  repeat ((conv => whnf); first | (with_reducible refine And.intro ?_ ?_; rotate_left) | with_reducible refine Exists.intro _ (And.intro rfl ?_) | rw [h2] | rw [hq] | rw [all_map] | rw [hp] | rw [hen] | rw [hrow] | refine Br.yes rfl ?_ | refine Br.no rfl ?_ | refine Br.yes (by first | rfl | exact at9_cT _ | exact at9_sT _ | exact at9_intt _ | exact at9_int _ | exact at9_lkTt _ | exact at9_lkT _ | exact at9_lkX _ | exact at9_lkS _ _ _ | exact at9_tog _ _ _ _ | exact at9_c3 _ | exact at9_fl _ | exact h9 _ my | exact h9 | (simp only [Cr.at9, Cr.at9s, List.map_cons, List.map_nil, at9_int, at9_intt, at9_lkT, at9_lkTt, at9_lkX, at9_lkS, at9_tog, at9_cT, at9_sT, Bool.and_true, Bool.and_self]; done) | fail) ?_ | refine Br.no h9 ?_ | refine go_rNum rfl ?_ | refine go_rTupOf rfl ?_ ?_ | refine go_rAre rfl ?_ rfl ?_ | refine go_rLk rfl ?_ ?_ | refine go_rCan rfl ?_ ?_ | refine go_rRow rfl ?_ ?_ | refine Br.yes hq ?_ | refine Br.no hq ?_ | refine Br.yes hqn ?_ | refine Br.no hqn ?_ | refine Br.yes h9c ?_ | refine Br.no h9c ?_ | refine Br.yes h9ab ?_ | refine Br.no h9ab ?_ | refine Br.yes h1 ?_ | refine Br.no h1 ?_ | fail)
                                  · conv => whnf
                                    show Y2 9 (D.bl (decide (b < r))) _
                                    rw [← e1]
                                    exact hY2 _ _ (by first | (simp [wipeE_set, wipeE_idem]; done) | (simp [wipeE]; done) | rfl) (Nat.le_refl _)
                                  all_goals first | exact fits_of (by omega) | exact fits_of (by simp; omega) | (simp [dep]; done) | (with_reducible exact rfl) | assumption | exact trivial | exact Nat.le_of_ble_eq_true rfl | exact okM_le (Nat.le_of_ble_eq_true rfl) | exact ⟨rfl, rfl⟩ | exact fits_of (Nat.le_of_ble_eq_true rfl) | exact fun d hd => by (obtain ⟨_, _, rfl⟩ := List.mem_map.mp hd; exact trivial) | (refine fits_of ?_; simp; omega) | exact ⟨Nat.le_of_ble_eq_true rfl, Nat.le_of_ble_eq_true rfl⟩ | exact ⟨by decide, by decide⟩ | (dsimp only; exact ⟨by decide, by decide⟩) | omega | exact rfl
                              · cases h1 : decide ((0 : Int) ≤ c) with
                                | false =>
                                  have e1 : endP r q (2, c) = false := by show (decide ((0 : Int) ≤ c) && _) = _; rw [h1]; rfl
                                  repeat ((conv => whnf); first | (with_reducible refine And.intro ?_ ?_; rotate_left) | with_reducible refine Exists.intro _ (And.intro rfl ?_) | rw [h2] | rw [hq] | rw [all_map] | rw [hp] | rw [hen] | rw [hrow] | refine Br.yes rfl ?_ | refine Br.no rfl ?_ | refine Br.yes (by first | rfl | exact at9_cT _ | exact at9_sT _ | exact at9_intt _ | exact at9_int _ | exact at9_lkTt _ | exact at9_lkT _ | exact at9_lkX _ | exact at9_lkS _ _ _ | exact at9_tog _ _ _ _ | exact at9_c3 _ | exact at9_fl _ | exact h9 _ my | exact h9 | (simp only [Cr.at9, Cr.at9s, List.map_cons, List.map_nil, at9_int, at9_intt, at9_lkT, at9_lkTt, at9_lkX, at9_lkS, at9_tog, at9_cT, at9_sT, Bool.and_true, Bool.and_self]; done) | fail) ?_ | refine Br.no h9 ?_ | refine go_rNum rfl ?_ | refine go_rTupOf rfl ?_ ?_ | refine go_rAre rfl ?_ rfl ?_ | refine go_rLk rfl ?_ ?_ | refine go_rCan rfl ?_ ?_ | refine go_rRow rfl ?_ ?_ | refine Br.yes hq ?_ | refine Br.no hq ?_ | refine Br.yes hqn ?_ | refine Br.no hqn ?_ | refine Br.yes h9c ?_ | refine Br.no h9c ?_ | refine Br.yes h9ab ?_ | refine Br.no h9ab ?_ | refine Br.yes h1 ?_ | refine Br.no h1 ?_ | fail)
                                  · conv => whnf
                                    show Y2 9 (D.bl false) _
                                    rw [← e1]
                                    exact hY2 _ _ (by first | (simp [wipeE_set, wipeE_idem]; done) | (simp [wipeE]; done) | rfl) (Nat.le_refl _)
                                  all_goals first | exact fits_of (by omega) | exact fits_of (by simp; omega) | (simp [dep]; done) | (with_reducible exact rfl) | assumption | exact trivial | exact Nat.le_of_ble_eq_true rfl | exact okM_le (Nat.le_of_ble_eq_true rfl) | exact ⟨rfl, rfl⟩ | exact fits_of (Nat.le_of_ble_eq_true rfl) | exact fun d hd => by (obtain ⟨_, _, rfl⟩ := List.mem_map.mp hd; exact trivial) | (refine fits_of ?_; simp; omega) | exact ⟨Nat.le_of_ble_eq_true rfl, Nat.le_of_ble_eq_true rfl⟩ | exact ⟨by decide, by decide⟩ | (dsimp only; exact ⟨by decide, by decide⟩) | omega | exact rfl
                                | true =>
                                  have e1 : endP r q (2, c) = decide (c < q) := by show (decide ((0 : Int) ≤ c) && _) = _; rw [h1]; rfl
                                  repeat ((conv => whnf); first | (with_reducible refine And.intro ?_ ?_; rotate_left) | with_reducible refine Exists.intro _ (And.intro rfl ?_) | rw [h2] | rw [hq] | rw [all_map] | rw [hp] | rw [hen] | rw [hrow] | refine Br.yes rfl ?_ | refine Br.no rfl ?_ | refine Br.yes (by first | rfl | exact at9_cT _ | exact at9_sT _ | exact at9_intt _ | exact at9_int _ | exact at9_lkTt _ | exact at9_lkT _ | exact at9_lkX _ | exact at9_lkS _ _ _ | exact at9_tog _ _ _ _ | exact at9_c3 _ | exact at9_fl _ | exact h9 _ my | exact h9 | (simp only [Cr.at9, Cr.at9s, List.map_cons, List.map_nil, at9_int, at9_intt, at9_lkT, at9_lkTt, at9_lkX, at9_lkS, at9_tog, at9_cT, at9_sT, Bool.and_true, Bool.and_self]; done) | fail) ?_ | refine Br.no h9 ?_ | refine go_rNum rfl ?_ | refine go_rTupOf rfl ?_ ?_ | refine go_rAre rfl ?_ rfl ?_ | refine go_rLk rfl ?_ ?_ | refine go_rCan rfl ?_ ?_ | refine go_rRow rfl ?_ ?_ | refine Br.yes hq ?_ | refine Br.no hq ?_ | refine Br.yes hqn ?_ | refine Br.no hqn ?_ | refine Br.yes h9c ?_ | refine Br.no h9c ?_ | refine Br.yes h9ab ?_ | refine Br.no h9ab ?_ | refine Br.yes h1 ?_ | refine Br.no h1 ?_ | fail)
                                  · conv => whnf
                                    show Y2 9 (D.bl (decide (c < q))) _
                                    rw [← e1]
                                    exact hY2 _ _ (by first | (simp [wipeE_set, wipeE_idem]; done) | (simp [wipeE]; done) | rfl) (Nat.le_refl _)
                                  all_goals first | exact fits_of (by omega) | exact fits_of (by simp; omega) | (simp [dep]; done) | (with_reducible exact rfl) | assumption | exact trivial | exact Nat.le_of_ble_eq_true rfl | exact okM_le (Nat.le_of_ble_eq_true rfl) | exact ⟨rfl, rfl⟩ | exact fits_of (Nat.le_of_ble_eq_true rfl) | exact fun d hd => by (obtain ⟨_, _, rfl⟩ := List.mem_map.mp hd; exact trivial) | (refine fits_of ?_; simp; omega) | exact ⟨Nat.le_of_ble_eq_true rfl, Nat.le_of_ble_eq_true rfl⟩ | exact ⟨by decide, by decide⟩ | (dsimp only; exact ⟨by decide, by decide⟩) | omega | exact rfl
                              · cases h1 : decide ((0 : Int) ≤ e) with
                                | false =>
                                  have e1 : endP r q (3, e) = false := by show (decide ((0 : Int) ≤ e) && _) = _; rw [h1]; rfl
                                  repeat ((conv => whnf); first | (with_reducible refine And.intro ?_ ?_; rotate_left) | with_reducible refine Exists.intro _ (And.intro rfl ?_) | rw [h2] | rw [hq] | rw [all_map] | rw [hp] | rw [hen] | rw [hrow] | refine Br.yes rfl ?_ | refine Br.no rfl ?_ | refine Br.yes (by first | rfl | exact at9_cT _ | exact at9_sT _ | exact at9_intt _ | exact at9_int _ | exact at9_lkTt _ | exact at9_lkT _ | exact at9_lkX _ | exact at9_lkS _ _ _ | exact at9_tog _ _ _ _ | exact at9_c3 _ | exact at9_fl _ | exact h9 _ my | exact h9 | (simp only [Cr.at9, Cr.at9s, List.map_cons, List.map_nil, at9_int, at9_intt, at9_lkT, at9_lkTt, at9_lkX, at9_lkS, at9_tog, at9_cT, at9_sT, Bool.and_true, Bool.and_self]; done) | fail) ?_ | refine Br.no h9 ?_ | refine go_rNum rfl ?_ | refine go_rTupOf rfl ?_ ?_ | refine go_rAre rfl ?_ rfl ?_ | refine go_rLk rfl ?_ ?_ | refine go_rCan rfl ?_ ?_ | refine go_rRow rfl ?_ ?_ | refine Br.yes hq ?_ | refine Br.no hq ?_ | refine Br.yes hqn ?_ | refine Br.no hqn ?_ | refine Br.yes h9c ?_ | refine Br.no h9c ?_ | refine Br.yes h9ab ?_ | refine Br.no h9ab ?_ | refine Br.yes h1 ?_ | refine Br.no h1 ?_ | fail)
                                  · conv => whnf
                                    show Y2 9 (D.bl false) _
                                    rw [← e1]
                                    exact hY2 _ _ (by first | (simp [wipeE_set, wipeE_idem]; done) | (simp [wipeE]; done) | rfl) (Nat.le_refl _)
                                  all_goals first | exact fits_of (by omega) | exact fits_of (by simp; omega) | (simp [dep]; done) | (with_reducible exact rfl) | assumption | exact trivial | exact Nat.le_of_ble_eq_true rfl | exact okM_le (Nat.le_of_ble_eq_true rfl) | exact ⟨rfl, rfl⟩ | exact fits_of (Nat.le_of_ble_eq_true rfl) | exact fun d hd => by (obtain ⟨_, _, rfl⟩ := List.mem_map.mp hd; exact trivial) | (refine fits_of ?_; simp; omega) | exact ⟨Nat.le_of_ble_eq_true rfl, Nat.le_of_ble_eq_true rfl⟩ | exact ⟨by decide, by decide⟩ | (dsimp only; exact ⟨by decide, by decide⟩) | omega | exact rfl
                                | true =>
                                  have e1 : endP r q (3, e) = decide (e < q) := by show (decide ((0 : Int) ≤ e) && _) = _; rw [h1]; rfl
                                  repeat ((conv => whnf); first | (with_reducible refine And.intro ?_ ?_; rotate_left) | with_reducible refine Exists.intro _ (And.intro rfl ?_) | rw [h2] | rw [hq] | rw [all_map] | rw [hp] | rw [hen] | rw [hrow] | refine Br.yes rfl ?_ | refine Br.no rfl ?_ | refine Br.yes (by first | rfl | exact at9_cT _ | exact at9_sT _ | exact at9_intt _ | exact at9_int _ | exact at9_lkTt _ | exact at9_lkT _ | exact at9_lkX _ | exact at9_lkS _ _ _ | exact at9_tog _ _ _ _ | exact at9_c3 _ | exact at9_fl _ | exact h9 _ my | exact h9 | (simp only [Cr.at9, Cr.at9s, List.map_cons, List.map_nil, at9_int, at9_intt, at9_lkT, at9_lkTt, at9_lkX, at9_lkS, at9_tog, at9_cT, at9_sT, Bool.and_true, Bool.and_self]; done) | fail) ?_ | refine Br.no h9 ?_ | refine go_rNum rfl ?_ | refine go_rTupOf rfl ?_ ?_ | refine go_rAre rfl ?_ rfl ?_ | refine go_rLk rfl ?_ ?_ | refine go_rCan rfl ?_ ?_ | refine go_rRow rfl ?_ ?_ | refine Br.yes hq ?_ | refine Br.no hq ?_ | refine Br.yes hqn ?_ | refine Br.no hqn ?_ | refine Br.yes h9c ?_ | refine Br.no h9c ?_ | refine Br.yes h9ab ?_ | refine Br.no h9ab ?_ | refine Br.yes h1 ?_ | refine Br.no h1 ?_ | fail)
                                  · conv => whnf
                                    show Y2 9 (D.bl (decide (e < q))) _
                                    rw [← e1]
                                    exact hY2 _ _ (by first | (simp [wipeE_set, wipeE_idem]; done) | (simp [wipeE]; done) | rfl) (Nat.le_refl _)
                                  all_goals first | exact fits_of (by omega) | exact fits_of (by simp; omega) | (simp [dep]; done) | (with_reducible exact rfl) | assumption | exact trivial | exact Nat.le_of_ble_eq_true rfl | exact okM_le (Nat.le_of_ble_eq_true rfl) | exact ⟨rfl, rfl⟩ | exact fits_of (Nat.le_of_ble_eq_true rfl) | exact fun d hd => by (obtain ⟨_, _, rfl⟩ := List.mem_map.mp hd; exact trivial) | (refine fits_of ?_; simp; omega) | exact ⟨Nat.le_of_ble_eq_true rfl, Nat.le_of_ble_eq_true rfl⟩ | exact ⟨by decide, by decide⟩ | (dsimp only; exact ⟨by decide, by decide⟩) | omega | exact rfl
                            · repeat ((conv => whnf); first | (with_reducible refine And.intro ?_ ?_; rotate_left) | with_reducible refine Exists.intro _ (And.intro rfl ?_) | rw [h2] | rw [hq] | rw [all_map] | rw [hp] | rw [hen] | rw [hrow] | refine Br.yes rfl ?_ | refine Br.no rfl ?_ | refine Br.yes (by first | rfl | exact at9_cT _ | exact at9_sT _ | exact at9_intt _ | exact at9_int _ | exact at9_lkTt _ | exact at9_lkT _ | exact at9_lkX _ | exact at9_lkS _ _ _ | exact at9_tog _ _ _ _ | exact at9_c3 _ | exact at9_fl _ | exact h9 _ my | exact h9 | (simp only [Cr.at9, Cr.at9s, List.map_cons, List.map_nil, at9_int, at9_intt, at9_lkT, at9_lkTt, at9_lkX, at9_lkS, at9_tog, at9_cT, at9_sT, Bool.and_true, Bool.and_self]; done) | fail) ?_ | refine Br.no h9 ?_ | refine go_rNum rfl ?_ | refine go_rTupOf rfl ?_ ?_ | refine go_rAre rfl ?_ rfl ?_ | refine go_rLk rfl ?_ ?_ | refine go_rCan rfl ?_ ?_ | refine go_rRow rfl ?_ ?_ | refine Br.yes hq ?_ | refine Br.no hq ?_ | refine Br.yes hqn ?_ | refine Br.no hqn ?_ | refine Br.yes h9c ?_ | refine Br.no h9c ?_ | refine Br.yes h9ab ?_ | refine Br.no h9ab ?_ | refine Br.yes h1 ?_ | refine Br.no h1 ?_ | fail)
                              · conv => whnf
                                exact hY _ ⟨_, _, _, _, _, rfl, take_snoc hd hall (by rw [hlk, hen])⟩
                              all_goals first | exact fits_of (by omega) | exact fits_of (by simp; omega) | (simp [dep]; done) | (with_reducible exact rfl) | assumption | exact trivial | exact Nat.le_of_ble_eq_true rfl | exact okM_le (Nat.le_of_ble_eq_true rfl) | exact ⟨rfl, rfl⟩ | exact fits_of (Nat.le_of_ble_eq_true rfl) | exact fun d hd => by (obtain ⟨_, _, rfl⟩ := List.mem_map.mp hd; exact trivial) | (refine fits_of ?_; simp; omega) | exact ⟨Nat.le_of_ble_eq_true rfl, Nat.le_of_ble_eq_true rfl⟩ | exact ⟨by decide, by decide⟩ | (dsimp only; exact ⟨by decide, by decide⟩) | omega | exact rfl
                          all_goals first | exact fits_of (by omega) | exact fits_of (by simp; omega) | (simp [dep]; done) | (with_reducible exact rfl) | assumption | exact trivial | exact Nat.le_of_ble_eq_true rfl | exact okM_le (Nat.le_of_ble_eq_true rfl) | exact ⟨rfl, rfl⟩ | exact fits_of (Nat.le_of_ble_eq_true rfl) | exact fun d hd => by (obtain ⟨_, _, rfl⟩ := List.mem_map.mp hd; exact trivial) | (refine fits_of ?_; simp; omega) | exact ⟨Nat.le_of_ble_eq_true rfl, Nat.le_of_ble_eq_true rfl⟩ | exact ⟨by decide, by decide⟩ | (dsimp only; exact ⟨by decide, by decide⟩) | omega | exact rfl
                    · obtain ⟨k0, k1, e2, e4, e5, rfl, hall⟩ := hI
                      rw [List.take_length] at hall
                      repeat ((conv => whnf); first | (with_reducible refine And.intro ?_ ?_; rotate_left) | with_reducible refine Exists.intro _ (And.intro rfl ?_) | rw [h2] | rw [hq] | rw [all_map] | rw [hp] | rw [hen] | rw [hrow] | refine Br.yes rfl ?_ | refine Br.no rfl ?_ | refine Br.yes (by first | rfl | exact at9_cT _ | exact at9_sT _ | exact at9_intt _ | exact at9_int _ | exact at9_lkTt _ | exact at9_lkT _ | exact at9_lkX _ | exact at9_lkS _ _ _ | exact at9_tog _ _ _ _ | exact at9_c3 _ | exact at9_fl _ | exact h9 _ my | exact h9 | (simp only [Cr.at9, Cr.at9s, List.map_cons, List.map_nil, at9_int, at9_intt, at9_lkT, at9_lkTt, at9_lkX, at9_lkS, at9_tog, at9_cT, at9_sT, Bool.and_true, Bool.and_self]; done) | fail) ?_ | refine Br.no h9 ?_ | refine go_rNum rfl ?_ | refine go_rTupOf rfl ?_ ?_ | refine go_rAre rfl ?_ rfl ?_ | refine go_rLk rfl ?_ ?_ | refine go_rCan rfl ?_ ?_ | refine go_rRow rfl ?_ ?_ | refine Br.yes hq ?_ | refine Br.no hq ?_ | refine Br.yes hqn ?_ | refine Br.no hqn ?_ | refine Br.yes h9c ?_ | refine Br.no h9c ?_ | refine Br.yes h9ab ?_ | refine Br.no h9ab ?_ | refine Br.yes h1 ?_ | refine Br.no h1 ?_ | fail)
                      · show D.bl true = D.bl _
                        rw [hcan, List.all_eq_true.mpr hall]
                      all_goals first | exact fits_of (by omega) | exact fits_of (by simp; omega) | (simp [dep]; done) | (with_reducible exact rfl) | assumption | exact trivial | exact Nat.le_of_ble_eq_true rfl | exact okM_le (Nat.le_of_ble_eq_true rfl) | exact ⟨rfl, rfl⟩ | exact fits_of (Nat.le_of_ble_eq_true rfl) | exact fun d hd => by (obtain ⟨_, _, rfl⟩ := List.mem_map.mp hd; exact trivial) | (refine fits_of ?_; simp; omega) | exact ⟨Nat.le_of_ble_eq_true rfl, Nat.le_of_ble_eq_true rfl⟩ | exact ⟨by decide, by decide⟩ | (dsimp only; exact ⟨by decide, by decide⟩) | omega | exact rfl
                  all_goals first | exact fits_of (by omega) | exact fits_of (by simp; omega) | (simp [dep]; done) | (with_reducible exact rfl) | assumption | exact trivial | exact Nat.le_of_ble_eq_true rfl | exact okM_le (Nat.le_of_ble_eq_true rfl) | exact ⟨rfl, rfl⟩ | exact fits_of (Nat.le_of_ble_eq_true rfl) | exact fun d hd => by (obtain ⟨_, _, rfl⟩ := List.mem_map.mp hd; exact trivial) | (refine fits_of ?_; simp; omega) | exact ⟨Nat.le_of_ble_eq_true rfl, Nat.le_of_ble_eq_true rfl⟩ | exact ⟨by decide, by decide⟩ | (dsimp only; exact ⟨by decide, by decide⟩) | omega | exact rfl
              all_goals first | exact fits_of (by omega) | exact fits_of (by simp; omega) | (simp [dep]; done) | (with_reducible exact rfl) | assumption | exact trivial | exact Nat.le_of_ble_eq_true rfl | exact okM_le (Nat.le_of_ble_eq_true rfl) | exact ⟨rfl, rfl⟩ | exact fits_of (Nat.le_of_ble_eq_true rfl) | exact fun d hd => by (obtain ⟨_, _, rfl⟩ := List.mem_map.mp hd; exact trivial) | (refine fits_of ?_; simp; omega) | exact ⟨Nat.le_of_ble_eq_true rfl, Nat.le_of_ble_eq_true rfl⟩ | exact ⟨by decide, by decide⟩ | (dsimp only; exact ⟨by decide, by decide⟩) | omega | exact rfl)
        · rcases Bool.eq_false_or_eq_true (at9 c) with h9c | h9c
          all_goals (
            cases c with
            | tup ls => exact absurd ⟨ls, rfl⟩ hc
            | _ =>
              repeat ((conv => whnf); first | (with_reducible refine And.intro ?_ ?_; rotate_left) | with_reducible refine Exists.intro _ (And.intro rfl ?_) | rw [h2] | rw [hq] | rw [all_map] | rw [hp] | rw [hen] | rw [hrow] | refine Br.yes rfl ?_ | refine Br.no rfl ?_ | refine Br.yes (by first | rfl | exact at9_cT _ | exact at9_sT _ | exact at9_intt _ | exact at9_int _ | exact at9_lkTt _ | exact at9_lkT _ | exact at9_lkX _ | exact at9_lkS _ _ _ | exact at9_tog _ _ _ _ | exact at9_c3 _ | exact at9_fl _ | exact h9 _ my | exact h9 | (simp only [Cr.at9, Cr.at9s, List.map_cons, List.map_nil, at9_int, at9_intt, at9_lkT, at9_lkTt, at9_lkX, at9_lkS, at9_tog, at9_cT, at9_sT, Bool.and_true, Bool.and_self]; done) | fail) ?_ | refine Br.no h9 ?_ | refine go_rNum rfl ?_ | refine go_rTupOf rfl ?_ ?_ | refine go_rAre rfl ?_ rfl ?_ | refine go_rLk rfl ?_ ?_ | refine go_rCan rfl ?_ ?_ | refine go_rRow rfl ?_ ?_ | refine Br.yes hq ?_ | refine Br.no hq ?_ | refine Br.yes hqn ?_ | refine Br.no hqn ?_ | refine Br.yes h9c ?_ | refine Br.no h9c ?_ | refine Br.yes h9ab ?_ | refine Br.no h9ab ?_ | refine Br.yes h1 ?_ | refine Br.no h1 ?_ | fail)
              · show D.bl false = D.bl _
                rw [isCan_no3 (fun _ h => by cases h)]
              all_goals first | exact fits_of (by omega) | exact fits_of (by simp; omega) | (simp [dep]; done) | (with_reducible exact rfl) | assumption | exact trivial | exact Nat.le_of_ble_eq_true rfl | exact okM_le (Nat.le_of_ble_eq_true rfl) | exact ⟨rfl, rfl⟩ | exact fits_of (Nat.le_of_ble_eq_true rfl) | exact fun d hd => by (obtain ⟨_, _, rfl⟩ := List.mem_map.mp hd; exact trivial) | (refine fits_of ?_; simp; omega) | exact ⟨Nat.le_of_ble_eq_true rfl, Nat.le_of_ble_eq_true rfl⟩ | exact ⟨by decide, by decide⟩ | (dsimp only; exact ⟨by decide, by decide⟩) | omega | exact rfl))
  | _ =>
    repeat ((conv => whnf); first | (with_reducible refine And.intro ?_ ?_; rotate_left) | with_reducible refine Exists.intro _ (And.intro rfl ?_) | rw [h2] | rw [hq] | rw [all_map] | rw [hp] | rw [hen] | rw [hrow] | refine Br.yes rfl ?_ | refine Br.no rfl ?_ | refine Br.yes (by first | rfl | exact at9_cT _ | exact at9_sT _ | exact at9_intt _ | exact at9_int _ | exact at9_lkTt _ | exact at9_lkT _ | exact at9_lkX _ | exact at9_lkS _ _ _ | exact at9_tog _ _ _ _ | exact at9_c3 _ | exact at9_fl _ | exact h9 _ my | exact h9 | (simp only [Cr.at9, Cr.at9s, List.map_cons, List.map_nil, at9_int, at9_intt, at9_lkT, at9_lkTt, at9_lkX, at9_lkS, at9_tog, at9_cT, at9_sT, Bool.and_true, Bool.and_self]; done) | fail) ?_ | refine Br.no h9 ?_ | refine go_rNum rfl ?_ | refine go_rTupOf rfl ?_ ?_ | refine go_rAre rfl ?_ rfl ?_ | refine go_rLk rfl ?_ ?_ | refine go_rCan rfl ?_ ?_ | refine go_rRow rfl ?_ ?_ | refine Br.yes hq ?_ | refine Br.no hq ?_ | refine Br.yes hqn ?_ | refine Br.no hqn ?_ | refine Br.yes h9c ?_ | refine Br.no h9c ?_ | refine Br.yes h9ab ?_ | refine Br.no h9ab ?_ | refine Br.yes h1 ?_ | refine Br.no h1 ?_ | fail)
    all_goals first | (with_reducible exact rfl) | assumption | exact trivial | exact Nat.le_of_ble_eq_true rfl | exact okM_le (Nat.le_of_ble_eq_true rfl) | exact ⟨rfl, rfl⟩ | exact fits_of (Nat.le_of_ble_eq_true rfl) | exact fun d hd => by (obtain ⟨_, _, rfl⟩ := List.mem_map.mp hd; exact trivial) | (refine fits_of ?_; simp; omega) | exact ⟨Nat.le_of_ble_eq_true rfl, Nat.le_of_ble_eq_true rfl⟩ | exact ⟨by decide, by decide⟩ | (dsimp only; exact ⟨by decide, by decide⟩) | omega | exact rfl
abbrev s_is_number : Stmt := tp 3
abbrev N_is_number : List Str := ["thing"]
theorem sc_is_number : FnScope N_is_number ["thing"] (defScope s_is_number) := ⟨rfl, rfl, rfl, by decide +kernel, rfl, by decide +kernel, by decide +kernel⟩
theorem cl_is_number {P : Program} {w : World} {K : PySem.W.Frag} {mg : Str → Option Value} {base : Heap} (h_is_number : Known K mg "is_number" s_is_number ["thing"]) (m_bool : mg "bool" = none) (m_int : mg "int" = none) (m_isinstance : mg "isinstance" = none) : Cl P w K mg base L2.CX0 1 "is_number" s_is_number ["thing"] (spB K 1 rNum) := by
  obtain ⟨f, fd, F, hm, hb⟩ := h_is_number
  refine Cl.B F hm hb sc_is_number rfl fun cdv A outer s H E Sh ds k' Pd hr hl hR => ?_
  refine ⟨_, (vss_one (vs_ret (vi_and (vi_isi1 .int rfl m_isinstance m_int (nv 0)) (vi_one (vi_not (vi_isi1 .bool rfl m_isinstance m_bool (nv 0))))))), ?_⟩

  obtain ⟨d, rfl, rfl, rfl⟩ := hR
  cases d
  all_goals (
    repeat ((conv => whnf); first | (with_reducible refine And.intro ?_ ?_; rotate_left) | with_reducible refine Exists.intro _ (And.intro rfl ?_) | refine Br.yes rfl ?_ | refine Br.no rfl ?_ | refine Br.yes (by first | rfl | exact at9_cT _ | exact at9_sT _ | exact at9_intt _ | exact at9_int _ | exact at9_lkTt _ | exact at9_lkT _ | exact at9_lkX _ | exact at9_lkS _ _ _ | exact at9_tog _ _ _ _ | exact at9_c3 _ | exact at9_fl _ | exact h9 _ my | exact h9 | (simp only [Cr.at9, Cr.at9s, List.map_cons, List.map_nil, at9_int, at9_intt, at9_lkT, at9_lkTt, at9_lkX, at9_lkS, at9_tog, at9_cT, at9_sT, Bool.and_true, Bool.and_self]; done) | fail) ?_ | refine Br.no h9 ?_ | fail)
    all_goals first | (with_reducible exact rfl) | assumption | exact trivial | exact Nat.le_of_ble_eq_true rfl | exact okM_le (Nat.le_of_ble_eq_true rfl) | exact ⟨rfl, rfl⟩ | exact fits_of (Nat.le_of_ble_eq_true rfl) | exact fun d hd => by (obtain ⟨_, _, rfl⟩ := List.mem_map.mp hd; exact trivial) | (refine fits_of ?_; simp; omega) | exact ⟨Nat.le_of_ble_eq_true rfl, Nat.le_of_ble_eq_true rfl⟩ | exact ⟨by decide, by decide⟩ | (dsimp only; exact ⟨by decide, by decide⟩) | omega | exact rfl)
abbrev s_is_tuple_of : Stmt := tp 4
abbrev N_is_tuple_of : List Str := ["thing", "many"]
theorem sc_is_tuple_of : FnScope N_is_tuple_of ["thing", "many"] (defScope s_is_tuple_of) := ⟨rfl, rfl, rfl, by decide +kernel, rfl, by decide +kernel, by decide +kernel⟩
theorem cl_is_tuple_of {P : Program} {w : World} {K : PySem.W.Frag} {mg : Str → Option Value} {base : Heap} (h_is_tuple_of : Known K mg "is_tuple_of" s_is_tuple_of ["thing", "many"]) (m_isinstance : mg "isinstance" = none) (m_len : mg "len" = none) (m_tuple : mg "tuple" = none) : Cl P w K mg base L2.CX0 1 "is_tuple_of" s_is_tuple_of ["thing", "many"] (spB K 2 rTupOf) := by
  obtain ⟨f, fd, F, hm, hb⟩ := h_is_tuple_of
  refine Cl.B F hm hb sc_is_tuple_of rfl fun cdv A outer s H E Sh ds k' Pd hr hl hR => ?_
  refine ⟨_, (vss_one (vs_ret (vi_and (vi_isi1 .tuple rfl m_isinstance m_tuple (nv 0)) (vi_one (vi_c (cr_eq hr.r.units) (vi_fb fb_len m_len (va_cons (nv 0) va_nil)) (nv 1)))))), ?_⟩

  obtain ⟨d, n, rfl, hok, rfl, rfl⟩ := hR
  cases d with
  | tup xs =>
    have hl := okd_len hok
    repeat ((conv => whnf); first | (with_reducible refine And.intro ?_ ?_; rotate_left) | with_reducible refine Exists.intro _ (And.intro rfl ?_) | refine Br.yes rfl ?_ | refine Br.no rfl ?_ | refine Br.yes (by first | rfl | exact at9_cT _ | exact at9_sT _ | exact at9_intt _ | exact at9_int _ | exact at9_lkTt _ | exact at9_lkT _ | exact at9_lkX _ | exact at9_lkS _ _ _ | exact at9_tog _ _ _ _ | exact at9_c3 _ | exact at9_fl _ | exact h9 _ my | exact h9 | (simp only [Cr.at9, Cr.at9s, List.map_cons, List.map_nil, at9_int, at9_intt, at9_lkT, at9_lkTt, at9_lkX, at9_lkS, at9_tog, at9_cT, at9_sT, Bool.and_true, Bool.and_self]; done) | fail) ?_ | refine Br.no h9 ?_ | fail)
    · show D.bl (deq (.int _) (.int n)) = D.bl (decide ((xs.length : Int) = n))
      rw [deq_int2]
    all_goals first | exact fits_of (by omega) | (simp [dep]; done) | (with_reducible exact rfl) | assumption | exact trivial | exact Nat.le_of_ble_eq_true rfl | exact okM_le (Nat.le_of_ble_eq_true rfl) | exact ⟨rfl, rfl⟩ | exact fits_of (Nat.le_of_ble_eq_true rfl) | exact fun d hd => by (obtain ⟨_, _, rfl⟩ := List.mem_map.mp hd; exact trivial) | (refine fits_of ?_; simp; omega) | exact ⟨Nat.le_of_ble_eq_true rfl, Nat.le_of_ble_eq_true rfl⟩ | exact ⟨by decide, by decide⟩ | (dsimp only; exact ⟨by decide, by decide⟩) | omega | exact rfl
  | _ =>
    repeat ((conv => whnf); first | (with_reducible refine And.intro ?_ ?_; rotate_left) | with_reducible refine Exists.intro _ (And.intro rfl ?_) | refine Br.yes rfl ?_ | refine Br.no rfl ?_ | refine Br.yes (by first | rfl | exact at9_cT _ | exact at9_sT _ | exact at9_intt _ | exact at9_int _ | exact at9_lkTt _ | exact at9_lkT _ | exact at9_lkX _ | exact at9_lkS _ _ _ | exact at9_tog _ _ _ _ | exact at9_c3 _ | exact at9_fl _ | exact h9 _ my | exact h9 | (simp only [Cr.at9, Cr.at9s, List.map_cons, List.map_nil, at9_int, at9_intt, at9_lkT, at9_lkTt, at9_lkX, at9_lkS, at9_tog, at9_cT, at9_sT, Bool.and_true, Bool.and_self]; done) | fail) ?_ | refine Br.no h9 ?_ | fail)
    all_goals first | (with_reducible exact rfl) | assumption | exact trivial | exact Nat.le_of_ble_eq_true rfl | exact okM_le (Nat.le_of_ble_eq_true rfl) | exact ⟨rfl, rfl⟩ | exact fits_of (Nat.le_of_ble_eq_true rfl) | exact fun d hd => by (obtain ⟨_, _, rfl⟩ := List.mem_map.mp hd; exact trivial) | (refine fits_of ?_; simp; omega) | exact ⟨Nat.le_of_ble_eq_true rfl, Nat.le_of_ble_eq_true rfl⟩ | exact ⟨by decide, by decide⟩ | (dsimp only; exact ⟨by decide, by decide⟩) | omega | exact rfl
abbrev s_are_numbers : Stmt := tp 5
abbrev N_are_numbers : List Str := ["things", "low", "top", "one"]
theorem sc_are_numbers : FnScope N_are_numbers ["things", "low", "top"] (defScope s_are_numbers) := ⟨rfl, rfl, rfl, by decide +kernel, rfl, by decide +kernel, by decide +kernel⟩
abbrev scc_are_numbers_0 : Scope := { kind := .function, names := [(PySem.Str.ofString ".0", PySem.NameKind.local), (PySem.Str.ofString "one", PySem.NameKind.local), (PySem.Str.ofString "is_number", PySem.NameKind.globalImplicit), (PySem.Str.ofString "low", PySem.NameKind.free), (PySem.Str.ofString "top", PySem.NameKind.free)], isGenerator := false, isCoroutine := false, more := [] }
abbrev scr_are_numbers_0 : Scope := { kind := .function, names := [(PySem.Str.ofString ".0", PySem.NameKind.local), (PySem.Str.ofString "one", PySem.NameKind.local), (PySem.Str.ofString "is_number", PySem.NameKind.globalImplicit), (PySem.Str.ofString "low", PySem.NameKind.cell), (PySem.Str.ofString "top", PySem.NameKind.cell)], isGenerator := false, isCoroutine := false, more := [] }
theorem cl_are_numbers {P : Program} {w : World} {K : PySem.W.Frag} {mg : Str → Option Value} {base : Heap} (h_are_numbers : Known K mg "are_numbers" s_are_numbers ["things", "low", "top"]) (m_all : mg "all" = none) (c_is_number : Cl P w K mg base L2.CX0 1 "is_number" s_is_number ["thing"] (spB K 1 rNum)) : Cl P w K mg base L2.CX0 2 "are_numbers" s_are_numbers ["things", "low", "top"] (spB K 3 rAre) := by
  obtain ⟨f, fd, F, hm, hb⟩ := h_are_numbers
  refine Cl.B F hm hb sc_are_numbers rfl fun cdv A outer s H E Sh ds k' Pd hr hl hR => ?_
  refine ⟨_, (vss_one (vs_ret (vi_fb (fb_all rfl) m_all (va_cons (vi_lc s (own := [("one", 3)]) rfl sc_are_numbers.nd (vit_seq (nv 0)) (blkOk_by (N := N_are_numbers) (sc := (defScope s_are_numbers)) (scope := scc_are_numbers_0) (own := [("one", 3)]) (by decide +kernel)) (by decide) (by simp) (fun _ _ _ _ _ => (vg_name (i := 3) sc_are_numbers.nd rfl (by first | exact .inl rfl | exact .inr rfl) (by simp))) (fun _ _ _ _ _ => vts_nil) (fun _ _ _ _ _ => (vi_and (vi_callB c_is_number (hr.less (by omega)) noE (va_cons (nv 3) va_nil)) (vi_one (vi_chain (cr_le) (cr_le) (nv 1) (nv 3) (nv 2)))))) va_nil)))), ?_⟩

  obtain ⟨kd, xs, s', lo, hi, hs, rfl, hl, rfl, rfl⟩ := hR
  cases s' <;> cases hs
  all_goals (
    rw [show ent N_are_numbers.length [_, .int lo, .int hi] = [some (md _, _), some (9, .int lo), some (9, .int hi), none] from rfl]
    rcases md_or _ with ⟨hmd, h9⟩ | ⟨hmd, h9⟩ <;> rw [hmd]
    all_goals (
      repeat ((conv => whnf); first | (with_reducible refine And.intro ?_ ?_; rotate_left) | with_reducible refine Exists.intro _ (And.intro rfl ?_) | refine Br.yes rfl ?_ | refine Br.no rfl ?_ | refine Br.yes (by first | rfl | exact at9_cT _ | exact at9_sT _ | exact at9_intt _ | exact at9_int _ | exact at9_lkTt _ | exact at9_lkT _ | exact at9_lkX _ | exact at9_lkS _ _ _ | exact at9_tog _ _ _ _ | exact at9_c3 _ | exact at9_fl _ | exact h9 _ my | exact h9 | (simp only [Cr.at9, Cr.at9s, List.map_cons, List.map_nil, at9_int, at9_intt, at9_lkT, at9_lkTt, at9_lkX, at9_lkS, at9_tog, at9_cT, at9_sT, Bool.and_true, Bool.and_self]; done) | fail) ?_ | refine Br.no h9 ?_ | fail)
      · conv => whnf
        refine lc_self (xs := xs) (out := fun x => .bl (inR lo hi x)) 9 (Nat.le_refl _) (by omega) (fun x hx Y Z hY => ?_) (fun k hk => ?_)
        · repeat ((conv => whnf); first | (with_reducible refine And.intro ?_ ?_; rotate_left) | with_reducible refine Exists.intro _ (And.intro rfl ?_) | refine Br.yes rfl ?_ | refine Br.no rfl ?_ | refine Br.yes (by first | rfl | exact at9_cT _ | exact at9_sT _ | exact at9_intt _ | exact at9_int _ | exact at9_lkTt _ | exact at9_lkT _ | exact at9_lkX _ | exact at9_lkS _ _ _ | exact at9_tog _ _ _ _ | exact at9_c3 _ | exact at9_fl _ | exact h9 _ my | exact h9 | (simp only [Cr.at9, Cr.at9s, List.map_cons, List.map_nil, at9_int, at9_intt, at9_lkT, at9_lkTt, at9_lkX, at9_lkS, at9_tog, at9_cT, at9_sT, Bool.and_true, Bool.and_self]; done) | fail) ?_ | refine Br.no h9 ?_ | refine go_rNum rfl ?_ | refine go_rTupOf rfl ?_ ?_ | refine go_rAre rfl ?_ rfl ?_ | refine go_rLk rfl ?_ ?_ | refine go_rCan rfl ?_ ?_ | refine go_rRow rfl ?_ ?_ | fail)
          · cases x with
            | int i =>
              refine Br.yes rfl ?_
              repeat ((conv => whnf); first | (with_reducible refine And.intro ?_ ?_; rotate_left) | with_reducible refine Exists.intro _ (And.intro rfl ?_) | refine Br.yes rfl ?_ | refine Br.no rfl ?_ | refine Br.yes (by first | rfl | exact at9_cT _ | exact at9_sT _ | exact at9_intt _ | exact at9_int _ | exact at9_lkTt _ | exact at9_lkT _ | exact at9_lkX _ | exact at9_lkS _ _ _ | exact at9_tog _ _ _ _ | exact at9_c3 _ | exact at9_fl _ | exact h9 _ my | exact h9 | (simp only [Cr.at9, Cr.at9s, List.map_cons, List.map_nil, at9_int, at9_intt, at9_lkT, at9_lkTt, at9_lkX, at9_lkS, at9_tog, at9_cT, at9_sT, Bool.and_true, Bool.and_self]; done) | fail) ?_ | refine Br.no h9 ?_ | refine go_rNum rfl ?_ | refine go_rTupOf rfl ?_ ?_ | refine go_rAre rfl ?_ rfl ?_ | refine go_rLk rfl ?_ ?_ | refine go_rCan rfl ?_ ?_ | refine go_rRow rfl ?_ ?_ | fail)
              · conv => whnf
                refine Br.mk (fun h => ?_) (fun h => ?_)
                · repeat ((conv => whnf); first | (with_reducible refine And.intro ?_ ?_; rotate_left) | with_reducible refine Exists.intro _ (And.intro rfl ?_) | refine Br.yes rfl ?_ | refine Br.no rfl ?_ | refine Br.yes (by first | rfl | exact at9_cT _ | exact at9_sT _ | exact at9_intt _ | exact at9_int _ | exact at9_lkTt _ | exact at9_lkT _ | exact at9_lkX _ | exact at9_lkS _ _ _ | exact at9_tog _ _ _ _ | exact at9_c3 _ | exact at9_fl _ | exact h9 _ my | exact h9 | (simp only [Cr.at9, Cr.at9s, List.map_cons, List.map_nil, at9_int, at9_intt, at9_lkT, at9_lkTt, at9_lkX, at9_lkS, at9_tog, at9_cT, at9_sT, Bool.and_true, Bool.and_self]; done) | fail) ?_ | refine Br.no h9 ?_ | refine go_rNum rfl ?_ | refine go_rTupOf rfl ?_ ?_ | refine go_rAre rfl ?_ rfl ?_ | refine go_rLk rfl ?_ ?_ | refine go_rCan rfl ?_ ?_ | refine go_rRow rfl ?_ ?_ | fail)
                  · conv => whnf
                    have e : inR lo hi (.int i) = decide (i ≤ hi) := by show (decide (lo ≤ i) && decide (i ≤ hi)) = _; rw [show decide (lo ≤ i) = true from h]; rfl
                    show Y 9 (D.bl (decide (i ≤ hi))) _
                    rw [← e]
                    exact hY _ _ (by first | (simp [wipeE_set, wipeE_idem]; done) | (simp [wipeE]; done) | rfl) (Nat.le_refl _)
                  all_goals first | (with_reducible exact rfl) | assumption | exact trivial | exact Nat.le_of_ble_eq_true rfl | exact okM_le (Nat.le_of_ble_eq_true rfl) | exact ⟨rfl, rfl⟩ | exact fits_of (Nat.le_of_ble_eq_true rfl) | exact fun d hd => by (obtain ⟨_, _, rfl⟩ := List.mem_map.mp hd; exact trivial) | (refine fits_of ?_; simp; omega) | exact ⟨Nat.le_of_ble_eq_true rfl, Nat.le_of_ble_eq_true rfl⟩ | exact ⟨by decide, by decide⟩ | (dsimp only; exact ⟨by decide, by decide⟩) | omega | exact rfl
                · conv => whnf
                  have e : inR lo hi (.int i) = false := by show (decide (lo ≤ i) && decide (i ≤ hi)) = _; rw [show decide (lo ≤ i) = false from h]; rfl
                  show Y 9 (D.bl false) _
                  rw [← e]
                  exact hY _ _ (by first | (simp [wipeE_set, wipeE_idem]; done) | (simp [wipeE]; done) | rfl) (Nat.le_refl _)
              all_goals first | (with_reducible exact rfl) | assumption | exact trivial | exact Nat.le_of_ble_eq_true rfl | exact okM_le (Nat.le_of_ble_eq_true rfl) | exact ⟨rfl, rfl⟩ | exact fits_of (Nat.le_of_ble_eq_true rfl) | exact fun d hd => by (obtain ⟨_, _, rfl⟩ := List.mem_map.mp hd; exact trivial) | (refine fits_of ?_; simp; omega) | exact ⟨Nat.le_of_ble_eq_true rfl, Nat.le_of_ble_eq_true rfl⟩ | exact ⟨by decide, by decide⟩ | (dsimp only; exact ⟨by decide, by decide⟩) | omega | exact rfl
            | _ =>
              refine Br.no rfl ?_
              conv => whnf
              exact hY _ _ (by first | (simp [wipeE_set, wipeE_idem]; done) | (simp [wipeE]; done) | rfl) (Nat.le_refl _)
          all_goals first | (with_reducible exact rfl) | assumption | exact trivial | exact Nat.le_of_ble_eq_true rfl | exact okM_le (Nat.le_of_ble_eq_true rfl) | exact ⟨rfl, rfl⟩ | exact fits_of (Nat.le_of_ble_eq_true rfl) | exact fun d hd => by (obtain ⟨_, _, rfl⟩ := List.mem_map.mp hd; exact trivial) | (refine fits_of ?_; simp; omega) | exact ⟨Nat.le_of_ble_eq_true rfl, Nat.le_of_ble_eq_true rfl⟩ | exact ⟨by decide, by decide⟩ | (dsimp only; exact ⟨by decide, by decide⟩) | omega | exact rfl
        · repeat ((conv => whnf); first | (with_reducible refine And.intro ?_ ?_; rotate_left) | with_reducible refine Exists.intro _ (And.intro rfl ?_) | refine Br.yes rfl ?_ | refine Br.no rfl ?_ | refine Br.yes (by first | rfl | exact at9_cT _ | exact at9_sT _ | exact at9_intt _ | exact at9_int _ | exact at9_lkTt _ | exact at9_lkT _ | exact at9_lkX _ | exact at9_lkS _ _ _ | exact at9_tog _ _ _ _ | exact at9_c3 _ | exact at9_fl _ | exact h9 _ my | exact h9 | (simp only [Cr.at9, Cr.at9s, List.map_cons, List.map_nil, at9_int, at9_intt, at9_lkT, at9_lkTt, at9_lkX, at9_lkS, at9_tog, at9_cT, at9_sT, Bool.and_true, Bool.and_self]; done) | fail) ?_ | refine Br.no h9 ?_ | fail)
          · show D.bl _ = D.bl _
            rw [all_map]
          all_goals first | (with_reducible exact rfl) | assumption | exact trivial | exact Nat.le_of_ble_eq_true rfl | exact okM_le (Nat.le_of_ble_eq_true rfl) | exact ⟨rfl, rfl⟩ | exact fits_of (Nat.le_of_ble_eq_true rfl) | exact fun d hd => by (obtain ⟨_, _, rfl⟩ := List.mem_map.mp hd; exact trivial) | (refine fits_of ?_; simp; omega) | exact ⟨Nat.le_of_ble_eq_true rfl, Nat.le_of_ble_eq_true rfl⟩ | exact ⟨by decide, by decide⟩ | (dsimp only; exact ⟨by decide, by decide⟩) | omega | exact rfl
      all_goals first | (with_reducible exact rfl) | assumption | exact trivial | exact Nat.le_of_ble_eq_true rfl | exact okM_le (Nat.le_of_ble_eq_true rfl) | exact ⟨rfl, rfl⟩ | exact fits_of (Nat.le_of_ble_eq_true rfl) | exact fun d hd => by (obtain ⟨_, _, rfl⟩ := List.mem_map.mp hd; exact trivial) | (refine fits_of ?_; simp; omega) | exact ⟨Nat.le_of_ble_eq_true rfl, Nat.le_of_ble_eq_true rfl⟩ | exact ⟨by decide, by decide⟩ | (dsimp only; exact ⟨by decide, by decide⟩) | omega | exact rfl))
abbrev s_is_lock : Stmt := tp 6
abbrev N_is_lock : List Str := ["thing", "reds", "blues"]
theorem sc_is_lock : FnScope N_is_lock ["thing", "reds", "blues"] (defScope s_is_lock) := ⟨rfl, rfl, rfl, by decide +kernel, rfl, by decide +kernel, by decide +kernel⟩
theorem cl_is_lock {P : Program} {w : World} {K : PySem.W.Frag} {mg : Str → Option Value} {base : Heap} (h_is_lock : Known K mg "is_lock" s_is_lock ["thing", "reds", "blues"])  (g_ENDS : ∃ t, mg "ENDS" = some (.int (4) t)) (c_are_numbers : Cl P w K mg base L2.CX0 2 "are_numbers" s_are_numbers ["things", "low", "top"] (spB K 3 rAre)) (c_is_tuple_of : Cl P w K mg base L2.CX0 1 "is_tuple_of" s_is_tuple_of ["thing", "many"] (spB K 2 rTupOf)) : Cl P w K mg base L2.CX0 3 "is_lock" s_is_lock ["thing", "reds", "blues"] (spB K 3 rLk) := by
  obtain ⟨f, fd, F, hm, hb⟩ := h_is_lock
  refine Cl.B F hm hb sc_is_lock rfl fun cdv A outer s H E Sh ds k' Pd hr hl hR => ?_
  refine ⟨_, (vss_cons (vs_if (vt_not (vt_truth (vi_callB c_is_tuple_of (hr.less (by omega)) noE (va_cons (nv 0) (va_cons (vi_gint g_ENDS) va_nil))))) (vss_one (vs_ret vi_bl)) vss_nil) (vss_one (vs_ret (vi_and (vi_callB c_are_numbers (hr.less (by omega)) noE (va_cons (vi_slice (nv 0) vo_none (vo_some vi_int)) (va_cons vi_int (va_cons (vi_sub (nv 1) vi_int) va_nil)))) (vi_one (vi_callB c_are_numbers (hr.less (by omega)) noE (va_cons (vi_slice (nv 0) (vo_some vi_int) vo_none) (va_cons vi_int (va_cons (vi_sub (nv 2) vi_int) va_nil))))))))), ?_⟩

  obtain ⟨d, r, b, rfl, hok, rfl, rfl⟩ := hR
  cases hT : isT 4 d with
  | false =>
    repeat ((conv => whnf); first | (with_reducible refine And.intro ?_ ?_; rotate_left) | with_reducible refine Exists.intro _ (And.intro rfl ?_) | rw [hT] | rw [h2] | rw [h3] | refine Br.yes rfl ?_ | refine Br.no rfl ?_ | refine Br.yes (by first | rfl | exact at9_cT _ | exact at9_sT _ | exact at9_intt _ | exact at9_int _ | exact at9_lkTt _ | exact at9_lkT _ | exact at9_lkX _ | exact at9_lkS _ _ _ | exact at9_tog _ _ _ _ | exact at9_c3 _ | exact at9_fl _ | exact h9 _ my | exact h9 | (simp only [Cr.at9, Cr.at9s, List.map_cons, List.map_nil, at9_int, at9_intt, at9_lkT, at9_lkTt, at9_lkX, at9_lkS, at9_tog, at9_cT, at9_sT, Bool.and_true, Bool.and_self]; done) | fail) ?_ | refine Br.no h9 ?_ | refine go_rNum rfl ?_ | refine go_rTupOf rfl ?_ ?_ | refine go_rAre rfl ?_ rfl ?_ | refine go_rLk rfl ?_ ?_ | refine go_rCan rfl ?_ ?_ | refine go_rRow rfl ?_ ?_ | fail)
    · show D.bl false = D.bl _
      rw [isLk_no hT]
    all_goals first | (with_reducible exact rfl) | assumption | exact trivial | exact Nat.le_of_ble_eq_true rfl | exact okM_le (Nat.le_of_ble_eq_true rfl) | exact ⟨rfl, rfl⟩ | exact fits_of (Nat.le_of_ble_eq_true rfl) | exact fun d hd => by (obtain ⟨_, _, rfl⟩ := List.mem_map.mp hd; exact trivial) | (refine fits_of ?_; simp; omega) | exact ⟨Nat.le_of_ble_eq_true rfl, Nat.le_of_ble_eq_true rfl⟩ | exact ⟨by decide, by decide⟩ | (dsimp only; exact ⟨by decide, by decide⟩) | omega | exact rfl
  | true =>
    obtain ⟨xs, rfl, hl4⟩ := isT_true hT
    have h2 : cutL xs none (some 2) = xs.take 2 := cutL_take xs 2
    have h3 : cutL xs (some 2) none = xs.drop 2 := cutL_drop xs 2
    have hln := okd_len hok
    have e := isLk_tup (r := r) (b := b) hl4
    have l2 : (xs.take 2).length ≤ 100000 := by rw [List.length_take]; omega
    have l3 : (xs.drop 2).length ≤ 100000 := by rw [List.length_drop]; omega
    rw [show ent N_is_lock.length [.tup xs, .int r, .int b] = [some (md (.tup xs), .tup xs), some (9, .int r), some (9, .int b)] from rfl]
    rcases md_or (.tup xs) with ⟨hmd, h9⟩ | ⟨hmd, h9⟩ <;> rw [hmd]
    all_goals (
      repeat ((conv => whnf); first | (with_reducible refine And.intro ?_ ?_; rotate_left) | with_reducible refine Exists.intro _ (And.intro rfl ?_) | rw [hT] | rw [h2] | rw [h3] | refine Br.yes rfl ?_ | refine Br.no rfl ?_ | refine Br.yes (by first | rfl | exact at9_cT _ | exact at9_sT _ | exact at9_intt _ | exact at9_int _ | exact at9_lkTt _ | exact at9_lkT _ | exact at9_lkX _ | exact at9_lkS _ _ _ | exact at9_tog _ _ _ _ | exact at9_c3 _ | exact at9_fl _ | exact h9 _ my | exact h9 | (simp only [Cr.at9, Cr.at9s, List.map_cons, List.map_nil, at9_int, at9_intt, at9_lkT, at9_lkTt, at9_lkX, at9_lkS, at9_tog, at9_cT, at9_sT, Bool.and_true, Bool.and_self]; done) | fail) ?_ | refine Br.no h9 ?_ | refine go_rNum rfl ?_ | refine go_rTupOf rfl ?_ ?_ | refine go_rAre rfl ?_ rfl ?_ | refine go_rLk rfl ?_ ?_ | refine go_rCan rfl ?_ ?_ | refine go_rRow rfl ?_ ?_ | fail)
      · conv => whnf
        refine Br.mk (fun h => ?_) (fun h => ?_)
        · repeat ((conv => whnf); first | (with_reducible refine And.intro ?_ ?_; rotate_left) | with_reducible refine Exists.intro _ (And.intro rfl ?_) | rw [hT] | rw [h2] | rw [h3] | refine Br.yes rfl ?_ | refine Br.no rfl ?_ | refine Br.yes (by first | rfl | exact at9_cT _ | exact at9_sT _ | exact at9_intt _ | exact at9_int _ | exact at9_lkTt _ | exact at9_lkT _ | exact at9_lkX _ | exact at9_lkS _ _ _ | exact at9_tog _ _ _ _ | exact at9_c3 _ | exact at9_fl _ | exact h9 _ my | exact h9 | (simp only [Cr.at9, Cr.at9s, List.map_cons, List.map_nil, at9_int, at9_intt, at9_lkT, at9_lkTt, at9_lkX, at9_lkS, at9_tog, at9_cT, at9_sT, Bool.and_true, Bool.and_self]; done) | fail) ?_ | refine Br.no h9 ?_ | refine go_rNum rfl ?_ | refine go_rTupOf rfl ?_ ?_ | refine go_rAre rfl ?_ rfl ?_ | refine go_rLk rfl ?_ ?_ | refine go_rCan rfl ?_ ?_ | refine go_rRow rfl ?_ ?_ | fail)
          · show D.bl _ = D.bl _
            rw [e, show (xs.take 2).all (inR 0 (r - 1)) = true from h]; rfl
          all_goals first | (with_reducible exact rfl) | assumption | exact trivial | exact Nat.le_of_ble_eq_true rfl | exact okM_le (Nat.le_of_ble_eq_true rfl) | exact ⟨rfl, rfl⟩ | exact fits_of (Nat.le_of_ble_eq_true rfl) | exact fun d hd => by (obtain ⟨_, _, rfl⟩ := List.mem_map.mp hd; exact trivial) | (refine fits_of ?_; simp; omega) | exact ⟨Nat.le_of_ble_eq_true rfl, Nat.le_of_ble_eq_true rfl⟩ | exact ⟨by decide, by decide⟩ | (dsimp only; exact ⟨by decide, by decide⟩) | omega | exact rfl
        · repeat ((conv => whnf); first | (with_reducible refine And.intro ?_ ?_; rotate_left) | with_reducible refine Exists.intro _ (And.intro rfl ?_) | rw [hT] | rw [h2] | rw [h3] | refine Br.yes rfl ?_ | refine Br.no rfl ?_ | refine Br.yes (by first | rfl | exact at9_cT _ | exact at9_sT _ | exact at9_intt _ | exact at9_int _ | exact at9_lkTt _ | exact at9_lkT _ | exact at9_lkX _ | exact at9_lkS _ _ _ | exact at9_tog _ _ _ _ | exact at9_c3 _ | exact at9_fl _ | exact h9 _ my | exact h9 | (simp only [Cr.at9, Cr.at9s, List.map_cons, List.map_nil, at9_int, at9_intt, at9_lkT, at9_lkTt, at9_lkX, at9_lkS, at9_tog, at9_cT, at9_sT, Bool.and_true, Bool.and_self]; done) | fail) ?_ | refine Br.no h9 ?_ | refine go_rNum rfl ?_ | refine go_rTupOf rfl ?_ ?_ | refine go_rAre rfl ?_ rfl ?_ | refine go_rLk rfl ?_ ?_ | refine go_rCan rfl ?_ ?_ | refine go_rRow rfl ?_ ?_ | fail)
          · show D.bl _ = D.bl _
            rw [e, show (xs.take 2).all (inR 0 (r - 1)) = false from h]; rfl
          all_goals first | (with_reducible exact rfl) | assumption | exact trivial | exact Nat.le_of_ble_eq_true rfl | exact okM_le (Nat.le_of_ble_eq_true rfl) | exact ⟨rfl, rfl⟩ | exact fits_of (Nat.le_of_ble_eq_true rfl) | exact fun d hd => by (obtain ⟨_, _, rfl⟩ := List.mem_map.mp hd; exact trivial) | (refine fits_of ?_; simp; omega) | exact ⟨Nat.le_of_ble_eq_true rfl, Nat.le_of_ble_eq_true rfl⟩ | exact ⟨by decide, by decide⟩ | (dsimp only; exact ⟨by decide, by decide⟩) | omega | exact rfl
      all_goals first | (with_reducible exact rfl) | assumption | exact trivial | exact Nat.le_of_ble_eq_true rfl | exact okM_le (Nat.le_of_ble_eq_true rfl) | exact ⟨rfl, rfl⟩ | exact fits_of (Nat.le_of_ble_eq_true rfl) | exact fun d hd => by (obtain ⟨_, _, rfl⟩ := List.mem_map.mp hd; exact trivial) | (refine fits_of ?_; simp; omega) | exact ⟨Nat.le_of_ble_eq_true rfl, Nat.le_of_ble_eq_true rfl⟩ | exact ⟨by decide, by decide⟩ | (dsimp only; exact ⟨by decide, by decide⟩) | omega | exact rfl)
abbrev s_is_canal : Stmt := tp 7
abbrev N_is_canal : List Str := ["thing", "reds", "blues", "locks", "one"]
theorem sc_is_canal : FnScope N_is_canal ["thing"] (defScope s_is_canal) := ⟨rfl, rfl, rfl, by decide +kernel, rfl, by decide +kernel, by decide +kernel⟩
abbrev scc_is_canal_0 : Scope := { kind := .function, names := [(PySem.Str.ofString ".0", PySem.NameKind.local), (PySem.Str.ofString "one", PySem.NameKind.local), (PySem.Str.ofString "is_lock", PySem.NameKind.globalImplicit), (PySem.Str.ofString "blues", PySem.NameKind.free), (PySem.Str.ofString "reds", PySem.NameKind.free)], isGenerator := false, isCoroutine := false, more := [] }
abbrev scr_is_canal_0 : Scope := { kind := .function, names := [(PySem.Str.ofString ".0", PySem.NameKind.local), (PySem.Str.ofString "one", PySem.NameKind.local), (PySem.Str.ofString "is_lock", PySem.NameKind.globalImplicit), (PySem.Str.ofString "blues", PySem.NameKind.cell), (PySem.Str.ofString "reds", PySem.NameKind.cell)], isGenerator := false, isCoroutine := false, more := [] }
theorem cl_is_canal {P : Program} {w : World} {K : PySem.W.Frag} {mg : Str → Option Value} {base : Heap} (h_is_canal : Known K mg "is_canal" s_is_canal ["thing"]) (m_all : mg "all" = none) (m_isinstance : mg "isinstance" = none) (m_tuple : mg "tuple" = none) (g_PARTS : ∃ t, mg "PARTS" = some (.int (3) t)) (c_is_lock : Cl P w K mg base L2.CX0 3 "is_lock" s_is_lock ["thing", "reds", "blues"] (spB K 3 rLk)) (c_is_number : Cl P w K mg base L2.CX0 1 "is_number" s_is_number ["thing"] (spB K 1 rNum)) (c_is_tuple_of : Cl P w K mg base L2.CX0 1 "is_tuple_of" s_is_tuple_of ["thing", "many"] (spB K 2 rTupOf)) : Cl P w K mg base L2.CX0 4 "is_canal" s_is_canal ["thing"] (spB K 1 rCan) := by
  obtain ⟨f, fd, F, hm, hb⟩ := h_is_canal
  refine Cl.B F hm hb sc_is_canal rfl fun cdv A outer s H E Sh ds k' Pd hr hl hR => ?_
  refine ⟨_, (vss_cons (vs_if (vt_not (vt_truth (vi_callB c_is_tuple_of (hr.less (by omega)) noE (va_cons (nv 0) (va_cons (vi_gint g_PARTS) va_nil))))) (vss_one (vs_ret vi_bl)) vss_nil) (vss_cons (vs_asg (nv 0) (vg_tup (n := 3) rfl (vgs_cons (vg_name (i := 1) sc_is_canal.nd rfl (by first | exact .inl rfl | exact .inr rfl) (by simp)) (vgs_cons (vg_name (i := 2) sc_is_canal.nd rfl (by first | exact .inl rfl | exact .inr rfl) (by simp)) (vgs_cons (vg_name (i := 3) sc_is_canal.nd rfl (by first | exact .inl rfl | exact .inr rfl) (by simp)) vgs_nil))))) (vss_cons (vs_if (VW.vt (vw_or (vt_not (vt_truth (vi_callB c_is_number (hr.less (by omega)) noE (va_cons (nv 1) va_nil)))) (vw_or (vt_not (vt_truth (vi_callB c_is_number (hr.less (by omega)) noE (va_cons (nv 2) va_nil)))) (vw_or (vt_c (cr_lt) (nv 1) vi_int) (vw_or (vt_c (cr_lt) (nv 2) vi_int) (vw_or1 (vt_not (vt_truth (vi_isi1 .tuple rfl m_isinstance m_tuple (nv 3)))))))))) (vss_one (vs_ret vi_bl)) vss_nil) (vss_one (vs_ret (vi_fb (fb_all rfl) m_all (va_cons (vi_lc s (own := [("one", 4)]) rfl sc_is_canal.nd (vit_seq (nv 3)) (blkOk_by (N := N_is_canal) (sc := (defScope s_is_canal)) (scope := scc_is_canal_0) (own := [("one", 4)]) (by decide +kernel)) (by decide) (by simp) (fun _ _ _ _ _ => (vg_name (i := 4) sc_is_canal.nd rfl (by first | exact .inl rfl | exact .inr rfl) (by simp))) (fun _ _ _ _ _ => vts_nil) (fun _ _ _ _ _ => (vi_callB c_is_lock (hr.less (by omega)) noE (va_cons (nv 4) (va_cons (nv 1) (va_cons (nv 2) va_nil)))))) va_nil))))))), ?_⟩

  obtain ⟨d, rfl, hok, rfl, rfl⟩ := hR
  cases hT : isT 3 d with
  | false =>
    repeat ((conv => whnf); first | (with_reducible refine And.intro ?_ ?_; rotate_left) | with_reducible refine Exists.intro _ (And.intro rfl ?_) | rw [hT] | rw [hA] | rw [hB] | refine Br.yes rfl ?_ | refine Br.no rfl ?_ | refine Br.yes (by first | rfl | exact at9_cT _ | exact at9_sT _ | exact at9_intt _ | exact at9_int _ | exact at9_lkTt _ | exact at9_lkT _ | exact at9_lkX _ | exact at9_lkS _ _ _ | exact at9_tog _ _ _ _ | exact at9_c3 _ | exact at9_fl _ | exact h9 _ my | exact h9 | (simp only [Cr.at9, Cr.at9s, List.map_cons, List.map_nil, at9_int, at9_intt, at9_lkT, at9_lkTt, at9_lkX, at9_lkS, at9_tog, at9_cT, at9_sT, Bool.and_true, Bool.and_self]; done) | fail) ?_ | refine Br.no h9 ?_ | refine go_rNum rfl ?_ | refine go_rTupOf rfl ?_ ?_ | refine go_rAre rfl ?_ rfl ?_ | refine go_rLk rfl ?_ ?_ | refine go_rCan rfl ?_ ?_ | refine go_rRow rfl ?_ ?_ | refine Br.yes hr1 ?_ | refine Br.no hr1 ?_ | refine Br.yes hb1 ?_ | refine Br.no hb1 ?_ | refine Br.yes h9c ?_ | refine Br.no h9c ?_ | fail)
    · show D.bl false = D.bl _
      rw [isCan_no hT]
    all_goals first | (with_reducible exact rfl) | assumption | exact trivial | exact Nat.le_of_ble_eq_true rfl | exact okM_le (Nat.le_of_ble_eq_true rfl) | exact ⟨rfl, rfl⟩ | exact fits_of (Nat.le_of_ble_eq_true rfl) | exact fun d hd => by (obtain ⟨_, _, rfl⟩ := List.mem_map.mp hd; exact trivial) | (refine fits_of ?_; simp; omega) | exact ⟨Nat.le_of_ble_eq_true rfl, Nat.le_of_ble_eq_true rfl⟩ | exact ⟨by decide, by decide⟩ | (dsimp only; exact ⟨by decide, by decide⟩) | omega | exact rfl
  | true =>
    obtain ⟨xs, rfl, hl4⟩ := isT_true hT
    obtain ⟨a, b, c, rfl⟩ := three_of hl4
    have hoks := okd_tups hok
    rw [show ent N_is_canal.length [.tup [a, b, c]] = [some (md (.tup [a, b, c]), .tup [a, b, c]), none, none, none, none] from rfl]
    cases hA : isN a with
    | false =>
      rcases md_or (.tup [a, b, c]) with ⟨hmd, h9⟩ | ⟨hmd, h9⟩ <;> rw [hmd]
      all_goals (
        repeat ((conv => whnf); first | (with_reducible refine And.intro ?_ ?_; rotate_left) | with_reducible refine Exists.intro _ (And.intro rfl ?_) | rw [hT] | rw [hA] | rw [hB] | refine Br.yes rfl ?_ | refine Br.no rfl ?_ | refine Br.yes (by first | rfl | exact at9_cT _ | exact at9_sT _ | exact at9_intt _ | exact at9_int _ | exact at9_lkTt _ | exact at9_lkT _ | exact at9_lkX _ | exact at9_lkS _ _ _ | exact at9_tog _ _ _ _ | exact at9_c3 _ | exact at9_fl _ | exact h9 _ my | exact h9 | (simp only [Cr.at9, Cr.at9s, List.map_cons, List.map_nil, at9_int, at9_intt, at9_lkT, at9_lkTt, at9_lkX, at9_lkS, at9_tog, at9_cT, at9_sT, Bool.and_true, Bool.and_self]; done) | fail) ?_ | refine Br.no h9 ?_ | refine go_rNum rfl ?_ | refine go_rTupOf rfl ?_ ?_ | refine go_rAre rfl ?_ rfl ?_ | refine go_rLk rfl ?_ ?_ | refine go_rCan rfl ?_ ?_ | refine go_rRow rfl ?_ ?_ | refine Br.yes hr1 ?_ | refine Br.no hr1 ?_ | refine Br.yes hb1 ?_ | refine Br.no hb1 ?_ | refine Br.yes h9c ?_ | refine Br.no h9c ?_ | fail)
        · show D.bl false = D.bl _
          rw [isCan_a hA]
        all_goals first | (with_reducible exact rfl) | assumption | exact trivial | exact Nat.le_of_ble_eq_true rfl | exact okM_le (Nat.le_of_ble_eq_true rfl) | exact ⟨rfl, rfl⟩ | exact fits_of (Nat.le_of_ble_eq_true rfl) | exact fun d hd => by (obtain ⟨_, _, rfl⟩ := List.mem_map.mp hd; exact trivial) | (refine fits_of ?_; simp; omega) | exact ⟨Nat.le_of_ble_eq_true rfl, Nat.le_of_ble_eq_true rfl⟩ | exact ⟨by decide, by decide⟩ | (dsimp only; exact ⟨by decide, by decide⟩) | omega | exact rfl)
    | true =>
      obtain ⟨r, rfl⟩ := isN_true hA
      cases hB : isN b with
      | false =>
        rcases md_or (.tup [.int r, b, c]) with ⟨hmd, h9⟩ | ⟨hmd, h9⟩ <;> rw [hmd]
        all_goals (
          repeat ((conv => whnf); first | (with_reducible refine And.intro ?_ ?_; rotate_left) | with_reducible refine Exists.intro _ (And.intro rfl ?_) | rw [hT] | rw [hA] | rw [hB] | refine Br.yes rfl ?_ | refine Br.no rfl ?_ | refine Br.yes (by first | rfl | exact at9_cT _ | exact at9_sT _ | exact at9_intt _ | exact at9_int _ | exact at9_lkTt _ | exact at9_lkT _ | exact at9_lkX _ | exact at9_lkS _ _ _ | exact at9_tog _ _ _ _ | exact at9_c3 _ | exact at9_fl _ | exact h9 _ my | exact h9 | (simp only [Cr.at9, Cr.at9s, List.map_cons, List.map_nil, at9_int, at9_intt, at9_lkT, at9_lkTt, at9_lkX, at9_lkS, at9_tog, at9_cT, at9_sT, Bool.and_true, Bool.and_self]; done) | fail) ?_ | refine Br.no h9 ?_ | refine go_rNum rfl ?_ | refine go_rTupOf rfl ?_ ?_ | refine go_rAre rfl ?_ rfl ?_ | refine go_rLk rfl ?_ ?_ | refine go_rCan rfl ?_ ?_ | refine go_rRow rfl ?_ ?_ | refine Br.yes hr1 ?_ | refine Br.no hr1 ?_ | refine Br.yes hb1 ?_ | refine Br.no hb1 ?_ | refine Br.yes h9c ?_ | refine Br.no h9c ?_ | fail)
          · show D.bl false = D.bl _
            rw [isCan_b hB]
          all_goals first | (with_reducible exact rfl) | assumption | exact trivial | exact Nat.le_of_ble_eq_true rfl | exact okM_le (Nat.le_of_ble_eq_true rfl) | exact ⟨rfl, rfl⟩ | exact fits_of (Nat.le_of_ble_eq_true rfl) | exact fun d hd => by (obtain ⟨_, _, rfl⟩ := List.mem_map.mp hd; exact trivial) | (refine fits_of ?_; simp; omega) | exact ⟨Nat.le_of_ble_eq_true rfl, Nat.le_of_ble_eq_true rfl⟩ | exact ⟨by decide, by decide⟩ | (dsimp only; exact ⟨by decide, by decide⟩) | omega | exact rfl)
      | true =>
        obtain ⟨q, rfl⟩ := isN_true hB
        rcases md_or (.tup [.int r, .int q, c]) with ⟨hmd, h9⟩ | ⟨hmd, h9⟩ <;> rw [hmd]
        all_goals (
          have h9c := h9
          rw [at9_3] at h9c
          cases c with
          | tup ls =>
            cases hr1 : decide (r < 1) with
            | true =>
              repeat ((conv => whnf); first | (with_reducible refine And.intro ?_ ?_; rotate_left) | with_reducible refine Exists.intro _ (And.intro rfl ?_) | rw [hT] | rw [hA] | rw [hB] | refine Br.yes rfl ?_ | refine Br.no rfl ?_ | refine Br.yes (by first | rfl | exact at9_cT _ | exact at9_sT _ | exact at9_intt _ | exact at9_int _ | exact at9_lkTt _ | exact at9_lkT _ | exact at9_lkX _ | exact at9_lkS _ _ _ | exact at9_tog _ _ _ _ | exact at9_c3 _ | exact at9_fl _ | exact h9 _ my | exact h9 | (simp only [Cr.at9, Cr.at9s, List.map_cons, List.map_nil, at9_int, at9_intt, at9_lkT, at9_lkTt, at9_lkX, at9_lkS, at9_tog, at9_cT, at9_sT, Bool.and_true, Bool.and_self]; done) | fail) ?_ | refine Br.no h9 ?_ | refine go_rNum rfl ?_ | refine go_rTupOf rfl ?_ ?_ | refine go_rAre rfl ?_ rfl ?_ | refine go_rLk rfl ?_ ?_ | refine go_rCan rfl ?_ ?_ | refine go_rRow rfl ?_ ?_ | refine Br.yes hr1 ?_ | refine Br.no hr1 ?_ | refine Br.yes hb1 ?_ | refine Br.no hb1 ?_ | refine Br.yes h9c ?_ | refine Br.no h9c ?_ | fail)
              · show D.bl false = D.bl _
                rw [isCan_r hr1]
              all_goals first | (with_reducible exact rfl) | assumption | exact trivial | exact Nat.le_of_ble_eq_true rfl | exact okM_le (Nat.le_of_ble_eq_true rfl) | exact ⟨rfl, rfl⟩ | exact fits_of (Nat.le_of_ble_eq_true rfl) | exact fun d hd => by (obtain ⟨_, _, rfl⟩ := List.mem_map.mp hd; exact trivial) | (refine fits_of ?_; simp; omega) | exact ⟨Nat.le_of_ble_eq_true rfl, Nat.le_of_ble_eq_true rfl⟩ | exact ⟨by decide, by decide⟩ | (dsimp only; exact ⟨by decide, by decide⟩) | omega | exact rfl
            | false =>
              cases hb1 : decide (q < 1) with
              | true =>
                repeat ((conv => whnf); first | (with_reducible refine And.intro ?_ ?_; rotate_left) | with_reducible refine Exists.intro _ (And.intro rfl ?_) | rw [hT] | rw [hA] | rw [hB] | refine Br.yes rfl ?_ | refine Br.no rfl ?_ | refine Br.yes (by first | rfl | exact at9_cT _ | exact at9_sT _ | exact at9_intt _ | exact at9_int _ | exact at9_lkTt _ | exact at9_lkT _ | exact at9_lkX _ | exact at9_lkS _ _ _ | exact at9_tog _ _ _ _ | exact at9_c3 _ | exact at9_fl _ | exact h9 _ my | exact h9 | (simp only [Cr.at9, Cr.at9s, List.map_cons, List.map_nil, at9_int, at9_intt, at9_lkT, at9_lkTt, at9_lkX, at9_lkS, at9_tog, at9_cT, at9_sT, Bool.and_true, Bool.and_self]; done) | fail) ?_ | refine Br.no h9 ?_ | refine go_rNum rfl ?_ | refine go_rTupOf rfl ?_ ?_ | refine go_rAre rfl ?_ rfl ?_ | refine go_rLk rfl ?_ ?_ | refine go_rCan rfl ?_ ?_ | refine go_rRow rfl ?_ ?_ | refine Br.yes hr1 ?_ | refine Br.no hr1 ?_ | refine Br.yes hb1 ?_ | refine Br.no hb1 ?_ | refine Br.yes h9c ?_ | refine Br.no h9c ?_ | fail)
                · show D.bl false = D.bl _
                  rw [isCan_bb hb1]
                all_goals first | (with_reducible exact rfl) | assumption | exact trivial | exact Nat.le_of_ble_eq_true rfl | exact okM_le (Nat.le_of_ble_eq_true rfl) | exact ⟨rfl, rfl⟩ | exact fits_of (Nat.le_of_ble_eq_true rfl) | exact fun d hd => by (obtain ⟨_, _, rfl⟩ := List.mem_map.mp hd; exact trivial) | (refine fits_of ?_; simp; omega) | exact ⟨Nat.le_of_ble_eq_true rfl, Nat.le_of_ble_eq_true rfl⟩ | exact ⟨by decide, by decide⟩ | (dsimp only; exact ⟨by decide, by decide⟩) | omega | exact rfl
              | false =>
                have hls : okd (.tup ls) := okds_mem hoks (by simp)
                have e := isCan_ok (ls := ls) hr1 hb1
                repeat ((conv => whnf); first | (with_reducible refine And.intro ?_ ?_; rotate_left) | with_reducible refine Exists.intro _ (And.intro rfl ?_) | rw [hT] | rw [hA] | rw [hB] | refine Br.yes rfl ?_ | refine Br.no rfl ?_ | refine Br.yes (by first | rfl | exact at9_cT _ | exact at9_sT _ | exact at9_intt _ | exact at9_int _ | exact at9_lkTt _ | exact at9_lkT _ | exact at9_lkX _ | exact at9_lkS _ _ _ | exact at9_tog _ _ _ _ | exact at9_c3 _ | exact at9_fl _ | exact h9 _ my | exact h9 | (simp only [Cr.at9, Cr.at9s, List.map_cons, List.map_nil, at9_int, at9_intt, at9_lkT, at9_lkTt, at9_lkX, at9_lkS, at9_tog, at9_cT, at9_sT, Bool.and_true, Bool.and_self]; done) | fail) ?_ | refine Br.no h9 ?_ | refine go_rNum rfl ?_ | refine go_rTupOf rfl ?_ ?_ | refine go_rAre rfl ?_ rfl ?_ | refine go_rLk rfl ?_ ?_ | refine go_rCan rfl ?_ ?_ | refine go_rRow rfl ?_ ?_ | refine Br.yes hr1 ?_ | refine Br.no hr1 ?_ | refine Br.yes hb1 ?_ | refine Br.no hb1 ?_ | refine Br.yes h9c ?_ | refine Br.no h9c ?_ | fail)
                · conv => whnf
                  refine lc_self (xs := ls) (out := fun x => .bl (isLk r q x)) 9 (Nat.le_refl _) (by have := okd_len hls; omega) (fun x hx Y Z hY => ?_) (fun k hk => ?_)
                  · have hox : okd x := okds_mem (okd_tups hls) hx
                    repeat ((conv => whnf); first | (with_reducible refine And.intro ?_ ?_; rotate_left) | with_reducible refine Exists.intro _ (And.intro rfl ?_) | rw [hT] | rw [hA] | rw [hB] | refine Br.yes rfl ?_ | refine Br.no rfl ?_ | refine Br.yes (by first | rfl | exact at9_cT _ | exact at9_sT _ | exact at9_intt _ | exact at9_int _ | exact at9_lkTt _ | exact at9_lkT _ | exact at9_lkX _ | exact at9_lkS _ _ _ | exact at9_tog _ _ _ _ | exact at9_c3 _ | exact at9_fl _ | exact h9 _ my | exact h9 | (simp only [Cr.at9, Cr.at9s, List.map_cons, List.map_nil, at9_int, at9_intt, at9_lkT, at9_lkTt, at9_lkX, at9_lkS, at9_tog, at9_cT, at9_sT, Bool.and_true, Bool.and_self]; done) | fail) ?_ | refine Br.no h9 ?_ | refine go_rNum rfl ?_ | refine go_rTupOf rfl ?_ ?_ | refine go_rAre rfl ?_ rfl ?_ | refine go_rLk rfl ?_ ?_ | refine go_rCan rfl ?_ ?_ | refine go_rRow rfl ?_ ?_ | refine Br.yes hr1 ?_ | refine Br.no hr1 ?_ | refine Br.yes hb1 ?_ | refine Br.no hb1 ?_ | refine Br.yes h9c ?_ | refine Br.no h9c ?_ | fail)
                    · conv => whnf
                      exact hY _ _ (by first | (simp [wipeE_set, wipeE_idem]; done) | (simp [wipeE]; done) | rfl) (Nat.le_refl _)
                    all_goals first | (with_reducible exact rfl) | assumption | exact trivial | exact Nat.le_of_ble_eq_true rfl | exact okM_le (Nat.le_of_ble_eq_true rfl) | exact ⟨rfl, rfl⟩ | exact fits_of (Nat.le_of_ble_eq_true rfl) | exact fun d hd => by (obtain ⟨_, _, rfl⟩ := List.mem_map.mp hd; exact trivial) | (refine fits_of ?_; simp; omega) | exact ⟨Nat.le_of_ble_eq_true rfl, Nat.le_of_ble_eq_true rfl⟩ | exact ⟨by decide, by decide⟩ | (dsimp only; exact ⟨by decide, by decide⟩) | omega | exact rfl
                  · repeat ((conv => whnf); first | (with_reducible refine And.intro ?_ ?_; rotate_left) | with_reducible refine Exists.intro _ (And.intro rfl ?_) | rw [hT] | rw [hA] | rw [hB] | refine Br.yes rfl ?_ | refine Br.no rfl ?_ | refine Br.yes (by first | rfl | exact at9_cT _ | exact at9_sT _ | exact at9_intt _ | exact at9_int _ | exact at9_lkTt _ | exact at9_lkT _ | exact at9_lkX _ | exact at9_lkS _ _ _ | exact at9_tog _ _ _ _ | exact at9_c3 _ | exact at9_fl _ | exact h9 _ my | exact h9 | (simp only [Cr.at9, Cr.at9s, List.map_cons, List.map_nil, at9_int, at9_intt, at9_lkT, at9_lkTt, at9_lkX, at9_lkS, at9_tog, at9_cT, at9_sT, Bool.and_true, Bool.and_self]; done) | fail) ?_ | refine Br.no h9 ?_ | refine go_rNum rfl ?_ | refine go_rTupOf rfl ?_ ?_ | refine go_rAre rfl ?_ rfl ?_ | refine go_rLk rfl ?_ ?_ | refine go_rCan rfl ?_ ?_ | refine go_rRow rfl ?_ ?_ | refine Br.yes hr1 ?_ | refine Br.no hr1 ?_ | refine Br.yes hb1 ?_ | refine Br.no hb1 ?_ | refine Br.yes h9c ?_ | refine Br.no h9c ?_ | fail)
                    · show D.bl _ = D.bl _
                      rw [all_map, e]
                    all_goals first | exact fits_of (by have := okd_len hls; simp; omega) | (with_reducible exact rfl) | assumption | exact trivial | exact Nat.le_of_ble_eq_true rfl | exact okM_le (Nat.le_of_ble_eq_true rfl) | exact ⟨rfl, rfl⟩ | exact fits_of (Nat.le_of_ble_eq_true rfl) | exact fun d hd => by (obtain ⟨_, _, rfl⟩ := List.mem_map.mp hd; exact trivial) | (refine fits_of ?_; simp; omega) | exact ⟨Nat.le_of_ble_eq_true rfl, Nat.le_of_ble_eq_true rfl⟩ | exact ⟨by decide, by decide⟩ | (dsimp only; exact ⟨by decide, by decide⟩) | omega | exact rfl
                all_goals first | (with_reducible exact rfl) | assumption | exact trivial | exact Nat.le_of_ble_eq_true rfl | exact okM_le (Nat.le_of_ble_eq_true rfl) | exact ⟨rfl, rfl⟩ | exact fits_of (Nat.le_of_ble_eq_true rfl) | exact fun d hd => by (obtain ⟨_, _, rfl⟩ := List.mem_map.mp hd; exact trivial) | (refine fits_of ?_; simp; omega) | exact ⟨Nat.le_of_ble_eq_true rfl, Nat.le_of_ble_eq_true rfl⟩ | exact ⟨by decide, by decide⟩ | (dsimp only; exact ⟨by decide, by decide⟩) | omega | exact rfl
          | _ =>
            cases hr1 : decide (r < 1) <;> cases hb1 : decide (q < 1)
            all_goals (
              repeat ((conv => whnf); first | (with_reducible refine And.intro ?_ ?_; rotate_left) | with_reducible refine Exists.intro _ (And.intro rfl ?_) | rw [hT] | rw [hA] | rw [hB] | refine Br.yes rfl ?_ | refine Br.no rfl ?_ | refine Br.yes (by first | rfl | exact at9_cT _ | exact at9_sT _ | exact at9_intt _ | exact at9_int _ | exact at9_lkTt _ | exact at9_lkT _ | exact at9_lkX _ | exact at9_lkS _ _ _ | exact at9_tog _ _ _ _ | exact at9_c3 _ | exact at9_fl _ | exact h9 _ my | exact h9 | (simp only [Cr.at9, Cr.at9s, List.map_cons, List.map_nil, at9_int, at9_intt, at9_lkT, at9_lkTt, at9_lkX, at9_lkS, at9_tog, at9_cT, at9_sT, Bool.and_true, Bool.and_self]; done) | fail) ?_ | refine Br.no h9 ?_ | refine go_rNum rfl ?_ | refine go_rTupOf rfl ?_ ?_ | refine go_rAre rfl ?_ rfl ?_ | refine go_rLk rfl ?_ ?_ | refine go_rCan rfl ?_ ?_ | refine go_rRow rfl ?_ ?_ | refine Br.yes hr1 ?_ | refine Br.no hr1 ?_ | refine Br.yes hb1 ?_ | refine Br.no hb1 ?_ | refine Br.yes h9c ?_ | refine Br.no h9c ?_ | fail)
              · show D.bl false = D.bl _
                rw [isCan_c (fun _ h => by cases h)]
              all_goals first | (with_reducible exact rfl) | assumption | exact trivial | exact Nat.le_of_ble_eq_true rfl | exact okM_le (Nat.le_of_ble_eq_true rfl) | exact ⟨rfl, rfl⟩ | exact fits_of (Nat.le_of_ble_eq_true rfl) | exact fun d hd => by (obtain ⟨_, _, rfl⟩ := List.mem_map.mp hd; exact trivial) | (refine fits_of ?_; simp; omega) | exact ⟨Nat.le_of_ble_eq_true rfl, Nat.le_of_ble_eq_true rfl⟩ | exact ⟨by decide, by decide⟩ | (dsimp only; exact ⟨by decide, by decide⟩) | omega | exact rfl))
abbrev s__law_right : Stmt := tp 21
abbrev N__law_right : List Str := ["_law_box_here", "_law_ship_way", "_law_some", "_law_turn", "_law_bent", "_law_item", "_law_shown_so", "_law_due_here"]
theorem sc__law_right : FnScope N__law_right ["_law_box_here"] (defScope s__law_right) := ⟨rfl, rfl, rfl, by decide +kernel, rfl, by decide +kernel, by decide +kernel⟩
abbrev scc__law_right_0 : Scope := { kind := .function, names := [(PySem.Str.ofString ".0", PySem.NameKind.local), (PySem.Str.ofString "_law_turn", PySem.NameKind.local), (PySem.Str.ofString "_law_odd", PySem.NameKind.globalImplicit), (PySem.Str.ofString "_law_box_here", PySem.NameKind.free)], isGenerator := false, isCoroutine := false, more := [] }
abbrev scr__law_right_0 : Scope := { kind := .function, names := [(PySem.Str.ofString ".0", PySem.NameKind.local), (PySem.Str.ofString "_law_turn", PySem.NameKind.local), (PySem.Str.ofString "_law_odd", PySem.NameKind.globalImplicit), (PySem.Str.ofString "_law_box_here", PySem.NameKind.cell)], isGenerator := false, isCoroutine := false, more := [] }
theorem cl__law_right {P : Program} {w : World} {K : PySem.W.Frag} {mg : Str → Option Value} {base : Heap} (h__law_right : Known K mg "_law_right" s__law_right ["_law_box_here"]) (m_range : mg "range" = none) (m_repr : mg "repr" = none) (c__law_canal : Cl P w K mg base L2.CX0 3 "_law_canal" s__law_canal ["_law_box_here", "_law_wide", "_law_utmost"] (spI K 3 1 rCanal)) (c__law_due : Cl P w K mg base L2.CX0 3 "_law_due" s__law_due ["_law_item"] (spB K 1 rCan)) (c__law_lists : Cl P w K mg base L2.CX0 5 "_law_lists" s__law_lists ["_law_what"] (spB K 1 (rLists 5))) (c__law_odd : Cl P w K mg base L2.CX0 3 "_law_odd" s__law_odd ["_law_box_here"] (spI K 1 1 rOdd)) (c__law_otherwise : Cl P w K mg base L2.CX0 10 "_law_otherwise" s__law_otherwise ["_law_box_here", "_law_what"] (spI K 2 1 (rOth 6))) (c__law_same : Cl P w K mg base L2.CX0 8 "_law_same" s__law_same ["_law_found", "_law_due_here"] (spB K 2 (rSame 8))) (c__law_take : Cl P w K mg base L2.CX0 1 "_law_take" s__law_take ["_law_box_here", "_law_size"] (spI K 2 1 rTake)) (c_is_canal : Cl P w K mg base L2.CX0 4 "is_canal" s_is_canal ["thing"] (spB K 1 rCan)) : Cl P w K mg base L2.CX0 12 "_law_right" s__law_right ["_law_box_here"] (spI K 1 1 rRight) := by
  obtain ⟨f, fd, F, hm, hb⟩ := h__law_right
  refine Cl.I F hm hb sc__law_right rfl fun cdv A outer s H E G Sh v0 ds k' Pd hr hl hR => ?_
  refine ⟨_, (vss_cons (vs_set (i := 1) sc__law_right.nd rfl (by first | exact .inl rfl | exact .inr rfl) (by simp) (vi_callI c__law_canal (hr.less (by omega)) noE (va_cons (nv 0) (va_cons vi_int (va_cons vi_int va_nil))))) (vss_cons (vs_set (i := 2) sc__law_right.nd rfl (by first | exact .inl rfl | exact .inr rfl) (by simp) (vi_list (va_cons (nv 1) (va_cons (vi_callB c__law_lists (hr.less (by omega)) noE (va_cons (nv 1) va_nil)) (va_cons (vi_tup (va_cons vi_int (va_cons vi_int (va_cons (vi_tup va_nil) va_nil)))) (va_cons (vi_tup (va_cons vi_int (va_cons vi_int (va_cons (vi_tup va_nil) va_nil)))) (va_cons (vi_tup (va_cons vi_int (va_cons vi_int (va_cons (vi_tup va_nil) va_nil)))) (va_cons (vi_tup (va_cons vi_bl (va_cons vi_int (va_cons (vi_tup va_nil) va_nil)))) va_nil)))))))) (vss_cons (vs_set (i := 2) sc__law_right.nd rfl (by first | exact .inl rfl | exact .inr rfl) (by simp) (vi_add (nv 2) (vi_list (va_cons (vi_tup (va_cons vi_int (va_cons vi_int (va_cons (vi_tup (va_cons (vi_tup (va_cons vi_int (va_cons vi_int (va_cons vi_int (va_cons vi_int va_nil))))) va_nil)) va_nil)))) (va_cons (vi_tup (va_cons vi_int (va_cons vi_int (va_cons (vi_tup (va_cons (vi_tup (va_cons vi_int (va_cons vi_int (va_cons vi_int (va_cons vi_int va_nil))))) va_nil)) va_nil)))) (va_cons (vi_tup (va_cons vi_int (va_cons vi_int (va_cons (vi_tup (va_cons (vi_tup (va_cons vi_int (va_cons vi_int (va_cons vi_int (va_cons vi_int va_nil))))) va_nil)) va_nil)))) (va_cons (vi_tup (va_cons vi_int (va_cons vi_int (va_cons (vi_tup (va_cons (vi_tup (va_cons vi_int (va_cons vi_int (va_cons vi_int (va_cons vi_int va_nil))))) va_nil)) va_nil)))) va_nil))))))) (vss_cons (vs_for (passes_of rfl) rfl (vit_range1 m_range vi_int) (vg_name (i := 3) sc__law_right.nd rfl (by first | exact .inl rfl | exact .inr rfl) (by simp)) (vss_cons (vs_set (i := 4) sc__law_right.nd rfl (by first | exact .inl rfl | exact .inr rfl) (by simp) (vi_callI c__law_otherwise (hr.less (by omega)) noE (va_cons (nv 0) (va_cons (nv 1) va_nil)))) (vss_one (vs_expr (vi_push (i := 2) rfl (by first | exact Or.inl rfl | exact Or.inr (Or.inl rfl) | exact Or.inr (Or.inr rfl)) (vi_if (vt_c (cr_eq hr.r.units) (vi_callI c__law_take (hr.less (by omega)) noE (va_cons (nv 0) (va_cons vi_int va_nil))) vi_int) (vi_callI c__law_otherwise (hr.less (by omega)) noE (va_cons (nv 0) (va_cons (nv 4) va_nil))) (nv 4))))))) (vss_cons (vs_set (i := 2) sc__law_right.nd rfl (by first | exact .inl rfl | exact .inr rfl) (by simp) (vi_add (nv 2) (vi_lc s (own := [("_law_turn", 3)]) rfl sc__law_right.nd (vit_range1 m_range vi_int) (blkOk_by (N := N__law_right) (sc := (defScope s__law_right)) (scope := scc__law_right_0) (own := [("_law_turn", 3)]) (by decide +kernel)) (by decide) (by simp) (fun _ _ _ _ _ => (vg_name (i := 3) sc__law_right.nd rfl (by first | exact .inl rfl | exact .inr rfl) (by simp))) (fun _ _ _ _ _ => vts_nil) (fun _ _ _ _ _ => (vi_callI c__law_odd (hr.less (by omega)) noE (va_cons (nv 0) va_nil)))))) (vss_cons (vs_for (passes_of rfl) rfl (vit_seq (nv 2)) (vg_name (i := 5) sc__law_right.nd rfl (by first | exact .inl rfl | exact .inr rfl) (by simp)) (vss_cons (vs_par (i := 6) (j := 7) rfl sc__law_right.nd rfl rfl (by decide) rfl rfl (by simp) (by simp) (va_cons (vi_fb (fb_reprA hr.g hr.r.units) m_repr (va_cons (nv 5) va_nil)) (va_cons (vi_callB c__law_due (hr.less (by omega)) noE (va_cons (nv 5) va_nil)) va_nil)) (by rfl)) (vss_one (vs_if (VW.vt (vw_or (vt_not (vt_truth (vi_callB c__law_same (hr.less (by omega)) noE (va_cons (vi_list (va_cons (vi_callB c_is_canal (hr.less (by omega)) noE (va_cons (nv 5) va_nil)) (va_cons (vi_callK0 (ks := ["thing"]) (idx := [0]) c_is_canal (hr.less (by omega)) noE (vk_cons (nv 5) vk_nil) (fun _ _ _ _ _ _ us ws l1 l2 => match us, ws, l1, l2 with | [], [_], _, _ => rfl) rfl) va_nil))) (va_cons (vi_list (va_cons (nv 7) (va_cons (nv 7) va_nil))) va_nil))))) (vw_or1 (vt_c (cr_ne hr.r.units) (vi_fb (fb_reprA hr.g hr.r.units) m_repr (va_cons (nv 5) va_nil)) (nv 6))))) (vss_one (vs_ret vi_bl)) vss_nil)))) (vss_one (vs_ret (vi_c (cr_isB) (vi_callB c_is_canal (hr.less (by omega)) noE (va_cons (nv 1) va_nil)) vi_bl))))))))), ?_⟩

  obtain ⟨M, d0, rfl, hb0, hM, rfl, rfl⟩ := hR
  rw [show entI N__law_right.length 1 [d0] = [some (1, d0), none, none, none, none, none, none, none] from rfl]
  repeat ((conv => whnf); first | (with_reducible refine And.intro ?_ ?_; rotate_left) | with_reducible refine Exists.intro _ (And.intro rfl ?_) | rw [toL_cT] | rw [deq_str] | refine Br.yes rfl ?_ | refine Br.no rfl ?_ | refine Br.yes (by first | rfl | exact at9_cT _ | exact at9_sT _ | exact at9_intt _ | exact at9_int _ | exact at9_lkTt _ | exact at9_lkT _ | exact at9_lkX _ | exact at9_lkS _ _ _ | exact at9_tog _ _ _ _ | exact at9_c3 _ | exact at9_fl _ | exact h9 _ my | exact h9 | (simp only [Cr.at9, Cr.at9s, List.map_cons, List.map_nil, at9_int, at9_intt, at9_lkT, at9_lkTt, at9_lkX, at9_lkS, at9_tog, at9_cT, at9_sT, Bool.and_true, Bool.and_self]; done) | fail) ?_ | refine Br.no h9 ?_ | refine go_rNum rfl ?_ | refine go_rTupOf rfl ?_ ?_ | refine go_rAre rfl ?_ rfl ?_ | refine go_rLk rfl ?_ ?_ | refine go_rCan rfl ?_ ?_ | refine go_rRow rfl ?_ ?_ | refine go_rLists rfl ?_ ?_ ?_ | refine go_rSame rfl ?_ ?_ ?_ ?_ | refine Br.yes (hno9 _) ?_ | refine Br.no (hno9 _) ?_ | refine Br.yes q1 ?_ | refine Br.no q1 ?_ | refine Br.yes qz ?_ | refine Br.no qz ?_ | fail)
  · refine go_canal 8 10 rfl rfl (Nat.le_of_ble_eq_true rfl) hb0 (by omega) (by decide) (by decide) (by decide) (fun c d1 hok hb1 => ?_)
    have hnT := (nc_cT hok (by decide) (by decide)).1
    have hnL := (nc_cT hok (by decide) (by decide)).2
    have hcn := hok.n
    have hdc := hnT.dp
    have hokd := gd_okd (by decide) _ hnT.g
    have hcan := isCan_cT hok
    have hno9 : ∀ zs, at9s (cT c :: cL c :: zs) = false := fun zs => by show (at9 (cT c) && (false && _)) = false; simp
    repeat ((conv => whnf); first | (with_reducible refine And.intro ?_ ?_; rotate_left) | with_reducible refine Exists.intro _ (And.intro rfl ?_) | rw [toL_cT] | rw [deq_str] | refine Br.yes rfl ?_ | refine Br.no rfl ?_ | refine Br.yes (by first | rfl | exact at9_cT _ | exact at9_sT _ | exact at9_intt _ | exact at9_int _ | exact at9_lkTt _ | exact at9_lkT _ | exact at9_lkX _ | exact at9_lkS _ _ _ | exact at9_tog _ _ _ _ | exact at9_c3 _ | exact at9_fl _ | exact h9 _ my | exact h9 | (simp only [Cr.at9, Cr.at9s, List.map_cons, List.map_nil, at9_int, at9_intt, at9_lkT, at9_lkTt, at9_lkX, at9_lkS, at9_tog, at9_cT, at9_sT, Bool.and_true, Bool.and_self]; done) | fail) ?_ | refine Br.no h9 ?_ | refine go_rNum rfl ?_ | refine go_rTupOf rfl ?_ ?_ | refine go_rAre rfl ?_ rfl ?_ | refine go_rLk rfl ?_ ?_ | refine go_rCan rfl ?_ ?_ | refine go_rRow rfl ?_ ?_ | refine go_rLists rfl ?_ ?_ ?_ | refine go_rSame rfl ?_ ?_ ?_ ?_ | refine Br.yes (hno9 _) ?_ | refine Br.no (hno9 _) ?_ | refine Br.yes q1 ?_ | refine Br.no q1 ?_ | refine Br.yes qz ?_ | refine Br.no qz ?_ | fail)
    · conv => whnf
      refine for_by (fun i env => ∃ (d' : D) (k : Nat) (xs : List D) (e3 e4 : Slot), env = [some (1, d'), some (9, cT c), some (k + 1, .lst xs), e3, e4, none, none, none] ∧ bx (M + 1000 + 100 * i) d' ∧ xs.length ≤ 10 + i ∧ ∀ x ∈ xs, Nc 110 30 6 1200 x) ⟨d1, _, _, _, _, rfl, hb1, (by simp), by intro x hx; simp only [List.map_cons, List.map_nil, List.cons_append, List.nil_append, List.mem_cons, List.not_mem_nil, or_false] at hx; rcases hx with rfl | rfl | rfl | rfl | rfl | rfl | rfl | rfl | rfl | rfl <;> first | exact hnT.mono (by decide) (by decide) (by decide) (by decide) | exact hnL.mono (by decide) (by decide) (by decide) (by decide) | (refine ⟨?_, ?_, ?_⟩ <;> simp [gd, gds, dep, deps, blk_tup, blks_cons, blks_nil, blk_int, blk_bl])⟩ (fun i dd env hd hI Y hY => ?_) (fun env hI => ?_)
      · obtain ⟨d', k, xs, e3, e4, rfl, hb, hl, hxs⟩ := hI
        have hi : i < 24 := by have := (List.getElem?_eq_some_iff.mp hd).1; rw [rangeD_len] at this; exact this
        repeat ((conv => whnf); first | (with_reducible refine And.intro ?_ ?_; rotate_left) | with_reducible refine Exists.intro _ (And.intro rfl ?_) | rw [toL_cT] | rw [deq_str] | refine Br.yes rfl ?_ | refine Br.no rfl ?_ | refine Br.yes (by first | rfl | exact at9_cT _ | exact at9_sT _ | exact at9_intt _ | exact at9_int _ | exact at9_lkTt _ | exact at9_lkT _ | exact at9_lkX _ | exact at9_lkS _ _ _ | exact at9_tog _ _ _ _ | exact at9_c3 _ | exact at9_fl _ | exact h9 _ my | exact h9 | (simp only [Cr.at9, Cr.at9s, List.map_cons, List.map_nil, at9_int, at9_intt, at9_lkT, at9_lkTt, at9_lkX, at9_lkS, at9_tog, at9_cT, at9_sT, Bool.and_true, Bool.and_self]; done) | fail) ?_ | refine Br.no h9 ?_ | refine go_rNum rfl ?_ | refine go_rTupOf rfl ?_ ?_ | refine go_rAre rfl ?_ rfl ?_ | refine go_rLk rfl ?_ ?_ | refine go_rCan rfl ?_ ?_ | refine go_rRow rfl ?_ ?_ | refine go_rLists rfl ?_ ?_ ?_ | refine go_rSame rfl ?_ ?_ ?_ ?_ | refine Br.yes (hno9 _) ?_ | refine Br.no (hno9 _) ?_ | refine Br.yes q1 ?_ | refine Br.no q1 ?_ | refine Br.yes qz ?_ | refine Br.no qz ?_ | fail)
        · refine go_oth 6 (B := 100) (L := 20) (h := 3) (C := 110) rfl rfl (Nat.le_of_ble_eq_true rfl) hb (by omega) hnT (by decide) (by decide) (by decide) (by decide) (by decide) (by decide) ?_
          repeat ((conv => whnf); first | (with_reducible refine And.intro ?_ ?_; rotate_left) | with_reducible refine Exists.intro _ (And.intro rfl ?_) | rw [toL_cT] | rw [deq_str] | refine Br.yes rfl ?_ | refine Br.no rfl ?_ | refine Br.yes (by first | rfl | exact at9_cT _ | exact at9_sT _ | exact at9_intt _ | exact at9_int _ | exact at9_lkTt _ | exact at9_lkT _ | exact at9_lkX _ | exact at9_lkS _ _ _ | exact at9_tog _ _ _ _ | exact at9_c3 _ | exact at9_fl _ | exact h9 _ my | exact h9 | (simp only [Cr.at9, Cr.at9s, List.map_cons, List.map_nil, at9_int, at9_intt, at9_lkT, at9_lkTt, at9_lkX, at9_lkS, at9_tog, at9_cT, at9_sT, Bool.and_true, Bool.and_self]; done) | fail) ?_ | refine Br.no h9 ?_ | refine go_rNum rfl ?_ | refine go_rTupOf rfl ?_ ?_ | refine go_rAre rfl ?_ rfl ?_ | refine go_rLk rfl ?_ ?_ | refine go_rCan rfl ?_ ?_ | refine go_rRow rfl ?_ ?_ | refine go_rLists rfl ?_ ?_ ?_ | refine go_rSame rfl ?_ ?_ ?_ ?_ | refine Br.yes (hno9 _) ?_ | refine Br.no (hno9 _) ?_ | refine Br.yes q1 ?_ | refine Br.no q1 ?_ | refine Br.yes qz ?_ | refine Br.no qz ?_ | fail)
          · intro y1 d2 hN1 hb2
            have hN1' : Nc 110 30 6 1200 y1 := hN1.mono (by decide) (by decide) (by decide) (by decide)
            cases q1 : at9 y1
            all_goals (
              repeat ((conv => whnf); first | (with_reducible refine And.intro ?_ ?_; rotate_left) | with_reducible refine Exists.intro _ (And.intro rfl ?_) | rw [toL_cT] | rw [deq_str] | refine Br.yes rfl ?_ | refine Br.no rfl ?_ | refine Br.yes (by first | rfl | exact at9_cT _ | exact at9_sT _ | exact at9_intt _ | exact at9_int _ | exact at9_lkTt _ | exact at9_lkT _ | exact at9_lkX _ | exact at9_lkS _ _ _ | exact at9_tog _ _ _ _ | exact at9_c3 _ | exact at9_fl _ | exact h9 _ my | exact h9 | (simp only [Cr.at9, Cr.at9s, List.map_cons, List.map_nil, at9_int, at9_intt, at9_lkT, at9_lkTt, at9_lkX, at9_lkS, at9_tog, at9_cT, at9_sT, Bool.and_true, Bool.and_self]; done) | fail) ?_ | refine Br.no h9 ?_ | refine go_rNum rfl ?_ | refine go_rTupOf rfl ?_ ?_ | refine go_rAre rfl ?_ rfl ?_ | refine go_rLk rfl ?_ ?_ | refine go_rCan rfl ?_ ?_ | refine go_rRow rfl ?_ ?_ | refine go_rLists rfl ?_ ?_ ?_ | refine go_rSame rfl ?_ ?_ ?_ ?_ | refine Br.yes (hno9 _) ?_ | refine Br.no (hno9 _) ?_ | refine Br.yes q1 ?_ | refine Br.no q1 ?_ | refine Br.yes qz ?_ | refine Br.no qz ?_ | fail)
              · refine go_take rfl rfl (Nat.le_of_ble_eq_true rfl) hb2 (by omega) (by omega) (by omega) (fun j3 d3 hj3 hj3b hb3 => ?_)
                repeat ((conv => whnf); first | (with_reducible refine And.intro ?_ ?_; rotate_left) | with_reducible refine Exists.intro _ (And.intro rfl ?_) | rw [toL_cT] | rw [deq_str] | refine Br.yes rfl ?_ | refine Br.no rfl ?_ | refine Br.yes (by first | rfl | exact at9_cT _ | exact at9_sT _ | exact at9_intt _ | exact at9_int _ | exact at9_lkTt _ | exact at9_lkT _ | exact at9_lkX _ | exact at9_lkS _ _ _ | exact at9_tog _ _ _ _ | exact at9_c3 _ | exact at9_fl _ | exact h9 _ my | exact h9 | (simp only [Cr.at9, Cr.at9s, List.map_cons, List.map_nil, at9_int, at9_intt, at9_lkT, at9_lkTt, at9_lkX, at9_lkS, at9_tog, at9_cT, at9_sT, Bool.and_true, Bool.and_self]; done) | fail) ?_ | refine Br.no h9 ?_ | refine go_rNum rfl ?_ | refine go_rTupOf rfl ?_ ?_ | refine go_rAre rfl ?_ rfl ?_ | refine go_rLk rfl ?_ ?_ | refine go_rCan rfl ?_ ?_ | refine go_rRow rfl ?_ ?_ | refine go_rLists rfl ?_ ?_ ?_ | refine go_rSame rfl ?_ ?_ ?_ ?_ | refine Br.yes (hno9 _) ?_ | refine Br.no (hno9 _) ?_ | refine Br.yes q1 ?_ | refine Br.no q1 ?_ | refine Br.yes qz ?_ | refine Br.no qz ?_ | fail)
                · conv => whnf
                  refine Br.mk (fun q => ?_) (fun q => ?_)
                  · repeat ((conv => whnf); first | (with_reducible refine And.intro ?_ ?_; rotate_left) | with_reducible refine Exists.intro _ (And.intro rfl ?_) | rw [toL_cT] | rw [deq_str] | refine Br.yes rfl ?_ | refine Br.no rfl ?_ | refine Br.yes (by first | rfl | exact at9_cT _ | exact at9_sT _ | exact at9_intt _ | exact at9_int _ | exact at9_lkTt _ | exact at9_lkT _ | exact at9_lkX _ | exact at9_lkS _ _ _ | exact at9_tog _ _ _ _ | exact at9_c3 _ | exact at9_fl _ | exact h9 _ my | exact h9 | (simp only [Cr.at9, Cr.at9s, List.map_cons, List.map_nil, at9_int, at9_intt, at9_lkT, at9_lkTt, at9_lkX, at9_lkS, at9_tog, at9_cT, at9_sT, Bool.and_true, Bool.and_self]; done) | fail) ?_ | refine Br.no h9 ?_ | refine go_rNum rfl ?_ | refine go_rTupOf rfl ?_ ?_ | refine go_rAre rfl ?_ rfl ?_ | refine go_rLk rfl ?_ ?_ | refine go_rCan rfl ?_ ?_ | refine go_rRow rfl ?_ ?_ | refine go_rLists rfl ?_ ?_ ?_ | refine go_rSame rfl ?_ ?_ ?_ ?_ | refine Br.yes (hno9 _) ?_ | refine Br.no (hno9 _) ?_ | refine Br.yes q1 ?_ | refine Br.no q1 ?_ | refine Br.yes qz ?_ | refine Br.no qz ?_ | fail)
                    · refine go_oth 6 (B := 102) (L := 21) (h := 4) (C := 420) rfl rfl (Nat.le_of_ble_eq_true rfl) hb3 (by omega) hN1 (by decide) (by decide) (by decide) (by decide) (by decide) (by decide) ?_
                      repeat ((conv => whnf); first | (with_reducible refine And.intro ?_ ?_; rotate_left) | with_reducible refine Exists.intro _ (And.intro rfl ?_) | rw [toL_cT] | rw [deq_str] | refine Br.yes rfl ?_ | refine Br.no rfl ?_ | refine Br.yes (by first | rfl | exact at9_cT _ | exact at9_sT _ | exact at9_intt _ | exact at9_int _ | exact at9_lkTt _ | exact at9_lkT _ | exact at9_lkX _ | exact at9_lkS _ _ _ | exact at9_tog _ _ _ _ | exact at9_c3 _ | exact at9_fl _ | exact h9 _ my | exact h9 | (simp only [Cr.at9, Cr.at9s, List.map_cons, List.map_nil, at9_int, at9_intt, at9_lkT, at9_lkTt, at9_lkX, at9_lkS, at9_tog, at9_cT, at9_sT, Bool.and_true, Bool.and_self]; done) | fail) ?_ | refine Br.no h9 ?_ | refine go_rNum rfl ?_ | refine go_rTupOf rfl ?_ ?_ | refine go_rAre rfl ?_ rfl ?_ | refine go_rLk rfl ?_ ?_ | refine go_rCan rfl ?_ ?_ | refine go_rRow rfl ?_ ?_ | refine go_rLists rfl ?_ ?_ ?_ | refine go_rSame rfl ?_ ?_ ?_ ?_ | refine Br.yes (hno9 _) ?_ | refine Br.no (hno9 _) ?_ | refine Br.yes q1 ?_ | refine Br.no q1 ?_ | refine Br.yes qz ?_ | refine Br.no qz ?_ | fail)
                      · intro y2 d4 hN2 hb4
                        repeat ((conv => whnf); first | (with_reducible refine And.intro ?_ ?_; rotate_left) | with_reducible refine Exists.intro _ (And.intro rfl ?_) | rw [toL_cT] | rw [deq_str] | refine Br.yes rfl ?_ | refine Br.no rfl ?_ | refine Br.yes (by first | rfl | exact at9_cT _ | exact at9_sT _ | exact at9_intt _ | exact at9_int _ | exact at9_lkTt _ | exact at9_lkT _ | exact at9_lkX _ | exact at9_lkS _ _ _ | exact at9_tog _ _ _ _ | exact at9_c3 _ | exact at9_fl _ | exact h9 _ my | exact h9 | (simp only [Cr.at9, Cr.at9s, List.map_cons, List.map_nil, at9_int, at9_intt, at9_lkT, at9_lkTt, at9_lkX, at9_lkS, at9_tog, at9_cT, at9_sT, Bool.and_true, Bool.and_self]; done) | fail) ?_ | refine Br.no h9 ?_ | refine go_rNum rfl ?_ | refine go_rTupOf rfl ?_ ?_ | refine go_rAre rfl ?_ rfl ?_ | refine go_rLk rfl ?_ ?_ | refine go_rCan rfl ?_ ?_ | refine go_rRow rfl ?_ ?_ | refine go_rLists rfl ?_ ?_ ?_ | refine go_rSame rfl ?_ ?_ ?_ ?_ | refine Br.yes (hno9 _) ?_ | refine Br.no (hno9 _) ?_ | refine Br.yes q1 ?_ | refine Br.no q1 ?_ | refine Br.yes qz ?_ | refine Br.no qz ?_ | fail)
                        · conv => whnf
                          refine hY _ ⟨_, _, xs ++ [y2], _, _, rfl, bx_mono hb4 (by omega), by rw [List.length_append, List.length_singleton]; omega, fun x hx => ?_⟩
                          rcases List.mem_append.mp hx with hx | hx
                          · exact hxs x hx
                          · rw [List.mem_singleton.mp hx]; exact hN2.mono (by decide) (by decide) (by decide) (by decide)
                        all_goals first | exact ⟨_, _, rfl⟩ | exact hrep.1 | exact hrep.2 | exact lt_line (by omega) | exact fits_of (by omega) | ((with_reducible show dep _ ≤ _); omega) | ((with_reducible show dep _ < _); (try simp only [List.map_cons, List.map_nil]); (repeat' (with_reducible first | exact Nat.lt_of_le_of_lt (dep_cT _) (by decide) | exact Nat.lt_of_le_of_lt (dep_sT _) (by decide) | exact deps_nil_lt | refine deps_cons_lt ?_ ?_ | refine dep_lst_lt ?_ | refine dep_tup_lt ?_)); done) | ((with_reducible show okd _); (try simp only [List.map_cons, List.map_nil]); (repeat' (with_reducible first | exact okd_cT (by (first | omega | (simp only [xch, tog, xchS, List.length_map, List.length_append]; omega))) | exact okd_sT (by (first | omega | (simp only [xch, tog, xchS, List.length_map, List.length_append]; omega))) (by (first | omega | (simp only [xch, tog, xchS, List.length_map, List.length_append]; omega))) (by (first | omega | (simp only [xch, tog, xchS, List.length_map, List.length_append]; omega))) | exact okds_nil | exact okd_bl | refine okds_cons ?_ ?_ | refine okd_lst (Nat.le_of_ble_eq_true rfl) ?_ | refine okd_tup (Nat.le_of_ble_eq_true rfl) ?_)); done) | (with_reducible exact rfl) | assumption | exact trivial | exact Nat.le_of_ble_eq_true rfl | exact okM_le (Nat.le_of_ble_eq_true rfl) | exact ⟨rfl, rfl⟩ | exact fits_of (Nat.le_of_ble_eq_true rfl) | exact fun d hd => by (obtain ⟨_, _, rfl⟩ := List.mem_map.mp hd; exact trivial) | (refine fits_of ?_; simp; omega) | exact ⟨Nat.le_of_ble_eq_true rfl, Nat.le_of_ble_eq_true rfl⟩ | exact ⟨by decide, by decide⟩ | (dsimp only; exact ⟨by decide, by decide⟩) | omega | exact rfl
                      all_goals first | exact ⟨_, _, rfl⟩ | exact hrep.1 | exact hrep.2 | exact lt_line (by omega) | exact fits_of (by omega) | ((with_reducible show dep _ ≤ _); omega) | ((with_reducible show dep _ < _); (try simp only [List.map_cons, List.map_nil]); (repeat' (with_reducible first | exact Nat.lt_of_le_of_lt (dep_cT _) (by decide) | exact Nat.lt_of_le_of_lt (dep_sT _) (by decide) | exact deps_nil_lt | refine deps_cons_lt ?_ ?_ | refine dep_lst_lt ?_ | refine dep_tup_lt ?_)); done) | ((with_reducible show okd _); (try simp only [List.map_cons, List.map_nil]); (repeat' (with_reducible first | exact okd_cT (by (first | omega | (simp only [xch, tog, xchS, List.length_map, List.length_append]; omega))) | exact okd_sT (by (first | omega | (simp only [xch, tog, xchS, List.length_map, List.length_append]; omega))) (by (first | omega | (simp only [xch, tog, xchS, List.length_map, List.length_append]; omega))) (by (first | omega | (simp only [xch, tog, xchS, List.length_map, List.length_append]; omega))) | exact okds_nil | exact okd_bl | refine okds_cons ?_ ?_ | refine okd_lst (Nat.le_of_ble_eq_true rfl) ?_ | refine okd_tup (Nat.le_of_ble_eq_true rfl) ?_)); done) | (with_reducible exact rfl) | assumption | exact trivial | exact Nat.le_of_ble_eq_true rfl | exact okM_le (Nat.le_of_ble_eq_true rfl) | exact ⟨rfl, rfl⟩ | exact fits_of (Nat.le_of_ble_eq_true rfl) | exact fun d hd => by (obtain ⟨_, _, rfl⟩ := List.mem_map.mp hd; exact trivial) | (refine fits_of ?_; simp; omega) | exact ⟨Nat.le_of_ble_eq_true rfl, Nat.le_of_ble_eq_true rfl⟩ | exact ⟨by decide, by decide⟩ | (dsimp only; exact ⟨by decide, by decide⟩) | omega | exact rfl
                    all_goals first | exact ⟨_, _, rfl⟩ | exact hrep.1 | exact hrep.2 | exact lt_line (by omega) | exact fits_of (by omega) | ((with_reducible show dep _ ≤ _); omega) | ((with_reducible show dep _ < _); (try simp only [List.map_cons, List.map_nil]); (repeat' (with_reducible first | exact Nat.lt_of_le_of_lt (dep_cT _) (by decide) | exact Nat.lt_of_le_of_lt (dep_sT _) (by decide) | exact deps_nil_lt | refine deps_cons_lt ?_ ?_ | refine dep_lst_lt ?_ | refine dep_tup_lt ?_)); done) | ((with_reducible show okd _); (try simp only [List.map_cons, List.map_nil]); (repeat' (with_reducible first | exact okd_cT (by (first | omega | (simp only [xch, tog, xchS, List.length_map, List.length_append]; omega))) | exact okd_sT (by (first | omega | (simp only [xch, tog, xchS, List.length_map, List.length_append]; omega))) (by (first | omega | (simp only [xch, tog, xchS, List.length_map, List.length_append]; omega))) (by (first | omega | (simp only [xch, tog, xchS, List.length_map, List.length_append]; omega))) | exact okds_nil | exact okd_bl | refine okds_cons ?_ ?_ | refine okd_lst (Nat.le_of_ble_eq_true rfl) ?_ | refine okd_tup (Nat.le_of_ble_eq_true rfl) ?_)); done) | (with_reducible exact rfl) | assumption | exact trivial | exact Nat.le_of_ble_eq_true rfl | exact okM_le (Nat.le_of_ble_eq_true rfl) | exact ⟨rfl, rfl⟩ | exact fits_of (Nat.le_of_ble_eq_true rfl) | exact fun d hd => by (obtain ⟨_, _, rfl⟩ := List.mem_map.mp hd; exact trivial) | (refine fits_of ?_; simp; omega) | exact ⟨Nat.le_of_ble_eq_true rfl, Nat.le_of_ble_eq_true rfl⟩ | exact ⟨by decide, by decide⟩ | (dsimp only; exact ⟨by decide, by decide⟩) | omega | exact rfl
                  · repeat ((conv => whnf); first | (with_reducible refine And.intro ?_ ?_; rotate_left) | with_reducible refine Exists.intro _ (And.intro rfl ?_) | rw [toL_cT] | rw [deq_str] | refine Br.yes rfl ?_ | refine Br.no rfl ?_ | refine Br.yes (by first | rfl | exact at9_cT _ | exact at9_sT _ | exact at9_intt _ | exact at9_int _ | exact at9_lkTt _ | exact at9_lkT _ | exact at9_lkX _ | exact at9_lkS _ _ _ | exact at9_tog _ _ _ _ | exact at9_c3 _ | exact at9_fl _ | exact h9 _ my | exact h9 | (simp only [Cr.at9, Cr.at9s, List.map_cons, List.map_nil, at9_int, at9_intt, at9_lkT, at9_lkTt, at9_lkX, at9_lkS, at9_tog, at9_cT, at9_sT, Bool.and_true, Bool.and_self]; done) | fail) ?_ | refine Br.no h9 ?_ | refine go_rNum rfl ?_ | refine go_rTupOf rfl ?_ ?_ | refine go_rAre rfl ?_ rfl ?_ | refine go_rLk rfl ?_ ?_ | refine go_rCan rfl ?_ ?_ | refine go_rRow rfl ?_ ?_ | refine go_rLists rfl ?_ ?_ ?_ | refine go_rSame rfl ?_ ?_ ?_ ?_ | refine Br.yes (hno9 _) ?_ | refine Br.no (hno9 _) ?_ | refine Br.yes q1 ?_ | refine Br.no q1 ?_ | refine Br.yes qz ?_ | refine Br.no qz ?_ | fail)
                    · conv => whnf
                      refine hY _ ⟨_, _, xs ++ [y1], _, _, rfl, bx_mono hb3 (by omega), by rw [List.length_append, List.length_singleton]; omega, fun x hx => ?_⟩
                      rcases List.mem_append.mp hx with hx | hx
                      · exact hxs x hx
                      · rw [List.mem_singleton.mp hx]; exact hN1'
                    all_goals first | exact ⟨_, _, rfl⟩ | exact hrep.1 | exact hrep.2 | exact lt_line (by omega) | exact fits_of (by omega) | ((with_reducible show dep _ ≤ _); omega) | ((with_reducible show dep _ < _); (try simp only [List.map_cons, List.map_nil]); (repeat' (with_reducible first | exact Nat.lt_of_le_of_lt (dep_cT _) (by decide) | exact Nat.lt_of_le_of_lt (dep_sT _) (by decide) | exact deps_nil_lt | refine deps_cons_lt ?_ ?_ | refine dep_lst_lt ?_ | refine dep_tup_lt ?_)); done) | ((with_reducible show okd _); (try simp only [List.map_cons, List.map_nil]); (repeat' (with_reducible first | exact okd_cT (by (first | omega | (simp only [xch, tog, xchS, List.length_map, List.length_append]; omega))) | exact okd_sT (by (first | omega | (simp only [xch, tog, xchS, List.length_map, List.length_append]; omega))) (by (first | omega | (simp only [xch, tog, xchS, List.length_map, List.length_append]; omega))) (by (first | omega | (simp only [xch, tog, xchS, List.length_map, List.length_append]; omega))) | exact okds_nil | exact okd_bl | refine okds_cons ?_ ?_ | refine okd_lst (Nat.le_of_ble_eq_true rfl) ?_ | refine okd_tup (Nat.le_of_ble_eq_true rfl) ?_)); done) | (with_reducible exact rfl) | assumption | exact trivial | exact Nat.le_of_ble_eq_true rfl | exact okM_le (Nat.le_of_ble_eq_true rfl) | exact ⟨rfl, rfl⟩ | exact fits_of (Nat.le_of_ble_eq_true rfl) | exact fun d hd => by (obtain ⟨_, _, rfl⟩ := List.mem_map.mp hd; exact trivial) | (refine fits_of ?_; simp; omega) | exact ⟨Nat.le_of_ble_eq_true rfl, Nat.le_of_ble_eq_true rfl⟩ | exact ⟨by decide, by decide⟩ | (dsimp only; exact ⟨by decide, by decide⟩) | omega | exact rfl
                all_goals first | exact ⟨_, _, rfl⟩ | exact hrep.1 | exact hrep.2 | exact lt_line (by omega) | exact fits_of (by omega) | ((with_reducible show dep _ ≤ _); omega) | ((with_reducible show dep _ < _); (try simp only [List.map_cons, List.map_nil]); (repeat' (with_reducible first | exact Nat.lt_of_le_of_lt (dep_cT _) (by decide) | exact Nat.lt_of_le_of_lt (dep_sT _) (by decide) | exact deps_nil_lt | refine deps_cons_lt ?_ ?_ | refine dep_lst_lt ?_ | refine dep_tup_lt ?_)); done) | ((with_reducible show okd _); (try simp only [List.map_cons, List.map_nil]); (repeat' (with_reducible first | exact okd_cT (by (first | omega | (simp only [xch, tog, xchS, List.length_map, List.length_append]; omega))) | exact okd_sT (by (first | omega | (simp only [xch, tog, xchS, List.length_map, List.length_append]; omega))) (by (first | omega | (simp only [xch, tog, xchS, List.length_map, List.length_append]; omega))) (by (first | omega | (simp only [xch, tog, xchS, List.length_map, List.length_append]; omega))) | exact okds_nil | exact okd_bl | refine okds_cons ?_ ?_ | refine okd_lst (Nat.le_of_ble_eq_true rfl) ?_ | refine okd_tup (Nat.le_of_ble_eq_true rfl) ?_)); done) | (with_reducible exact rfl) | assumption | exact trivial | exact Nat.le_of_ble_eq_true rfl | exact okM_le (Nat.le_of_ble_eq_true rfl) | exact ⟨rfl, rfl⟩ | exact fits_of (Nat.le_of_ble_eq_true rfl) | exact fun d hd => by (obtain ⟨_, _, rfl⟩ := List.mem_map.mp hd; exact trivial) | (refine fits_of ?_; simp; omega) | exact ⟨Nat.le_of_ble_eq_true rfl, Nat.le_of_ble_eq_true rfl⟩ | exact ⟨by decide, by decide⟩ | (dsimp only; exact ⟨by decide, by decide⟩) | omega | exact rfl
              all_goals first | exact ⟨_, _, rfl⟩ | exact hrep.1 | exact hrep.2 | exact lt_line (by omega) | exact fits_of (by omega) | ((with_reducible show dep _ ≤ _); omega) | ((with_reducible show dep _ < _); (try simp only [List.map_cons, List.map_nil]); (repeat' (with_reducible first | exact Nat.lt_of_le_of_lt (dep_cT _) (by decide) | exact Nat.lt_of_le_of_lt (dep_sT _) (by decide) | exact deps_nil_lt | refine deps_cons_lt ?_ ?_ | refine dep_lst_lt ?_ | refine dep_tup_lt ?_)); done) | ((with_reducible show okd _); (try simp only [List.map_cons, List.map_nil]); (repeat' (with_reducible first | exact okd_cT (by (first | omega | (simp only [xch, tog, xchS, List.length_map, List.length_append]; omega))) | exact okd_sT (by (first | omega | (simp only [xch, tog, xchS, List.length_map, List.length_append]; omega))) (by (first | omega | (simp only [xch, tog, xchS, List.length_map, List.length_append]; omega))) (by (first | omega | (simp only [xch, tog, xchS, List.length_map, List.length_append]; omega))) | exact okds_nil | exact okd_bl | refine okds_cons ?_ ?_ | refine okd_lst (Nat.le_of_ble_eq_true rfl) ?_ | refine okd_tup (Nat.le_of_ble_eq_true rfl) ?_)); done) | (with_reducible exact rfl) | assumption | exact trivial | exact Nat.le_of_ble_eq_true rfl | exact okM_le (Nat.le_of_ble_eq_true rfl) | exact ⟨rfl, rfl⟩ | exact fits_of (Nat.le_of_ble_eq_true rfl) | exact fun d hd => by (obtain ⟨_, _, rfl⟩ := List.mem_map.mp hd; exact trivial) | (refine fits_of ?_; simp; omega) | exact ⟨Nat.le_of_ble_eq_true rfl, Nat.le_of_ble_eq_true rfl⟩ | exact ⟨by decide, by decide⟩ | (dsimp only; exact ⟨by decide, by decide⟩) | omega | exact rfl)
          all_goals first | exact ⟨_, _, rfl⟩ | exact hrep.1 | exact hrep.2 | exact lt_line (by omega) | exact fits_of (by omega) | ((with_reducible show dep _ ≤ _); omega) | ((with_reducible show dep _ < _); (try simp only [List.map_cons, List.map_nil]); (repeat' (with_reducible first | exact Nat.lt_of_le_of_lt (dep_cT _) (by decide) | exact Nat.lt_of_le_of_lt (dep_sT _) (by decide) | exact deps_nil_lt | refine deps_cons_lt ?_ ?_ | refine dep_lst_lt ?_ | refine dep_tup_lt ?_)); done) | ((with_reducible show okd _); (try simp only [List.map_cons, List.map_nil]); (repeat' (with_reducible first | exact okd_cT (by (first | omega | (simp only [xch, tog, xchS, List.length_map, List.length_append]; omega))) | exact okd_sT (by (first | omega | (simp only [xch, tog, xchS, List.length_map, List.length_append]; omega))) (by (first | omega | (simp only [xch, tog, xchS, List.length_map, List.length_append]; omega))) (by (first | omega | (simp only [xch, tog, xchS, List.length_map, List.length_append]; omega))) | exact okds_nil | exact okd_bl | refine okds_cons ?_ ?_ | refine okd_lst (Nat.le_of_ble_eq_true rfl) ?_ | refine okd_tup (Nat.le_of_ble_eq_true rfl) ?_)); done) | (with_reducible exact rfl) | assumption | exact trivial | exact Nat.le_of_ble_eq_true rfl | exact okM_le (Nat.le_of_ble_eq_true rfl) | exact ⟨rfl, rfl⟩ | exact fits_of (Nat.le_of_ble_eq_true rfl) | exact fun d hd => by (obtain ⟨_, _, rfl⟩ := List.mem_map.mp hd; exact trivial) | (refine fits_of ?_; simp; omega) | exact ⟨Nat.le_of_ble_eq_true rfl, Nat.le_of_ble_eq_true rfl⟩ | exact ⟨by decide, by decide⟩ | (dsimp only; exact ⟨by decide, by decide⟩) | omega | exact rfl
        all_goals first | exact ⟨_, _, rfl⟩ | exact hrep.1 | exact hrep.2 | exact lt_line (by omega) | exact fits_of (by omega) | ((with_reducible show dep _ ≤ _); omega) | ((with_reducible show dep _ < _); (try simp only [List.map_cons, List.map_nil]); (repeat' (with_reducible first | exact Nat.lt_of_le_of_lt (dep_cT _) (by decide) | exact Nat.lt_of_le_of_lt (dep_sT _) (by decide) | exact deps_nil_lt | refine deps_cons_lt ?_ ?_ | refine dep_lst_lt ?_ | refine dep_tup_lt ?_)); done) | ((with_reducible show okd _); (try simp only [List.map_cons, List.map_nil]); (repeat' (with_reducible first | exact okd_cT (by (first | omega | (simp only [xch, tog, xchS, List.length_map, List.length_append]; omega))) | exact okd_sT (by (first | omega | (simp only [xch, tog, xchS, List.length_map, List.length_append]; omega))) (by (first | omega | (simp only [xch, tog, xchS, List.length_map, List.length_append]; omega))) (by (first | omega | (simp only [xch, tog, xchS, List.length_map, List.length_append]; omega))) | exact okds_nil | exact okd_bl | refine okds_cons ?_ ?_ | refine okd_lst (Nat.le_of_ble_eq_true rfl) ?_ | refine okd_tup (Nat.le_of_ble_eq_true rfl) ?_)); done) | (with_reducible exact rfl) | assumption | exact trivial | exact Nat.le_of_ble_eq_true rfl | exact okM_le (Nat.le_of_ble_eq_true rfl) | exact ⟨rfl, rfl⟩ | exact fits_of (Nat.le_of_ble_eq_true rfl) | exact fun d hd => by (obtain ⟨_, _, rfl⟩ := List.mem_map.mp hd; exact trivial) | (refine fits_of ?_; simp; omega) | exact ⟨Nat.le_of_ble_eq_true rfl, Nat.le_of_ble_eq_true rfl⟩ | exact ⟨by decide, by decide⟩ | (dsimp only; exact ⟨by decide, by decide⟩) | omega | exact rfl
      · obtain ⟨d', k, xs, e3, e4, rfl, hb, hl, hxs⟩ := hI
        rw [rangeD_len] at hb hl
        have hl : xs.length ≤ 34 := hl
        have hb : bx (M + 3400) d' := hb
        cases qz : at9s xs
        all_goals (
          repeat ((conv => whnf); first | (with_reducible refine And.intro ?_ ?_; rotate_left) | with_reducible refine Exists.intro _ (And.intro rfl ?_) | rw [toL_cT] | rw [deq_str] | refine Br.yes rfl ?_ | refine Br.no rfl ?_ | refine Br.yes (by first | rfl | exact at9_cT _ | exact at9_sT _ | exact at9_intt _ | exact at9_int _ | exact at9_lkTt _ | exact at9_lkT _ | exact at9_lkX _ | exact at9_lkS _ _ _ | exact at9_tog _ _ _ _ | exact at9_c3 _ | exact at9_fl _ | exact h9 _ my | exact h9 | (simp only [Cr.at9, Cr.at9s, List.map_cons, List.map_nil, at9_int, at9_intt, at9_lkT, at9_lkTt, at9_lkX, at9_lkS, at9_tog, at9_cT, at9_sT, Bool.and_true, Bool.and_self]; done) | fail) ?_ | refine Br.no h9 ?_ | refine go_rNum rfl ?_ | refine go_rTupOf rfl ?_ ?_ | refine go_rAre rfl ?_ rfl ?_ | refine go_rLk rfl ?_ ?_ | refine go_rCan rfl ?_ ?_ | refine go_rRow rfl ?_ ?_ | refine go_rLists rfl ?_ ?_ ?_ | refine go_rSame rfl ?_ ?_ ?_ ?_ | refine Br.yes (hno9 _) ?_ | refine Br.no (hno9 _) ?_ | refine Br.yes q1 ?_ | refine Br.no q1 ?_ | refine Br.yes qz ?_ | refine Br.no qz ?_ | fail)
          · conv => whnf
            refine lc_by (fun i k3 acc env => ∃ d' : D, env = [some (1, d'), some (9, cT c), some (k + 1, .lst xs), none, e4, none, none, none] ∧ bx (M + 3400 + i) d' ∧ acc.length = i ∧ ∀ x ∈ acc, x ∈ oddL) ⟨d', rfl, hb, rfl, fun x hx => absurd hx List.not_mem_nil⟩ (fun i dd k3 acc env hd hI Y hY => ?_) (fun k3 acc env hI => ?_)
            · obtain ⟨d2, rfl, hb2, hal, hacc⟩ := hI
              have hi : i < 5 := by have := (List.getElem?_eq_some_iff.mp hd).1; rw [rangeD_len] at this; exact this
              repeat ((conv => whnf); first | (with_reducible refine And.intro ?_ ?_; rotate_left) | with_reducible refine Exists.intro _ (And.intro rfl ?_) | rw [toL_cT] | rw [deq_str] | refine Br.yes rfl ?_ | refine Br.no rfl ?_ | refine Br.yes (by first | rfl | exact at9_cT _ | exact at9_sT _ | exact at9_intt _ | exact at9_int _ | exact at9_lkTt _ | exact at9_lkT _ | exact at9_lkX _ | exact at9_lkS _ _ _ | exact at9_tog _ _ _ _ | exact at9_c3 _ | exact at9_fl _ | exact h9 _ my | exact h9 | (simp only [Cr.at9, Cr.at9s, List.map_cons, List.map_nil, at9_int, at9_intt, at9_lkT, at9_lkTt, at9_lkX, at9_lkS, at9_tog, at9_cT, at9_sT, Bool.and_true, Bool.and_self]; done) | fail) ?_ | refine Br.no h9 ?_ | refine go_rNum rfl ?_ | refine go_rTupOf rfl ?_ ?_ | refine go_rAre rfl ?_ rfl ?_ | refine go_rLk rfl ?_ ?_ | refine go_rCan rfl ?_ ?_ | refine go_rRow rfl ?_ ?_ | refine go_rLists rfl ?_ ?_ ?_ | refine go_rSame rfl ?_ ?_ ?_ ?_ | refine Br.yes (hno9 _) ?_ | refine Br.no (hno9 _) ?_ | refine Br.yes q1 ?_ | refine Br.no q1 ?_ | refine Br.yes qz ?_ | refine Br.no qz ?_ | fail)
              · refine go_odd rfl (Nat.le_of_ble_eq_true rfl) hb2 (by omega) (fun y d3 hm hb3 => ?_)
                repeat ((conv => whnf); first | (with_reducible refine And.intro ?_ ?_; rotate_left) | with_reducible refine Exists.intro _ (And.intro rfl ?_) | rw [toL_cT] | rw [deq_str] | refine Br.yes rfl ?_ | refine Br.no rfl ?_ | refine Br.yes (by first | rfl | exact at9_cT _ | exact at9_sT _ | exact at9_intt _ | exact at9_int _ | exact at9_lkTt _ | exact at9_lkT _ | exact at9_lkX _ | exact at9_lkS _ _ _ | exact at9_tog _ _ _ _ | exact at9_c3 _ | exact at9_fl _ | exact h9 _ my | exact h9 | (simp only [Cr.at9, Cr.at9s, List.map_cons, List.map_nil, at9_int, at9_intt, at9_lkT, at9_lkTt, at9_lkX, at9_lkS, at9_tog, at9_cT, at9_sT, Bool.and_true, Bool.and_self]; done) | fail) ?_ | refine Br.no h9 ?_ | refine go_rNum rfl ?_ | refine go_rTupOf rfl ?_ ?_ | refine go_rAre rfl ?_ rfl ?_ | refine go_rLk rfl ?_ ?_ | refine go_rCan rfl ?_ ?_ | refine go_rRow rfl ?_ ?_ | refine go_rLists rfl ?_ ?_ ?_ | refine go_rSame rfl ?_ ?_ ?_ ?_ | refine Br.yes (hno9 _) ?_ | refine Br.no (hno9 _) ?_ | refine Br.yes q1 ?_ | refine Br.no q1 ?_ | refine Br.yes qz ?_ | refine Br.no qz ?_ | fail)
                · conv => whnf
                  refine hY _ _ _ ⟨d3, rfl, hb3, by rw [List.length_append, hal]; rfl, fun x hx => ?_⟩
                  rcases List.mem_append.mp hx with hx | hx
                  · exact hacc x hx
                  · rw [List.mem_singleton.mp hx]; exact hm
                all_goals first | exact ⟨_, _, rfl⟩ | exact hrep.1 | exact hrep.2 | exact lt_line (by omega) | exact fits_of (by omega) | ((with_reducible show dep _ ≤ _); omega) | ((with_reducible show dep _ < _); (try simp only [List.map_cons, List.map_nil]); (repeat' (with_reducible first | exact Nat.lt_of_le_of_lt (dep_cT _) (by decide) | exact Nat.lt_of_le_of_lt (dep_sT _) (by decide) | exact deps_nil_lt | refine deps_cons_lt ?_ ?_ | refine dep_lst_lt ?_ | refine dep_tup_lt ?_)); done) | ((with_reducible show okd _); (try simp only [List.map_cons, List.map_nil]); (repeat' (with_reducible first | exact okd_cT (by (first | omega | (simp only [xch, tog, xchS, List.length_map, List.length_append]; omega))) | exact okd_sT (by (first | omega | (simp only [xch, tog, xchS, List.length_map, List.length_append]; omega))) (by (first | omega | (simp only [xch, tog, xchS, List.length_map, List.length_append]; omega))) (by (first | omega | (simp only [xch, tog, xchS, List.length_map, List.length_append]; omega))) | exact okds_nil | exact okd_bl | refine okds_cons ?_ ?_ | refine okd_lst (Nat.le_of_ble_eq_true rfl) ?_ | refine okd_tup (Nat.le_of_ble_eq_true rfl) ?_)); done) | (with_reducible exact rfl) | assumption | exact trivial | exact Nat.le_of_ble_eq_true rfl | exact okM_le (Nat.le_of_ble_eq_true rfl) | exact ⟨rfl, rfl⟩ | exact fits_of (Nat.le_of_ble_eq_true rfl) | exact fun d hd => by (obtain ⟨_, _, rfl⟩ := List.mem_map.mp hd; exact trivial) | (refine fits_of ?_; simp; omega) | exact ⟨Nat.le_of_ble_eq_true rfl, Nat.le_of_ble_eq_true rfl⟩ | exact ⟨by decide, by decide⟩ | (dsimp only; exact ⟨by decide, by decide⟩) | omega | exact rfl
              all_goals first | exact ⟨_, _, rfl⟩ | exact hrep.1 | exact hrep.2 | exact lt_line (by omega) | exact fits_of (by omega) | ((with_reducible show dep _ ≤ _); omega) | ((with_reducible show dep _ < _); (try simp only [List.map_cons, List.map_nil]); (repeat' (with_reducible first | exact Nat.lt_of_le_of_lt (dep_cT _) (by decide) | exact Nat.lt_of_le_of_lt (dep_sT _) (by decide) | exact deps_nil_lt | refine deps_cons_lt ?_ ?_ | refine dep_lst_lt ?_ | refine dep_tup_lt ?_)); done) | ((with_reducible show okd _); (try simp only [List.map_cons, List.map_nil]); (repeat' (with_reducible first | exact okd_cT (by (first | omega | (simp only [xch, tog, xchS, List.length_map, List.length_append]; omega))) | exact okd_sT (by (first | omega | (simp only [xch, tog, xchS, List.length_map, List.length_append]; omega))) (by (first | omega | (simp only [xch, tog, xchS, List.length_map, List.length_append]; omega))) (by (first | omega | (simp only [xch, tog, xchS, List.length_map, List.length_append]; omega))) | exact okds_nil | exact okd_bl | refine okds_cons ?_ ?_ | refine okd_lst (Nat.le_of_ble_eq_true rfl) ?_ | refine okd_tup (Nat.le_of_ble_eq_true rfl) ?_)); done) | (with_reducible exact rfl) | assumption | exact trivial | exact Nat.le_of_ble_eq_true rfl | exact okM_le (Nat.le_of_ble_eq_true rfl) | exact ⟨rfl, rfl⟩ | exact fits_of (Nat.le_of_ble_eq_true rfl) | exact fun d hd => by (obtain ⟨_, _, rfl⟩ := List.mem_map.mp hd; exact trivial) | (refine fits_of ?_; simp; omega) | exact ⟨Nat.le_of_ble_eq_true rfl, Nat.le_of_ble_eq_true rfl⟩ | exact ⟨by decide, by decide⟩ | (dsimp only; exact ⟨by decide, by decide⟩) | omega | exact rfl
            · obtain ⟨d2, rfl, hb2, hal, hacc⟩ := hI
              rw [rangeD_len] at hb2 hal
              have hal : acc.length = 5 := hal
              have hb2 : bx (M + 3405) d2 := hb2
              repeat ((conv => whnf); first | (with_reducible refine And.intro ?_ ?_; rotate_left) | with_reducible refine Exists.intro _ (And.intro rfl ?_) | rw [toL_cT] | rw [deq_str] | refine Br.yes rfl ?_ | refine Br.no rfl ?_ | refine Br.yes (by first | rfl | exact at9_cT _ | exact at9_sT _ | exact at9_intt _ | exact at9_int _ | exact at9_lkTt _ | exact at9_lkT _ | exact at9_lkX _ | exact at9_lkS _ _ _ | exact at9_tog _ _ _ _ | exact at9_c3 _ | exact at9_fl _ | exact h9 _ my | exact h9 | (simp only [Cr.at9, Cr.at9s, List.map_cons, List.map_nil, at9_int, at9_intt, at9_lkT, at9_lkTt, at9_lkX, at9_lkS, at9_tog, at9_cT, at9_sT, Bool.and_true, Bool.and_self]; done) | fail) ?_ | refine Br.no h9 ?_ | refine go_rNum rfl ?_ | refine go_rTupOf rfl ?_ ?_ | refine go_rAre rfl ?_ rfl ?_ | refine go_rLk rfl ?_ ?_ | refine go_rCan rfl ?_ ?_ | refine go_rRow rfl ?_ ?_ | refine go_rLists rfl ?_ ?_ ?_ | refine go_rSame rfl ?_ ?_ ?_ ?_ | refine Br.yes (hno9 _) ?_ | refine Br.no (hno9 _) ?_ | refine Br.yes q1 ?_ | refine Br.no q1 ?_ | refine Br.yes qz ?_ | refine Br.no qz ?_ | fail)
              · conv => whnf
                refine for_by (fun i env => ∃ (k2 : Nat) (e2 e3 e4 e5 e6 e7 : Slot), env = [some (1, d2), some (9, cT c), e2, e3, e4, e5, e6, e7]) ⟨0, _, _, _, _, _, _, rfl⟩ (fun i x env hd hI Y hY => ?_) (fun env hI => ?_)
                · obtain ⟨k2, e2, e3, e4, e5, e6, e7, rfl⟩ := hI
                  have hx : Nc 110 30 6 1200 x := by
                    rcases List.mem_append.mp (List.mem_of_getElem? hd) with h | h
                    · exact hxs x h
                    · exact (odd_nc x (hacc x h)).mono (by decide) (by decide) (by decide) (by decide)
                  have hrep := gd_fits (by decide) (by decide) hx.g (by have := hx.bk; omega)
                  have hokx := gd_okd (by decide) _ hx.g
                  have hdx := hx.dp
                  repeat ((conv => whnf); first | (with_reducible refine And.intro ?_ ?_; rotate_left) | with_reducible refine Exists.intro _ (And.intro rfl ?_) | rw [toL_cT] | rw [deq_str] | refine Br.yes rfl ?_ | refine Br.no rfl ?_ | refine Br.yes (by first | rfl | exact at9_cT _ | exact at9_sT _ | exact at9_intt _ | exact at9_int _ | exact at9_lkTt _ | exact at9_lkT _ | exact at9_lkX _ | exact at9_lkS _ _ _ | exact at9_tog _ _ _ _ | exact at9_c3 _ | exact at9_fl _ | exact h9 _ my | exact h9 | (simp only [Cr.at9, Cr.at9s, List.map_cons, List.map_nil, at9_int, at9_intt, at9_lkT, at9_lkTt, at9_lkX, at9_lkS, at9_tog, at9_cT, at9_sT, Bool.and_true, Bool.and_self]; done) | fail) ?_ | refine Br.no h9 ?_ | refine go_rNum rfl ?_ | refine go_rTupOf rfl ?_ ?_ | refine go_rAre rfl ?_ rfl ?_ | refine go_rLk rfl ?_ ?_ | refine go_rCan rfl ?_ ?_ | refine go_rRow rfl ?_ ?_ | refine go_rLists rfl ?_ ?_ ?_ | refine go_rSame rfl ?_ ?_ ?_ ?_ | refine Br.yes (hno9 _) ?_ | refine Br.no (hno9 _) ?_ | refine Br.yes q1 ?_ | refine Br.no q1 ?_ | refine Br.yes qz ?_ | refine Br.no qz ?_ | fail)
                  · conv => whnf
                    exact hY _ ⟨0, _, _, _, _, _, _, rfl⟩
                  all_goals first | exact ⟨_, _, rfl⟩ | exact hrep.1 | exact hrep.2 | exact lt_line (by omega) | exact fits_of (by omega) | ((with_reducible show dep _ ≤ _); omega) | ((with_reducible show dep _ < _); (try simp only [List.map_cons, List.map_nil]); (repeat' (with_reducible first | exact Nat.lt_of_le_of_lt (dep_cT _) (by decide) | exact Nat.lt_of_le_of_lt (dep_sT _) (by decide) | exact deps_nil_lt | refine deps_cons_lt ?_ ?_ | refine dep_lst_lt ?_ | refine dep_tup_lt ?_)); done) | ((with_reducible show okd _); (try simp only [List.map_cons, List.map_nil]); (repeat' (with_reducible first | exact okd_cT (by (first | omega | (simp only [xch, tog, xchS, List.length_map, List.length_append]; omega))) | exact okd_sT (by (first | omega | (simp only [xch, tog, xchS, List.length_map, List.length_append]; omega))) (by (first | omega | (simp only [xch, tog, xchS, List.length_map, List.length_append]; omega))) (by (first | omega | (simp only [xch, tog, xchS, List.length_map, List.length_append]; omega))) | exact okds_nil | exact okd_bl | refine okds_cons ?_ ?_ | refine okd_lst (Nat.le_of_ble_eq_true rfl) ?_ | refine okd_tup (Nat.le_of_ble_eq_true rfl) ?_)); done) | (with_reducible exact rfl) | assumption | exact trivial | exact Nat.le_of_ble_eq_true rfl | exact okM_le (Nat.le_of_ble_eq_true rfl) | exact ⟨rfl, rfl⟩ | exact fits_of (Nat.le_of_ble_eq_true rfl) | exact fun d hd => by (obtain ⟨_, _, rfl⟩ := List.mem_map.mp hd; exact trivial) | (refine fits_of ?_; simp; omega) | exact ⟨Nat.le_of_ble_eq_true rfl, Nat.le_of_ble_eq_true rfl⟩ | exact ⟨by decide, by decide⟩ | (dsimp only; exact ⟨by decide, by decide⟩) | omega | exact rfl
                · obtain ⟨k2, e2, e3, e4, e5, e6, e7, rfl⟩ := hI
                  repeat ((conv => whnf); first | (with_reducible refine And.intro ?_ ?_; rotate_left) | with_reducible refine Exists.intro _ (And.intro rfl ?_) | rw [toL_cT] | rw [deq_str] | refine Br.yes rfl ?_ | refine Br.no rfl ?_ | refine Br.yes (by first | rfl | exact at9_cT _ | exact at9_sT _ | exact at9_intt _ | exact at9_int _ | exact at9_lkTt _ | exact at9_lkT _ | exact at9_lkX _ | exact at9_lkS _ _ _ | exact at9_tog _ _ _ _ | exact at9_c3 _ | exact at9_fl _ | exact h9 _ my | exact h9 | (simp only [Cr.at9, Cr.at9s, List.map_cons, List.map_nil, at9_int, at9_intt, at9_lkT, at9_lkTt, at9_lkX, at9_lkS, at9_tog, at9_cT, at9_sT, Bool.and_true, Bool.and_self]; done) | fail) ?_ | refine Br.no h9 ?_ | refine go_rNum rfl ?_ | refine go_rTupOf rfl ?_ ?_ | refine go_rAre rfl ?_ rfl ?_ | refine go_rLk rfl ?_ ?_ | refine go_rCan rfl ?_ ?_ | refine go_rRow rfl ?_ ?_ | refine go_rLists rfl ?_ ?_ ?_ | refine go_rSame rfl ?_ ?_ ?_ ?_ | refine Br.yes (hno9 _) ?_ | refine Br.no (hno9 _) ?_ | refine Br.yes q1 ?_ | refine Br.no q1 ?_ | refine Br.yes qz ?_ | refine Br.no qz ?_ | fail)
                  · exact ⟨_, _, rfl, okM_le (Nat.le_of_ble_eq_true rfl), bx_mono hb2 (by omega), by rw [hcan]; rfl⟩
                  all_goals first | exact ⟨_, _, rfl⟩ | exact hrep.1 | exact hrep.2 | exact lt_line (by omega) | exact fits_of (by omega) | ((with_reducible show dep _ ≤ _); omega) | ((with_reducible show dep _ < _); (try simp only [List.map_cons, List.map_nil]); (repeat' (with_reducible first | exact Nat.lt_of_le_of_lt (dep_cT _) (by decide) | exact Nat.lt_of_le_of_lt (dep_sT _) (by decide) | exact deps_nil_lt | refine deps_cons_lt ?_ ?_ | refine dep_lst_lt ?_ | refine dep_tup_lt ?_)); done) | ((with_reducible show okd _); (try simp only [List.map_cons, List.map_nil]); (repeat' (with_reducible first | exact okd_cT (by (first | omega | (simp only [xch, tog, xchS, List.length_map, List.length_append]; omega))) | exact okd_sT (by (first | omega | (simp only [xch, tog, xchS, List.length_map, List.length_append]; omega))) (by (first | omega | (simp only [xch, tog, xchS, List.length_map, List.length_append]; omega))) (by (first | omega | (simp only [xch, tog, xchS, List.length_map, List.length_append]; omega))) | exact okds_nil | exact okd_bl | refine okds_cons ?_ ?_ | refine okd_lst (Nat.le_of_ble_eq_true rfl) ?_ | refine okd_tup (Nat.le_of_ble_eq_true rfl) ?_)); done) | (with_reducible exact rfl) | assumption | exact trivial | exact Nat.le_of_ble_eq_true rfl | exact okM_le (Nat.le_of_ble_eq_true rfl) | exact ⟨rfl, rfl⟩ | exact fits_of (Nat.le_of_ble_eq_true rfl) | exact fun d hd => by (obtain ⟨_, _, rfl⟩ := List.mem_map.mp hd; exact trivial) | (refine fits_of ?_; simp; omega) | exact ⟨Nat.le_of_ble_eq_true rfl, Nat.le_of_ble_eq_true rfl⟩ | exact ⟨by decide, by decide⟩ | (dsimp only; exact ⟨by decide, by decide⟩) | omega | exact rfl
              all_goals first | exact ⟨_, _, rfl⟩ | exact hrep.1 | exact hrep.2 | exact lt_line (by omega) | exact fits_of (by omega) | ((with_reducible show dep _ ≤ _); omega) | ((with_reducible show dep _ < _); (try simp only [List.map_cons, List.map_nil]); (repeat' (with_reducible first | exact Nat.lt_of_le_of_lt (dep_cT _) (by decide) | exact Nat.lt_of_le_of_lt (dep_sT _) (by decide) | exact deps_nil_lt | refine deps_cons_lt ?_ ?_ | refine dep_lst_lt ?_ | refine dep_tup_lt ?_)); done) | ((with_reducible show okd _); (try simp only [List.map_cons, List.map_nil]); (repeat' (with_reducible first | exact okd_cT (by (first | omega | (simp only [xch, tog, xchS, List.length_map, List.length_append]; omega))) | exact okd_sT (by (first | omega | (simp only [xch, tog, xchS, List.length_map, List.length_append]; omega))) (by (first | omega | (simp only [xch, tog, xchS, List.length_map, List.length_append]; omega))) (by (first | omega | (simp only [xch, tog, xchS, List.length_map, List.length_append]; omega))) | exact okds_nil | exact okd_bl | refine okds_cons ?_ ?_ | refine okd_lst (Nat.le_of_ble_eq_true rfl) ?_ | refine okd_tup (Nat.le_of_ble_eq_true rfl) ?_)); done) | (with_reducible exact rfl) | assumption | exact trivial | exact Nat.le_of_ble_eq_true rfl | exact okM_le (Nat.le_of_ble_eq_true rfl) | exact ⟨rfl, rfl⟩ | exact fits_of (Nat.le_of_ble_eq_true rfl) | exact fun d hd => by (obtain ⟨_, _, rfl⟩ := List.mem_map.mp hd; exact trivial) | (refine fits_of ?_; simp; omega) | exact ⟨Nat.le_of_ble_eq_true rfl, Nat.le_of_ble_eq_true rfl⟩ | exact ⟨by decide, by decide⟩ | (dsimp only; exact ⟨by decide, by decide⟩) | omega | exact rfl
          all_goals first | exact ⟨_, _, rfl⟩ | exact hrep.1 | exact hrep.2 | exact lt_line (by omega) | exact fits_of (by omega) | ((with_reducible show dep _ ≤ _); omega) | ((with_reducible show dep _ < _); (try simp only [List.map_cons, List.map_nil]); (repeat' (with_reducible first | exact Nat.lt_of_le_of_lt (dep_cT _) (by decide) | exact Nat.lt_of_le_of_lt (dep_sT _) (by decide) | exact deps_nil_lt | refine deps_cons_lt ?_ ?_ | refine dep_lst_lt ?_ | refine dep_tup_lt ?_)); done) | ((with_reducible show okd _); (try simp only [List.map_cons, List.map_nil]); (repeat' (with_reducible first | exact okd_cT (by (first | omega | (simp only [xch, tog, xchS, List.length_map, List.length_append]; omega))) | exact okd_sT (by (first | omega | (simp only [xch, tog, xchS, List.length_map, List.length_append]; omega))) (by (first | omega | (simp only [xch, tog, xchS, List.length_map, List.length_append]; omega))) (by (first | omega | (simp only [xch, tog, xchS, List.length_map, List.length_append]; omega))) | exact okds_nil | exact okd_bl | refine okds_cons ?_ ?_ | refine okd_lst (Nat.le_of_ble_eq_true rfl) ?_ | refine okd_tup (Nat.le_of_ble_eq_true rfl) ?_)); done) | (with_reducible exact rfl) | assumption | exact trivial | exact Nat.le_of_ble_eq_true rfl | exact okM_le (Nat.le_of_ble_eq_true rfl) | exact ⟨rfl, rfl⟩ | exact fits_of (Nat.le_of_ble_eq_true rfl) | exact fun d hd => by (obtain ⟨_, _, rfl⟩ := List.mem_map.mp hd; exact trivial) | (refine fits_of ?_; simp; omega) | exact ⟨Nat.le_of_ble_eq_true rfl, Nat.le_of_ble_eq_true rfl⟩ | exact ⟨by decide, by decide⟩ | (dsimp only; exact ⟨by decide, by decide⟩) | omega | exact rfl)
    all_goals first | exact ⟨_, _, rfl⟩ | exact hrep.1 | exact hrep.2 | exact lt_line (by omega) | exact fits_of (by omega) | ((with_reducible show dep _ ≤ _); omega) | ((with_reducible show dep _ < _); (try simp only [List.map_cons, List.map_nil]); (repeat' (with_reducible first | exact Nat.lt_of_le_of_lt (dep_cT _) (by decide) | exact Nat.lt_of_le_of_lt (dep_sT _) (by decide) | exact deps_nil_lt | refine deps_cons_lt ?_ ?_ | refine dep_lst_lt ?_ | refine dep_tup_lt ?_)); done) | ((with_reducible show okd _); (try simp only [List.map_cons, List.map_nil]); (repeat' (with_reducible first | exact okd_cT (by (first | omega | (simp only [xch, tog, xchS, List.length_map, List.length_append]; omega))) | exact okd_sT (by (first | omega | (simp only [xch, tog, xchS, List.length_map, List.length_append]; omega))) (by (first | omega | (simp only [xch, tog, xchS, List.length_map, List.length_append]; omega))) (by (first | omega | (simp only [xch, tog, xchS, List.length_map, List.length_append]; omega))) | exact okds_nil | exact okd_bl | refine okds_cons ?_ ?_ | refine okd_lst (Nat.le_of_ble_eq_true rfl) ?_ | refine okd_tup (Nat.le_of_ble_eq_true rfl) ?_)); done) | (with_reducible exact rfl) | assumption | exact trivial | exact Nat.le_of_ble_eq_true rfl | exact okM_le (Nat.le_of_ble_eq_true rfl) | exact ⟨rfl, rfl⟩ | exact fits_of (Nat.le_of_ble_eq_true rfl) | exact fun d hd => by (obtain ⟨_, _, rfl⟩ := List.mem_map.mp hd; exact trivial) | (refine fits_of ?_; simp; omega) | exact ⟨Nat.le_of_ble_eq_true rfl, Nat.le_of_ble_eq_true rfl⟩ | exact ⟨by decide, by decide⟩ | (dsimp only; exact ⟨by decide, by decide⟩) | omega | exact rfl
  all_goals first | exact ⟨_, _, rfl⟩ | exact hrep.1 | exact hrep.2 | exact lt_line (by omega) | exact fits_of (by omega) | ((with_reducible show dep _ ≤ _); omega) | ((with_reducible show dep _ < _); (try simp only [List.map_cons, List.map_nil]); (repeat' (with_reducible first | exact Nat.lt_of_le_of_lt (dep_cT _) (by decide) | exact Nat.lt_of_le_of_lt (dep_sT _) (by decide) | exact deps_nil_lt | refine deps_cons_lt ?_ ?_ | refine dep_lst_lt ?_ | refine dep_tup_lt ?_)); done) | ((with_reducible show okd _); (try simp only [List.map_cons, List.map_nil]); (repeat' (with_reducible first | exact okd_cT (by (first | omega | (simp only [xch, tog, xchS, List.length_map, List.length_append]; omega))) | exact okd_sT (by (first | omega | (simp only [xch, tog, xchS, List.length_map, List.length_append]; omega))) (by (first | omega | (simp only [xch, tog, xchS, List.length_map, List.length_append]; omega))) (by (first | omega | (simp only [xch, tog, xchS, List.length_map, List.length_append]; omega))) | exact okds_nil | exact okd_bl | refine okds_cons ?_ ?_ | refine okd_lst (Nat.le_of_ble_eq_true rfl) ?_ | refine okd_tup (Nat.le_of_ble_eq_true rfl) ?_)); done) | (with_reducible exact rfl) | assumption | exact trivial | exact Nat.le_of_ble_eq_true rfl | exact okM_le (Nat.le_of_ble_eq_true rfl) | exact ⟨rfl, rfl⟩ | exact fits_of (Nat.le_of_ble_eq_true rfl) | exact fun d hd => by (obtain ⟨_, _, rfl⟩ := List.mem_map.mp hd; exact trivial) | (refine fits_of ?_; simp; omega) | exact ⟨Nat.le_of_ble_eq_true rfl, Nat.le_of_ble_eq_true rfl⟩ | exact ⟨by decide, by decide⟩ | (dsimp only; exact ⟨by decide, by decide⟩) | omega | exact rfl
abbrev s_law : Stmt := tp 22
abbrev N_law : List Str := ["_law_script", "_law_cells_here", "_law_k"]
theorem sc_law : FnScope N_law ["_law_script"] (defScope s_law) := ⟨rfl, rfl, rfl, by decide +kernel, rfl, by decide +kernel, by decide +kernel⟩
abbrev scc_law_0 : Scope := { kind := .function, names := [(PySem.Str.ofString ".0", PySem.NameKind.local), (PySem.Str.ofString "_law_k", PySem.NameKind.local), (PySem.Str.ofString "_law_right", PySem.NameKind.globalImplicit), (PySem.Str.ofString "_law_box", PySem.NameKind.globalImplicit), (PySem.Str.ofString "_law_cells_here", PySem.NameKind.free)], isGenerator := false, isCoroutine := false, more := [] }
abbrev scr_law_0 : Scope := { kind := .function, names := [(PySem.Str.ofString ".0", PySem.NameKind.local), (PySem.Str.ofString "_law_k", PySem.NameKind.local), (PySem.Str.ofString "_law_right", PySem.NameKind.globalImplicit), (PySem.Str.ofString "_law_box", PySem.NameKind.globalImplicit), (PySem.Str.ofString "_law_cells_here", PySem.NameKind.cell)], isGenerator := false, isCoroutine := false, more := [] }
theorem cl_law {P : Program} {w : World} {K : PySem.W.Frag} {mg : Str → Option Value} {base : Heap} (h_law : Known K mg "law" s_law ["_law_script"]) (m_all : mg "all" = none) (m_len : mg "len" = none) (m_range : mg "range" = none) (c__law_box : Cl P w K mg base L2.CX0 1 "_law_box" s__law_box ["_law_cells_here", "_law_k"] (spB K 2 rBox)) (c__law_cells : Cl P w K mg base L2.CX0 1 "_law_cells" s__law_cells ["_law_script", "_law_utmost"] (spB K 2 rCells)) (c__law_right : Cl P w K mg base L2.CX0 12 "_law_right" s__law_right ["_law_box_here"] (spI K 1 1 rRight)) : Cl P w K mg base L2.CX0 13 "law" s_law ["_law_script"] (spB K 1 (lawR 63)) := by
  obtain ⟨f, fd, F, hm, hb⟩ := h_law
  refine Cl.B F hm hb sc_law rfl fun cdv A outer s H E Sh ds k' Pd hr hl hR => ?_
  refine ⟨_, (vss_cons (vs_set (i := 1) sc_law.nd rfl (by first | exact .inl rfl | exact .inr rfl) (by simp) (vi_callB c__law_cells (hr.less (by omega)) noE (va_cons (nv 0) (va_cons vi_int va_nil)))) (vss_one (vs_ret (vi_fb (fb_all rfl) m_all (va_cons (vi_lc s (own := [("_law_k", 2)]) rfl sc_law.nd (vit_range1 m_range (vi_fb fb_len m_len (va_cons (nv 1) va_nil))) (blkOk_by (N := N_law) (sc := (defScope s_law)) (scope := scc_law_0) (own := [("_law_k", 2)]) (by decide +kernel)) (by decide) (by simp) (fun _ _ _ _ _ => (vg_name (i := 2) sc_law.nd rfl (by first | exact .inl rfl | exact .inr rfl) (by simp))) (fun _ _ _ _ _ => vts_nil) (fun _ _ _ _ _ => (vi_callI c__law_right (hr.less (by omega)) noE (va_cons (vi_callB c__law_box (hr.less (by omega)) noE (va_cons (nv 1) (va_cons (nv 2) va_nil))) va_nil)))) va_nil))))), ?_⟩

  obtain ⟨ns, hlen, hbits, rfl, rfl, rfl⟩ := hR
  have hsm : ∀ z ∈ ns, sm 1048576 z := fun z hz => sm_bits (hbits z hz)
  rw [show ent N_law.length [.fl (ns.map D.int)] = [some (md (.fl (ns.map D.int)), .fl (ns.map D.int)), none, none] from rfl, md_fl]
  repeat ((conv => whnf); first | (with_reducible refine And.intro ?_ ?_; rotate_left) | with_reducible refine Exists.intro _ (And.intro rfl ?_) | refine Br.yes rfl ?_ | refine Br.no rfl ?_ | refine Br.yes (by first | rfl | exact at9_cT _ | exact at9_sT _ | exact at9_intt _ | exact at9_int _ | exact at9_lkTt _ | exact at9_lkT _ | exact at9_lkX _ | exact at9_lkS _ _ _ | exact at9_tog _ _ _ _ | exact at9_c3 _ | exact at9_fl _ | exact h9 _ my | exact h9 | (simp only [Cr.at9, Cr.at9s, List.map_cons, List.map_nil, at9_int, at9_intt, at9_lkT, at9_lkTt, at9_lkX, at9_lkS, at9_tog, at9_cT, at9_sT, Bool.and_true, Bool.and_self]; done) | fail) ?_ | refine Br.no h9 ?_ | fail)
  · refine ⟨[.fl (ns.map D.int), .int 3], 1, clP 3, rfl, rfl, ⟨ns, 3, rfl, by decide, by decide, hlen, hsm, rfl, rfl⟩, .inl ⟨fun d ⟨cs, e, _⟩ => by (rw [e]; exact full_ints cs), fun d hp => ?_⟩⟩
    obtain ⟨cs, rfl, hc0, hc3, hcs⟩ := hp
    repeat ((conv => whnf); first | (with_reducible refine And.intro ?_ ?_; rotate_left) | with_reducible refine Exists.intro _ (And.intro rfl ?_) | refine Br.yes rfl ?_ | refine Br.no rfl ?_ | refine Br.yes (by first | rfl | exact at9_cT _ | exact at9_sT _ | exact at9_intt _ | exact at9_int _ | exact at9_lkTt _ | exact at9_lkT _ | exact at9_lkX _ | exact at9_lkS _ _ _ | exact at9_tog _ _ _ _ | exact at9_c3 _ | exact at9_fl _ | exact h9 _ my | exact h9 | (simp only [Cr.at9, Cr.at9s, List.map_cons, List.map_nil, at9_int, at9_intt, at9_lkT, at9_lkTt, at9_lkX, at9_lkS, at9_tog, at9_cT, at9_sT, Bool.and_true, Bool.and_self]; done) | fail) ?_ | refine Br.no h9 ?_ | fail)
    · conv => whnf
      refine lc_by (fun i k acc env => env = [some (9, .fl (ns.map D.int)), some (1, .lst (cs.map D.int)), none] ∧ acc.length = i ∧ ∀ x ∈ acc, x = .bl true) ⟨rfl, rfl, fun x h => absurd h List.not_mem_nil⟩ (fun i dd k acc env hd hI Y hY => ?_) (fun k acc env hI => ?_)
      · obtain ⟨rfl, hal, hjs⟩ := hI
        have hi : i < cs.length := by have := (List.getElem?_eq_some_iff.mp hd).1; rw [rangeD_len] at this; simpa using this
        have hdd : dd = .int (i : Nat) := by
          unfold rangeD at hd
          rw [List.getElem?_map, List.getElem?_range (by simpa using hi)] at hd
          rw [← Option.some.inj hd]
          simp
        subst hdd
        repeat ((conv => whnf); first | (with_reducible refine And.intro ?_ ?_; rotate_left) | with_reducible refine Exists.intro _ (And.intro rfl ?_) | refine Br.yes rfl ?_ | refine Br.no rfl ?_ | refine Br.yes (by first | rfl | exact at9_cT _ | exact at9_sT _ | exact at9_intt _ | exact at9_int _ | exact at9_lkTt _ | exact at9_lkT _ | exact at9_lkX _ | exact at9_lkS _ _ _ | exact at9_tog _ _ _ _ | exact at9_c3 _ | exact at9_fl _ | exact h9 _ my | exact h9 | (simp only [Cr.at9, Cr.at9s, List.map_cons, List.map_nil, at9_int, at9_intt, at9_lkT, at9_lkTt, at9_lkX, at9_lkS, at9_tog, at9_cT, at9_sT, Bool.and_true, Bool.and_self]; done) | fail) ?_ | refine Br.no h9 ?_ | fail)
        · refine ⟨[.lst (cs.map D.int), .int (i : Nat)], 1, bx 0, rfl, rfl, ⟨cs, i, cs[i], List.getElem?_eq_getElem hi, rfl, by omega, sm_mono (hcs _ (List.getElem_mem hi)) (by omega), rfl, rfl⟩, .inl ⟨fun d h => bx_full h, fun b hb0 => ?_⟩⟩
          repeat ((conv => whnf); first | (with_reducible refine And.intro ?_ ?_; rotate_left) | with_reducible refine Exists.intro _ (And.intro rfl ?_) | refine Br.yes rfl ?_ | refine Br.no rfl ?_ | refine Br.yes (by first | rfl | exact at9_cT _ | exact at9_sT _ | exact at9_intt _ | exact at9_int _ | exact at9_lkTt _ | exact at9_lkT _ | exact at9_lkX _ | exact at9_lkS _ _ _ | exact at9_tog _ _ _ _ | exact at9_c3 _ | exact at9_fl _ | exact h9 _ my | exact h9 | (simp only [Cr.at9, Cr.at9s, List.map_cons, List.map_nil, at9_int, at9_intt, at9_lkT, at9_lkTt, at9_lkX, at9_lkS, at9_tog, at9_cT, at9_sT, Bool.and_true, Bool.and_self]; done) | fail) ?_ | refine Br.no h9 ?_ | fail)
          · refine ⟨[], 9, _, rfl, rfl, okM_le (Nat.le_of_ble_eq_true rfl), ⟨0, _, rfl, hb0, by decide, rfl, rfl⟩, fun d d' hp => by rw [hp.2]; rfl, fun d d' hp => ?_⟩
            obtain ⟨hc1, rfl⟩ := hp
            repeat ((conv => whnf); first | (with_reducible refine And.intro ?_ ?_; rotate_left) | with_reducible refine Exists.intro _ (And.intro rfl ?_) | refine Br.yes rfl ?_ | refine Br.no rfl ?_ | refine Br.yes (by first | rfl | exact at9_cT _ | exact at9_sT _ | exact at9_intt _ | exact at9_int _ | exact at9_lkTt _ | exact at9_lkT _ | exact at9_lkX _ | exact at9_lkS _ _ _ | exact at9_tog _ _ _ _ | exact at9_c3 _ | exact at9_fl _ | exact h9 _ my | exact h9 | (simp only [Cr.at9, Cr.at9s, List.map_cons, List.map_nil, at9_int, at9_intt, at9_lkT, at9_lkTt, at9_lkX, at9_lkS, at9_tog, at9_cT, at9_sT, Bool.and_true, Bool.and_self]; done) | fail) ?_ | refine Br.no h9 ?_ | fail)
            · conv => whnf
              refine hY _ _ _ ⟨rfl, by rw [List.length_append, hal]; rfl, fun y hy => ?_⟩
              rcases List.mem_append.mp hy with hy | hy
              · exact hjs y hy
              · exact List.mem_singleton.mp hy
            all_goals first | exact ⟨by rw [List.length_map]; omega, by rw [List.length_map]; omega⟩ | exact fun d hd => by (rw [hjs d hd]; trivial) | exact fits_of (by omega) | (with_reducible exact rfl) | assumption | exact trivial | exact Nat.le_of_ble_eq_true rfl | exact okM_le (Nat.le_of_ble_eq_true rfl) | exact ⟨rfl, rfl⟩ | exact fits_of (Nat.le_of_ble_eq_true rfl) | exact fun d hd => by (obtain ⟨_, _, rfl⟩ := List.mem_map.mp hd; exact trivial) | (refine fits_of ?_; simp; omega) | exact ⟨Nat.le_of_ble_eq_true rfl, Nat.le_of_ble_eq_true rfl⟩ | exact ⟨by decide, by decide⟩ | (dsimp only; exact ⟨by decide, by decide⟩) | omega | exact rfl
          all_goals first | exact ⟨by rw [List.length_map]; omega, by rw [List.length_map]; omega⟩ | exact fun d hd => by (rw [hjs d hd]; trivial) | exact fits_of (by omega) | (with_reducible exact rfl) | assumption | exact trivial | exact Nat.le_of_ble_eq_true rfl | exact okM_le (Nat.le_of_ble_eq_true rfl) | exact ⟨rfl, rfl⟩ | exact fits_of (Nat.le_of_ble_eq_true rfl) | exact fun d hd => by (obtain ⟨_, _, rfl⟩ := List.mem_map.mp hd; exact trivial) | (refine fits_of ?_; simp; omega) | exact ⟨Nat.le_of_ble_eq_true rfl, Nat.le_of_ble_eq_true rfl⟩ | exact ⟨by decide, by decide⟩ | (dsimp only; exact ⟨by decide, by decide⟩) | omega | exact rfl
        all_goals first | exact ⟨by rw [List.length_map]; omega, by rw [List.length_map]; omega⟩ | exact fun d hd => by (rw [hjs d hd]; trivial) | exact fits_of (by omega) | (with_reducible exact rfl) | assumption | exact trivial | exact Nat.le_of_ble_eq_true rfl | exact okM_le (Nat.le_of_ble_eq_true rfl) | exact ⟨rfl, rfl⟩ | exact fits_of (Nat.le_of_ble_eq_true rfl) | exact fun d hd => by (obtain ⟨_, _, rfl⟩ := List.mem_map.mp hd; exact trivial) | (refine fits_of ?_; simp; omega) | exact ⟨Nat.le_of_ble_eq_true rfl, Nat.le_of_ble_eq_true rfl⟩ | exact ⟨by decide, by decide⟩ | (dsimp only; exact ⟨by decide, by decide⟩) | omega | exact rfl
      · obtain ⟨rfl, hal, hjs⟩ := hI
        have hall := all_of hjs
        rw [rangeD_len] at hal
        repeat ((conv => whnf); first | (with_reducible refine And.intro ?_ ?_; rotate_left) | with_reducible refine Exists.intro _ (And.intro rfl ?_) | refine Br.yes rfl ?_ | refine Br.no rfl ?_ | refine Br.yes (by first | rfl | exact at9_cT _ | exact at9_sT _ | exact at9_intt _ | exact at9_int _ | exact at9_lkTt _ | exact at9_lkT _ | exact at9_lkX _ | exact at9_lkS _ _ _ | exact at9_tog _ _ _ _ | exact at9_c3 _ | exact at9_fl _ | exact h9 _ my | exact h9 | (simp only [Cr.at9, Cr.at9s, List.map_cons, List.map_nil, at9_int, at9_intt, at9_lkT, at9_lkTt, at9_lkX, at9_lkS, at9_tog, at9_cT, at9_sT, Bool.and_true, Bool.and_self]; done) | fail) ?_ | refine Br.no h9 ?_ | fail)
        · show D.bl _ = D.bl true
          rw [hall]
        all_goals first | exact ⟨by rw [List.length_map]; omega, by rw [List.length_map]; omega⟩ | exact fun d hd => by (rw [hjs d hd]; trivial) | exact fits_of (by omega) | (with_reducible exact rfl) | assumption | exact trivial | exact Nat.le_of_ble_eq_true rfl | exact okM_le (Nat.le_of_ble_eq_true rfl) | exact ⟨rfl, rfl⟩ | exact fits_of (Nat.le_of_ble_eq_true rfl) | exact fun d hd => by (obtain ⟨_, _, rfl⟩ := List.mem_map.mp hd; exact trivial) | (refine fits_of ?_; simp; omega) | exact ⟨Nat.le_of_ble_eq_true rfl, Nat.le_of_ble_eq_true rfl⟩ | exact ⟨by decide, by decide⟩ | (dsimp only; exact ⟨by decide, by decide⟩) | omega | exact rfl
    all_goals first | exact ⟨by rw [List.length_map]; omega, by rw [List.length_map]; omega⟩ | exact fun d hd => by (rw [hjs d hd]; trivial) | exact fits_of (by omega) | (with_reducible exact rfl) | assumption | exact trivial | exact Nat.le_of_ble_eq_true rfl | exact okM_le (Nat.le_of_ble_eq_true rfl) | exact ⟨rfl, rfl⟩ | exact fits_of (Nat.le_of_ble_eq_true rfl) | exact fun d hd => by (obtain ⟨_, _, rfl⟩ := List.mem_map.mp hd; exact trivial) | (refine fits_of ?_; simp; omega) | exact ⟨Nat.le_of_ble_eq_true rfl, Nat.le_of_ble_eq_true rfl⟩ | exact ⟨by decide, by decide⟩ | (dsimp only; exact ⟨by decide, by decide⟩) | omega | exact rfl
  all_goals first | exact ⟨by rw [List.length_map]; omega, by rw [List.length_map]; omega⟩ | exact fun d hd => by (rw [hjs d hd]; trivial) | exact fits_of (by omega) | (with_reducible exact rfl) | assumption | exact trivial | exact Nat.le_of_ble_eq_true rfl | exact okM_le (Nat.le_of_ble_eq_true rfl) | exact ⟨rfl, rfl⟩ | exact fits_of (Nat.le_of_ble_eq_true rfl) | exact fun d hd => by (obtain ⟨_, _, rfl⟩ := List.mem_map.mp hd; exact trivial) | (refine fits_of ?_; simp; omega) | exact ⟨Nat.le_of_ble_eq_true rfl, Nat.le_of_ble_eq_true rfl⟩ | exact ⟨by decide, by decide⟩ | (dsimp only; exact ⟨by decide, by decide⟩) | omega | exact rfl
theorem all_mk {P : Program} {w : World} {K : PySem.W.Frag} {h : Heap} {mg : Str → Option Value} (X : K.In h) (G : h.Ns mainGlobals mg)
    {f0 : Addr} {od0 an0 : Option Addr} {sl0 : Array (Option Value)} {oc0 kV0 dc0 pm0 cd0 ct0 : Value} (a0 : PySem.W.nsIn K mainGlobals "_law_take" = some (some (.ref f0))) (l0 : K.lookup f0 = some ⟨oc0, od0, .func (PySem.W.fnOf "_law_take" "_law_take" (defArgs s__law_take) (defBody s__law_take) (defScope s__law_take) .none kV0 dc0 pm0 an0 cd0 ct0), sl0⟩) (c0 : PySem.W.codeIn K cd0 "_law_take" = true) (k0 : PySem.W.keepIn K (.ref f0) = true)
    {f1 : Addr} {od1 an1 : Option Addr} {sl1 : Array (Option Value)} {oc1 kV1 dc1 pm1 cd1 ct1 : Value} (a1 : PySem.W.nsIn K mainGlobals "_law_of" = some (some (.ref f1))) (l1 : K.lookup f1 = some ⟨oc1, od1, .func (PySem.W.fnOf "_law_of" "_law_of" (defArgs s__law_of) (defBody s__law_of) (defScope s__law_of) .none kV1 dc1 pm1 an1 cd1 ct1), sl1⟩) (c1 : PySem.W.codeIn K cd1 "_law_of" = true) (k1 : PySem.W.keepIn K (.ref f1) = true)
    {f2 : Addr} {od2 an2 : Option Addr} {sl2 : Array (Option Value)} {oc2 kV2 dc2 pm2 cd2 ct2 : Value} (a2 : PySem.W.nsIn K mainGlobals "_law_canal" = some (some (.ref f2))) (l2 : K.lookup f2 = some ⟨oc2, od2, .func (PySem.W.fnOf "_law_canal" "_law_canal" (defArgs s__law_canal) (defBody s__law_canal) (defScope s__law_canal) .none kV2 dc2 pm2 an2 cd2 ct2), sl2⟩) (c2 : PySem.W.codeIn K cd2 "_law_canal" = true) (k2 : PySem.W.keepIn K (.ref f2) = true)
    {f3 : Addr} {od3 an3 : Option Addr} {sl3 : Array (Option Value)} {oc3 kV3 dc3 pm3 cd3 ct3 : Value} (a3 : PySem.W.nsIn K mainGlobals "_law_lists" = some (some (.ref f3))) (l3 : K.lookup f3 = some ⟨oc3, od3, .func (PySem.W.fnOf "_law_lists" "_law_lists" (defArgs s__law_lists) (defBody s__law_lists) (defScope s__law_lists) .none kV3 dc3 pm3 an3 cd3 ct3), sl3⟩) (c3 : PySem.W.codeIn K cd3 "_law_lists" = true) (k3 : PySem.W.keepIn K (.ref f3) = true)
    {f4 : Addr} {od4 an4 : Option Addr} {sl4 : Array (Option Value)} {oc4 kV4 dc4 pm4 cd4 ct4 : Value} (a4 : PySem.W.nsIn K mainGlobals "_law_odd" = some (some (.ref f4))) (l4 : K.lookup f4 = some ⟨oc4, od4, .func (PySem.W.fnOf "_law_odd" "_law_odd" (defArgs s__law_odd) (defBody s__law_odd) (defScope s__law_odd) .none kV4 dc4 pm4 an4 cd4 ct4), sl4⟩) (c4 : PySem.W.codeIn K cd4 "_law_odd" = true) (k4 : PySem.W.keepIn K (.ref f4) = true)
    {f5 : Addr} {od5 an5 : Option Addr} {sl5 : Array (Option Value)} {oc5 kV5 dc5 pm5 cd5 ct5 : Value} (a5 : PySem.W.nsIn K mainGlobals "_law_otherwise" = some (some (.ref f5))) (l5 : K.lookup f5 = some ⟨oc5, od5, .func (PySem.W.fnOf "_law_otherwise" "_law_otherwise" (defArgs s__law_otherwise) (defBody s__law_otherwise) (defScope s__law_otherwise) .none kV5 dc5 pm5 an5 cd5 ct5), sl5⟩) (c5 : PySem.W.codeIn K cd5 "_law_otherwise" = true) (k5 : PySem.W.keepIn K (.ref f5) = true)
    {f6 : Addr} {od6 an6 : Option Addr} {sl6 : Array (Option Value)} {oc6 kV6 dc6 pm6 cd6 ct6 : Value} (a6 : PySem.W.nsIn K mainGlobals "_law_same" = some (some (.ref f6))) (l6 : K.lookup f6 = some ⟨oc6, od6, .func (PySem.W.fnOf "_law_same" "_law_same" (defArgs s__law_same) (defBody s__law_same) (defScope s__law_same) .none kV6 dc6 pm6 an6 cd6 ct6), sl6⟩) (c6 : PySem.W.codeIn K cd6 "_law_same" = true) (k6 : PySem.W.keepIn K (.ref f6) = true)
    {f7 : Addr} {od7 an7 : Option Addr} {sl7 : Array (Option Value)} {oc7 kV7 dc7 pm7 cd7 ct7 : Value} (a7 : PySem.W.nsIn K mainGlobals "_law_cells" = some (some (.ref f7))) (l7 : K.lookup f7 = some ⟨oc7, od7, .func (PySem.W.fnOf "_law_cells" "_law_cells" (defArgs s__law_cells) (defBody s__law_cells) (defScope s__law_cells) .none kV7 dc7 pm7 an7 cd7 ct7), sl7⟩) (c7 : PySem.W.codeIn K cd7 "_law_cells" = true) (k7 : PySem.W.keepIn K (.ref f7) = true)
    {f8 : Addr} {od8 an8 : Option Addr} {sl8 : Array (Option Value)} {oc8 kV8 dc8 pm8 cd8 ct8 : Value} (a8 : PySem.W.nsIn K mainGlobals "_law_box" = some (some (.ref f8))) (l8 : K.lookup f8 = some ⟨oc8, od8, .func (PySem.W.fnOf "_law_box" "_law_box" (defArgs s__law_box) (defBody s__law_box) (defScope s__law_box) .none kV8 dc8 pm8 an8 cd8 ct8), sl8⟩) (c8 : PySem.W.codeIn K cd8 "_law_box" = true) (k8 : PySem.W.keepIn K (.ref f8) = true)
    {f9 : Addr} {od9 an9 : Option Addr} {sl9 : Array (Option Value)} {oc9 kV9 dc9 pm9 cd9 ct9 : Value} (a9 : PySem.W.nsIn K mainGlobals "_law_count" = some (some (.ref f9))) (l9 : K.lookup f9 = some ⟨oc9, od9, .func (PySem.W.fnOf "_law_count" "_law_count" (defArgs s__law_count) (defBody s__law_count) (defScope s__law_count) .none kV9 dc9 pm9 an9 cd9 ct9), sl9⟩) (c9 : PySem.W.codeIn K cd9 "_law_count" = true) (k9 : PySem.W.keepIn K (.ref f9) = true)
    {f10 : Addr} {od10 an10 : Option Addr} {sl10 : Array (Option Value)} {oc10 kV10 dc10 pm10 cd10 ct10 : Value} (a10 : PySem.W.nsIn K mainGlobals "_law_row_of_numbers" = some (some (.ref f10))) (l10 : K.lookup f10 = some ⟨oc10, od10, .func (PySem.W.fnOf "_law_row_of_numbers" "_law_row_of_numbers" (defArgs s__law_row_of_numbers) (defBody s__law_row_of_numbers) (defScope s__law_row_of_numbers) .none kV10 dc10 pm10 an10 cd10 ct10), sl10⟩) (c10 : PySem.W.codeIn K cd10 "_law_row_of_numbers" = true) (k10 : PySem.W.keepIn K (.ref f10) = true)
    {f11 : Addr} {od11 an11 : Option Addr} {sl11 : Array (Option Value)} {oc11 kV11 dc11 pm11 cd11 ct11 : Value} (a11 : PySem.W.nsIn K mainGlobals "_law_due" = some (some (.ref f11))) (l11 : K.lookup f11 = some ⟨oc11, od11, .func (PySem.W.fnOf "_law_due" "_law_due" (defArgs s__law_due) (defBody s__law_due) (defScope s__law_due) .none kV11 dc11 pm11 an11 cd11 ct11), sl11⟩) (c11 : PySem.W.codeIn K cd11 "_law_due" = true) (k11 : PySem.W.keepIn K (.ref f11) = true)
    {f12 : Addr} {od12 an12 : Option Addr} {sl12 : Array (Option Value)} {oc12 kV12 dc12 pm12 cd12 ct12 : Value} (a12 : PySem.W.nsIn K mainGlobals "is_number" = some (some (.ref f12))) (l12 : K.lookup f12 = some ⟨oc12, od12, .func (PySem.W.fnOf "is_number" "is_number" (defArgs s_is_number) (defBody s_is_number) (defScope s_is_number) .none kV12 dc12 pm12 an12 cd12 ct12), sl12⟩) (c12 : PySem.W.codeIn K cd12 "is_number" = true) (k12 : PySem.W.keepIn K (.ref f12) = true)
    {f13 : Addr} {od13 an13 : Option Addr} {sl13 : Array (Option Value)} {oc13 kV13 dc13 pm13 cd13 ct13 : Value} (a13 : PySem.W.nsIn K mainGlobals "is_tuple_of" = some (some (.ref f13))) (l13 : K.lookup f13 = some ⟨oc13, od13, .func (PySem.W.fnOf "is_tuple_of" "is_tuple_of" (defArgs s_is_tuple_of) (defBody s_is_tuple_of) (defScope s_is_tuple_of) .none kV13 dc13 pm13 an13 cd13 ct13), sl13⟩) (c13 : PySem.W.codeIn K cd13 "is_tuple_of" = true) (k13 : PySem.W.keepIn K (.ref f13) = true)
    {f14 : Addr} {od14 an14 : Option Addr} {sl14 : Array (Option Value)} {oc14 kV14 dc14 pm14 cd14 ct14 : Value} (a14 : PySem.W.nsIn K mainGlobals "are_numbers" = some (some (.ref f14))) (l14 : K.lookup f14 = some ⟨oc14, od14, .func (PySem.W.fnOf "are_numbers" "are_numbers" (defArgs s_are_numbers) (defBody s_are_numbers) (defScope s_are_numbers) .none kV14 dc14 pm14 an14 cd14 ct14), sl14⟩) (c14 : PySem.W.codeIn K cd14 "are_numbers" = true) (k14 : PySem.W.keepIn K (.ref f14) = true)
    {f15 : Addr} {od15 an15 : Option Addr} {sl15 : Array (Option Value)} {oc15 kV15 dc15 pm15 cd15 ct15 : Value} (a15 : PySem.W.nsIn K mainGlobals "is_lock" = some (some (.ref f15))) (l15 : K.lookup f15 = some ⟨oc15, od15, .func (PySem.W.fnOf "is_lock" "is_lock" (defArgs s_is_lock) (defBody s_is_lock) (defScope s_is_lock) .none kV15 dc15 pm15 an15 cd15 ct15), sl15⟩) (c15 : PySem.W.codeIn K cd15 "is_lock" = true) (k15 : PySem.W.keepIn K (.ref f15) = true)
    {f16 : Addr} {od16 an16 : Option Addr} {sl16 : Array (Option Value)} {oc16 kV16 dc16 pm16 cd16 ct16 : Value} (a16 : PySem.W.nsIn K mainGlobals "is_canal" = some (some (.ref f16))) (l16 : K.lookup f16 = some ⟨oc16, od16, .func (PySem.W.fnOf "is_canal" "is_canal" (defArgs s_is_canal) (defBody s_is_canal) (defScope s_is_canal) .none kV16 dc16 pm16 an16 cd16 ct16), sl16⟩) (c16 : PySem.W.codeIn K cd16 "is_canal" = true) (k16 : PySem.W.keepIn K (.ref f16) = true)
    {f17 : Addr} {od17 an17 : Option Addr} {sl17 : Array (Option Value)} {oc17 kV17 dc17 pm17 cd17 ct17 : Value} (a17 : PySem.W.nsIn K mainGlobals "_law_right" = some (some (.ref f17))) (l17 : K.lookup f17 = some ⟨oc17, od17, .func (PySem.W.fnOf "_law_right" "_law_right" (defArgs s__law_right) (defBody s__law_right) (defScope s__law_right) .none kV17 dc17 pm17 an17 cd17 ct17), sl17⟩) (c17 : PySem.W.codeIn K cd17 "_law_right" = true) (k17 : PySem.W.keepIn K (.ref f17) = true)
    {f18 : Addr} {od18 an18 : Option Addr} {sl18 : Array (Option Value)} {oc18 kV18 dc18 pm18 cd18 ct18 : Value} (a18 : PySem.W.nsIn K mainGlobals "law" = some (some (.ref f18))) (l18 : K.lookup f18 = some ⟨oc18, od18, .func (PySem.W.fnOf "law" "law" (defArgs s_law) (defBody s_law) (defScope s_law) .none kV18 dc18 pm18 an18 cd18 ct18), sl18⟩) (c18 : PySem.W.codeIn K cd18 "law" = true) (k18 : PySem.W.keepIn K (.ref f18) = true)
    (z_abs : PySem.W.nsIn K mainGlobals "abs" = some none)
    (z_all : PySem.W.nsIn K mainGlobals "all" = some none)
    (z_bool : PySem.W.nsIn K mainGlobals "bool" = some none)
    (z_enumerate : PySem.W.nsIn K mainGlobals "enumerate" = some none)
    (z_int : PySem.W.nsIn K mainGlobals "int" = some none)
    (z_isinstance : PySem.W.nsIn K mainGlobals "isinstance" = some none)
    (z_len : PySem.W.nsIn K mainGlobals "len" = some none)
    (z_list : PySem.W.nsIn K mainGlobals "list" = some none)
    (z_range : PySem.W.nsIn K mainGlobals "range" = some none)
    (z_repr : PySem.W.nsIn K mainGlobals "repr" = some none)
    (z_str : PySem.W.nsIn K mainGlobals "str" = some none)
    (z_tuple : PySem.W.nsIn K mainGlobals "tuple" = some none)
    (z_zip : PySem.W.nsIn K mainGlobals "zip" = some none)
    {t_ENDS : Tok} (y_ENDS : PySem.W.nsIn K mainGlobals "ENDS" = some (some (.int (4) t_ENDS)))
    {t_PARTS : Tok} (y_PARTS : PySem.W.nsIn K mainGlobals "PARTS" = some (some (.int (3) t_PARTS)))
    : ∀ base : Heap, K.In base → base.Ns mainGlobals mg → Cl P w K mg base L2.CX0 13 "law" s_law ["_law_script"] (spB K 1 (lawR 63)) := by
  intro base _ _
  have m_abs := PySem.W.mg_none_of X G z_abs
  have m_all := PySem.W.mg_none_of X G z_all
  have m_bool := PySem.W.mg_none_of X G z_bool
  have m_enumerate := PySem.W.mg_none_of X G z_enumerate
  have m_int := PySem.W.mg_none_of X G z_int
  have m_isinstance := PySem.W.mg_none_of X G z_isinstance
  have m_len := PySem.W.mg_none_of X G z_len
  have m_list := PySem.W.mg_none_of X G z_list
  have m_range := PySem.W.mg_none_of X G z_range
  have m_repr := PySem.W.mg_none_of X G z_repr
  have m_str := PySem.W.mg_none_of X G z_str
  have m_tuple := PySem.W.mg_none_of X G z_tuple
  have m_zip := PySem.W.mg_none_of X G z_zip
  have g_ENDS : ∃ t, mg "ENDS" = some (.int (4) t) := ⟨_, PySem.W.mg_of X G y_ENDS⟩
  have g_PARTS : ∃ t, mg "PARTS" = some (.int (3) t) := ⟨_, PySem.W.mg_of X G y_PARTS⟩
  have h__law_take : Known K mg "_law_take" s__law_take ["_law_box_here", "_law_size"] := ⟨_, fun_of X G a0 l0 c0 k0 (fun _ _ _ _ _ _ us hl => match us, hl with | [_, _], _ => rfl)⟩
  have h__law_of : Known K mg "_law_of" s__law_of ["_law_box_here", "_law_some"] := ⟨_, fun_of X G a1 l1 c1 k1 (fun _ _ _ _ _ _ us hl => match us, hl with | [_, _], _ => rfl)⟩
  have h__law_canal : Known K mg "_law_canal" s__law_canal ["_law_box_here", "_law_wide", "_law_utmost"] := ⟨_, fun_of X G a2 l2 c2 k2 (fun _ _ _ _ _ _ us hl => match us, hl with | [_, _, _], _ => rfl)⟩
  have h__law_lists : Known K mg "_law_lists" s__law_lists ["_law_what"] := ⟨_, fun_of X G a3 l3 c3 k3 (fun _ _ _ _ _ _ us hl => match us, hl with | [_], _ => rfl)⟩
  have h__law_odd : Known K mg "_law_odd" s__law_odd ["_law_box_here"] := ⟨_, fun_of X G a4 l4 c4 k4 (fun _ _ _ _ _ _ us hl => match us, hl with | [_], _ => rfl)⟩
  have h__law_otherwise : Known K mg "_law_otherwise" s__law_otherwise ["_law_box_here", "_law_what"] := ⟨_, fun_of X G a5 l5 c5 k5 (fun _ _ _ _ _ _ us hl => match us, hl with | [_, _], _ => rfl)⟩
  have h__law_same : Known K mg "_law_same" s__law_same ["_law_found", "_law_due_here"] := ⟨_, fun_of X G a6 l6 c6 k6 (fun _ _ _ _ _ _ us hl => match us, hl with | [_, _], _ => rfl)⟩
  have h__law_cells : Known K mg "_law_cells" s__law_cells ["_law_script", "_law_utmost"] := ⟨_, fun_of X G a7 l7 c7 k7 (fun _ _ _ _ _ _ us hl => match us, hl with | [_, _], _ => rfl)⟩
  have h__law_box : Known K mg "_law_box" s__law_box ["_law_cells_here", "_law_k"] := ⟨_, fun_of X G a8 l8 c8 k8 (fun _ _ _ _ _ _ us hl => match us, hl with | [_, _], _ => rfl)⟩
  have h__law_count : Known K mg "_law_count" s__law_count ["_law_item"] := ⟨_, fun_of X G a9 l9 c9 k9 (fun _ _ _ _ _ _ us hl => match us, hl with | [_], _ => rfl)⟩
  have h__law_row_of_numbers : Known K mg "_law_row_of_numbers" s__law_row_of_numbers ["_law_item", "_law_size", "_law_is_list"] := ⟨_, fun_of X G a10 l10 c10 k10 (fun _ _ _ _ _ _ us hl => match us, hl with | [_, _, _], _ => rfl)⟩
  have h__law_due : Known K mg "_law_due" s__law_due ["_law_item"] := ⟨_, fun_of X G a11 l11 c11 k11 (fun _ _ _ _ _ _ us hl => match us, hl with | [_], _ => rfl)⟩
  have h_is_number : Known K mg "is_number" s_is_number ["thing"] := ⟨_, fun_of X G a12 l12 c12 k12 (fun _ _ _ _ _ _ us hl => match us, hl with | [_], _ => rfl)⟩
  have h_is_tuple_of : Known K mg "is_tuple_of" s_is_tuple_of ["thing", "many"] := ⟨_, fun_of X G a13 l13 c13 k13 (fun _ _ _ _ _ _ us hl => match us, hl with | [_, _], _ => rfl)⟩
  have h_are_numbers : Known K mg "are_numbers" s_are_numbers ["things", "low", "top"] := ⟨_, fun_of X G a14 l14 c14 k14 (fun _ _ _ _ _ _ us hl => match us, hl with | [_, _, _], _ => rfl)⟩
  have h_is_lock : Known K mg "is_lock" s_is_lock ["thing", "reds", "blues"] := ⟨_, fun_of X G a15 l15 c15 k15 (fun _ _ _ _ _ _ us hl => match us, hl with | [_, _, _], _ => rfl)⟩
  have h_is_canal : Known K mg "is_canal" s_is_canal ["thing"] := ⟨_, fun_of X G a16 l16 c16 k16 (fun _ _ _ _ _ _ us hl => match us, hl with | [_], _ => rfl)⟩
  have h__law_right : Known K mg "_law_right" s__law_right ["_law_box_here"] := ⟨_, fun_of X G a17 l17 c17 k17 (fun _ _ _ _ _ _ us hl => match us, hl with | [_], _ => rfl)⟩
  have h_law : Known K mg "law" s_law ["_law_script"] := ⟨_, fun_of X G a18 l18 c18 k18 (fun _ _ _ _ _ _ us hl => match us, hl with | [_], _ => rfl)⟩
  have c__law_take := cl__law_take (P := P) (w := w) (base := base) (h__law_take := h__law_take)   
  have c__law_of := cl__law_of (P := P) (w := w) (base := base) (h__law_of := h__law_of) (m_len := m_len)  (c__law_take := c__law_take)
  have c__law_canal := cl__law_canal (P := P) (w := w) (base := base) (h__law_canal := h__law_canal) (m_list := m_list) (m_range := m_range) (m_tuple := m_tuple)  (c__law_of := c__law_of) (c__law_take := c__law_take)
  have c0__law_lists : Cl P w K mg base L2.CX0 0 "_law_lists" s__law_lists ["_law_what"] (spB K 1 (rLists 0)) := Cl.none h__law_lists (by intro ds k P h; obtain ⟨d, _, h2, _⟩ := h; exact absurd h2 (Nat.not_lt_zero _))
  have c1__law_lists := cl__law_lists (h__law_lists := h__law_lists) (m_isinstance := m_isinstance) (m_list := m_list) (m_tuple := m_tuple)   (n := 0) (by decide) c0__law_lists
  have c2__law_lists := cl__law_lists (h__law_lists := h__law_lists) (m_isinstance := m_isinstance) (m_list := m_list) (m_tuple := m_tuple)   (n := 1) (by decide) c1__law_lists
  have c3__law_lists := cl__law_lists (h__law_lists := h__law_lists) (m_isinstance := m_isinstance) (m_list := m_list) (m_tuple := m_tuple)   (n := 2) (by decide) c2__law_lists
  have c4__law_lists := cl__law_lists (h__law_lists := h__law_lists) (m_isinstance := m_isinstance) (m_list := m_list) (m_tuple := m_tuple)   (n := 3) (by decide) c3__law_lists
  have c5__law_lists := cl__law_lists (h__law_lists := h__law_lists) (m_isinstance := m_isinstance) (m_list := m_list) (m_tuple := m_tuple)   (n := 4) (by decide) c4__law_lists
  have c__law_lists := c5__law_lists.up (k := 5) (by decide)
  have c__law_odd := cl__law_odd (P := P) (w := w) (base := base) (h__law_odd := h__law_odd)   (c__law_of := c__law_of)
  have c0__law_otherwise : Cl P w K mg base L2.CX0 3 "_law_otherwise" s__law_otherwise ["_law_box_here", "_law_what"] (spI K 2 1 (rOth 0)) := Cl.noneI h__law_otherwise (by intro ds k P h; obtain ⟨_, _, _, _, _, _, _, _, _, _, _, h2, _⟩ := h; exact absurd h2 (Nat.not_lt_zero _))
  have c1__law_otherwise := cl__law_otherwise (h__law_otherwise := h__law_otherwise) (m_bool := m_bool) (m_int := m_int) (m_isinstance := m_isinstance) (m_len := m_len) (m_list := m_list) (m_str := m_str) (m_tuple := m_tuple)  (c__law_odd := c__law_odd) (c__law_take := c__law_take) (n := 0) (by decide) c0__law_otherwise
  have c2__law_otherwise := cl__law_otherwise (h__law_otherwise := h__law_otherwise) (m_bool := m_bool) (m_int := m_int) (m_isinstance := m_isinstance) (m_len := m_len) (m_list := m_list) (m_str := m_str) (m_tuple := m_tuple)  (c__law_odd := c__law_odd) (c__law_take := c__law_take) (n := 1) (by decide) c1__law_otherwise
  have c3__law_otherwise := cl__law_otherwise (h__law_otherwise := h__law_otherwise) (m_bool := m_bool) (m_int := m_int) (m_isinstance := m_isinstance) (m_len := m_len) (m_list := m_list) (m_str := m_str) (m_tuple := m_tuple)  (c__law_odd := c__law_odd) (c__law_take := c__law_take) (n := 2) (by decide) c2__law_otherwise
  have c4__law_otherwise := cl__law_otherwise (h__law_otherwise := h__law_otherwise) (m_bool := m_bool) (m_int := m_int) (m_isinstance := m_isinstance) (m_len := m_len) (m_list := m_list) (m_str := m_str) (m_tuple := m_tuple)  (c__law_odd := c__law_odd) (c__law_take := c__law_take) (n := 3) (by decide) c3__law_otherwise
  have c5__law_otherwise := cl__law_otherwise (h__law_otherwise := h__law_otherwise) (m_bool := m_bool) (m_int := m_int) (m_isinstance := m_isinstance) (m_len := m_len) (m_list := m_list) (m_str := m_str) (m_tuple := m_tuple)  (c__law_odd := c__law_odd) (c__law_take := c__law_take) (n := 4) (by decide) c4__law_otherwise
  have c6__law_otherwise := cl__law_otherwise (h__law_otherwise := h__law_otherwise) (m_bool := m_bool) (m_int := m_int) (m_isinstance := m_isinstance) (m_len := m_len) (m_list := m_list) (m_str := m_str) (m_tuple := m_tuple)  (c__law_odd := c__law_odd) (c__law_take := c__law_take) (n := 5) (by decide) c5__law_otherwise
  have c__law_otherwise := c6__law_otherwise.up (k := 10) (by decide)
  have c0__law_same : Cl P w K mg base L2.CX0 0 "_law_same" s__law_same ["_law_found", "_law_due_here"] (spB K 2 (rSame 0)) := Cl.none h__law_same (by intro ds k P h; obtain ⟨d, _, h2, _⟩ := h; exact absurd h2 (Nat.not_lt_zero _))
  have c1__law_same := cl__law_same (h__law_same := h__law_same) (m_all := m_all) (m_bool := m_bool) (m_int := m_int) (m_isinstance := m_isinstance) (m_len := m_len) (m_list := m_list) (m_str := m_str) (m_tuple := m_tuple) (m_zip := m_zip)   (n := 0) (by decide) c0__law_same
  have c2__law_same := cl__law_same (h__law_same := h__law_same) (m_all := m_all) (m_bool := m_bool) (m_int := m_int) (m_isinstance := m_isinstance) (m_len := m_len) (m_list := m_list) (m_str := m_str) (m_tuple := m_tuple) (m_zip := m_zip)   (n := 1) (by decide) c1__law_same
  have c3__law_same := cl__law_same (h__law_same := h__law_same) (m_all := m_all) (m_bool := m_bool) (m_int := m_int) (m_isinstance := m_isinstance) (m_len := m_len) (m_list := m_list) (m_str := m_str) (m_tuple := m_tuple) (m_zip := m_zip)   (n := 2) (by decide) c2__law_same
  have c4__law_same := cl__law_same (h__law_same := h__law_same) (m_all := m_all) (m_bool := m_bool) (m_int := m_int) (m_isinstance := m_isinstance) (m_len := m_len) (m_list := m_list) (m_str := m_str) (m_tuple := m_tuple) (m_zip := m_zip)   (n := 3) (by decide) c3__law_same
  have c5__law_same := cl__law_same (h__law_same := h__law_same) (m_all := m_all) (m_bool := m_bool) (m_int := m_int) (m_isinstance := m_isinstance) (m_len := m_len) (m_list := m_list) (m_str := m_str) (m_tuple := m_tuple) (m_zip := m_zip)   (n := 4) (by decide) c4__law_same
  have c6__law_same := cl__law_same (h__law_same := h__law_same) (m_all := m_all) (m_bool := m_bool) (m_int := m_int) (m_isinstance := m_isinstance) (m_len := m_len) (m_list := m_list) (m_str := m_str) (m_tuple := m_tuple) (m_zip := m_zip)   (n := 5) (by decide) c5__law_same
  have c7__law_same := cl__law_same (h__law_same := h__law_same) (m_all := m_all) (m_bool := m_bool) (m_int := m_int) (m_isinstance := m_isinstance) (m_len := m_len) (m_list := m_list) (m_str := m_str) (m_tuple := m_tuple) (m_zip := m_zip)   (n := 6) (by decide) c6__law_same
  have c8__law_same := cl__law_same (h__law_same := h__law_same) (m_all := m_all) (m_bool := m_bool) (m_int := m_int) (m_isinstance := m_isinstance) (m_len := m_len) (m_list := m_list) (m_str := m_str) (m_tuple := m_tuple) (m_zip := m_zip)   (n := 7) (by decide) c7__law_same
  have c__law_same := c8__law_same.up (k := 8) (by decide)
  have c__law_cells := cl__law_cells (P := P) (w := w) (base := base) (h__law_cells := h__law_cells) (m_enumerate := m_enumerate) (m_list := m_list)  
  have c__law_box := cl__law_box (P := P) (w := w) (base := base) (h__law_box := h__law_box) (m_abs := m_abs) (m_int := m_int)  
  have c__law_count := cl__law_count (P := P) (w := w) (base := base) (h__law_count := h__law_count) (m_bool := m_bool) (m_int := m_int) (m_isinstance := m_isinstance)  
  have c__law_row_of_numbers := cl__law_row_of_numbers (P := P) (w := w) (base := base) (h__law_row_of_numbers := h__law_row_of_numbers) (m_all := m_all) (m_isinstance := m_isinstance) (m_len := m_len) (m_list := m_list) (m_tuple := m_tuple)  (c__law_count := c__law_count)
  have c__law_due := cl__law_due (P := P) (w := w) (base := base) (h__law_due := h__law_due) (m_all := m_all) (m_enumerate := m_enumerate) (m_isinstance := m_isinstance) (m_len := m_len) (m_tuple := m_tuple)  (c__law_count := c__law_count) (c__law_row_of_numbers := c__law_row_of_numbers)
  have c_is_number := cl_is_number (P := P) (w := w) (base := base) (h_is_number := h_is_number) (m_bool := m_bool) (m_int := m_int) (m_isinstance := m_isinstance)  
  have c_is_tuple_of := cl_is_tuple_of (P := P) (w := w) (base := base) (h_is_tuple_of := h_is_tuple_of) (m_isinstance := m_isinstance) (m_len := m_len) (m_tuple := m_tuple)  
  have c_are_numbers := cl_are_numbers (P := P) (w := w) (base := base) (h_are_numbers := h_are_numbers) (m_all := m_all)  (c_is_number := c_is_number)
  have c_is_lock := cl_is_lock (P := P) (w := w) (base := base) (h_is_lock := h_is_lock)  (g_ENDS := g_ENDS) (c_are_numbers := c_are_numbers) (c_is_tuple_of := c_is_tuple_of)
  have c_is_canal := cl_is_canal (P := P) (w := w) (base := base) (h_is_canal := h_is_canal) (m_all := m_all) (m_isinstance := m_isinstance) (m_tuple := m_tuple) (g_PARTS := g_PARTS) (c_is_lock := c_is_lock) (c_is_number := c_is_number) (c_is_tuple_of := c_is_tuple_of)
  have c__law_right := cl__law_right (P := P) (w := w) (base := base) (h__law_right := h__law_right) (m_range := m_range) (m_repr := m_repr)  (c__law_canal := c__law_canal) (c__law_due := c__law_due) (c__law_lists := c__law_lists) (c__law_odd := c__law_odd) (c__law_otherwise := c__law_otherwise) (c__law_same := c__law_same) (c__law_take := c__law_take) (c_is_canal := c_is_canal)
  have c_law := cl_law (P := P) (w := w) (base := base) (h_law := h_law) (m_all := m_all) (m_len := m_len) (m_range := m_range)  (c__law_box := c__law_box) (c__law_cells := c__law_cells) (c__law_right := c__law_right)
  exact c_law.up (by decide)
end K01
open PySem PySem.W PyProof.Rows
set_option maxHeartbeats 0 in
theorem PySem.Challenge.cw_crosslocks_k01_what_canals_are_holds : PySem.Challenge.rw_crosslocks_k01_what_canals_are.Holds := by
  w_on; o_law; k_head; (case hw => w_witness2)
  k_fill
  refine Cr.law_end (l := PySem.Challenge.rw_crosslocks_k01_what_canals_are) (n := 63) (k := 13) (x := "_law_script") (st := K01.s_law) (CX := fun _ => L2.CX0) rfl (by decide) rfl (Cr.rm_caller (by decide)) (fun w h Y => PySem.W.kIn_of Y) rfl ?F (fun _ _ _ _ _ h => h)
  case F =>
    intro w mg h KX G
    refine' K01.all_mk KX G ?a0 ?l0 ?c0 ?k0 ?a1 ?l1 ?c1 ?k1 ?a2 ?l2 ?c2 ?k2 ?a3 ?l3 ?c3 ?k3 ?a4 ?l4 ?c4 ?k4 ?a5 ?l5 ?c5 ?k5 ?a6 ?l6 ?c6 ?k6 ?a7 ?l7 ?c7 ?k7 ?a8 ?l8 ?c8 ?k8 ?a9 ?l9 ?c9 ?k9 ?a10 ?l10 ?c10 ?k10 ?a11 ?l11 ?c11 ?k11 ?a12 ?l12 ?c12 ?k12 ?a13 ?l13 ?c13 ?k13 ?a14 ?l14 ?c14 ?k14 ?a15 ?l15 ?c15 ?k15 ?a16 ?l16 ?c16 ?k16 ?a17 ?l17 ?c17 ?k17 ?a18 ?l18 ?c18 ?k18 ?z_abs ?z_all ?z_bool ?z_enumerate ?z_int ?z_isinstance ?z_len ?z_list ?z_range ?z_repr ?z_str ?z_tuple ?z_zip ?y_ENDS ?y_PARTS
    (case a0 => k_is); (case l0 => k_is); (case c0 => k_is); (case k0 => k_is); (case a1 => k_is); (case l1 => k_is); (case c1 => k_is); (case k1 => k_is); (case a2 => k_is); (case l2 => k_is); (case c2 => k_is); (case k2 => k_is); (case a3 => k_is); (case l3 => k_is); (case c3 => k_is); (case k3 => k_is); (case a4 => k_is); (case l4 => k_is); (case c4 => k_is); (case k4 => k_is); (case a5 => k_is); (case l5 => k_is); (case c5 => k_is); (case k5 => k_is); (case a6 => k_is); (case l6 => k_is); (case c6 => k_is); (case k6 => k_is); (case a7 => k_is); (case l7 => k_is); (case c7 => k_is); (case k7 => k_is); (case a8 => k_is); (case l8 => k_is); (case c8 => k_is); (case k8 => k_is); (case a9 => k_is); (case l9 => k_is); (case c9 => k_is); (case k9 => k_is); (case a10 => k_is); (case l10 => k_is); (case c10 => k_is); (case k10 => k_is); (case a11 => k_is); (case l11 => k_is); (case c11 => k_is); (case k11 => k_is); (case a12 => k_is); (case l12 => k_is); (case c12 => k_is); (case k12 => k_is); (case a13 => k_is); (case l13 => k_is); (case c13 => k_is); (case k13 => k_is); (case a14 => k_is); (case l14 => k_is); (case c14 => k_is); (case k14 => k_is); (case a15 => k_is); (case l15 => k_is); (case c15 => k_is); (case k15 => k_is); (case a16 => k_is); (case l16 => k_is); (case c16 => k_is); (case k16 => k_is); (case a17 => k_is); (case l17 => k_is); (case c17 => k_is); (case k17 => k_is); (case a18 => k_is); (case l18 => k_is); (case c18 => k_is); (case k18 => k_is); (case z_abs => k_is); (case z_all => k_is); (case z_bool => k_is); (case z_enumerate => k_is); (case z_int => k_is); (case z_isinstance => k_is); (case z_len => k_is); (case z_list => k_is); (case z_range => k_is); (case z_repr => k_is); (case z_str => k_is); (case z_tuple => k_is); (case z_zip => k_is); (case y_ENDS => k_is); (case y_PARTS => k_is)
