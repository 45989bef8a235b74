import PyProof.Rows.All
import Wide.All
import OpenK.AllK
import Wide.FinOn
import HandS.ForMost
import HandS.ForExc
import HandS.Lambda
import HandS.IsInst
import HandS.Wide
import HandS.TupAny
import HandS.TupMul
import HandS.ExcInit
import HandS.ExcIs
import HandS.ExcField
import HandS.Small
import HandS.Defaults
import HandS.EndTab
import HandS.SetFor
import HandS.SortInts
import HandS.SortRule
import HandS.SortKw
import HandS.TryMany
import HandS.OwnEq
import KE.SortKeyHeap
import KE.KLam
import KE.DatumOrd
import KE.SortUse
import HandS.Conv
import HandS.Dict
import PySem.Challenge.RW_slotwraps_k65_whole_any_rule_of_reuse
set_option Elab.async false
set_option linter.all false
set_option maxRecDepth 100000
set_option maxHeartbeats 4000000
/-! Sw: what is held of the heap, as a list of pieces with footprints apart. -/
namespace Sw
open PySem PySem.Spec PyProof.Rows L2

/-- objects that are never written once they stand -/
def immO : HO → Prop
  | .tup _ => True
  | .frz _ _ => True
  | .xd _ => True
  | .ext _ => True
  | _ => False
def mutO : HO → Prop
  | .lst _ => True
  | .dK _ => True
  | .dT _ => True
  | .set _ _ => True
  | .ins _ _ _ => True
  | .tbl _ => True
  | _ => False
/-- what stands for ever stays -/
def Imm (H H' : Hp) : Prop := ∀ a o, H a = some o → immO o → H' a = some o
theorem Imm.refl (H : Hp) : Imm H H := fun _ _ h _ => h
theorem Imm.trans {H H1 H2 : Hp} (a : Imm H H1) (b : Imm H1 H2) : Imm H H2 := fun x o h i => b x o (a x o h i) i
theorem Imm.new {H : Hp} {p : Addr} {o : HO} (h : H p = none) : Imm H (upd H p o) := fun a u e _ => by
  rw [upd_ne (ne_of_none e h)]; exact e
theorem Imm.set {H : Hp} {p : Addr} {o u : HO} (h : H p = some o) (m : mutO o) : Imm H (upd H p u) := fun a w e i => by
  have : a ≠ p := fun z => by
    subst z; rw [h] at e; cases e
    cases o <;> first | exact m.elim | exact i.elim
  rw [upd_ne this]; exact e

/-- a piece: the addresses that it owns, what is true of the heap; it hangs on its own addresses and on what stands for ever -/
structure HP where
  on : List Addr → Hp → Prop
  st : ∀ fp H H', on fp H → (∀ a ∈ fp, H' a = H a) → Imm H H' → on fp H'
  al : ∀ fp H, on fp H → ∀ a ∈ fp, ∃ o, H a = some o ∧ mutO o

/-- each piece with a footprint -/
inductive All2 : List HP → List (List Addr) → Hp → Prop
  | nil {H : Hp} : All2 [] [] H
  | cons {H : Hp} {it : HP} {fp : List Addr} {L : List HP} {F : List (List Addr)} (h : it.on fp H) (r : All2 L F H) : All2 (it :: L) (fp :: F) H

def Hold (H : Hp) (L : List HP) : Prop := ∃ F, All2 L F H ∧ F.flatten.Nodup

theorem All2.st {L : List HP} {F : List (List Addr)} {H H' : Hp} (h : All2 L F H) (e : ∀ a ∈ F.flatten, H' a = H a) (i : Imm H H') : All2 L F H' := by
  induction h with
  | nil => exact .nil
  | @cons H it fp L F h r ih =>
    rw [List.flatten_cons] at e
    exact .cons (HP.st _ _ _ _ h (fun a ha => e a (List.mem_append_left _ ha)) i) (ih (fun a ha => e a (List.mem_append_right _ ha)) i)
theorem All2.al {L : List HP} {F : List (List Addr)} {H : Hp} (h : All2 L F H) : ∀ a ∈ F.flatten, ∃ o, H a = some o ∧ mutO o := by
  induction h with
  | nil => intro a ha; simp at ha
  | cons h r ih =>
    intro a ha
    rw [List.flatten_cons] at ha
    rcases List.mem_append.mp ha with z | z
    · exact HP.al _ _ _ h a z
    · exact ih a z

theorem Hold.nil {H : Hp} : Hold H [] := ⟨[], .nil, by simp⟩
/-- a heap that grows or changes elsewhere -/
theorem Hold.stay {H H' : Hp} {L : List HP} (h : Hold H L) (e : ∀ a o, H a = some o → H' a = some o) : Hold H' L := by
  obtain ⟨F, a, n⟩ := h
  exact ⟨F, a.st (fun b hb => by
    obtain ⟨o, ho, _⟩ := a.al b hb
    rw [ho, e b o ho]) fun b o q _ => e b o q, n⟩
theorem Hold.new' {H : Hp} {L : List HP} {p : Addr} {o : HO} (h : Hold H L) (hp : H p = none) : Hold (upd H p o) L :=
  h.stay fun a u e => by rw [upd_ne (ne_of_none e hp)]; exact e

/-- swap -/
theorem Hold.swap {H : Hp} {A B : HP} {L : List HP} (h : Hold H (A :: B :: L)) : Hold H (B :: A :: L) := by
  obtain ⟨F, a, n⟩ := h
  cases a with
  | cons ha a =>
    cases a with
    | cons hb a =>
      refine ⟨_, .cons hb (.cons ha a), ?_⟩
      simp only [List.flatten_cons] at n ⊢
      rw [← List.append_assoc] at n ⊢
      exact (List.Perm.append_right _ List.perm_append_comm).nodup n
theorem Hold.cons_imp {H : Hp} {A : HP} {L L' : List HP} (h : Hold H (A :: L)) (f : ∀ F, All2 L F H → ∃ F', All2 L' F' H ∧ (∀ a, a ∈ F'.flatten → a ∈ F.flatten) ∧ (F.flatten.Nodup → F'.flatten.Nodup)) : Hold H (A :: L') := by
  obtain ⟨F, a, n⟩ := h
  cases a with
  | cons ha a =>
    rename_i fa F
    obtain ⟨F', a', s, m⟩ := f F a
    rw [List.flatten_cons, List.nodup_append] at n
    refine ⟨fa :: F', .cons ha a', ?_⟩
    rw [List.flatten_cons, List.nodup_append]
    exact ⟨n.1, m n.2.1, fun x hx y hy => n.2.2 x hx y (s y hy)⟩
theorem All2.perm {L L' : List HP} (p : L.Perm L') : ∀ {F H}, All2 L F H → ∃ F', All2 L' F' H ∧ F.flatten.Perm F'.flatten := by
  induction p with
  | nil => exact fun {F H} h => ⟨F, h, List.Perm.refl _⟩
  | cons x p ih =>
    intro F H h
    cases h with
    | cons hx r =>
      obtain ⟨F', a, q⟩ := ih r
      exact ⟨_ :: F', .cons hx a, by rw [List.flatten_cons, List.flatten_cons]; exact q.append_left _⟩
  | swap x y l =>
    intro F H h
    cases h with
    | cons hy r =>
      cases r with
      | cons hx r =>
        refine ⟨_, .cons hx (.cons hy r), ?_⟩
        simp only [List.flatten_cons]
        rw [← List.append_assoc, ← List.append_assoc]
        exact List.Perm.append_right _ List.perm_append_comm
  | trans p q ih1 ih2 =>
    intro F H h
    obtain ⟨F1, a1, q1⟩ := ih1 h
    obtain ⟨F2, a2, q2⟩ := ih2 a1
    exact ⟨F2, a2, q1.trans q2⟩
theorem Hold.perm {H : Hp} {L L' : List HP} (h : Hold H L) (p : L.Perm L') : Hold H L' := by
  obtain ⟨F, a, n⟩ := h
  obtain ⟨F', a', q⟩ := All2.perm p a
  exact ⟨F', a', q.nodup n⟩
/-- the i-th piece to the front -/
theorem perm_focus {α : Type} : ∀ (L : List α) (i : Nat) (h : i < L.length), L.Perm (L[i] :: L.eraseIdx i)
  | a :: L, 0, _ => List.Perm.refl _
  | a :: L, i + 1, h => by
    have h' : i < L.length := by simpa using h
    have ih := perm_focus L i h'
    show (a :: L).Perm (L[i] :: a :: L.eraseIdx i)
    exact (List.Perm.cons a ih).trans (List.Perm.swap _ _ _)
theorem perm_at {α : Type} {L : List α} {x : α} {i : Nat} (h : L[i]? = some x) : L.Perm (x :: L.eraseIdx i) := by
  obtain ⟨hi, e⟩ := List.getElem?_eq_some_iff.mp h
  have q := perm_focus L i hi
  rw [e] at q
  exact q
theorem Hold.focus {H : Hp} {L : List HP} {x : HP} (h : Hold H L) (i : Nat) (hx : L[i]? = some x) : Hold H (x :: L.eraseIdx i) := h.perm (perm_at hx)
theorem Hold.tail {H : Hp} {A : HP} {L : List HP} (h : Hold H (A :: L)) : Hold H L := by
  obtain ⟨F, a, n⟩ := h
  cases a with
  | cons ha a =>
    rename_i fa F
    rw [List.flatten_cons, List.nodup_append] at n
    exact ⟨F, a, n.2.1⟩
theorem Hold.head {H : Hp} {A : HP} {L : List HP} (h : Hold H (A :: L)) : Hold H [A] := by
  obtain ⟨F, a, n⟩ := h
  cases a with
  | cons ha a =>
    rename_i fa F
    rw [List.flatten_cons, List.nodup_append] at n
    exact ⟨[fa], .cons ha .nil, by simpa using n.1⟩
theorem Hold.at {H : Hp} {A : HP} {L : List HP} (h : Hold H L) (m : A ∈ L) : ∃ fp, A.on fp H := by
  obtain ⟨F, a, n⟩ := h
  clear n
  induction a with
  | nil => simp at m
  | cons ha r ih =>
    rcases List.mem_cons.mp m with e | m
    · subst e; exact ⟨_, ha⟩
    · exact ih m
/-- A in the place of B -/
theorem Hold.imp {H : Hp} {A B : HP} {L : List HP} (h : Hold H (A :: L)) (f : ∀ fp, A.on fp H → B.on fp H) : Hold H (B :: L) := by
  obtain ⟨F, a, n⟩ := h
  cases a with
  | cons ha a => exact ⟨_, .cons (f _ ha) a, n⟩

/-! ### the pieces -/
/-- an object that may be written -/
def pt (a : Addr) (o : HO) : HP where
  on := fun fp H => fp = [a] ∧ H a = some o ∧ mutO o
  st := fun fp H H' h e _ => ⟨h.1, by rw [e a (by rw [h.1]; simp)]; exact h.2.1, h.2.2⟩
  al := fun fp H h a' ha => by
    rw [h.1] at ha
    have : a' = a := by simpa using ha
    subst this; exact ⟨o, h.2⟩
/-- what is true for ever -/
def fact (P : Hp → Prop) (m : ∀ H H', Imm H H' → P H → P H') : HP where
  on := fun fp H => fp = [] ∧ P H
  st := fun fp H H' h _ i => ⟨h.1, m H H' i h.2⟩
  al := fun fp H h a ha => by rw [h.1] at ha; simp at ha
/-- a tuple -/
def tp (a : Addr) (xs : List V) : HP := fact (fun H => H a = some (.tup xs)) fun _ _ i h => i a _ h trivial
/-- an exception's dict -/
def xd (a : Addr) (fs : List (Str × V)) : HP := fact (fun H => H a = some (.xd fs)) fun _ _ i h => i a _ h trivial
theorem imm_seqT {K : PySem.W.Frag} {H H' : Hp} {a : Addr} {xs : List V} (i : Imm H H') (h : SqT K H a xs) : SqT K H' a xs := by
  rcases h with (h | ⟨o, h⟩) | h
  · exact .inl (.inl (i a _ h trivial))
  · exact .inl (.inr ⟨o, i a _ h trivial⟩)
  · exact .inr h
/-- a tuple as it may be read -/
def tq (K : PySem.W.Frag) (a : Addr) (xs : List V) : HP := fact (fun H => SqT K H a xs) fun _ _ i h => imm_seqT i h
/-- a list that is known to the object, or stands at the top: it is never written -/
def FrL (K : PySem.W.Frag) (H : Hp) (a : Addr) (xs : List V) : Prop := (∃ o, H a = some (.frz o (.lst xs))) ∨ (∃ (o : Obj) (its : Array Value) (n : Nat), K.lookup a = some o ∧ o.cls = .type "list" ∧ o.dict = none ∧ o.data = .seq its n ∧ its.size ≤ sizeLine ∧ Vals xs its.toList)
theorem FrL.sq {K : PySem.W.Frag} {H : Hp} {a : Addr} {xs : List V} (h : FrL K H a xs) : SqL K H a xs := h.elim (fun h => .inl (.inr h)) .inr
def fl (K : PySem.W.Frag) (a : Addr) (xs : List V) : HP := fact (fun H => FrL K H a xs) fun _ _ i h => h.elim (fun ⟨o, h⟩ => .inl ⟨o, i a _ h trivial⟩) .inr
/-- a statement -/
def pu (P : Prop) : HP := fact (fun _ => P) fun _ _ _ h => h

theorem Hold.get {H : Hp} {L : List HP} {a : Addr} {o : HO} (h : Hold H L) (m : pt a o ∈ L) : H a = some o := by
  obtain ⟨fp, q⟩ := h.at m
  exact q.2.1
theorem Hold.tup {H : Hp} {L : List HP} {a : Addr} {xs : List V} (h : Hold H L) (m : tp a xs ∈ L) : H a = some (.tup xs) := by
  obtain ⟨fp, q⟩ := h.at m
  exact q.2
theorem Hold.sqT {K : PySem.W.Frag} {H : Hp} {L : List HP} {a : Addr} {xs : List V} (h : Hold H L) (m : tp a xs ∈ L) : SqT K H a xs := SqT.of (h.tup m)
theorem Hold.sqL {K : PySem.W.Frag} {H : Hp} {L : List HP} {a : Addr} {xs : List V} (h : Hold H L) (m : pt a (.lst xs) ∈ L) : SqL K H a xs := SqL.of (h.get m)
theorem Hold.tqT {K : PySem.W.Frag} {H : Hp} {L : List HP} {a : Addr} {xs : List V} (h : Hold H L) (m : tq K a xs ∈ L) : SqT K H a xs := by
  obtain ⟨fp, q⟩ := h.at m
  exact q.2
theorem Hold.flL {K : PySem.W.Frag} {H : Hp} {L : List HP} {a : Addr} {xs : List V} (h : Hold H L) (m : fl K a xs ∈ L) : SqL K H a xs := by
  obtain ⟨fp, q⟩ := h.at m
  exact q.2.sq
theorem Hold.xdd {H : Hp} {L : List HP} {a : Addr} {fs : List (Str × V)} (h : Hold H L) (m : xd a fs ∈ L) : H a = some (.xd fs) := by
  obtain ⟨fp, q⟩ := h.at m
  exact q.2
theorem Hold.pu {H : Hp} {L : List HP} {P : Prop} (h : Hold H L) (m : pu P ∈ L) : P := by
  obtain ⟨fp, q⟩ := h.at m
  exact q.2
/-- a fact is added -/
theorem Hold.add {H : Hp} {L : List HP} {P : Hp → Prop} {m : ∀ H H', Imm H H' → P H → P H'} (h : Hold H L) (p : P H) : Hold H (fact P m :: L) := by
  obtain ⟨F, a, n⟩ := h
  exact ⟨[] :: F, .cons ⟨rfl, p⟩ a, by simpa using n⟩
/-- a new object -/
theorem Hold.new {H : Hp} {L : List HP} {p : Addr} {o : HO} (h : Hold H L) (hp : H p = none) (m : mutO o) : Hold (upd H p o) (pt p o :: L) := by
  obtain ⟨F, a, n⟩ := h
  have np : ∀ b ∈ F.flatten, b ≠ p := fun b hb z => by
    obtain ⟨u, hu, _⟩ := a.al b hb
    rw [z, hp] at hu; cases hu
  refine ⟨[p] :: F, .cons ⟨rfl, upd_same, m⟩ (a.st (fun b hb => upd_ne (np b hb)) (Imm.new hp)), ?_⟩
  rw [List.flatten_cons]
  exact List.nodup_cons.mpr ⟨fun hm => np p hm rfl, n⟩
/-- a new tuple (or another object that stands for ever) -/
theorem Hold.newF {H : Hp} {L : List HP} {p : Addr} {o : HO} {P : Hp → Prop} {m : ∀ H H', Imm H H' → P H → P H'} (h : Hold H L) (hp : H p = none) (q : P (upd H p o)) : Hold (upd H p o) (fact P m :: L) :=
  (h.new' hp).add q
theorem Hold.newT {H : Hp} {L : List HP} {p : Addr} {xs : List V} (h : Hold H L) (hp : H p = none) : Hold (upd H p (.tup xs)) (tp p xs :: L) := h.newF hp upd_same
/-- an object is written -/
theorem Hold.set {H : Hp} {L : List HP} {p : Addr} {o o' : HO} (h : Hold H (pt p o :: L)) (m : mutO o') : Hold (upd H p o') (pt p o' :: L) := by
  obtain ⟨F, a, n⟩ := h
  cases a with
  | cons ha a =>
    obtain ⟨e, e1, e2⟩ := ha
    subst e
    rw [List.flatten_cons] at n
    have n' := List.nodup_cons.mp n
    exact ⟨_, .cons ⟨rfl, upd_same, m⟩ (a.st (fun b hb => upd_ne fun z => n'.1 (by rw [← z]; exact hb)) (Imm.set e1 e2)), by rw [List.flatten_cons]; exact n⟩
theorem Hold.setAt {H : Hp} {L : List HP} {p : Addr} {o : HO} (o' : HO) (i : Nat) (h : Hold H L) (hx : L[i]? = some (pt p o)) (m : mutO o') : Hold (upd H p o') (pt p o' :: L.eraseIdx i) := (h.focus i hx).set m

/-! ### pieces together -/
def stars (Ls : List HP) : HP where
  on := fun fp H => ∃ F, All2 Ls F H ∧ F.flatten.Nodup ∧ fp = F.flatten
  st := fun fp H H' ⟨F, a, n, e⟩ k i => ⟨F, a.st (fun b hb => k b (by rw [e]; exact hb)) i, n, e⟩
  al := fun fp H ⟨F, a, n, e⟩ b hb => a.al b (by rw [← e]; exact hb)
def ex {α : Type} (f : α → HP) : HP where
  on := fun fp H => ∃ x, (f x).on fp H
  st := fun fp H H' ⟨x, h⟩ k i => ⟨x, HP.st _ _ _ _ h k i⟩
  al := fun fp H ⟨x, h⟩ b hb => HP.al _ _ _ h b hb
theorem All2.append {L L' : List HP} {F F' : List (List Addr)} {H : Hp} (a : All2 L F H) (b : All2 L' F' H) : All2 (L ++ L') (F ++ F') H := by
  induction a with
  | nil => exact b
  | cons h r ih => exact .cons h (ih b)
theorem All2.split {L' : List HP} {H : Hp} : ∀ {L : List HP} {F : List (List Addr)}, All2 (L ++ L') F H → ∃ F1 F2, F = F1 ++ F2 ∧ All2 L F1 H ∧ All2 L' F2 H
  | [], F, h => ⟨[], F, rfl, .nil, h⟩
  | A :: L, _, .cons ha r => by
    obtain ⟨F1, F2, e, a1, a2⟩ := All2.split (L := L) r
    exact ⟨_ :: F1, F2, by rw [e]; rfl, .cons ha a1, a2⟩
theorem Hold.unstar {H : Hp} {Ls L : List HP} (h : Hold H (stars Ls :: L)) : Hold H (Ls ++ L) := by
  obtain ⟨F, a, n⟩ := h
  cases a with
  | cons ha a =>
    obtain ⟨F1, a1, n1, e⟩ := ha
    subst e
    exact ⟨_, a1.append a, by rw [List.flatten_append]; rw [List.flatten_cons] at n; exact n⟩
theorem Hold.star {H : Hp} {Ls L : List HP} (h : Hold H (Ls ++ L)) : Hold H (stars Ls :: L) := by
  obtain ⟨F, a, n⟩ := h
  obtain ⟨F1, F2, e, a1, a2⟩ := All2.split a
  subst e
  rw [List.flatten_append] at n
  exact ⟨_ :: F2, .cons ⟨F1, a1, (List.nodup_append.mp n).1, rfl⟩ a2, by rw [List.flatten_cons]; exact n⟩
theorem Hold.unex {α : Type} {f : α → HP} {H : Hp} {L : List HP} (h : Hold H (ex f :: L)) : ∃ x, Hold H (f x :: L) := by
  obtain ⟨F, a, n⟩ := h
  cases a with
  | cons ha a =>
    obtain ⟨x, hx⟩ := ha
    exact ⟨x, _, .cons hx a, n⟩
theorem Hold.ex {α : Type} {f : α → HP} {H : Hp} {L : List HP} (x : α) (h : Hold H (f x :: L)) : Hold H (Sw.ex f :: L) := h.imp fun fp q => ⟨x, q⟩
/-- two pieces that own something are two -/
theorem Hold.ne {H : Hp} {L : List HP} {a b : Addr} {o u : HO} (h : Hold H (pt a o :: pt b u :: L)) : a ≠ b := by
  obtain ⟨F, x, n⟩ := h
  cases x with
  | cons ha x =>
    cases x with
    | cons hb x =>
      obtain ⟨e1, _⟩ := ha
      obtain ⟨e2, _⟩ := hb
      subst e1; subst e2
      intro z
      subst z
      simp [List.flatten_cons] at n
/-- fewer pieces -/
theorem Hold.sub {H : Hp} {L L' : List HP} (h : Hold H L) (s : L'.Sublist L) : Hold H L' := by
  obtain ⟨F, a, n⟩ := h
  have : ∀ {L L' : List HP}, L'.Sublist L → ∀ {F}, All2 L F H → ∃ F', All2 L' F' H ∧ F'.flatten.Sublist F.flatten := by
    intro L L' s
    induction s with
    | slnil => exact fun {F} a => ⟨F, a, List.Sublist.refl _⟩
    | cons x s ih =>
      intro F a
      cases a with
      | cons hx r =>
        obtain ⟨F', a', q⟩ := ih r
        exact ⟨F', a', by rw [List.flatten_cons]; exact q.trans (List.sublist_append_right _ _)⟩
    | cons_cons x s ih =>
      intro F a
      cases a with
      | cons hx r =>
        obtain ⟨F', a', q⟩ := ih r
        exact ⟨_, .cons hx a', by rw [List.flatten_cons, List.flatten_cons]; exact (List.append_sublist_append_left _).mpr q⟩
  obtain ⟨F', a', q⟩ := this s a
  exact ⟨F', a', q.nodup n⟩
end Sw

/-! Sw: what may be called; rules that serve values of several kinds. -/
namespace Sw
open PySem PySem.Spec PyProof.Rows L2

section
variable (P : Program) (w : World) (K : PySem.W.Frag) (mg : Str → Option Value) (base : Heap)
/-- the def called x keeps the promise sp -/
structure Cal (x : Str) (k : Nat) (ps : List Str) (sp : Sp) : Prop where
  ex : ∃ f fd, mg x = some (.ref f) ∧ PySem.W.keepIn K (.ref f) = true ∧ Binds K fd ps [] ∧ FnOk P w K mg base (L2.CX P w) k f fd ps sp
/-- the method m of the class at C -/
structure CalM (C : Addr) (m : Str) (k : Nat) (ps : List Str) (sp : Sp) : Prop where
  ex : ∃ f fd, Meth K C m f ∧ Binds K fd ps [] ∧ FnOk P w K mg base (L2.CX P w) k f fd ps sp
/-- the class x at C, made by its __init__ -/
structure CalC (x : Str) (C : Addr) (k : Nat) (ps : List Str) (sp : Sp) : Prop where
  ex : ∃ f fd, mg x = some (.ref C) ∧ Mk K C f ∧ Binds K fd ps [] ∧ FnOk P w K mg base (L2.CX P w) k f fd ps sp
/-- a def of the text as it stands behind the top -/
structure TopF (x : Str) (st : Stmt) : Prop where
  ex : ∃ f fd, mg x = some (.ref f) ∧ Fun K x x st f fd
structure TopM (C : Addr) (m qual : Str) (st : Stmt) : Prop where
  ex : ∃ f fd, Meth K C m f ∧ Fun K m qual st f fd
end
section
variable {P : Program} {w : World} {K : PySem.W.Frag} {mg : Str → Option Value} {base : Heap} {x m : Str} {C : Addr} {j k : Nat} {ps : List Str} {sp sp' : Sp}
theorem Cal.mono (c : Cal P w K mg base x j ps sp) (h : j ≤ k) : Cal P w K mg base x k ps sp := let ⟨f, fd, a, b, d, e⟩ := c.ex; ⟨f, fd, a, b, d, e.mono h⟩
theorem CalM.mono (c : CalM P w K mg base C m j ps sp) (h : j ≤ k) : CalM P w K mg base C m k ps sp := let ⟨f, fd, a, b, e⟩ := c.ex; ⟨f, fd, a, b, e.mono h⟩
theorem Cal.imp (c : Cal P w K mg base x k ps sp) (h : ∀ vs H Q E, sp' vs H Q E → sp vs H Q E) : Cal P w K mg base x k ps sp' := let ⟨f, fd, a, b, d, e⟩ := c.ex; ⟨f, fd, a, b, d, e.imp h⟩
theorem CalM.imp (c : CalM P w K mg base C m k ps sp) (h : ∀ vs H Q E, sp' vs H Q E → sp vs H Q E) : CalM P w K mg base C m k ps sp' := let ⟨f, fd, a, b, e⟩ := c.ex; ⟨f, fd, a, b, e.imp h⟩
/-- THE RULE for a def -/
theorem Cal.mk' {st : Stmt} {N : List Str} (F : TopF K mg x st) (S : FnScope N ps (defScope st))
    (hb : ∀ (kV doc pm : Value) (an : Option Addr) (cdv ct : Value) (us : List Value), us.length = ps.length → bindArgs (PySem.W.fnOf x x (defArgs st) (defBody st) (defScope st) .none kV doc pm an cdv ct) ⟨us, []⟩ = pure (ps.zip us))
    (len : ∀ vs H Q E, sp vs H Q E → vs.length = ps.length)
    (hbody : ∀ (f : Addr) (cdv : Value) (A : Around) (outer : List Env) (s : Shared) (H : Hp) (vs : List V) (Q : VK) (E : XK), Room k (A.deeper (envOfC x (defScope st) s.heap.objs.size f cdv)) →
      Takes (cxOf (L2.CX P w) P w K mg base N x (defScope st) f cdv A outer s H E) (fun cls d _ H => E cls d H) → PassesOwn (model P w) (cxOf (L2.CX P w) P w K mg base N x (defScope st) f cdv A outer s H E).A (cxOf (L2.CX P w) P w K mg base N x (defScope st) f cdv A outer s H E).env (cxOf (L2.CX P w) P w K mg base N x (defScope st) f cdv A outer s H E).xe →
      sp vs H Q E → ∃ t, PSs (cxOf (L2.CX P w) P w K mg base N x (defScope st) f cdv A outer s H E) (defBody st) t ∧ t { nx := fun _ H' => Q .non H', rt := Q } (L2.start N vs) H) : Cal P w K mg base x (k + 1) ps sp := by
  obtain ⟨f, fd, hm, F⟩ := F.ex
  exact ⟨f, fd, hm, F.kp, F.binds hb, F.okX S len fun cdv A outer s H vs Q E hr h => hbody f cdv A outer s H vs Q E hr (takes_of rfl rfl rfl rfl) (passes_of rfl) h⟩
theorem CalM.mk' {st : Stmt} {N : List Str} {qual : Str} (F : TopM K C m qual st) (S : FnScope N ps (defScope st))
    (hb : ∀ (kV doc pm : Value) (an : Option Addr) (cdv ct : Value) (us : List Value), us.length = ps.length → bindArgs (PySem.W.fnOf m qual (defArgs st) (defBody st) (defScope st) .none kV doc pm an cdv ct) ⟨us, []⟩ = pure (ps.zip us))
    (len : ∀ vs H Q E, sp vs H Q E → vs.length = ps.length)
    (hbody : ∀ (f : Addr) (cdv : Value) (A : Around) (outer : List Env) (s : Shared) (H : Hp) (vs : List V) (Q : VK) (E : XK), Room k (A.deeper (envOfC qual (defScope st) s.heap.objs.size f cdv)) →
      Takes (cxOf (L2.CX P w) P w K mg base N qual (defScope st) f cdv A outer s H E) (fun cls d _ H => E cls d H) → PassesOwn (model P w) (cxOf (L2.CX P w) P w K mg base N qual (defScope st) f cdv A outer s H E).A (cxOf (L2.CX P w) P w K mg base N qual (defScope st) f cdv A outer s H E).env (cxOf (L2.CX P w) P w K mg base N qual (defScope st) f cdv A outer s H E).xe →
      sp vs H Q E → ∃ t, PSs (cxOf (L2.CX P w) P w K mg base N qual (defScope st) f cdv A outer s H E) (defBody st) t ∧ t { nx := fun _ H' => Q .non H', rt := Q } (L2.start N vs) H) : CalM P w K mg base C m (k + 1) ps sp := by
  obtain ⟨f, fd, hm, F⟩ := F.ex
  exact ⟨f, fd, hm, F.binds hb, F.okX S len fun cdv A outer s H vs Q E hr h => hbody f cdv A outer s H vs Q E hr (takes_of rfl rfl rfl rfl) (passes_of rfl) h⟩
end

/-! ### calls -/
section
variable {X : Cx} {k : Nat} {f C : Addr} {ps : List Str} {sp : Sp} {W : WX} {x m : Str} {p pos apos : Pos} {e o : Expr} {es : List Expr} {t : TA} {ta : TE}
theorem pe_c (c : Cal X.prog X.w X.K X.mg X.base x k ps sp) (hr : Room k X.A) (hg : Gl X x) (tk : Takes X W) (ha : PA X (e :: es) t) (hdb : (x == ("__debug__" : Str)) = false := by decide)
    (he : starEach (e :: es) X.env = (false, eval e X.env) :: starEach es X.env := by rfl) (hpl : (backTo pos (starEach es X.env)).any (·.1) = false := by rfl) : PE X (.Call (.Name x p) (e :: es) [] pos) (tCallS sp (WE W) t) := by
  obtain ⟨f, fd, hm, hk, hb, F⟩ := c.ex
  exact pe_callS F hr hg hm hk hb (fun σ => passAt tk σ) ha hdb he hpl
/-- o.m(..), what is raised wished for at the caller's slots -/
def tMethS (C : Addr) (m : Str) (sp : Sp) (E : L2.St → XK) (ta : TE) (t : TA) : TE := fun σ H Q => ta σ H fun x H1 => ∃ a dx fs, x = .ref a ∧ H1 a = some (.ins C dx fs) ∧ fs.lookup m = none ∧
  t σ H1 fun vs H2 => sp (x :: vs) H2 Q (E σ)
theorem pe_c0 (c : Cal X.prog X.w X.K X.mg X.base x k ps sp) (hr : Room k X.A) (hg : Gl X x) (tk : Takes X W) (hdb : (x == ("__debug__" : Str)) = false := by decide) : PE X (.Call (.Name x p) [] [] pos) (tCallS sp (WE W) tNil) := by
  obtain ⟨f, fd, hm, hk, hb, F⟩ := c.ex
  refine ⟨fun pins s σ H Q I h => ?_⟩
  refine wpAny_Call_Name_kw (ld_glob I hg hm ?_ hdb)
  exact PySem.W.callWith_K0 I.kIn hk (run_fnS (us := []) (vs := []) F hr hb (passAt tk σ) I .nil h)
theorem pe_m {pl : Sem Bool} (c : Cls X.K C) (hm : CalM X.prog X.w X.K X.mg X.base C m k ps sp) (hr : Room k X.A) (tk : Takes X W) (he : PE X o ta) (ha : PA X (e :: es) t)
    (hst : starEach (e :: es) X.env = (false, eval e X.env) :: starEach es X.env := by rfl) (hpl : (backTo pos (starEach es X.env)).any (·.1) = false := by rfl)
    (ht : eval (.Call (.Attribute o m apos) (e :: es) [] pos) X.env = (do
      let ov ← eval o X.env
      standAt apos.atName
      let (f, first) ← holding [ov] (getMethod ov m pl)
      callWith pos f first (backTo pos (starEach (e :: es) X.env)) (backToKw pos (keywordEach [] X.env))) := by rfl) :
    PE X (.Call (.Attribute o m apos) (e :: es) [] pos) (tMethS C m sp (WE W) ta t) := by
  obtain ⟨f, fd, hm, hb, F⟩ := hm.ex
  refine ⟨fun pins s σ H Q I h => ?_⟩
  refine PySem.W.methodCall_KW (pl := pl) (thn (he.run pins s σ H _ I h) fun u s1 ⟨x, H1, I1, rx, a, dx, fs, ex, ea, l, q⟩ => ?_) ht
  subst ex
  obtain rfl : u = Value.ref a := rx
  refine getmeth_ok I1 ea c hm l ?_
  refine PySem.W.callWith_K (first := [.ref a]) (h₀ := X.base) I.ok.mod.kin hm.kp (thn (ha.run pos pins s1 σ H1 _ I1 q) fun us s2 ⟨vs, H2, I2, r, q2⟩ => ⟨I2.kIn, ?_⟩) hst hpl
  exact run_fnS (us := .ref a :: us) (vs := .ref a :: vs) F hr hb (passAt tk σ) I2 (.cons rfl r) q2
theorem pe_m0 {pl : Sem Bool} (c : Cls X.K C) (hm : CalM X.prog X.w X.K X.mg X.base C m k ps sp) (hr : Room k X.A) (tk : Takes X W) (he : PE X o ta)
    (ht : eval (.Call (.Attribute o m apos) [] [] pos) X.env = (do
      let ov ← eval o X.env
      standAt apos.atName
      let (f, first) ← holding [ov] (getMethod ov m pl)
      callWith pos f first (backTo pos (starEach [] X.env)) (backToKw pos (keywordEach [] X.env))) := by rfl) :
    PE X (.Call (.Attribute o m apos) [] [] pos) (tMethS C m sp (WE W) ta tNil) := by
  obtain ⟨f, fd, hm, hb, F⟩ := hm.ex
  refine ⟨fun pins s σ H Q I h => ?_⟩
  refine PySem.W.methodCall_KW (pl := pl) (thn (he.run pins s σ H _ I h) fun u s1 ⟨x, H1, I1, rx, a, dx, fs, ex, ea, l, q⟩ => ?_) ht
  subst ex
  obtain rfl : u = Value.ref a := rx
  refine getmeth_ok I1 ea c hm l ?_
  exact PySem.W.callWith_K0 (first := [.ref a]) I1.kIn hm.kp (run_fnS (us := [.ref a]) (vs := [.ref a]) F hr hb (passAt tk σ) I1 (.cons rfl .nil) q)
/-- C(..) that raises nothing -/
theorem pe_mk (c : CalC X.prog X.w X.K X.mg X.base x C k ps sp) (hr : Room (k + 1) X.A) (hg : Gl X x) (ha : PA X (e :: es) t) (hdb : (x == ("__debug__" : Str)) = false := by decide)
    (he : starEach (e :: es) X.env = (false, eval e X.env) :: starEach es X.env := by rfl) (hpl : (backTo pos (starEach es X.env)).any (·.1) = false := by rfl) :
    PE X (.Call (.Name x p) (e :: es) [] pos) (tMake C sp [] E0 t) := by
  obtain ⟨f, fd, hm, M, hb, F⟩ := c.ex
  exact pe_make M F hr hg hm hb .nil passL ha hdb he hpl
end
/-! ### calls with keywords -/
section
variable (P : Program) (w : World) (K : PySem.W.Frag) (mg : Str → Option Value) (base : Heap)
/-- n values by position, the others by the keywords ks in their order -/
def kwG {α : Type} (n : Nat) (us ws : List α) : List α := if us.length = n then us ++ ws else []
structure CalKw (x : Str) (k n : Nat) (ps ks : List Str) (sp : Sp) : Prop where
  ex : ∃ f fd, mg x = some (.ref f) ∧ PySem.W.keepIn K (.ref f) = true ∧ KBinds K fd ps ks (kwG n) (kwG n) ∧ FnOk P w K mg base (L2.CX P w) k f fd ps sp
end
theorem kwG_rel {n : Nat} {vs : List V} {us : List Value} {zs : List V} {ws : List Value} (h1 : Vals vs us) (h2 : Vals zs ws) : Vals (kwG n vs zs) (kwG n us ws) := by
  unfold kwG
  rw [h1.length]
  split
  · exact h1.append h2
  · exact .nil
section
variable {P : Program} {w : World} {K : PySem.W.Frag} {mg : Str → Option Value} {base : Heap} {x : Str} {j k n : Nat} {ps ks : List Str} {sp : Sp}
theorem CalKw.mk' {st : Stmt} {N : List Str} (F : TopF K mg x st) (S : FnScope N ps (defScope st)) (hn : n ≤ ps.length)
    (hb : ∀ (kV doc pm : Value) (an : Option Addr) (cdv ct : Value) (us ws : List Value), us.length = n → ws.length = ps.length - n → bindArgs (PySem.W.fnOf x x (defArgs st) (defBody st) (defScope st) .none kV doc pm an cdv ct) ⟨us, ks.zip ws⟩ = pure (ps.zip (us ++ ws)))
    (len : ∀ vs H Q E, sp vs H Q E → vs.length = ps.length) (h0 : 0 < ps.length)
    (hbody : ∀ (f : Addr) (cdv : Value) (A : Around) (outer : List Env) (s : Shared) (H : Hp) (vs : List V) (Q : VK) (E : XK), Room k (A.deeper (envOfC x (defScope st) s.heap.objs.size f cdv)) →
      Takes (cxOf (L2.CX P w) P w K mg base N x (defScope st) f cdv A outer s H E) (fun cls d _ H => E cls d H) → PassesOwn (model P w) (cxOf (L2.CX P w) P w K mg base N x (defScope st) f cdv A outer s H E).A (cxOf (L2.CX P w) P w K mg base N x (defScope st) f cdv A outer s H E).env (cxOf (L2.CX P w) P w K mg base N x (defScope st) f cdv A outer s H E).xe →
      sp vs H Q E → ∃ t, PSs (cxOf (L2.CX P w) P w K mg base N x (defScope st) f cdv A outer s H E) (defBody st) t ∧ t { nx := fun _ H' => Q .non H', rt := Q } (L2.start N vs) H) : CalKw P w K mg base x (k + 1) n ps ks sp := by
  obtain ⟨f, fd, hm, F⟩ := F.ex
  refine ⟨f, fd, hm, F.kp, ⟨fun s us ws _ hl => ?_, kwG_rel⟩, F.okX S len fun cdv A outer s H vs Q E hr h => hbody f cdv A outer s H vs Q E hr (takes_of rfl rfl rfl rfl) (passes_of rfl) h⟩
  obtain ⟨oc, od, kV, doc, pm, an, cdv, ct, osl, rfl, lk, hcd⟩ := F.ex
  unfold kwG at hl ⊢
  split at hl
  · rename_i hu
    rw [if_pos hu]
    rw [List.length_append] at hl
    exact .of_eq (hb kV doc pm an cdv ct us ws hu (by omega))
  · exact absurd hl (by simp; omega)
end
section
variable {X : Cx} {k n : Nat} {f C : Addr} {fd : FuncData} {ps ks : List Str} {sp : Sp} {W : WX} {x : Str} {p pos : Pos} {e : Expr} {es : List Expr} {kws : List Keyword} {t tk' : TA}
theorem run_fnkS {E : L2.St → XK} {CX : CXT} {g : List Value → List Value → List Value} {gV : List V → List V → List V} {pins : List (Addr × Obj)} {σ : L2.St} {H : Hp} {s : Shared} {Q : VK} {us ws : List Value} {vs zs : List V} (F : FnOk X.prog X.w X.K X.mg X.base CX k f fd ps sp) (hr : Room k X.A) (hb : KBinds X.K fd ps ks g gV) (hx : PassesAt CX X σ (E σ))
    (I : Inv X pins σ H s) (r : Vals vs us) (rz : Vals zs ws) (h : sp (gV vs zs) H Q (E σ)) : wpAny (model X.prog X.w) X.A (call (.ref f) us (ks.zip ws)) (EP X pins σ Q) X.xe s := by
  have r2 := hb.rel r rz
  have hl : (g us ws).length = ps.length := by rw [← r2.length]; exact F.len _ _ _ _ h
  refine wpAny_call (codeAny_mono (F.run X.A X.stack s H ⟨us, ks.zip ws⟩ (g us ws) (gV vs zs) Q (E σ) hr I.env0 (hb.to s us ws I.kIn hl) r2 h) fun r s' hq => ?_)
  cases r with
  | error e => exact hx pins H s e s' I hq
  | ok fl =>
    cases fl with
    | ret u => exact I.after hq
    | next => exact False.elim hq
    | brk => exact False.elim hq
    | cont => exact False.elim hq
def tCallKS (n : Nat) (sp : Sp) (E : L2.St → XK) (t tk : TA) : TE := fun σ H Q => t σ H fun vs H1 => tk σ H1 fun zs H2 => vs.length = n ∧ sp (vs ++ zs) H2 Q (E σ)
theorem pe_ck (c : CalKw X.prog X.w X.K X.mg X.base x k n ps ks sp) (hr : Room k X.A) (hg : Gl X x) (tk : Takes X W) (ha : PA X (e :: es) t) (hkw : PK X kws tk')
    (hall : (backToKw pos (keywordEach kws X.env)).all (·.1.isSome) = true := by rfl) (hks : (backToKw pos (keywordEach kws X.env)).filterMap (·.1) = ks := by rfl)
    (hdb : (x == ("__debug__" : Str)) = false := by decide) (he : starEach (e :: es) X.env = (false, eval e X.env) :: starEach es X.env := by rfl)
    (hpl : ((backTo pos (starEach (e :: es) X.env)).any (·.1) || (backToKw pos (keywordEach kws X.env)).any (·.1.isNone)) = false := by rfl) :
    PE X (.Call (.Name x p) (e :: es) kws pos) (tCallKS n sp (WE W) t tk') := by
  obtain ⟨f, fd, hm, hk, hb, F⟩ := c.ex
  refine ⟨fun pins s σ H Q I h => ?_⟩
  refine wpAny_Call_Name_kw (ld_glob I hg hm ?_ hdb)
  refine PySem.W.callWith_KW (h₀ := X.base) I.ok.mod.kin hk hall (thn (ha.run pos pins s σ H _ I h) fun us s1 ⟨vs, H1, I1, r, q⟩ => ?_) hpl he
  refine thn (hkw.run pos pins s1 σ H1 _ I1 q) fun ws s2 ⟨zs, H2, I2, rz, hn, q2⟩ => ⟨I2.kIn, ?_⟩
  rw [hks]
  exact run_fnkS (E := WE W) F hr hb (passAt tk σ) I2 r rz (by unfold kwG; rw [if_pos hn]; exact q2)
end

/-! ### exceptions made -/
section
variable (P : Program) (w : World) (K : PySem.W.Frag) (mg : Str → Option Value) (base : Heap)
/-- the exception class x at C, its __init__ keeps its arguments under the names fs -/
structure CalE (x : Str) (C : Addr) (k : Nat) (ps : List Str) (sp : Sp) : Prop where
  ex : ∃ fI fd, OexC K C ∧ PySem.W.findIn K (.ref C) "__init__" = some (some (.ref fI)) ∧ PySem.W.typeIn K (.ref fI) = some (.type "function") ∧ FnOk P w K mg base (L2.CX P w) k fI fd ps sp ∧ Binds K fd ps [] ∧ mg x = some (.ref C)
end
section
variable {X : Cx} {k : Nat} {C : Addr} {ps : List Str} {sp : Sp} {x : Str} {p pos : Pos} {e : Expr} {es : List Expr} {t : TA}
theorem pmk_e (c : CalE X.prog X.w X.K X.mg X.base x C k ps sp) (hr : Room (k + 1) X.A) (ha : PA X (e :: es) t) (hg : Gl X x := by rfl)
    (hdb : (x == ("__debug__" : Str)) = false := by decide) (he : starEach (e :: es) X.env = (false, eval e X.env) :: starEach es X.env := by rfl) (hpl : (backTo pos (starEach es X.env)).any (·.1) = false := by rfl) :
    PMk X (.Call (.Name x p) (e :: es) [] pos) (tMkO C sp [] t) := by
  obtain ⟨fI, fd, T, iC, tI, F, hb, hm⟩ := c.ex
  exact pmk_oex T iC tI F hr hb .nil passL hg hm ha hdb he hpl
end

/-! ### operators by values of several kinds -/
section
variable {X : Cx}
def rCatS (K : PySem.W.Frag) : R2 := fun x y H Q => ∃ l b xs zs, x = .ref l ∧ y = .ref b ∧ SqL K H l xs ∧ SqL K H b zs ∧ xs.length + zs.length ≤ sizeLine ∧ ∀ p, H p = none → Q (.ref p) (upd H p (.lst (xs ++ zs)))
theorem op_catS : OpR X (binaryOp .Add) (rCatS X.K) := by
  intro pins s σ H x y v u Q I rx ry h
  obtain ⟨l, b, xs, zs, rfl, rfl, hH, hB, hz, q⟩ := h
  cases rx
  cases ry
  obtain ⟨its, r, ⟨⟨c1, d1, dt1, sl1⟩, n, e, hc, _, hd⟩, _⟩ := I.list hH
  obtain ⟨its2, r2, ⟨⟨c2, d2, dt2, sl2⟩, n2, e2, hc2, _, hd2⟩, _⟩ := I.list hB
  simp only at hc hd hc2 hd2
  subst hc hd hc2 hd2
  have ea : its.toArray ++ its2.toArray = (its ++ its2).toArray := by simp
  have hl := r.length
  have hl2 := r2.length
  refine concat_meets ⟨_, e, rfl⟩ ⟨_, e2, rfl⟩ noFill_list_add seq_list_add PySem.F.slot_list_add PySem.F.entry_list_add (PySem.F.args_list_add_2 _ _) (list_addW l b its.toArray its2.toArray n n2 d1 d2 sl1 sl2 (by rw [List.size_toArray, List.size_toArray]; omega)) ⟨e, e2, ?_⟩
  rw [ea]
  exact ⟨.ref _, _, I.lnew (t' := s.toks) (r.append r2) (by rw [List.length_append]; omega), rfl, q _ I.fresh⟩
def rAddU (K : PySem.W.Frag) : R2 := fun x y H Q => (∃ i j, x = .int i ∧ y = .int j ∧ Q (.int (i + j)) H) ∨ (∃ i j, x = .str i ∧ y = .str j ∧ i.length + j.length ≤ sizeLine ∧ Q (.str (i ++ j)) H) ∨ rCatS K x y H Q ∨ rCatA K x y H Q
theorem opU_add : OpR X (binaryOp .Add) (rAddU X.K) := op_add.or (op_add_str.or (op_catS.or op_catA))
def rMulU (K : PySem.W.Frag) : R2 := fun x y H Q => rI CMul (fun i j => .int (i * j)) x y H Q ∨ rI CMulW (fun i j => .int (i * j)) x y H Q ∨ rRep x y H Q ∨ rRepT K x y H Q
theorem opU_mul : OpR X (binaryOp .Mult) (rMulU X.K) := op_mul.or (op_mulW.or (op_rep.or op_repT))
def rEqU (K : PySem.W.Frag) : R2 := fun x y H Q => rEq x y H Q ∨ rEqD K x y H Q
theorem opU_eq (hu : X.A.units + 64 < cLine) : OpR X (compareOp .Eq) (rEqU X.K) := op_eq.or (op_eqD hu)
def rNeU (K : PySem.W.Frag) : R2 := fun x y H Q => rNe x y H Q ∨ rNeD K x y H Q
theorem opU_ne (hu : X.A.units + 64 < cLine) : OpR X (compareOp .NotEq) (rNeU X.K) := op_ne.or (op_neD hu)
theorem opU_in : OpR X (compareOp .In) (rIn X.K false) := op_in_seq
theorem opU_notIn : OpR X (compareOp .NotIn) (rIn X.K true) := op_notIn_seq
def rIxU (K : PySem.W.Frag) : R2 := fun x y H Q => rIxL K x y H Q ∨ rIxT K x y H Q
theorem ixU : IxR X (rIxU X.K) := ix_list.or ix_tup
def rSlU (K : PySem.W.Frag) : V → Option Int → Option Int → Hp → VK → Prop := fun x lo hi H Q => rSlL K x lo hi H Q ∨ rSlA K x lo hi H Q
theorem slU : SlR X (rSlU X.K) := sl_list.or sl_tupA
theorem setU : PSet X rSetL := set_list
def cLen (K : PySem.W.Frag) : List V → Hp → VK → Prop := fun xs H Q => ∃ x n, xs = [x] ∧ LenV K x H n ∧ Q (.int n) H
def cInt : List V → Hp → VK → Prop := fun xs H Q => (∃ i, xs = [.int i] ∧ Q (.int i) H) ∨ ∃ k, xs = [.bl k] ∧ Q (.int (if k then 1 else 0)) H
def cListOf (K : PySem.W.Frag) : List V → Hp → VK → Prop := fun xs H Q => ∃ p ys, xs = [.ref p] ∧ (SqL K H p ys ∨ SqT K H p ys) ∧ ∀ l, H l = none → Q (.ref l) (upd H l (.lst ys))
def cTupOf (K : PySem.W.Frag) : List V → Hp → VK → Prop := fun xs H Q => ∃ p ys, xs = [.ref p] ∧ ((SqL K H p ys ∧ ∀ l, H l = none → Q (.ref l) (upd H l (.tup ys))) ∨ (SqT K H p ys ∧ Q (.ref p) H))
theorem cU_len_1 : CallR X (.builtin "len") (cLen X.K) := call_len
def rIsiU (K : PySem.W.Frag) : List V → Hp → VK → Prop := fun xs H Q => rIsi K xs H Q ∨ rIsiT K xs H Q
theorem cU_isinstance_2 : CallR X (.builtin "isinstance") (rIsiU X.K) := call_isi.or call_isiT
theorem cU_int_1 : CallR X (.type "int") cInt := call_int1
theorem cU_list_1 : CallR X (.type "list") (cListOf X.K) := call_list_of
theorem cU_tuple_1 : CallR X (.type "tuple") (cTupOf X.K) := call_tuple_of
/-- what a for walks: a list or a tuple -/
def iU (K : PySem.W.Frag) (tl : TE) : TI := fun σ H R => tl σ H fun x H1 => ∃ a, x = .ref a ∧ (((∃ xs, SqL K H1 a xs) ∧ R (Itl K a) H1) ∨ ((∃ xs, SqT K H1 a xs) ∧ R (Itt K a) H1))
theorem pi_u {tg l : Expr} {tl : TE} (hl : PE X l tl) : PI X tg l (iU X.K tl) := by
  refine ⟨fun pins s σ H R I h => ?_⟩
  refine thn (hl.run pins s σ H _ I h) fun v s1 ⟨x, H1, I1, r1, q1⟩ => ?_
  obtain ⟨a, e, q⟩ := q1
  subst e
  cases r1
  rcases q with ⟨⟨xs, hq⟩, q⟩ | ⟨⟨xs, hq⟩, q⟩
  · obtain ⟨its, rv, p, hz⟩ := I1.list hq
    refine wpAny_pyIter_list p.isList ?_
    refine ⟨s1.heap.objs.size, [s1.heap.objs.size], _, _, H1, rfl, I1.kept (t' := s1.toks) fun b o e => Heap.get?_push_of_some _ e, turn_list a _, ⟨_, Heap.get?_push_size _ rfl, rfl, rfl⟩, fun b hb => ?_, q⟩
    have e : b = s1.heap.objs.size := by simpa using hb
    subst e
    exact I1.fpOk (Nat.le_refl _) (I1.hok.fresh (Nat.le_refl _))
  · obtain ⟨its, rv, p, hz⟩ := I1.tuple hq
    refine wpAny_pyIter_tuple (show s1.heap.IsTuple a its.toArray from p) ?_
    refine ⟨s1.heap.objs.size, [s1.heap.objs.size], _, _, H1, rfl, I1.kept (t' := s1.toks) fun b o e => Heap.get?_push_of_some _ e, turn_tuple a _, ⟨_, Heap.get?_push_size _ rfl, rfl, rfl⟩, fun b hb => ?_, q⟩
    have e : b = s1.heap.objs.size := by simpa using hb
    subst e
    exact I1.fpOk (Nat.le_refl _) (I1.hok.fresh (Nat.le_refl _))
end
end Sw

/-! Sw: readings, step by step. -/
namespace Sw
open PySem PySem.Spec PyProof.Rows L2

/-- A is taken out of L -/
inductive Pick (A : HP) : List HP → List HP → Prop
  | here (L : List HP) : Pick A (A :: L) L
  | there {L R : List HP} (b : HP) (p : Pick A L R) : Pick A (b :: L) (b :: R)
theorem Pick.perm {A : HP} {L R : List HP} (p : Pick A L R) : L.Perm (A :: R) := by
  induction p with
  | here L => exact List.Perm.refl _
  | there b p ih => exact (List.Perm.cons b ih).trans (List.Perm.swap _ _ _)
theorem Pick.mem {A : HP} {L R : List HP} (p : Pick A L R) : A ∈ L := p.perm.mem_iff.mpr List.mem_cons_self
theorem Hold.out {H : Hp} {A : HP} {L R : List HP} (h : Hold H L) (p : Pick A L R) : Hold H (A :: R) := h.perm p.perm
theorem Hold.wr {H : Hp} {L R : List HP} {p : Addr} {o o' : HO} (h : Hold H L) (k : Pick (pt p o) L R) (m : mutO o') : Hold (upd H p o') (pt p o' :: R) := (h.out k).set m

/-- pieces taken out of others -/
inductive Sub : List HP → List HP → Prop
  | refl (L : List HP) : Sub L L
  | nil (L : List HP) : Sub [] L
  | cons {A : HP} {L L' R : List HP} (p : Pick A L R) (s : Sub L' R) : Sub (A :: L') L
  | drop {A : HP} {L L' : List HP} (s : Sub L' L) : Sub L' (A :: L)
theorem Sub.all2 {L L' : List HP} (s : Sub L' L) {H : Hp} : ∀ F, All2 L F H → ∃ F', All2 L' F' H ∧ (∀ a, a ∈ F'.flatten → a ∈ F.flatten) ∧ (F.flatten.Nodup → F'.flatten.Nodup) := by
  induction s with
  | refl L => exact fun F a => ⟨F, a, fun _ h => h, fun h => h⟩
  | nil L => exact fun F a => ⟨[], .nil, fun _ h => absurd h (by simp), fun _ => by simp⟩
  | cons p s ih =>
    intro F a
    obtain ⟨F1, a1, q⟩ := All2.perm p.perm a
    cases a1 with
    | cons ha a1 =>
      obtain ⟨F2, a2, m, n⟩ := ih _ a1
      refine ⟨_ :: F2, .cons ha a2, fun x hx => ?_, fun hn => ?_⟩
      · rw [List.flatten_cons] at hx
        refine q.mem_iff.mpr ?_
        rw [List.flatten_cons]
        exact (List.mem_append.mp hx).elim (fun h => List.mem_append_left _ h) fun h => List.mem_append_right _ (m x h)
      · have hn := q.nodup hn
        rw [List.flatten_cons, List.nodup_append] at hn
        rw [List.flatten_cons, List.nodup_append]
        exact ⟨hn.1, n hn.2.1, fun x hx y hy => hn.2.2 x hx y (m y hy)⟩
  | drop s ih =>
    intro F a
    cases a with
    | cons ha a1 =>
      obtain ⟨F2, a2, m, n⟩ := ih _ a1
      refine ⟨F2, a2, fun x hx => by rw [List.flatten_cons]; exact List.mem_append_right _ (m x hx), fun hn => ?_⟩
      rw [List.flatten_cons, List.nodup_append] at hn
      exact n hn.2.1
theorem Hold.take {H : Hp} {L L' : List HP} (h : Hold H L) (s : Sub L' L) : Hold H L' := by
  obtain ⟨F, a, n⟩ := h
  obtain ⟨F', a', _, m⟩ := s.all2 F a
  exact ⟨F', a', m n⟩

section
variable {K : PySem.W.Frag} {σ : L2.St} {H : Hp} {L R : List HP} {Q : VK} {QB : Bool → Hp → Prop} {QL : List V → Hp → Prop} {D : Ends} {v x y z : V} {ta tb te tc tv : TE} {tt tu tw : TT} {t t1 t2 : TS} {ts tr : TA} {r : R2} {i j : Nat} {f m : Str} {a b p C dx : Addr} {fs : List (Str × V)} {xs ys vs : List V} {n k : Int} {c d : Bool} {A B : Prop}

/-! ### expressions -/
theorem h_var (h : σ[i]? = some (some v)) (q : Q v H) : tVar i σ H Q := ⟨v, h, q⟩
theorem h_c (q : Q v H) : tC v σ H Q := q
theorem h_op (h : ta σ H fun x H1 => tb σ H1 fun y H2 => r x y H2 Q) : tOp r ta tb σ H Q := h
theorem h_un {u : V → Hp → VK → Prop} (h : ta σ H fun x H1 => u x H1 Q) : tUn u ta σ H Q := h
theorem hk_neg (q : Q (.int (-n)) H) : rU (fun i => .int (-i)) (.int n) H Q := ⟨n, rfl, q⟩
def kFld (K : PySem.W.Frag) (f : Str) (x : V) (H : Hp) (Q : VK) : Prop := ∃ a C dx fs v, x = .ref a ∧ H a = some (.ins C dx fs) ∧ Cls K C ∧ NoAttr K C f ∧ fs.lookup f = some v ∧ Q v H
theorem h_fld (h : ta σ H fun x H1 => kFld K f x H1 Q) : tFld K ta f σ H Q := h
theorem hk_fld (S : Hold H L) (h : pt a (.ins C dx fs) ∈ L) (c : Cls K C) (n : NoAttr K C f) (l : fs.lookup f = some v) (q : Q v H) : kFld K f (.ref a) H Q := ⟨a, C, dx, fs, v, rfl, S.get h, c, n, l, q⟩
def kLst (xs : List V) (H : Hp) (Q : VK) : Prop := xs.length ≤ sizeLine ∧ ∀ p, H p = none → Q (.ref p) (upd H p (.lst xs))
theorem h_lst (h : ts σ H fun xs H1 => kLst xs H1 Q) : tLst ts σ H Q := h
theorem hk_lst (S : Hold H L) (hz : xs.length ≤ sizeLine) (k : ∀ p H', Hold H' (pt p (.lst xs) :: L) → Q (.ref p) H') : kLst xs H Q := ⟨hz, fun p hp => k p _ (S.new hp trivial)⟩
def kTup (xs : List V) (H : Hp) (Q : VK) : Prop := xs.length ≤ sizeLine ∧ ∀ p, H p = none → Q (.ref p) (upd H p (.tup xs))
theorem h_tup (h : ts σ H fun xs H1 => kTup xs H1 Q) : tTup ts σ H Q := h
theorem hk_tup (S : Hold H L) (hz : xs.length ≤ sizeLine) (k : ∀ p H', Hold H' (tp p xs :: L) → Q (.ref p) H') : kTup xs H Q := ⟨hz, fun p hp => k p _ (S.newT hp)⟩
theorem h_nil (q : QL [] H) : tNil σ H QL := q
theorem h_cons (h : ta σ H fun x H1 => tr σ H1 fun xs H2 => QL (x :: xs) H2) : tCons ta tr σ H QL := h
theorem h_cb {u : List V → Hp → VK → Prop} (h : ts σ H fun vs H1 => u vs H1 Q) : tCB u ts σ H Q := h
theorem h_andV (h : ta σ H fun x H1 => ∃ c, x = .bl c ∧ if c = true then tb σ H1 Q else Q (.bl false) H1) : tAndV ta tb σ H Q := h
theorem h_orV (h : ta σ H fun x H1 => ∃ c, x = .bl c ∧ if c = true then Q (.bl true) H1 else tb σ H1 Q) : tOrV ta tb σ H Q := h
theorem h_notV (h : ta σ H fun x H1 => ∃ c, x = .bl c ∧ Q (.bl (!c)) H1) : tNotV ta σ H Q := h
/-- a truth value is known -/
theorem hk_b {P : Bool → Prop} (h : P c) : ∃ d, V.bl c = .bl d ∧ P d := ⟨c, rfl, h⟩
def kIf (c : Bool) (A B : Prop) : Prop := if c = true then A else B
theorem kIf_of (h : kIf c A B) : if c = true then A else B := h
theorem hk_ifT (h : A) : kIf true A B := h
theorem hk_ifF (h : B) : kIf false A B := h
theorem hk_ifn (h : kIf c B A) : kIf (!c) A B := by cases c <;> exact h
theorem hk_ifd {P : Prop} [Decidable P] (h1 : P → A) (h2 : ¬ P → B) : kIf (decide P) A B := by
  by_cases h : P
  · rw [decide_eq_true h]; exact h1 h
  · rw [decide_eq_false h]; exact h2 h
theorem hk_if2 (h1 : c = true → A) (h2 : c = false → B) : kIf c A B := by
  cases c
  · exact h2 rfl
  · exact h1 rfl
theorem hk_ifj {P : Prop} [Decidable P] (h1 : P → ∀ Q : VK, Q x H → ta σ H Q) (h2 : ¬ P → ∀ Q : VK, Q y H → tb σ H Q) (q : Q (if P then x else y) H) : kIf (decide P) (ta σ H Q) (tb σ H Q) := by
  by_cases h : P
  · rw [if_pos h] at q; rw [decide_eq_true h]; exact h1 h Q q
  · rw [if_neg h] at q; rw [decide_eq_false h]; exact h2 h Q q
theorem hk_and (h : kIf c (kIf d A B) B) : kIf (c && d) A B := by cases c <;> exact h
theorem hk_or (h : kIf c A (kIf d A B)) : kIf (c || d) A B := by cases c <;> exact h
theorem h_ifE (h : tt σ H fun c H1 => kIf c (ta σ H1 Q) (tb σ H1 Q)) : tIf tt ta tb σ H Q := h

/-! ### tests -/
theorem h_test (h : te σ H fun x H' => ∃ k, x = .bl k ∧ QB k H') : tTest te σ H QB := h
theorem h_tb (h : te σ H fun x H' => ∃ k, x = .bl k ∧ QB k H') : tB te σ H QB := h
theorem h_and (h : tt σ H fun c H1 => kIf c (tu σ H1 QB) (QB false H1)) : tAnd tt tu σ H QB := h
theorem h_or (h : tt σ H fun c H1 => kIf c (QB true H1) (tu σ H1 QB)) : tOr tt tu σ H QB := h
theorem h_not (h : tt σ H fun c H1 => QB (!c) H1) : tNot tt σ H QB := h
theorem h_chain {r r' : R2} (h : ta σ H fun x H1 => tb σ H1 fun y H2 => r x y H2 fun z H3 => ∃ k, z = .bl k ∧ if k = true then tc σ H3 fun w' H4 => r' y w' H4 Q else Q (.bl false) H3) : tChain r r' ta tb tc σ H Q := h

/-! ### statements -/
theorem h_seq (h : t1 { D with nx := t2 D } σ H) : tSeq t1 t2 D σ H := h
theorem h_next (q : D.nx σ H) : tNext D σ H := q
theorem h_brk (q : D.bk σ H) : tBreak D σ H := q
theorem h_cont (q : D.ct σ H) : tCont D σ H := q
theorem h_drop (h : te σ H fun _ H1 => D.nx σ H1) : tDrop te D σ H := h
theorem h_ret (h : te σ H D.rt) : tRet te D σ H := h
theorem h_retN (q : D.rt .non H) : tRetN D σ H := q
theorem h_ifS (h : tt σ H fun c H1 => kIf c (t1 D σ H1) (t2 D σ H1)) : tIfS tt t1 t2 D σ H := h
theorem h_asg {g : TG} (h : te σ H fun x H1 => g x σ H1 D.nx) : tAsg te g D σ H := h
theorem h_gn {Qs : L2.St → Hp → Prop} (h : Qs (σ.set i (some v)) H) : gName i v σ H Qs := h
theorem h_gs {s : TSet} {to ti : TE} {Qs : L2.St → Hp → Prop} (h : to σ H fun o H1 => ti σ H1 fun i H2 => s o i v H2 fun H3 => Qs σ H3) : gSub to ti s v σ H Qs := h
theorem h_gt {u : TGs} {nn : Nat} {Qs : L2.St → Hp → Prop} (S : Hold H L) (h : tp a xs ∈ L) (hn : xs.length = nn) (q : u xs σ H Qs) : gTup K nn u (.ref a) σ H Qs := ⟨a, xs, rfl, S.sqT h, hn, q⟩
theorem h_gtq {u : TGs} {nn : Nat} {Qs : L2.St → Hp → Prop} (S : Hold H L) (h : tq K a xs ∈ L) (hn : xs.length = nn) (q : u xs σ H Qs) : gTup K nn u (.ref a) σ H Qs := ⟨a, xs, rfl, S.tqT h, hn, q⟩
theorem h_gnil {Qs : L2.St → Hp → Prop} (q : Qs σ H) : gNil [] σ H Qs := ⟨rfl, q⟩
theorem h_gcons {g : TG} {u : TGs} {Qs : L2.St → Hp → Prop} (h : g v σ H fun σ' H' => u vs σ' H' Qs) : gCons g u (v :: vs) σ H Qs := ⟨v, vs, rfl, h⟩
theorem h_par (h : ts σ H fun vs H1 => ∃ v w, vs = [v, w] ∧ D.nx ((σ.set i (some v)).set j (some w)) H1) : tPar i j ts D σ H := h
theorem hk_2 {P : V → V → Prop} (h : P x y) : ∃ v w, [x, y] = [v, w] ∧ P v w := ⟨x, y, rfl, h⟩
theorem h_aug {u : TIp} (h1 : σ[i]? = some (some x)) (h : te σ H fun y H1 => u x y H1 fun z H2 => D.nx (σ.set i (some z)) H2) : tAug i te u D σ H := ⟨x, h1, h⟩
theorem hk_ip {g : Int → Int → Int} (q : Q (.int (g n k)) H) : ipI g (.int n) (.int k) H Q := ⟨n, k, rfl, rfl, q⟩
def kSFld (K : PySem.W.Frag) (f : Str) (y x : V) (H2 : Hp) (Qh : Hp → Prop) : Prop := ∃ a C dx fs, x = .ref a ∧ H2 a = some (.ins C dx fs) ∧ Cls K C ∧ NoAttr K C f ∧ fs.length < 1000 ∧ Qh (upd H2 a (.ins C dx (putF f y fs)))
theorem h_sfld (h : tv σ H fun y H1 => ta σ H1 fun x H2 => kSFld K f y x H2 fun H3 => D.nx σ H3) : sFld K ta tv f D σ H := h
theorem hk_sfld {Qh : Hp → Prop} (S : Hold H L) (pk : Pick (pt a (.ins C dx fs)) L R) (c : Cls K C) (n : NoAttr K C f) (hl : fs.length < 1000) (q : ∀ H', Hold H' (pt a (.ins C dx (putF f y fs)) :: R) → Qh H') : kSFld K f y (.ref a) H Qh :=
  ⟨a, C, dx, fs, rfl, S.get pk.mem, c, n, hl, q _ (S.wr pk trivial)⟩

/-! ### calls -/
theorem h_call {sp : Sp} {E : L2.St → XK} (h : ts σ H fun vs H1 => sp vs H1 Q (E σ)) : tCallS sp E ts σ H Q := h
theorem h_callK {sp : Sp} {nn : Nat} {E : L2.St → XK} (h : ts σ H fun vs H1 => tr σ H1 fun zs H2 => vs.length = nn ∧ sp (vs ++ zs) H2 Q (E σ)) : tCallKS nn sp E ts tr σ H Q := h
def kMeth (C : Addr) (m : Str) (x : V) (H : Hp) (P : Prop) : Prop := ∃ a dx fs, x = .ref a ∧ H a = some (.ins C dx fs) ∧ fs.lookup m = none ∧ P
theorem h_meth {sp : Sp} {E : L2.St → XK} (h : ta σ H fun x H1 => kMeth C m x H1 (ts σ H1 fun vs H2 => sp (x :: vs) H2 Q (E σ))) : tMethS C m sp E ta ts σ H Q := h
theorem hk_meth {P : Prop} (S : Hold H L) (h : pt a (.ins C dx fs) ∈ L) (l : fs.lookup m = none) (q : P) : kMeth C m (.ref a) H P := ⟨a, dx, fs, rfl, S.get h, l, q⟩
def kMtd (K : PySem.W.Frag) (T : String) (x : V) (H : Hp) (P : Prop) : Prop := tyV K T x H ∧ P
theorem h_bm {u : V → List V → Hp → VK → Prop} {T : String} (h : ta σ H fun x H1 => kMtd K T x H1 (ts σ H1 fun vs H2 => u x vs H2 Q)) : tBM K T u ta ts σ H Q := h
theorem h_bm0 {u : V → List V → Hp → VK → Prop} {T : String} (h : ta σ H fun x H1 => kMtd K T x H1 (u x [] H1 Q)) : tBM0 K T u ta σ H Q := h
theorem hk_mtL {P : Prop} (S : Hold H L) (h : pt a (.lst xs) ∈ L) (q : P) : kMtd K "list" (.ref a) H P := ⟨.inl ⟨rfl, xs, S.sqL h⟩, q⟩
theorem hk_append (S : Hold H L) (pk : Pick (pt a (.lst xs)) L R) (hz : xs.length < sizeLine) (q : ∀ H', Hold H' (pt a (.lst (xs ++ [v])) :: R) → Q .non H') : rAppend (.ref a) [v] H Q := ⟨a, xs, v, rfl, rfl, S.get pk.mem, hz, q _ (S.wr pk trivial)⟩
theorem hk_pop (S : Hold H L) (pk : Pick (pt a (.lst xs)) L R) (hy : xs[xs.length - 1]? = some y) (q : ∀ H', Hold H' (pt a (.lst xs.dropLast) :: R) → Q y H') : rPop (.ref a) [] H Q := ⟨a, xs, y, rfl, rfl, S.get pk.mem, hy, q _ (S.wr pk trivial)⟩

/-! ### by values -/
theorem hk_addI (q : Q (.int (n + k)) H) : rAddU K (.int n) (.int k) H Q := .inl ⟨n, k, rfl, rfl, q⟩
theorem hk_addS {s u : Str} (hz : s.length + u.length ≤ sizeLine) (q : Q (.str (s ++ u)) H) : rAddU K (.str s) (.str u) H Q := .inr (.inl ⟨s, u, rfl, rfl, hz, q⟩)
theorem hk_cat (S : Hold H L) (h1 : SqL K H a xs) (h2 : SqL K H b ys) (hz : xs.length + ys.length ≤ sizeLine) (q : ∀ p H', Hold H' (pt p (.lst (xs ++ ys)) :: L) → Q (.ref p) H') : rAddU K (.ref a) (.ref b) H Q :=
  .inr (.inr (.inl ⟨a, b, xs, ys, rfl, rfl, h1, h2, hz, fun p hp => q p _ (S.new hp trivial)⟩))
theorem hk_catT (S : Hold H L) (h1 : SqT K H a xs) (h2 : SqT K H b ys) (hz : xs.length + ys.length ≤ sizeLine) (hx : xs ≠ []) (hy : ys ≠ []) (q : ∀ p H', Hold H' (tp p (xs ++ ys) :: L) → Q (.ref p) H') : rAddU K (.ref a) (.ref b) H Q :=
  .inr (.inr (.inr ⟨a, b, xs, ys, rfl, rfl, h1, h2, hz, fun z => absurd z hx, fun _ z => absurd z hy, fun _ _ p hp => q p _ (S.newT hp)⟩))
theorem hk_sub (q : Q (.int (n - k)) H) : rI0 (fun i j => .int (i - j)) (.int n) (.int k) H Q := ⟨n, k, rfl, rfl, q⟩
theorem hk_mul (h : CMul n k) (q : Q (.int (n * k)) H) : rMulU K (.int n) (.int k) H Q := .inl ⟨n, k, rfl, rfl, h, q⟩
theorem hk_mulW (h : CMulW n k) (q : Q (.int (n * k)) H) : rMulU K (.int n) (.int k) H Q := .inr (.inl ⟨n, k, rfl, rfl, h, q⟩)
theorem hk_rep (S : Hold H L) (h : pt a (.lst xs) ∈ L) (h1 : -(2 ^ 63) ≤ k) (h2 : k < 2 ^ 63) (hz : xs.length * k.toNat ≤ sizeLine) (q : ∀ p H', Hold H' (pt p (.lst (List.replicate k.toNat xs).flatten) :: L) → Q (.ref p) H') : rMulU K (.ref a) (.int k) H Q :=
  .inr (.inr (.inl ⟨a, k, xs, rfl, rfl, S.get h, h1, h2, hz, fun p hp => q p _ (S.new hp trivial)⟩))
theorem hk_div (h : CDivW n k) (q : Q (.int (n / k)) H) : rI CDivW (fun i j => .int (i / j)) (.int n) (.int k) H Q := ⟨n, k, rfl, rfl, h, q⟩
theorem hk_mod (h : 0 < k) (q : Q (.int (n % k)) H) : rI (fun _ j => 0 < j) (fun i j => .int (i % j)) (.int n) (.int k) H Q := ⟨n, k, rfl, rfl, h, q⟩
theorem hk_pow (h : CPow n k) (q : Q (.int (n ^ k.toNat)) H) : rI CPow (fun i j => .int (i ^ j.toNat)) (.int n) (.int k) H Q := ⟨n, k, rfl, rfl, h, q⟩
theorem hk_shl (h : CPow n k) (q : Q (.int (n * 2 ^ k.toNat)) H) : rI CPow (fun i j => .int (i * 2 ^ j.toNat)) (.int n) (.int k) H Q := ⟨n, k, rfl, rfl, h, q⟩
theorem hk_i0 {g : Int → Int → V} (q : Q (g n k) H) : rI0 g (.int n) (.int k) H Q := ⟨n, k, rfl, rfl, q⟩
theorem hk_eq (h : scal x y = true) (q : Q (.bl (decide (x = y))) H) : rEqU K x y H Q := .inl ⟨h, q⟩
theorem hk_ne (h : scal x y = true) (q : Q (.bl (!decide (x = y))) H) : rNeU K x y H Q := .inl ⟨h, q⟩
theorem hk_eqI (q : Q (.bl (decide (n = k))) H) : rEqU K (.int n) (.int k) H Q := .inl ⟨rfl, by
  have e : decide (V.int n = V.int k) = decide (n = k) := by simp
  rw [e]; exact q⟩
theorem hk_neI (q : Q (.bl (!decide (n = k))) H) : rNeU K (.int n) (.int k) H Q := .inl ⟨rfl, by
  have e : decide (V.int n = V.int k) = decide (n = k) := by simp
  rw [e]; exact q⟩
theorem hk_eqS {s u : Str} (q : Q (.bl (decide (s = u))) H) : rEqU K (.str s) (.str u) H Q := .inl ⟨rfl, by
  have e : decide (V.str s = V.str u) = decide (s = u) := by simp
  rw [e]; exact q⟩
theorem hk_neS {s u : Str} (q : Q (.bl (!decide (s = u))) H) : rNeU K (.str s) (.str u) H Q := .inl ⟨rfl, by
  have e : decide (V.str s = V.str u) = decide (s = u) := by simp
  rw [e]; exact q⟩
theorem hk_eqD {d e : PyData} (h1 : Dp K H x d) (h2 : Dp K H y e) (s1 : SeqAt.shaped d = true) (s2 : SeqAt.shaped e = true) (q : Q (.bl (PyData.eqv d e)) H) : rEqU K x y H Q := .inr ⟨d, e, h1, h2, s1, s2, q⟩
theorem hk_neD {d e : PyData} (h1 : Dp K H x d) (h2 : Dp K H y e) (s1 : SeqAt.shaped d = true) (s2 : SeqAt.shaped e = true) (q : Q (.bl (!PyData.eqv d e)) H) : rNeU K x y H Q := .inr ⟨d, e, h1, h2, s1, s2, q⟩
theorem hk_isN (q : Q (.bl (decide (x = .non))) H) : (fun (x y : V) (H : Hp) (Q : VK) => y = .non ∧ Q (.bl (decide (x = .non))) H) x .non H Q := ⟨rfl, q⟩
theorem hk_notN (q : Q (.bl (!decide (x = .non))) H) : (fun (x y : V) (H : Hp) (Q : VK) => y = .non ∧ Q (.bl (!decide (x = .non))) H) x .non H Q := ⟨rfl, q⟩
theorem hk_inT {neg : Bool} (h : SqT K H a xs) (hx : flatV x = true) (hf : xs.all flatV = true) (q : Q (.bl (if neg then !inV x xs else inV x xs)) H) : rIn K neg x (.ref a) H Q := ⟨a, xs, rfl, .inr h, hx, hf, q⟩
theorem hk_inL {neg : Bool} (h : SqL K H a xs) (hx : flatV x = true) (hf : xs.all flatV = true) (q : Q (.bl (if neg then !inV x xs else inV x xs)) H) : rIn K neg x (.ref a) H Q := ⟨a, xs, rfl, .inl h, hx, hf, q⟩
theorem hk_ixL (h : SqL K H a xs) (hi : atI xs n = some v) (q : Q v H) : rIxU K (.ref a) (.int n) H Q := .inl ⟨a, xs, n, v, rfl, rfl, h, hi, q⟩
theorem hk_ixT (h : SqT K H a xs) (hi : atI xs n = some v) (q : Q v H) : rIxU K (.ref a) (.int n) H Q := .inr ⟨a, xs, n, v, rfl, rfl, h, hi, q⟩
theorem h_sl {u : V → Option Int → Option Int → Hp → VK → Prop} {tl th : TO} (h : te σ H fun x H1 => tl σ H1 fun l H2 => th σ H2 fun w H3 => u x l w H3 Q) : tSl u te tl th σ H Q := h
theorem h_nop {QO : Option Int → Hp → Prop} (q : QO none H) : tNoPart σ H QO := q
theorem h_part {QO : Option Int → Hp → Prop} (h : te σ H fun x H1 => ∃ i, x = .int i ∧ QO (some i) H1) : tPart te σ H QO := h
theorem hk_int {P : Int → Prop} (h : P n) : ∃ i, V.int n = .int i ∧ P i := ⟨n, rfl, h⟩
theorem hk_slL {lo hi : Option Int} (S : Hold H L) (h : SqL K H a xs) (q : ∀ p H', Hold H' (pt p (.lst (cutV xs lo hi)) :: L) → Q (.ref p) H') : rSlU K (.ref a) lo hi H Q := .inl ⟨a, xs, rfl, h, fun p hp => q p _ (S.new hp trivial)⟩
theorem hk_slT {lo hi : Option Int} (S : Hold H L) (h : SqT K H a xs) (hw : ¬ (HT.sIx xs.length 0 lo = 0 ∧ HT.sIx xs.length xs.length hi = xs.length)) (q : ∀ p H', Hold H' (tp p (cutV xs lo hi) :: L) → Q (.ref p) H') : rSlU K (.ref a) lo hi H Q :=
  .inr ⟨a, xs, rfl, h, fun z => absurd z hw, fun _ p hp => q p _ (S.newT hp)⟩
theorem hk_setL {Qh : Hp → Prop} (S : Hold H L) (pk : Pick (pt a (.lst xs)) L R) (hj : ixN xs.length n = some j) (q : ∀ H', Hold H' (pt a (.lst (xs.set j v)) :: R) → Qh H') : rSetL (.ref a) (.int n) v H Qh := ⟨a, xs, n, j, rfl, rfl, S.get pk.mem, hj, q _ (S.wr pk trivial)⟩
theorem hk_lenL (h : SqL K H a xs) (q : Q (.int xs.length) H) : cLen K [.ref a] H Q := ⟨.ref a, xs.length, rfl, .inl ⟨xs, h, rfl⟩, q⟩
theorem hk_lenT (h : SqT K H a xs) (q : Q (.int xs.length) H) : cLen K [.ref a] H Q := ⟨.ref a, xs.length, rfl, .inr ⟨xs, h, rfl⟩, q⟩
theorem hk_isi {t : Value} {w : String} {b : Bool} (ty : TyX K H x t) (e : PySem.W.kitOne K t (.type w) = some b) (q : Q (.bl b) H) : rIsiU K [x, .ty w] H Q := .inl ⟨x, .ty w, t, .type w, b, rfl, .ty w, ty, e, q⟩
theorem hk_intI (q : Q (.int n) H) : cInt [.int n] H Q := .inl ⟨n, rfl, q⟩
theorem hk_intB (q : Q (.int (if c then 1 else 0)) H) : cInt [.bl c] H Q := .inr ⟨c, rfl, q⟩
theorem hk_listL (S : Hold H L) (h : SqL K H a xs) (q : ∀ p H', Hold H' (pt p (.lst xs) :: L) → Q (.ref p) H') : cListOf K [.ref a] H Q := ⟨a, xs, rfl, .inl h, fun p hp => q p _ (S.new hp trivial)⟩
theorem hk_listT (S : Hold H L) (h : SqT K H a xs) (q : ∀ p H', Hold H' (pt p (.lst xs) :: L) → Q (.ref p) H') : cListOf K [.ref a] H Q := ⟨a, xs, rfl, .inr h, fun p hp => q p _ (S.new hp trivial)⟩
theorem hk_tupL (S : Hold H L) (h : SqL K H a xs) (q : ∀ p H', Hold H' (tp p xs :: L) → Q (.ref p) H') : cTupOf K [.ref a] H Q := ⟨a, xs, rfl, .inl ⟨h, fun p hp => q p _ (S.newT hp)⟩⟩
theorem hk_tupT (h : SqT K H a xs) (q : Q (.ref a) H) : cTupOf K [.ref a] H Q := ⟨a, xs, rfl, .inr ⟨h, q⟩⟩

/-! ### loops -/
def kFor (J : It) (g : TG) (tb : TS) (D : Ends) (σ : L2.St) (H1 : Hp) : Prop := ∃ W : Nat → Nat → L2.St → Hp → Prop, (∃ m, W 0 m σ H1) ∧ ∀ i m σ H, W i m σ H →
  (J.stop i H ∧ D.nx σ H) ∨ (J.go i H ∧ ∃ N : L2.St → Hp → Prop, (∀ σ' H', N σ' H' → ∃ m', m' < m ∧ W (i + 1) m' σ' H') ∧ ∀ x H', J.yld i H x H' → g x σ H' fun σ2 H2 => tb { D with nx := N, ct := N, bk := D.nx } σ2 H2)
theorem h_for {wi : TI} {g : TG} {tb : TS} (h : wi σ H fun J H1 => kFor J g tb D σ H1) : tFor wi g tb D σ H := h
def kIU (K : PySem.W.Frag) (x : V) (H1 : Hp) (Rr : It → Hp → Prop) : Prop := ∃ a, x = .ref a ∧ (((∃ xs, SqL K H1 a xs) ∧ Rr (Itl K a) H1) ∨ ((∃ xs, SqT K H1 a xs) ∧ Rr (Itt K a) H1))
theorem h_iu {Rr : It → Hp → Prop} (h : te σ H fun x H1 => kIU K x H1 Rr) : iU K te σ H Rr := h
theorem hk_iuL {Rr : It → Hp → Prop} (h : SqL K H a xs) (q : Rr (Itl K a) H) : kIU K (.ref a) H Rr := ⟨a, rfl, .inl ⟨⟨xs, h⟩, q⟩⟩
theorem hk_iuT {Rr : It → Hp → Prop} (h : SqT K H a xs) (q : Rr (Itt K a) H) : kIU K (.ref a) H Rr := ⟨a, rfl, .inr ⟨⟨xs, h⟩, q⟩⟩
theorem h_rng1 {Rr : It → Hp → Prop} (h : ts σ H fun vs H1 => ∃ j : Int, vs = [.int j] ∧ -(2 ^ 62) ≤ j ∧ j < 2 ^ 62 ∧ Rr (Itr 0 j.toNat) H1) : iRng1 ts σ H Rr := h
theorem hk_rng1 {P : Int → Prop} (h1 : -(2 ^ 62) ≤ n) (h2 : n < 2 ^ 62) (q : P n) : ∃ j : Int, [V.int n] = [.int j] ∧ -(2 ^ 62) ≤ j ∧ j < 2 ^ 62 ∧ P j := ⟨n, rfl, h1, h2, q⟩
theorem h_rng2 {Rr : It → Hp → Prop} (h : ts σ H fun vs H1 => ∃ i j : Int, vs = [.int i, .int j] ∧ (-(2 ^ 62) ≤ i ∧ i < 2 ^ 62 ∧ -(2 ^ 62) ≤ j ∧ j < 2 ^ 62) ∧ Rr (Itr i (j - i).toNat) H1) : iRng2 ts σ H Rr := h
theorem hk_rng2 {P : Int → Int → Prop} (h : -(2 ^ 62) ≤ n ∧ n < 2 ^ 62 ∧ -(2 ^ 62) ≤ k ∧ k < 2 ^ 62) (q : P n k) : ∃ i j : Int, [V.int n, V.int k] = [.int i, .int j] ∧ (-(2 ^ 62) ≤ i ∧ i < 2 ^ 62 ∧ -(2 ^ 62) ≤ j ∧ j < 2 ^ 62) ∧ P i j := ⟨n, k, rfl, h, q⟩
theorem hk_forL {g : TG} {tb : TS} (Pv : Nat → L2.St → Hp → Prop) (h0 : Pv 0 σ H) (hl : ∀ i σ H, i ≤ xs.length → Pv i σ H → SqL K H a xs)
    (hs : ∀ i x σ H, xs[i]? = some x → Pv i σ H → g x σ H fun σ2 H2 => tb { D with nx := Pv (i + 1), ct := Pv (i + 1), bk := D.nx } σ2 H2) (hd : ∀ σ H, Pv xs.length σ H → D.nx σ H) : kFor (Itl K a) g tb D σ H := for_list Pv h0 hl hs hd
theorem hk_forT {g : TG} {tb : TS} (Pv : Nat → L2.St → Hp → Prop) (h0 : Pv 0 σ H) (hl : ∀ i σ H, i ≤ xs.length → Pv i σ H → SqT K H a xs)
    (hs : ∀ i x σ H, xs[i]? = some x → Pv i σ H → g x σ H fun σ2 H2 => tb { D with nx := Pv (i + 1), ct := Pv (i + 1), bk := D.nx } σ2 H2) (hd : ∀ σ H, Pv xs.length σ H → D.nx σ H) : kFor (Itt K a) g tb D σ H := for_tup Pv h0 hl hs hd
theorem hk_forR {lo : Int} {nn : Nat} {g : TG} {tb : TS} (Pv : Nat → L2.St → Hp → Prop) (h0 : Pv 0 σ H)
    (hs : ∀ i σ H, i < nn → Pv i σ H → g (.int (lo + i)) σ H fun σ2 H2 => tb { D with nx := Pv (i + 1), ct := Pv (i + 1), bk := D.nx } σ2 H2) (hd : ∀ σ H, Pv nn σ H → D.nx σ H) : kFor (Itr lo nn) g tb D σ H := for_range Pv h0 hs hd
end

/-! ### what a law's text has: where its classes stand -/
structure Gx where
  K : PySem.W.Frag
  CS : Addr
  aRULES : Addr
  eSlotError : Addr
  eNoSlots : Addr
  eFull : Addr
  eNoHandle : Addr
  eNoSlot : Addr
  eNoTimes : Addr
  eNever : Addr
  eTooLong : Addr
  eNoBlock : Addr
  eStuck : Addr
  /-- of a def in whose body lambdas stand: its code object, the table of the code objects made there -/
  lc : Str → Addr
  lt : Str → Addr
theorem pe_gc {X : Cx} {x : Str} {v : V} {pos : Pos} (hg : Gl X x) (h : ∃ u, X.mg x = some u ∧ RelV v u) (hd : (x == ("__debug__" : Str)) = false := by decide) : PE X (.Name x pos) (tC v) := by
  obtain ⟨u, hm, r⟩ := h
  exact pe_glob hg hm r hd

/-! ### kinds of values -/
def isI : V → Bool
  | .int _ => true
  | _ => false
def isStr : V → Bool
  | .str _ => true
  | _ => false
def kinds : List String := ["NoneType", "bool", "int", "str", "list", "tuple", "dict"]
/-- the values that are asked about -/
def Kd (K : PySem.W.Frag) (H : Hp) (v : V) (t : String) : Prop := TyX K H v (.type t) ∧ t ∈ kinds
/-- is such a value an n -/
def kB (t n : String) : Bool := t == n || (t == "bool" && n == "int")
section
variable {K : PySem.W.Frag} {H : Hp} {v : V} {t : String} {Q : VK}
theorem kit_kinds {t n : String} (ht : t ∈ kinds) (hn : n ∈ kinds) : PySem.W.kitOne K (.type t) (.type n) = some (kB t n) := by
  simp only [kinds, List.mem_cons, List.not_mem_nil, or_false] at ht hn
  rcases ht with rfl | rfl | rfl | rfl | rfl | rfl | rfl <;> rcases hn with rfl | rfl | rfl | rfl | rfl | rfl | rfl <;> exact kit_ty (by decide +kernel)
theorem hk_isK {n : String} (h : Kd K H v t) (hn : n ∈ kinds) (q : Q (.bl (kB t n)) H) : rIsiU K [v, .ty n] H Q := hk_isi h.1 (kit_kinds h.2 hn) q
theorem Kd.non : Kd K H .non "NoneType" := ⟨.base .non, by decide⟩
theorem Kd.bl {b : Bool} : Kd K H (.bl b) "bool" := ⟨.base (.bl b), by decide⟩
theorem Kd.int {i : Int} : Kd K H (.int i) "int" := ⟨.base (.int i), by decide⟩
theorem Kd.str {x : Str} : Kd K H (.str x) "str" := ⟨.base (.str x), by decide⟩
theorem Kd.lst {L : List HP} {a : Addr} {xs : List V} (S : Hold H L) (h : pt a (.lst xs) ∈ L) : Kd K H (.ref a) "list" := ⟨.base (.lst (S.get h)), by decide⟩
theorem Kd.dK {L : List HP} {a : Addr} {kvs : List (Key × V)} (S : Hold H L) (h : pt a (.dK kvs) ∈ L) : Kd K H (.ref a) "dict" := ⟨.base (.dK (S.get h)), by decide⟩
theorem Kd.tup {L : List HP} {a : Addr} {xs : List V} (S : Hold H L) (h : tp a xs ∈ L) : Kd K H (.ref a) "tuple" := ⟨.base (.tup (S.tup h)), by decide⟩
theorem Kd.isI (h : Kd K H v t) : (kB t "int" && !kB t "bool") = isI v := by
  obtain ⟨h, _⟩ := h
  cases h with
  | base h => cases h <;> first | rfl | decide
  | _ => first | rfl | decide
theorem Kd.isStr (h : Kd K H v t) : kB t "str" = isStr v := by
  obtain ⟨h, _⟩ := h
  cases h with
  | base h => cases h <;> first | rfl | decide
  | _ => first | rfl | decide
end

/-! ### exceptions -/
/-- an __init__ that keeps one attribute, two -/
def spErr1 (C : Addr) (f : Str) : Sp := fun vs H Q _ => ∃ a v, vs = [.ref a, v] ∧ H a = some (exo a C none) ∧ ∀ dx, H dx = none → dx ≠ a → Q .non (upd (upd H dx (exd dx [(f, v)])) a (exo a C (some dx)))
def spErr2 (C : Addr) (f g : Str) : Sp := fun vs H Q _ => ∃ a v u, vs = [.ref a, v, u] ∧ H a = some (exo a C none) ∧ ∀ dx, H dx = none → dx ≠ a → Q .non (upd (upd (upd H dx (exd dx [(f, v)])) a (exo a C (some dx))) dx (exd dx [(g, u), (f, v)]))
section
variable {σ : L2.St} {H : Hp} {L : List HP} {C d : Addr} {f g : Str} {v u : V} {Qx : XK} {ts : TA} {D : Ends}
def kMk (C : Addr) (sp : Sp) (vs : List V) (H1 : Hp) (Q : XK) : Prop := vs.length ≤ 1000 ∧ ∀ a, H1 a = none → sp (.ref a :: (vs ++ [])) (upd H1 a (exo a C none))
  (fun v H2 => v = .non ∧ ∃ (d : Addr) (fs : List (Str × V)), H2 a = some (exo a C (some d)) ∧ H2 d = some (exd d fs) ∧ H1 d = none ∧ Q (.ref C) (some d) (upd (del H2 a) d (.xd fs))) (fun _ _ _ => False)
theorem h_mkO {sp : Sp} (h : ts σ H fun vs H1 => kMk C sp vs H1 Qx) : tMkO C sp [] ts σ H Qx := h
theorem h_raise {sp : Sp} {W : WX} (h : ts σ H fun vs H1 => kMk C sp vs H1 fun cls d H' => W cls d σ H') : (fun (_ : Ends) (σ : L2.St) (H : Hp) => tMkO C sp [] ts σ H fun cls d H' => W cls d σ H') D σ H := h
theorem exo_ne {a : Addr} {o : Option Addr} {b : Addr} {fs : List (Str × V)} {H : Hp} (h1 : H a = some (exo a C o)) (h2 : H b = none) : b ≠ a := fun z => by rw [z, h1] at h2; cases h2
theorem hk_mk1 (q : ∀ d, H d = none → Qx (.ref C) (some d) (upd H d (.xd [(f, v)]))) : kMk C (spErr1 C f) [v] H Qx := by
  refine ⟨by show 1 ≤ 1000; decide, fun a ha => ⟨a, v, rfl, upd_same, fun dx hd hne => ⟨rfl, dx, [(f, v)], upd_same, ?_, ?_, ?_⟩⟩⟩
  · rw [upd_ne hne, upd_same]
  · rw [upd_ne hne] at hd; exact hd
  · rw [upd_ne hne] at hd
    have e : upd (del (upd (upd (upd H a (exo a C none)) dx (exd dx [(f, v)])) a (exo a C (some dx))) a) dx (.xd [(f, v)]) = upd H dx (.xd [(f, v)]) := by
      funext b
      by_cases hb : b = dx
      · rw [hb, upd_same, upd_same]
      · rw [upd_ne hb, upd_ne hb]
        by_cases hba : b = a
        · rw [hba, del_same, ha]
        · rw [del_ne hba, upd_ne hba, upd_ne hb, upd_ne hba]
    rw [e]
    exact q dx hd
theorem hk_mk2 (q : ∀ d, H d = none → Qx (.ref C) (some d) (upd H d (.xd [(g, u), (f, v)]))) : kMk C (spErr2 C f g) [v, u] H Qx := by
  refine ⟨by show 2 ≤ 1000; decide, fun a ha => ⟨a, v, u, rfl, upd_same, fun dx hd hne => ⟨rfl, dx, [(g, u), (f, v)], ?_, upd_same, ?_, ?_⟩⟩⟩
  · rw [upd_ne hne.symm, upd_same]
  · rw [upd_ne hne] at hd; exact hd
  · rw [upd_ne hne] at hd
    have e : upd (del (upd (upd (upd (upd H a (exo a C none)) dx (exd dx [(f, v)])) a (exo a C (some dx))) dx (exd dx [(g, u), (f, v)])) a) dx (.xd [(g, u), (f, v)]) = upd H dx (.xd [(g, u), (f, v)]) := by
      funext b
      by_cases hb : b = dx
      · rw [hb, upd_same, upd_same]
      · rw [upd_ne hb, upd_ne hb]
        by_cases hba : b = a
        · rw [hba, del_same, ha]
        · rw [del_ne hba, upd_ne hb, upd_ne hba, upd_ne hb, upd_ne hba]
    rw [e]
    exact q dx hd
end

section
variable (K : PySem.W.Frag) (mg : Str → Option Value)
/-- an exception class of the text: its __init__, the attributes that it stores -/
structure TopE (x qual : Str) (C : Addr) (fs : List Str) (st : Stmt) : Prop where
  ex : ∃ fI fd, mg x = some (.ref C) ∧ OexC K C ∧ PySem.W.findIn K (.ref C) "__init__" = some (some (.ref fI)) ∧ PySem.W.typeIn K (.ref fI) = some (.type "function") ∧ Fun K "__init__" qual st fI fd
  oex : OexC K C
  no : ∀ f ∈ fs, PySem.W.findIn K (.ref C) f = some none
end
section
variable {P : Program} {w : World} {K : PySem.W.Frag} {mg : Str → Option Value} {base : Heap} {x qual : Str} {C : Addr} {k : Nat} {ps fs : List Str} {sp : Sp}
theorem CalE.mk' {st : Stmt} {N : List Str} (F : TopE K mg x qual C fs st) (S : FnScope N ps (defScope st))
    (hb : ∀ (kV doc pm : Value) (an : Option Addr) (cdv ct : Value) (us : List Value), us.length = ps.length → bindArgs (PySem.W.fnOf "__init__" qual (defArgs st) (defBody st) (defScope st) .none kV doc pm an cdv ct) ⟨us, []⟩ = pure (ps.zip us))
    (len : ∀ vs H Q E, sp vs H Q E → vs.length = ps.length)
    (hbody : ∀ (f : Addr) (cdv : Value) (A : Around) (outer : List Env) (s : Shared) (H : Hp) (vs : List V) (Q : VK) (E : XK), sp vs H Q E → ∃ t, PSs (cxOf (L2.CX P w) P w K mg base N qual (defScope st) f cdv A outer s H E) (defBody st) t ∧ t { nx := fun _ H' => Q .non H', rt := Q } (L2.start N vs) H) : CalE P w K mg base x C (k + 1) ps sp := by
  obtain ⟨fI, fd, hm, T, iC, tI, F⟩ := F.ex
  exact ⟨fI, fd, T, iC, tI, F.okX S len fun cdv A outer s H vs Q E hr h => hbody fI cdv A outer s H vs Q E h, F.binds hb, hm⟩
end

theorem cdiv_small {n k : Int} (h0 : 0 < k) (h1 : k < 18446744073709551616) : CDivW n k := wide_div (b := 64) h0 (by omega) (by decide) (by decide)
theorem log2_small {k : Int} (h0 : 0 ≤ k) (h1 : k < 18446744073709551616) : k.natAbs.log2 < 9000 := by
  rcases Nat.eq_zero_or_pos k.natAbs with h | h
  · rw [h]; decide
  · have := (Nat.log2_lt (n := k.natAbs) (k := 64) (by omega)).2 (by omega)
    omega
/-- a list or a tuple that may be read wherever L stands -/
def SeqIn (K : PySem.W.Frag) (L : List HP) (b : Addr) (xs : List V) : Prop := (∀ H, Hold H L → SqL K H b xs) ∨ (∀ H, Hold H L → SqT K H b xs)
theorem SeqIn.lst {K : PySem.W.Frag} {L : List HP} {b : Addr} {xs : List V} (h : pt b (.lst xs) ∈ L) : SeqIn K L b xs := .inl fun _ S => S.sqL h
theorem SeqIn.tup {K : PySem.W.Frag} {L : List HP} {b : Addr} {xs : List V} (h : tp b xs ∈ L) : SeqIn K L b xs := .inr fun _ S => S.sqT h
theorem SeqIn.fl {K : PySem.W.Frag} {L : List HP} {b : Addr} {xs : List V} (h : fl K b xs ∈ L) : SeqIn K L b xs := .inl fun _ S => S.flL h
theorem hk_ixS {K : PySem.W.Frag} {L : List HP} {H : Hp} {b : Addr} {xs : List V} {n : Int} {v : V} {Q : VK} (h : SeqIn K L b xs) (S : Hold H L) (hi : atI xs n = some v) (q : Q v H) : rIxU K (.ref b) (.int n) H Q :=
  h.elim (fun h => hk_ixL (h H S) hi q) fun h => hk_ixT (h H S) hi q
theorem hk_lenS {K : PySem.W.Frag} {L : List HP} {H : Hp} {b : Addr} {xs : List V} {Q : VK} (h : SeqIn K L b xs) (S : Hold H L) (q : Q (.int xs.length) H) : cLen K [.ref b] H Q :=
  h.elim (fun h => hk_lenL (h H S) q) fun h => hk_lenT (h H S) q
end Sw

/-! Sw: exceptions that are caught; lambdas. -/
namespace Sw
open PySem PySem.Spec PyProof.Rows L2

/-! ### isinstance of a caught exception, with attributes or without -/
section
variable {prog : Program} {w : World} {A : Around} {E : Value → Shared → Prop} {s : Shared} {K : PySem.W.Frag} {x D : Addr} {ox : Obj} {od : Option Obj}
open PySem.Calls PySem.W in
theorem kin_classU {Q : Option Value → Shared → Prop} (C : ExcC K D) (X : K.In s.heap) (I : InstAt s.heap x ox D od) (h : Q (some (.ref D)) { s with toks := s.toks + 1 }) : wpAny (model prog w) A (getAttr? (.ref x) "__class__") Q E s := by
  have hf : findObj K D od "__class__" = some (.bind (.builtin "getset_descriptor.__get__") (.builtin "object.__class__")) := by
    obtain ⟨cd, hc, _⟩ := any_some C.hd
    have ha := C.ha
    have hn := C.hn
    have ht := C.ht
    unfold findObj
    rw [hc, Option.bind_some, ha, Option.bind_some]
    simp [hn, ht]
  obtain ⟨hp, g, d, t, os⟩ := s
  have L0 := I.type (M := model prog w)
  have L1 := looks_findIn (M := model prog w) X C.hg
  have L2 := looks_findIn (M := model prog w) X C.hk
  have L3 := looks_find (M := model prog w) X I hf
  have sub : Looks (model prog w) hp (isInstance (.ref x) (.type "BaseException")) true := L0.andThen (looks_subIn X C.hs)
  have hx0 : (false && onTheHeap (Value.builtin "BaseException.__getattribute__")) = false := rfl
  have hx2 : (Value.builtin "BaseException.__getattribute__" == Value.builtin "object.__getattribute__") = false := by decide +kernel
  have hx1 : (onTheHeap (Value.ref D) && Value.builtin "BaseException.__getattribute__" == Value.builtin "object.__getattribute__") = false := by rw [hx2]; rfl
  unfold getAttr? getAttrBy? getAttrBy
  refine wpAny_bind (wpAny_mkText (wpAny_bind (wpAny_attempt (wpAny_holding (wpAny_bind (L0.at (wpAny_bind (L1.at ?_))))))))
  show wpAny _ _ (if (onTheHeap (Value.ref D) && Value.builtin "BaseException.__getattribute__" == Value.builtin "object.__getattribute__") = true then _ else _) _ _ _
  rw [hx1, if_neg Bool.false_ne_true]
  unfold getAttrByItsOwn hookBefore
  refine wpAny_bind ?_
  rw [if_pos (show onTheHeap (Value.ref D) = true from rfl)]
  refine L2.at ?_
  refine wpAny_bind (wpAny_attempt (wpAny_holding ?_))
  unfold callGetattribute
  rw [hx0, if_neg Bool.false_ne_true]
  unfold boundAndCalled
  rw [PySem.F.excAttr_ValueError.ga.bind (.ref x)]
  refine wpAny_bind (wpAny_pure ?_)
  show wpAny _ _ (call (.builtin "BaseException.__getattribute__") [.ref x, .str "__class__" t]) _ _ _
  refine wpAny_call (codeAny_call_builtin PySem.F.excAttr_ValueError.ga.plain PySem.F.entry_bexc_ga ?_)
  refine @check_slot (model prog w) _ _ ⟨hp, g, d, t + 1, os⟩ "BaseException.__getattribute__" "BaseException" "__getattribute__" (.ref x) [.str "__class__" t] [] _ (by decide +kernel) (by decide +kernel) sub (PySem.F.args_bexc_ga (.ref x) (.str "__class__" t)) ?_
  unfold Builtin.«object.__getattribute__»
  refine wpAny_bind (wpAny_of_eq (a := ((Value.ref x : Value), [Value.str "__class__" t])) (by first | rfl | (simp only [slotArgs]; rfl)) ?_)
  refine wpAny_bind (wpAny_pure (wpAny_bind (L0.at (wpAny_bind (L3.at ?_)))))
  show wpAny _ _ (holding [Value.builtin "object.__class__"] (call (.builtin "getset_descriptor.__get__") [.builtin "object.__class__", .ref x, .ref D]) >>= ret) _ _ _
  refine wpAny_bind (wpAny_holding (wpAny_call (class_get (s := ⟨hp, g, d, t + 1, os⟩) (ox := ox) (od := od) X I C.hm ?_)))
  refine wpAny_pure ?_
  show wpAny _ _ (handedOut (.ref D)) _ _ _
  rw [handedOut_of (v := .ref D) rfl]
  first
    | exact wpAny_pure (wpAny_pure h)
    | exact wpAny_pure h
    | exact wpAny_pure (wpAny_bind (wpAny_pure (wpAny_pure h)))
open PySem.Calls PySem.W in
theorem kitx_excU (C : ExcC K D) : KitX K (.ref x) (.ref D) (fun h => InstAt h x ox D od) where
  ty := fun _ _ _ I => I.type
  it := fun _ _ X _ => by
    obtain ⟨cdD, hcD, _⟩ := any_some C.hd
    unfold clsIn at hcD
    split at hcD
    · rename_i c' d' cd' sl' ho
      intro A' Q' E' s' k q
      unfold isType loadHead
      exact wpAny_bind (wpAny_loadPart (k _ _ (X _ _ ho)) (wpAny_pure q))
    · cases hcD
  ne := fun h tp dd its n sl X htp => by
    obtain ⟨cdD, hcD, _⟩ := any_some C.hd
    refine Bool.eq_false_iff.mpr fun q => ?_
    have e : D = tp := Value.ref.inj (beq_iff_eq.mp q)
    subst e
    unfold clsIn at hcD
    split at hcD
    · rename_i c' d' cd' sl' ho
      have z := (X _ _ ho).symm.trans htp
      cases z
    · cases hcD
  ca := fun X I k => kin_classU C X I k
end
/-- what an instance's dict is -/
def XdAt (d : Option Addr) (H : Hp) : Prop := d = none ∨ ∃ dd fs, d = some dd ∧ H dd = some (.xd fs)
def rIsX (K : PySem.W.Frag) (a : Addr) (cls : Value) (d : Option Addr) : List V → Hp → VK → Prop := fun xs H Q => ∃ (C : Addr) (c : V) (b : Bool), xs = [.ref a, c] ∧ cls = .ref C ∧ ExcC K C ∧ XdAt d H ∧
  ((∃ cv, ClsV c cv ∧ PySem.W.kitOne K (.ref C) cv = some b) ∨ ∃ tp cs us, c = .ref tp ∧ H tp = some (.tup cs) ∧ Paired ClsV cs us ∧ PySem.W.kitAny K (.ref C) us = some b) ∧ Q (.bl b) H
theorem call_isX {X : Cx} {a : Addr} {oe : Obj} {cls : Value} {d : Option Addr} {pn : List (Addr × Obj)} (hz : Zc cls d oe) (hf : ∃ vs, oe.data = .fields vs) : CallR (X.suite a ((a, oe) :: pn)) (.builtin "isinstance") (rIsX X.K a cls d) := by
  intro pins s σ H xs us Q I r h
  obtain ⟨D, c, b, rfl, rfl, C, hd, e, q⟩ := h
  cases r with
  | cons rx rr =>
    cases rr with
    | cons rt rr =>
      cases rr
      cases rx
      obtain ⟨hget, _⟩ := I.pin (a, oe) (List.mem_append.mpr (.inl List.mem_cons_self))
      obtain ⟨vs, hv⟩ := hf
      obtain ⟨od, J⟩ : ∃ od, PySem.W.InstAt s.heap a oe D od := by
        obtain ⟨oc, odd, oda, osl⟩ := oe
        obtain ⟨h1, h2⟩ := hz
        dsimp only at h1 h2 hv
        subst h1 h2 hv
        rcases hd with rfl | ⟨dd, fs, rfl, ea⟩
        · exact ⟨none, hget, rfl, rfl, trivial⟩
        · obtain ⟨mA, hns, _⟩ := (show ObjOk X.prog X.w H s.heap dd (.xd fs) from I.hok dd _ ea)
          obtain ⟨o, ho, _⟩ := lookIn_ns hns
          exact ⟨some o, hget, rfl, rfl, ho⟩
      rcases e with ⟨cv, k, e⟩ | ⟨tp, cs, us, rfl, hT, k, e⟩
      · have e2 := k.eq rt
        subst e2
        exact PySem.W.kia_one (kitx_excU C) I.kIn J e (fun z => nomatch z) fun tk => ⟨.bl b, H, I.kept (t' := tk) fun _ _ z => z, rfl, q⟩
      · cases rt
        obtain ⟨_, its, rv, o, h1, h2, n, h3⟩ := (show ObjOk X.prog X.w H s.heap tp (.tup cs) from I.hok tp _ hT)
        have e3 := ClsV.all k rv
        subst e3
        obtain ⟨oc, odd, dt, sl⟩ := o
        simp only at h2 h3
        subst h2 h3
        exact PySem.W.kia_tup (kitx_excU C) I.kIn J h1 e (fun z => nomatch z) fun tk => ⟨.bl b, H, I.kept (t' := tk) fun _ _ z => z, rfl, q⟩
/-- e.f -/
def kXf (K : PySem.W.Frag) (a : Addr) (cls : Value) (d : Option Addr) (f : Str) (x : V) (H1 : Hp) (Q : VK) : Prop := x = .ref a ∧ ∃ C, cls = .ref C ∧ XfC K C ∧ PySem.W.findIn K (.ref C) f = some none ∧ ∃ (dd : Addr) (fs : List (Str × V)) (v : V), d = some dd ∧ H1 dd = some (.xd fs) ∧ fs.lookup f = some v ∧ Q v H1
def tXfU (K : PySem.W.Frag) (a : Addr) (cls : Value) (d : Option Addr) (f : Str) (te : TE) : TE := fun σ H Q => te σ H fun x H1 => kXf K a cls d f x H1 Q
theorem pe_xfU {X : Cx} {a : Addr} {oe : Obj} {cls : Value} {d : Option Addr} {pn : List (Addr × Obj)} {e : Expr} {te : TE} {pos : Pos} {n : Str} (hz : Zc cls d oe) (hf : ∃ vs, oe.data = .fields vs) (he : PE (X.suite a ((a, oe) :: pn)) e te)
    (hb : attributeBase e n X.env (eval e X.env) = eval e X.env := by rfl) : PE (X.suite a ((a, oe) :: pn)) (.Attribute e n pos) (tXfU X.K a cls d n te) := by
  refine ⟨fun pins s σ H Q I h => ?_⟩
  refine attr_of hb (thn (he.run pins s σ H _ I h) fun u s1 hh => ?_)
  obtain ⟨x, H1, I1, rx, ex, C, ec, T, hno, dd, fs, v, ed, ea, l, q⟩ := hh
  subst ex
  obtain rfl : u = Value.ref a := rx
  subst ec
  subst ed
  obtain ⟨ha, _⟩ := I1.pin (a, oe) (List.mem_append_left _ List.mem_cons_self)
  obtain ⟨vs, hd⟩ := hf
  obtain ⟨mA, hns, hr⟩ := (show ObjOk X.prog X.w H1 s1.heap dd (.xd fs) from I1.hok dd _ ea)
  obtain ⟨od, ho, hl⟩ := lookIn_ns hns
  obtain ⟨u, hu, ru⟩ := RelO.some_of (v := v) (o := mA n) (by rw [← l]; exact hr n)
  have J : PySem.W.InstAt s1.heap a oe C (some od) := ⟨ha, hz.1, by unfold PySem.W.notCls; rw [hd] <;> rfl, by rw [hz.2]; exact ho⟩
  exact HandSPX.exc_get I1.kIn J T.ga T.gg T.exC (PySem.W.findObj_own T.hdC hno rfl (by rw [hl, hu])) (handed_of ru) ⟨v, H1, I1.tok _, ru, q⟩

/-! ### except clauses, each with a name or without -/
abbrev Clause := Value × Option Nat × (Addr → Value → Option Addr → TS)
@[reducible] def unAs (i : Nat) (D : Ends) : Ends := { nx := fun σ' H' => D.nx (σ'.set i none) H', rt := D.rt, bk := fun σ' H' => D.bk (σ'.set i none) H', ct := fun σ' H' => D.ct (σ'.set i none) H' }
def inCl (a : Addr) (cls : Value) (d : Option Addr) (o : Option Nat) (ts : Addr → Value → Option Addr → TS) (D : Ends) (σ : L2.St) (H : Hp) : Prop := match o with
  | none => ts a cls d D σ H
  | some i => ts a cls d (unAs i D) (σ.set i (some (.ref a))) H
def wU (K : PySem.W.Frag) (Wout : WX) (D : Ends) : List Clause → WX
  | [] => Wout
  | (c, o, ts) :: r => fun cls d σ H => ∃ b, PySem.W.exmOne K cls c = some b ∧ (b = true → ∀ a, H a = none → inCl a cls d o ts D σ H) ∧ (b = false → wU K Wout D r cls d σ H)
inductive HdsU (X : Cx) : List ExceptHandler → List Clause → Prop
  | nil : HdsU X [] []
  | cons {x : Str} {c : Value} {ts : Addr → Value → Option Addr → TS} {b₀ : Stmt} {suite : List Stmt} {np pos' : Pos} {hds : List ExceptHandler} {l : List Clause} (hc : Names X x c)
      (hsu : ∀ (a : Addr) (oe : Obj) (cls : Value) (d : Option Addr) (pn : List (Addr × Obj)), Zc cls d oe → (∃ vs, oe.data = .fields vs) → PSs (X.suite a ((a, oe) :: pn)) (b₀ :: suite) (ts a cls d)) (r : HdsU X hds l) :
      HdsU X (.ExceptHandler (some (.Name x np)) none (b₀ :: suite) pos' :: hds) ((c, none, ts) :: l)
  | consAs {x n : Str} {i : Nat} {c : Value} {ts : Addr → Value → Option Addr → TS} {b₀ : Stmt} {suite : List Stmt} {np pos' : Pos} {hds : List ExceptHandler} {l : List Clause} (hi : X.N[i]? = some n) (hln : X.env.kindOf n = some .local) (hc : Names X x c)
      (hsu : ∀ (a : Addr) (oe : Obj) (cls : Value) (d : Option Addr) (pn : List (Addr × Obj)), Zc cls d oe → (∃ vs, oe.data = .fields vs) → PSs (X.suite a ((a, oe) :: pn)) (b₀ :: suite) (ts a cls d)) (r : HdsU X hds l) :
      HdsU X (.ExceptHandler (some (.Name x np)) (some n) (b₀ :: suite) pos' :: hds) ((c, some i, ts) :: l)
def tTry (K : PySem.W.Frag) (tb : WX → TS) (Wout : WX) (l : List Clause) : TS := fun D σ H => tb (wU K Wout D l) D σ H
section
variable {X : Cx} {body : List Stmt} {h₀ : ExceptHandler} {hds : List ExceptHandler} {l : List Clause} {pos : Pos} {tb : WX → TS} {Wout : WX}
theorem ps_tryU (hs : X.stack = X.env :: X.outer) (hf : X.env.frame = some X.env.locals) (hN : X.N.Nodup) (tk : Takes X Wout)
    (hb : ∀ (W : WX) (pn : List (Addr × Obj)) (xe : Value → Shared → Prop), Takes (X.tr pn xe) W → PassesOwn (model X.prog X.w) X.A X.env xe → PSs (X.tr pn xe) body (tb W))
    (hh : HdsU X (h₀ :: hds) l) : PS X (.Try body (h₀ :: hds) [] [] pos) (tTry X.K tb Wout l) := by
  refine ⟨fun pins s σ H D I h => ?_⟩
  have ok := I.ok
  have hfr : X.A.frames = some (X.env :: X.outer) := by rw [ok.frames, hs]
  refine wpAny_Try_except ?_
  refine wpAny_mono ((hb (wU X.K Wout D l) (X.pn ++ pins) (fun e s₁ => wpAny (model X.prog X.w) X.A (noteFrame e X.env) (fun _ s₂ => wpAny (model X.prog X.w) X.A (setFlight e none) (fun _ s₃ =>
    wpAny (model X.prog X.w) X.A (handleBy e X.env (h₀ :: hds)) (SP X pins D) X.xe s₃) X.xe s₂) X.xe s₁) (fun u s' xx => ?_) PassesOwn.looking).run [] s σ H D (I.toTry _) h) (fun f s1 hsp => ?_) (fun e s1 he => he)
  · obtain ⟨a, B, sI, pins', σ', H', cls, d, rfl, J', nb, up, sky, na, os, ag, w⟩ := xx
    have J : Inv X pins σ' H' sI := J'.ofTry ok
    have sky' : Sky B (X.env :: X.outer) a (Zc cls d) X.env.locals s'.heap := by rw [← hs]; exact sky
    show wpAny (model X.prog X.w) X.A (noteFrame (.ref a) X.env) _ _ _
    refine Sky.land Zc.steady hfr hf sky' fun h3 fl3 up3 => ?_
    have J3 : Inv X pins σ' H' { s' with heap := h3 } := J.landed nb fl3.1 (up.trans up3) os ag
    obtain ⟨oe3, vs3, he3, hz3, hd3⟩ := fl3.there
    have notFr : ∀ {h : Heap} {o : Obj} {vs : Array Value}, h.FunFrames B (X.env :: X.outer) → h.get? a = some o → o.data = .fields vs → a ∉ frs (X.env :: X.outer) := fun {h o vs} ff e dd hm => by
      obtain ⟨_, o', e', hnf⟩ := ff.mem hm
      rw [e] at e'; cases e'
      exact hnf _ dd
    have nfr := notFr fl3.2.2.1 he3 hd3
    have nL : a ≠ X.env.locals := fun z => nfr (List.mem_filterMap.mpr ⟨X.env, List.mem_cons_self, by rw [hf, z]⟩)
    have nF : a ∉ X.fs := fun hm => by
      obtain ⟨e, he, q⟩ := List.mem_filterMap.mp hm
      exact nfr (List.mem_filterMap.mpr ⟨e, List.mem_cons_of_mem _ he, q⟩)
    have S3 := J3.suite he3 hd3 na nL nF
    have LT : PySem.W.Looks (model X.prog X.w) h3 (typeOf (.ref a)) cls := fun A Q E s k q => wpAny_typeOf_ref (k _ _ he3) (by rw [hz3.1]; exact q)
    have test : ∀ {x : Str} {c : Value} {np : Pos} {Q : Value → Shared → Prop} {E : Value → Shared → Prop}, Names X x c → Q c { s' with heap := h3 } → wpAny (model X.prog X.w) (X.A.mark (some (.ref a))) (eval (.Name x np) X.env) Q E { s' with heap := h3 } := fun {x c np Q E} hc q => by
      obtain ⟨hg, hdbg, hm | ⟨hm, hv, hnn⟩⟩ := hc
      · exact ld_glob (X := X.suite a ((a, oe3) :: (X.pn ++ pins))) S3 hg hm q hdbg
      · exact ld_blt (X := X.suite a ((a, oe3) :: (X.pn ++ pins))) S3 hg hm hv q hnn hdbg
    have go : ∀ {hds' : List ExceptHandler} {l' : List Clause}, HdsU X hds' l' → wU X.K Wout D l' cls d σ' H' →
        wpAny (model X.prog X.w) X.A (handleBy (.ref a) X.env hds') (SP X pins D) X.xe { s' with heap := h3 } := by
      intro hds' l' hk
      induction hk with
      | nil =>
        intro w
        refine wpAny_handleBy_nil ?_
        obtain ⟨k1, k2, k3, oe, vs, T, oT, ts', he, hz, hd, h1, hr⟩ := id fl3
        unfold PySem.passOn
        refine wpAny_bind (wpAny_field he hd h1 ?_)
        rw [if_neg (show ¬ ((Value.ref T == Value.none) = true) from by simp)]
        have fin : wpAny (model X.prog X.w) X.A (setFlight (.ref a) X.env.frame) (fun _ s4 => wpAny (model X.prog X.w) X.A (throw (.ref a) : Sem Flow) (SP X pins D) X.xe s4) X.xe { s' with heap := h3 } := by
          rw [hf]
          refine HandSPX.setFlight_upZ fl3 fun h4 hh4 up4 => wpAny_throw (tk _ _ ?_)
          exact ⟨a, B, sI, pins, σ', H', cls, d, rfl, J, nb, (up.trans up3).trans up4, .inr (.inr (by rw [hs]; exact hh4)), na, os, ag, w⟩
        first
          | exact wpAny_bind (wpAny_pure (wpAny_bind fin))
          | exact wpAny_bind fin
      | @cons x c ts b₀ suite np pos' hds2 l2 hc hsu r ih =>
        intro w
        obtain ⟨b, hb1, hyes, hno⟩ := w
        refine wpAny_handleBy_cons (codeAny_handlers_test ?_) (by intro q; cases q)
        have LM := PySem.W.exm_one (M := model X.prog X.w) (J3.kIn) LT hb1
        refine test hc (LM.here ?_)
        cases b with
        | true =>
          refine codeAny_handlers_suite ?_
          refine HandSPX.lands_againZ fl3 fun h4 fl4 up4 => ?_
          have J4 : Inv X pins σ' H' { s' with heap := h4 } := J.landed nb fl4.1 ((up.trans up3).trans up4) os ag
          obtain ⟨oe4, vs4, he4, hz4, hd4⟩ := fl4.there
          have S4 := J4.suite he4 hd4 na nL nF
          refine wpAny_mono ((hsu a oe4 cls d (X.pn ++ pins) hz4 ⟨_, hd4⟩).run [] _ _ H' _ S4 (hyes rfl a na)) (fun f s6 hsp => ?_) (fun _ _ z => False.elim z)
          cases f with
          | next =>
            obtain ⟨σ6, H6, S6, q6⟩ := hsp
            exact ⟨_, _, S6.unsuite ok, q6⟩
          | brk =>
            obtain ⟨σ6, H6, S6, q6⟩ := hsp
            exact ⟨_, _, S6.unsuite ok, q6⟩
          | cont =>
            obtain ⟨σ6, H6, S6, q6⟩ := hsp
            exact ⟨_, _, S6.unsuite ok, q6⟩
          | ret u =>
            obtain ⟨v6, σ6, H6, S6, r6, q6⟩ := hsp
            exact ⟨_, _, _, S6.unsuite ok, r6, q6⟩
        | false =>
          show wpAny _ X.A (handleBy (.ref a) X.env hds2) _ _ _
          exact ih (hno rfl)
      | @consAs x n i c ts b₀ suite np pos' hds2 l2 hi hln hc hsu r ih =>
        intro w
        obtain ⟨b, hb1, hyes, hno⟩ := w
        have hloc : Loc X.env.scope n := .inl hln
        refine wpAny_handleBy_cons (codeAny_handlers_test ?_) (by intro q; cases q)
        have LM := PySem.W.exm_one (M := model X.prog X.w) (J3.kIn) LT hb1
        refine test hc (LM.here ?_)
        cases b with
        | true =>
          refine codeAny_handlers_suite_as ?_
          refine HandSPX.lands_againZ fl3 fun h4 fl4 up4 => ?_
          have J4 : Inv X pins σ' H' { s' with heap := h4 } := J.landed nb fl4.1 ((up.trans up3).trans up4) os ag
          obtain ⟨oe4, vs4, he4, hz4, hd4⟩ := fl4.there
          have S4 := J4.suite he4 hd4 na nL nF
          refine store_ok (X := X.suite a ((a, oe4) :: (X.pn ++ pins))) (v := .ref a) S4 hN hi hloc rfl (fun s5 S5 => ?_) (.inr hln)
          refine wpAny_mono ((hsu a oe4 cls d (X.pn ++ pins) hz4 ⟨_, hd4⟩).run [] s5 _ H' _ S5 (hyes rfl a na)) (fun f s6 hsp => ?_) (fun _ _ z => False.elim z)
          have end_ : ∀ {σ6 : L2.St} {H6 : Hp} {Q : Shared → Prop}, Inv (X.suite a ((a, oe4) :: (X.pn ++ pins))) [] σ6 H6 s6 → (∀ s7, Inv X pins (σ6.set i none) H6 s7 → Q s7) →
              wpAny (model X.prog X.w) X.A (do bindName X.env n .none; unbindBehindTheSuite X.env n pos') (fun _ s7 => Q s7) X.xe s6 := fun {σ6 H6 Q} S6 hq => gone_ok (S6.unsuite ok) hN hi hln hq
          cases f with
          | next =>
            obtain ⟨σ6, H6, S6, q6⟩ := hsp
            exact end_ S6 fun s7 J7 => ⟨_, _, J7, q6⟩
          | brk =>
            obtain ⟨σ6, H6, S6, q6⟩ := hsp
            exact end_ S6 fun s7 J7 => ⟨_, _, J7, q6⟩
          | cont =>
            obtain ⟨σ6, H6, S6, q6⟩ := hsp
            exact end_ S6 fun s7 J7 => ⟨_, _, J7, q6⟩
          | ret u =>
            obtain ⟨v6, σ6, H6, S6, r6, q6⟩ := hsp
            exact end_ S6 fun s7 J7 => ⟨_, _, _, J7, r6, q6⟩
        | false =>
          show wpAny _ X.A (handleBy (.ref a) X.env hds2) _ _ _
          exact ih (hno rfl)
    exact go hh w
  · cases f with
    | next =>
      obtain ⟨σ', H', J', q⟩ := hsp
      exact wpAny_execs_nil ⟨σ', H', J'.ofTry ok, q⟩
    | brk =>
      obtain ⟨σ', H', J', q⟩ := hsp
      exact ⟨σ', H', J'.ofTry ok, q⟩
    | cont =>
      obtain ⟨σ', H', J', q⟩ := hsp
      exact ⟨σ', H', J'.ofTry ok, q⟩
    | ret u =>
      obtain ⟨v, σ', H', J', r, q⟩ := hsp
      exact ⟨v, σ', H', J'.ofTry ok, r, q⟩
end
section
variable {K : PySem.W.Frag} {σ : L2.St} {H : Hp} {D : Ends} {a d : Addr} {cls : Value} {dd : Option Addr} {C : Addr} {f : Str} {v : V} {fs : List (Str × V)} {Q : VK} {te : TE} {o : Option Nat} {ts : Addr → Value → Option Addr → TS} {Wout : WX} {r : List Clause} {c : Value} {b : Bool}
theorem h_try {tb : WX → TS} {l : List Clause} (h : tb (wU K Wout D l) D σ H) : tTry K tb Wout l D σ H := h
theorem hk_catch (e : PySem.W.exmOne K cls c = some true) (q : ∀ a, H a = none → inCl a cls dd o ts D σ H) : wU K Wout D ((c, o, ts) :: r) cls dd σ H := ⟨true, e, fun _ => q, fun z => nomatch z⟩
theorem hk_miss (e : PySem.W.exmOne K cls c = some false) (q : wU K Wout D r cls dd σ H) : wU K Wout D ((c, o, ts) :: r) cls dd σ H := ⟨false, e, fun z => (nomatch z), fun _ => q⟩
theorem h_inAs {i : Nat} (q : ts a cls dd (unAs i D) (σ.set i (some (.ref a))) H) : inCl a cls dd (some i) ts D σ H := q
theorem h_inN (q : ts a cls dd D σ H) : inCl a cls dd none ts D σ H := q
theorem h_xf (h : te σ H fun x H1 => kXf K a cls dd f x H1 Q) : tXfU K a cls dd f te σ H Q := h
theorem hk_xf (T : XfC K C) (n : PySem.W.findIn K (.ref C) f = some none) (hd : H d = some (.xd fs)) (l : fs.lookup f = some v) (q : Q v H) : kXf K a (.ref C) (some d) f (.ref a) H Q := ⟨rfl, C, rfl, T, n, d, fs, v, rfl, hd, l, q⟩
theorem hk_isX1 {D' : Addr} (Y : ExcC K C) (hd : XdAt dd H) (e : PySem.W.kitOne K (.ref C) (.ref D') = some b) (q : Q (.bl b) H) : rIsX K a (.ref C) dd [.ref a, .ref D'] H Q := ⟨C, _, b, rfl, rfl, Y, hd, .inl ⟨_, .own D', e⟩, q⟩
/-- the classes at Ds, as they lie in a tuple -/
theorem paired_own : ∀ Ds : List Addr, Paired ClsV (Ds.map V.ref) (Ds.map Value.ref)
  | [] => .nil
  | D :: Ds => .cons (.own D) (paired_own Ds)
theorem kitAny_no {t : Value} : ∀ {us : List Value}, (∀ u ∈ us, PySem.W.kitOne K t u = some false) → PySem.W.kitAny K t us = some false
  | [], _ => rfl
  | u :: us, h => kitAny_cons (h u List.mem_cons_self) (fun _ => kitAny_no fun x hx => h x (List.mem_cons_of_mem _ hx)) (fun z => nomatch z)
theorem hk_isXT {tp : Addr} (Ds : List Addr) (Y : ExcC K C) (hd : XdAt dd H) (ht : H tp = some (.tup (Ds.map V.ref))) (e : ∀ D ∈ Ds, PySem.W.kitOne K (.ref C) (.ref D) = some false) (q : Q (.bl false) H) : rIsX K a (.ref C) dd [.ref a, .ref tp] H Q :=
  ⟨C, _, false, rfl, rfl, Y, hd, .inr ⟨tp, _, _, rfl, ht, paired_own Ds, kitAny_no fun u hu => by
    obtain ⟨D, hD, rfl⟩ := List.mem_map.mp hu
    exact e D hD⟩, q⟩
theorem XdAt.some (h : H d = some (.xd fs)) : XdAt (some d) H := .inr ⟨d, fs, rfl, h⟩
end
end Sw

/-! Sw: lambdas. -/
namespace Sw
open PySem PySem.Spec PyProof.Rows L2 LamX

/-- a table of code objects: each bears the name q -/
def tab (P : Addr) (q : Str) : HP where
  on := fun fp H => fp = [P] ∧ TabS H P q
  st := fun fp H H' h e i => ⟨h.1, by
    obtain ⟨ps, h1, h2, h3⟩ := h.2
    refine ⟨ps, by rw [e P (by rw [h.1]; simp)]; exact h1, h2, fun pos cv hc => ?_⟩
    obtain ⟨c, e1, e2⟩ := h3 pos cv hc
    exact ⟨c, e1, i c _ e2 trivial⟩⟩
  al := fun fp H h a ha => by
    rw [h.1] at ha
    have : a = P := by simpa using ha
    subst this
    obtain ⟨ps, h1, _, _⟩ := h.2
    exact ⟨_, h1, trivial⟩
/-- all but the table at P stays -/
def ButP (P : Addr) (H H1 : Hp) : Prop := ∀ b o, b ≠ P → H b = some o → H1 b = some o
theorem Hold.tabS {H : Hp} {L : List HP} {P : Addr} {q : Str} (h : Hold H L) (m : tab P q ∈ L) : TabS H P q := by
  obtain ⟨fp, h⟩ := h.at m
  exact h.2
theorem Hold.tabbed {H H1 : Hp} {L : List HP} {P : Addr} {q : Str} (h : Hold H (tab P q :: L)) (e : ButP P H H1) (t : TabS H1 P q) : Hold H1 (tab P q :: L) := by
  obtain ⟨F, a, n⟩ := h
  cases a with
  | cons ha a =>
    obtain ⟨e0, ps, hP, _⟩ := ha
    subst e0
    rw [List.flatten_cons] at n
    have n' := List.nodup_cons.mp n
    refine ⟨_, .cons ⟨rfl, t⟩ (a.st (fun b hb => ?_) fun b o q i => e b o (fun z => ?_) q), by rw [List.flatten_cons]; exact n⟩
    · obtain ⟨o, ho, _⟩ := a.al b hb
      rw [ho, e b o (fun z => n'.1 (by rw [← z]; exact hb)) ho]
    · rw [z, hP] at q
      cases q
      exact i

section
variable {X : Cx} {pins : List (Addr × Obj)} {σ : L2.St} {H : Hp} {s : Shared}
/-- the lambda is made: its code object is new, or found in the table -/
theorem lam_make3 {c P : Addr} {params : Arguments} {body : Expr} {scope : Scope} {pos : Pos} {E : Value → Shared → Prop} {Q : Value → Shared → Prop} (I : Inv X pins σ H s) (TB : TabB X.base X.mg c P) (hcode : X.env.code = .ref c)
    (hT : TabS H P (X.env.qual ++ "<lambda>")) (hdef : defaultsOf params X.env = ([], [])) (hfree : ∀ y ∈ scope.names, y.2 = .free → ∃ c, X.env.cells.lookup y.1 = some c)
    (h : ∀ (f c' : Addr) (pm ctv : Value) (H1 : Hp) (s' : Shared), Inv X pins σ H1 s' → ButP P H H1 → TabS H1 P (X.env.qual ++ "<lambda>") →
      s'.heap.get? f = some (PySem.W.kla_obj "<lambda>" (X.env.qual ++ "<lambda>") params body scope (cloFrom X.env.cells scope.names []) pm c' ctv) → H1 f = none → f ∉ frs X.stack → H1 c' = some (CodeO c' (X.env.qual ++ "<lambda>")) → Q (.ref f) s') :
    wpAny (model X.prog X.w) X.A (eval (.Lambda params body scope pos) X.env) Q E s := by
  obtain ⟨ps, hP, ht, ha⟩ := hT
  refine PySem.W.kla_eval hdef ?_
  have bP : s.heap.BuiltinsAt X.mg P := TB.bm.keeps I.bk
  have hP' : s.heap.get? P = some { cls := .none, data := .fields ps } := I.hok P _ hP
  have nofr : ∀ f, s.heap.objs.size ≤ f → f ∉ frs X.stack := fun f hf z => by
    rcases List.mem_cons.mp (I.stkSub _ z) with e | e
    · have h1 := I.lt
      rw [← e] at h1
      exact Nat.lt_irrefl _ (Nat.lt_of_lt_of_le h1 hf)
    · exact I.nofs hf e
  cases hc : codeAmong pos ps.toList with
  | none =>
    refine PySem.W.kla_makeFunction (mg := X.mg) (c := c) (P := P) (ps := ps) (closure_ok hfree) I.ok.glob (I.mod.glob.keeps I.bk) hcode (TB.code.keeps I.bk) hP' ht hc TB.gP bP fun c' ctv h' tk hx hge hlt hrec htb => ?_
    obtain ⟨c2, oc, vs, t, e2, hoc, hd, hv⟩ := hrec
    cases e2
    have hsz : s.heap.objs.size ≤ h'.objs.size := Nat.le_trans hge (Nat.le_of_lt hlt)
    have nC : H c' = none := I.hok.fresh hge
    have I1 := inv_table (t' := tk) (more := #[rawInt pos.line, rawInt pos.col, .ref c']) (h' := h'.push (PySem.W.kla_obj "<lambda>" (X.env.qual ++ "<lambda>") params body scope (cloFrom X.env.cells scope.names []) ((X.mg "__name__").getD .none) c' ctv)) I hP
      (fun b o hb e => Heap.get?_push_of_some _ (hx b o hb e)) (Heap.get?_push_of_some _ htb) hge ⟨oc, vs, t, Heap.get?_push_of_some _ hoc, hd, hv⟩
    have hE : ButP P H (upd (upd H P (.tbl (ps ++ #[rawInt pos.line, rawInt pos.col, .ref c']))) c' (CodeO c' (X.env.qual ++ "<lambda>"))) := fun b o n e => by
      rw [upd_ne (ne_of_none e nC), upd_ne n]
      exact e
    have eL : (ps ++ #[rawInt pos.line, rawInt pos.col, .ref c']).toList = ps.toList ++ [rawInt pos.line, rawInt pos.col, .ref c'] := by simp
    refine h h'.objs.size c' ((X.mg "__name__").getD .none) ctv _ _ I1 hE ?_ (Heap.get?_push_size _ rfl) ?_ (nofr _ hsz) upd_same
    · refine ⟨_, by rw [upd_ne (ne_of_none hP nC), upd_same], by rw [eL]; exact PySem.TriplesOk_snoc _ _ _ _ ht, fun p' cv hcv => ?_⟩
      rw [eL] at hcv
      rcases among_app _ ht hcv with z | z
      · obtain ⟨c0, e1, e2⟩ := ha p' cv z
        exact ⟨c0, e1, hE _ _ (fun z => by rw [z, hP] at e2; exact codeO_ne ps (Option.some.inj e2).symm) e2⟩
      · exact ⟨c', z, upd_same⟩
    · have n1 : h'.objs.size ≠ c' := Nat.ne_of_gt hlt
      have n2 : h'.objs.size ≠ P := Nat.ne_of_gt (Nat.lt_of_lt_of_le (Heap.lt_size hP') hsz)
      rw [upd_ne n1, upd_ne n2]
      exact I.hok.fresh hsz
  | some cv =>
    obtain ⟨c', e, hco⟩ := ha pos cv hc
    subst e
    refine PySem.W.kla_makeFunctionHit (mg := X.mg) (c := c) (P := P) (ps := ps) (closure_ok hfree) I.ok.glob (I.mod.glob.keeps I.bk) hcode (TB.code.keeps I.bk) hP' ht hc bP fun ctv h' tk hx hsz => ?_
    have I1 : Inv X pins σ H { s with heap := h'.push (PySem.W.kla_obj "<lambda>" (X.env.qual ++ "<lambda>") params body scope (cloFrom X.env.cells scope.names []) ((X.mg "__name__").getD .none) c' ctv), toks := tk } := I.kept fun b o e => Heap.get?_push_of_some _ (hx b o e)
    exact h h'.objs.size c' ((X.mg "__name__").getD .none) ctv H _ I1 (fun b o _ e => e) ⟨ps, hP, ht, ha⟩ (Heap.get?_push_size _ rfl) (I.hok.fresh hsz) (nofr _ hsz) hco
end

section
variable {X : Cx} {pins : List (Addr × Obj)} {σ : L2.St} {H HZ : Hp} {s s1 : Shared}
/-- a(), in the def that got the lambda: Z is that def's context, entered at s -/
theorem pe_act3 {CXg : CXT} {Eg : XK} {Ng : List Str} {qg : Str} {sg : Scope} {g f c' : Addr} {cdg pm ctv : Value} {params : Arguments} {body : Expr} {scope : Scope} {k i : Nat} {a : Str} {pn : List (Addr × Obj)} {xe : Value → Shared → Prop} {W : WX} {tb : XK → TE} {p1 p2 : Pos}
    (I : Inv X pins σ H s) (L : LamS X.env.scope scope) (hf : s.heap.get? f = some (PySem.W.kla_obj "<lambda>" (X.env.qual ++ "<lambda>") params body scope (cloFrom X.env.cells scope.names []) pm c' ctv)) (hfn : H f = none) (hfr : f ∉ frs X.stack)
    (hbind : bindArgs (PySem.W.kla_fn "<lambda>" (X.env.qual ++ "<lambda>") params body scope (cloFrom X.env.cells scope.names []) pm (.ref c') ctv) ⟨[], []⟩ = pure [])
    (tk : Takes ((cxOf CXg X.prog X.w X.K X.mg X.base Ng qg sg g cdg X.A X.stack s H Eg).tr pn xe) W) (hr : Room (k + 1) (X.A.deeper (envOfC qg sg s.heap.objs.size g cdg)))
    (hbody : ∀ (A : Around) (outer : List Env) (s : Shared) (H : Hp) (E : XK), Room k (A.deeper (lamEnv X scope s.heap.objs.size f c')) → Takes (lamCx X A outer s H E scope f c') (fun cls d _ H => E cls d H) → PE (lamCx X A outer s H E scope f c') body (tb E))
    (hN : Ng[i]? = some a) (hv : Vis sg a) (hd : (a == ("__debug__" : Str)) = false := by decide) (hcd : (a == ("__classdict__" : Str)) = false := by decide) :
    PE ((cxOf CXg X.prog X.w X.K X.mg X.base Ng qg sg g cdg X.A X.stack s H Eg).tr pn xe) (.Call (.Name a p1) [] [] p2)
      (fun σZ HZ Q => σZ[i]? = some (some (.ref f)) ∧ HZ c' = some (CodeO c' (X.env.qual ++ "<lambda>")) ∧ tb (WE W σZ) σ HZ Q) := by
  refine ⟨fun pinsZ sZ σZ HZ Q IZ h => ?_⟩
  obtain ⟨hs, hc, ht⟩ := h
  refine wpAny_Call_Name_kw (thn ((pe_var (pos := p1) (i := i) hN hv hd hcd).run pinsZ sZ σZ HZ (fun v H1 => v = .ref f ∧ H1 = HZ) IZ ⟨.ref f, hs, rfl, rfl⟩) fun u s1 ⟨v, H1, I1, r1, q1⟩ => ?_)
  obtain ⟨ev, eH⟩ := q1
  subst ev
  rw [eH] at I1
  obtain rfl : u = Value.ref f := r1
  have of1 : s1.heap.get? f = some (PySem.W.kla_obj "<lambda>" (X.env.qual ++ "<lambda>") params body scope (cloFrom X.env.cells scope.names []) pm c' ctv) := I1.base.keep f _ hf hfn hfr (fun z => nomatch (show f ∈ ([] : List Addr) from z))
  refine PySem.W.callWith_F0 ⟨_, _, _, _, of1⟩ ?_
  have un : Un (frs X.stack) [] H HZ s.heap s1.heap := I1.base
  obtain ⟨⟨oc, vs, t, hoc, hdc, hvc⟩, _, _⟩ := I1.hok c' _ hc
  have rc : codeAny (model X.prog X.w) (X.A.deeper (envOfC qg sg s.heap.objs.size g cdg)) (.call (.ref f) ⟨[], []⟩) (CR (L2.CX X.prog X.w) (envOfC qg sg s.heap.objs.size g cdg :: X.stack) X.prog X.w HZ s1 Q (WE W σZ)) s1 := by
    refine PySem.W.kla_callFunE hr.depth of1 rfl L.co L.gen rfl ⟨c', oc, vs, t, rfl, hoc, hdc, hvc⟩ ?_
    rw [hbind]
    refine wpAny_pure (wpAny_newFunctionEnv (fun y hy => (L.own y hy).2) (fun y hy => absurd hy (by simp)) (fun h₁ hns hsb => ⟨I1.nolimit.fresh _ hsb, ?_⟩) L.kind)
    show codeAny _ _ (.expr body (lamEnv X scope s1.heap.objs.size f c')) _ _
    have kp : ∀ b o, s1.heap.get? b = some o → h₁.get? b = some o := fun b o e => hsb.extBut b o (Nat.ne_of_lt (Heap.lt_size e)) (Heap.get?_push_of_some _ e)
    have J : Inv (lamCx X (X.A.deeper (envOfC qg sg s.heap.objs.size g cdg)) (envOfC qg sg s.heap.objs.size g cdg :: X.stack) s1 HZ (WE W σZ) scope f c') [] σ HZ { s1 with heap := h₁, toks := s1.toks + ([] : List (Str × Value)).length } :=
      lam_start2 I L I1.env0 hr.hd un hns kp
    refine PySem.W.kla_codeExpr (wpAny_mono ((hbody _ _ s1 HZ _ (hr.deeper _) (takes_of rfl rfl rfl rfl)).run [] _ _ HZ Q J ht) (fun v s' hq => ?_) fun e s' hq => hq)
    obtain ⟨w', H', J', rv, q⟩ := hq
    exact ⟨w', H', J'.os, J'.bare, J'.base, J'.hok, rv, q⟩
  have hx : PassesAt (L2.CX X.prog X.w) ((cxOf CXg X.prog X.w X.K X.mg X.base Ng qg sg g cdg X.A X.stack s H Eg).tr pn xe) σZ (WE W σZ) := passAt tk σZ
  refine wpAny_call (codeAny_mono rc fun r s' hq => ?_)
  cases r with
  | error e => exact hx pinsZ HZ s1 e s' I1 hq
  | ok fl =>
    cases fl with
    | ret u => exact I1.after hq
    | next => exact False.elim hq
    | brk => exact False.elim hq
    | cont => exact False.elim hq
end
/-- the def that calls what it got: a calls it; TT: what it makes of the lambda's reading -/
def GivesU (X : Cx) (Ng : List Str) (x : Str) (sg : Scope) (g : Addr) (cdg : Value) (bg : List Stmt) (a : Str) (q : Str) (TT : (XK → Hp → VK → Prop) → Hp → VK → Prop) : Prop :=
  ∀ (f c' : Addr) (s : Shared) (H : Hp) (Q : VK) (tl : XK → Hp → VK → Prop),
    (∀ (W : WX) (pn : List (Addr × Obj)) (xe : Value → Shared → Prop) (p1 p2 : Pos), Takes ((cxOf C8.CX0 X.prog X.w X.K X.mg X.base Ng x sg g cdg X.A X.stack s H C8.E0).tr pn xe) W →
      PE ((cxOf C8.CX0 X.prog X.w X.K X.mg X.base Ng x sg g cdg X.A X.stack s H C8.E0).tr pn xe) (.Call (.Name a p1) [] [] p2) (fun σZ HZ Q => σZ[0]? = some (some (.ref f)) ∧ HZ c' = some (CodeO c' q) ∧ tl (WE W σZ) HZ Q)) →
    H c' = some (CodeO c' q) → TT tl H Q →
    ∃ t, PSs (cxOf C8.CX0 X.prog X.w X.K X.mg X.base Ng x sg g cdg X.A X.stack s H C8.E0).nox bg t ∧ t { nx := fun _ H' => Q .non H', rt := Q } (L2.start Ng [.ref f]) H

/-- x(lambda: body): TT, what x makes of the lambda's reading -/
def tLamU (P : Addr) (q : Str) (TT : (XK → Hp → VK → Prop) → Hp → VK → Prop) (t : XK → TE) : TE := fun σ H Q => TabS H P q ∧ ∀ H1, ButP P H H1 → TabS H1 P q → TT (fun E H' Q' => t E σ H' Q') H1 Q
section
variable {X : Cx}
theorem pe_lamU {TT : (XK → Hp → VK → Prop) → Hp → VK → Prop} {x a : Str} {g c P : Addr} {k : Nat} {pg : Arguments} {bg : List Stmt} {sg : Scope} {dV kV doc pm cdv ct oc : Value} {an od : Option Addr} {osl : Array (Option Value)} {Ng : List Str}
    {params : Arguments} {body : Expr} {scope : Scope} {t : XK → TE} {p lpos pos : Pos} (hg : Gl X x) (hm : X.mg x = some (.ref g)) (hk : PySem.W.keepIn X.K (.ref g) = true)
    (lk : X.K.lookup g = some ⟨oc, od, .func (PySem.W.fnOf x x pg bg sg dV kV doc pm an cdv ct), osl⟩) (hcg : PySem.W.codeIn X.K cdv x = true) (hb : L2.Binds X.K (PySem.W.fnOf x x pg bg sg dV kV doc pm an cdv ct) [a] []) (Sg : FnScope Ng [a] sg) (hNg : Ng[0]? = some a) (hva : Vis sg a)
    (hG : GivesU X Ng x sg g cdv bg a (X.env.qual ++ "<lambda>") TT)
    (TB : TabB X.base X.mg c P) (hcode : X.env.code = .ref c) (hr : Room (k + 2) X.A) (L : LamS X.env.scope scope) (hdef : defaultsOf params X.env = ([], []))
    (hbind : ∀ (q : Str) (cl : List (Str × Addr)) (pm cv ctv : Value), bindArgs (PySem.W.kla_fn "<lambda>" q params body scope cl pm cv ctv) ⟨[], []⟩ = pure [])
    (hbody : ∀ (A : Around) (outer : List Env) (s : Shared) (H : Hp) (E : XK) (f c' : Addr), Room k (A.deeper (lamEnv X scope s.heap.objs.size f c')) → Takes (lamCx X A outer s H E scope f c') (fun cls d _ H => E cls d H) → PE (lamCx X A outer s H E scope f c') body (t E))
    (hdb : (x == ("__debug__" : Str)) = false := by decide) (hd : (a == ("__debug__" : Str)) = false := by decide) (hcd : (a == ("__classdict__" : Str)) = false := by decide) :
    PE X (.Call (.Name x p) [.Lambda params body scope lpos] [] pos) (tLamU P (X.env.qual ++ "<lambda>") TT t) := by
  refine ⟨fun pins s σ H Q I h => ?_⟩
  obtain ⟨hT, h⟩ := h
  refine wpAny_Call_Name_kw (ld_glob I hg hm ?_ hdb)
  refine PySem.W.callWith_K (h₀ := X.base) I.ok.mod.kin hk ?_ (by rfl) (by rfl)
  show wpAny _ _ (spliced ((false, eval (.Lambda params body scope lpos) X.env) :: backTo pos (starEach [] X.env))) _ _ s
  refine Calls.spliced_cons (lam_make3 I TB hcode hT hdef (L.has I.ok) fun f c' pm' ctv H1 s' I1 eN T1 hf hfn hfr hco => ?_)
  refine Calls.spliced_nil ⟨I1.kIn, ?_⟩
  have rc : codeAny (model X.prog X.w) X.A (.call (.ref g) ⟨[.ref f], []⟩) (CR C8.CX0 X.stack X.prog X.w H1 s' Q C8.E0) s' := by
    refine run_ofS (N := Ng) (ps := [a]) (us := [.ref f]) (vs := [.ref f]) lk hcg Sg hr I1.env0 (hb s' [.ref f] I1.kIn rfl) (.cons rfl .nil) rfl fun hr' => ?_
    obtain ⟨t', ht', hq'⟩ := hG f c' s' H1 Q (fun E H' Q' => t E σ H' Q') (fun W pn xe p1 p2 tk => pe_act3 (i := 0) (tb := t) I1 L hf hfn hfr (hbind _ _ _ _ _) tk hr' (fun A outer s H E hr2 tk2 => hbody A outer s H E f c' hr2 tk2) hNg hva hd hcd) hco (h H1 eN T1)
    exact ⟨t', ht'.nox, hq'⟩
  refine wpAny_call (codeAny_mono rc fun r s2 hq => ?_)
  cases r with
  | error e => exact (show False from hq).elim
  | ok fl =>
    cases fl with
    | ret u => exact I1.after hq
    | next => exact False.elim hq
    | brk => exact False.elim hq
    | cont => exact False.elim hq
end

/-! ### defs in whose bodies lambdas stand; defs that call what they got -/
def lamQ (x : Str) : Str := x ++ ".<locals>." ++ "<lambda>"
structure TopFL (K : PySem.W.Frag) (mg : Str → Option Value) (x : Str) (st : Stmt) (c : Addr) : Prop where
  ex : ∃ (f : Addr) (oc : Value) (od : Option Addr) (kV doc pm : Value) (an : Option Addr) (ct : Value) (osl : Array (Option Value)), mg x = some (.ref f) ∧ PySem.W.keepIn K (.ref f) = true ∧
    K.lookup f = some ⟨oc, od, .func (PySem.W.fnOf x x (defArgs st) (defBody st) (defScope st) .none kV doc pm an (.ref c) ct), osl⟩ ∧ PySem.W.codeIn K (.ref c) x = true
section
variable {P : Program} {w : World} {K : PySem.W.Frag} {mg : Str → Option Value} {base : Heap} {x a : Str} {c : Addr} {k : Nat} {ps : List Str} {sp : Sp}
theorem Cal.mkL {st : Stmt} {N : List Str} (F : TopFL K mg x st c) (S : FnScope N ps (defScope st))
    (hb : ∀ (kV doc pm : Value) (an : Option Addr) (cdv ct : Value) (us : List Value), us.length = ps.length → bindArgs (PySem.W.fnOf x x (defArgs st) (defBody st) (defScope st) .none kV doc pm an cdv ct) ⟨us, []⟩ = pure (ps.zip us))
    (len : ∀ vs H Q E, sp vs H Q E → vs.length = ps.length)
    (hbody : ∀ (f : Addr) (A : Around) (outer : List Env) (s : Shared) (H : Hp) (vs : List V) (Q : VK) (E : XK), Room k (A.deeper (envOfC x (defScope st) s.heap.objs.size f (.ref c))) →
      Takes (cxOf (L2.CX P w) P w K mg base N x (defScope st) f (.ref c) A outer s H E) (fun cls d _ H => E cls d H) → PassesOwn (model P w) (cxOf (L2.CX P w) P w K mg base N x (defScope st) f (.ref c) A outer s H E).A (cxOf (L2.CX P w) P w K mg base N x (defScope st) f (.ref c) A outer s H E).env (cxOf (L2.CX P w) P w K mg base N x (defScope st) f (.ref c) A outer s H E).xe →
      sp vs H Q E → ∃ t, PSs (cxOf (L2.CX P w) P w K mg base N x (defScope st) f (.ref c) A outer s H E) (defBody st) t ∧ t { nx := fun _ H' => Q .non H', rt := Q } (L2.start N vs) H) : Cal P w K mg base x (k + 1) ps sp := by
  obtain ⟨f, oc, od, kV, doc, pm, an, ct, osl, hm, kp, lk, hcd⟩ := F.ex
  have F' : Fun K x x st f (PySem.W.fnOf x x (defArgs st) (defBody st) (defScope st) .none kV doc pm an (.ref c) ct) := ⟨⟨oc, od, kV, doc, pm, an, .ref c, ct, osl, rfl, lk, hcd⟩, kp⟩
  exact ⟨f, _, hm, kp, F'.binds hb, fn_of lk hcd S len fun A outer s H vs Q E hr h => hbody f A outer s H vs Q E hr (takes_of rfl rfl rfl rfl) (passes_of rfl) h⟩
/-- x(a): a def that calls the a that it got; TT: what it makes of a's reading -/
structure CalT (P : Program) (w : World) (K : PySem.W.Frag) (mg : Str → Option Value) (base : Heap) (x a : Str) (TT : (XK → Hp → VK → Prop) → Hp → VK → Prop) : Prop where
  ex : ∃ (g : Addr) (oc : Value) (od : Option Addr) (pg : Arguments) (bg : List Stmt) (sg : Scope) (dV kV doc pm : Value) (an : Option Addr) (cdv ct : Value) (osl : Array (Option Value)) (Ng : List Str), mg x = some (.ref g) ∧ PySem.W.keepIn K (.ref g) = true ∧
    K.lookup g = some ⟨oc, od, .func (PySem.W.fnOf x x pg bg sg dV kV doc pm an cdv ct), osl⟩ ∧ PySem.W.codeIn K cdv x = true ∧ L2.Binds K (PySem.W.fnOf x x pg bg sg dV kV doc pm an cdv ct) [a] [] ∧ FnScope Ng [a] sg ∧ Ng[0]? = some a ∧ Vis sg a ∧
    ∀ (X : Cx) (q : Str), X.prog = P → X.w = w → X.K = K → X.mg = mg → X.base = base → GivesU X Ng x sg g cdv bg a q TT
def tAct (f c' : Addr) (q : Str) (tl : XK → Hp → VK → Prop) (W : WX) : TE := fun σ H Q => σ[0]? = some (some (.ref f)) ∧ H c' = some (CodeO c' q) ∧ tl (WE W σ) H Q
theorem pe_actU {Z : Cx} {W : WX} {f c' : Addr} {q : Str} {tl : XK → Hp → VK → Prop} {e : Expr}
    (act : PE Z e (fun σZ HZ Q => σZ[0]? = some (some (.ref f)) ∧ HZ c' = some (CodeO c' q) ∧ tl (WE W σZ) HZ Q)) : PE Z e (tAct f c' q tl W) := act
theorem CalT.mk' {TT : (XK → Hp → VK → Prop) → Hp → VK → Prop} {st : Stmt} {N : List Str} (F : TopF K mg x st) (S : FnScope N [a] (defScope st)) (hN : N[0]? = some a) (hv : Vis (defScope st) a)
    (hb : ∀ (kV doc pm : Value) (an : Option Addr) (cdv ct : Value) (us : List Value), us.length = [a].length → bindArgs (PySem.W.fnOf x x (defArgs st) (defBody st) (defScope st) .none kV doc pm an cdv ct) ⟨us, []⟩ = pure ([a].zip us))
    (hG : ∀ (X : Cx) (g : Addr) (cdg : Value) (q : Str), X.prog = P → X.w = w → X.K = K → X.mg = mg → X.base = base → GivesU X N x (defScope st) g cdg (defBody st) a q TT) : CalT P w K mg base x a TT := by
  obtain ⟨f, fd, hm, F⟩ := F.ex
  obtain ⟨oc, od, kV, doc, pm, an, cdv, ct, osl, rfl, lk, hcd⟩ := F.ex
  exact ⟨f, oc, od, _, _, _, _, kV, doc, pm, an, cdv, ct, osl, N, hm, F.kp, lk, hcd, F.binds hb, S, hN, hv, fun X q h1 h2 h3 h4 h5 => hG X f cdv q h1 h2 h3 h4 h5⟩
end
section
variable {X : Cx}
theorem pe_lamT {TT : (XK → Hp → VK → Prop) → Hp → VK → Prop} {x a : Str} {c P : Addr} {k : Nat} {params : Arguments} {body : Expr} {scope : Scope} {t : XK → TE} {p lpos pos : Pos} (C : CalT X.prog X.w X.K X.mg X.base x a TT) (hg : Gl X x)
    (TB : TabB X.base X.mg c P) (hcode : X.env.code = .ref c) (hr : Room (k + 2) X.A) (L : LamS X.env.scope scope) (hdef : defaultsOf params X.env = ([], []))
    (hbind : ∀ (q : Str) (cl : List (Str × Addr)) (pm cv ctv : Value), bindArgs (PySem.W.kla_fn "<lambda>" q params body scope cl pm cv ctv) ⟨[], []⟩ = pure [])
    (hbody : ∀ (A : Around) (outer : List Env) (s : Shared) (H : Hp) (E : XK) (f c' : Addr), Room k (A.deeper (lamEnv X scope s.heap.objs.size f c')) → Takes (lamCx X A outer s H E scope f c') (fun cls d _ H => E cls d H) → PE (lamCx X A outer s H E scope f c') body (t E))
    (hdb : (x == ("__debug__" : Str)) = false := by decide) (hd : (a == ("__debug__" : Str)) = false := by decide) (hcd : (a == ("__classdict__" : Str)) = false := by decide) :
    PE X (.Call (.Name x p) [.Lambda params body scope lpos] [] pos) (tLamU P (X.env.qual ++ "<lambda>") TT t) := by
  obtain ⟨g, oc, od, pg, bg, sg, dV, kV, doc, pm, an, cdv, ct, osl, Ng, hm, hk, lk, hcg, hb, Sg, hNg, hva, hG⟩ := C.ex
  exact pe_lamU hg hm hk lk hcg hb Sg hNg hva (hG X _ rfl rfl rfl rfl rfl) TB hcode hr L hdef hbind hbody hdb hd hcd
end

section
variable {σ : L2.St} {H : Hp} {Q : VK}
theorem hk_act {f c' : Addr} {q : Str} {tl : XK → Hp → VK → Prop} {W : WX} (h1 : σ[0]? = some (some (.ref f))) (h2 : H c' = some (CodeO c' q)) (h : tl (fun cls d H => W cls d σ H) H Q) : tAct f c' q tl W σ H Q := ⟨h1, h2, h⟩
theorem hk_lam {P : Addr} {q : Str} {L : List HP} {TT : (XK → Hp → VK → Prop) → Hp → VK → Prop} {t : XK → TE} (S : Hold H (tab P q :: L)) (h : ∀ H1, Hold H1 (tab P q :: L) → TT (fun E H' Q' => t E σ H' Q') H1 Q) : tLamU P q TT t σ H Q :=
  ⟨S.tabS List.mem_cons_self, fun H1 e t => h H1 (S.tabbed e t)⟩
end

/-! ### the law's argument -/
def sq (K : PySem.W.Frag) (a : Addr) (xs : List V) : HP where
  on := fun fp H => (fp = [] ∧ FrL K H a xs) ∨ (fp = [a] ∧ H a = some (.lst xs))
  st := fun fp H H' h e i => by
    rcases h with ⟨h1, h2⟩ | ⟨h1, h2⟩
    · exact .inl ⟨h1, h2.elim (fun ⟨o, h⟩ => .inl ⟨o, i a _ h trivial⟩) .inr⟩
    · exact .inr ⟨h1, by rw [e a (by rw [h1]; simp)]; exact h2⟩
  al := fun fp H h b hb => by
    rcases h with ⟨h1, h2⟩ | ⟨h1, h2⟩
    · rw [h1] at hb; simp at hb
    · rw [h1] at hb
      have : b = a := by simpa using hb
      subst this
      exact ⟨_, h2, trivial⟩
theorem Hold.sqq {K : PySem.W.Frag} {H : Hp} {L : List HP} {a : Addr} {xs : List V} (h : Hold H L) (m : sq K a xs ∈ L) : SqL K H a xs := by
  obtain ⟨fp, h⟩ := h.at m
  rcases h with ⟨_, h⟩ | ⟨_, h⟩
  · exact h.sq
  · exact SqL.of h
def tabsL (ts : List (Addr × Str)) : List HP := ts.map fun p => tab p.1 p.2
theorem tabs_hold {H : Hp} : ∀ {ts : List (Addr × Str)}, (∀ p ∈ ts, H p.1 = some (.tbl #[])) → All2 (tabsL ts) (ts.map fun p => [p.1]) H
  | [], _ => .nil
  | p :: ts, h => .cons ⟨rfl, TabS.nil (h p List.mem_cons_self)⟩ (tabs_hold fun q hq => h q (List.mem_cons_of_mem _ hq))
theorem law_start {K : PySem.W.Frag} {H : Hp} {a : Addr} {xs : List V} {ts : List (Addr × Str)} (ha : SqL K H a xs) (nd : (ts.map (·.1)).Nodup) (ht : ∀ p ∈ ts, H p.1 = some (.tbl #[])) : Hold H (sq K a xs :: tabsL ts) := by
  have e : ∀ ts : List (Addr × Str), (ts.map fun p => [p.1]).flatten = ts.map (·.1) := by
    intro ts
    induction ts with
    | nil => rfl
    | cons p ts ih => rw [List.map_cons, List.flatten_cons, ih]; rfl
  have fin : FrL K H a xs → Hold H (sq K a xs :: tabsL ts) := fun h => ⟨[] :: _, .cons (.inl ⟨rfl, h⟩) (tabs_hold ht), by rw [List.flatten_cons, e]; exact nd⟩
  rcases ha with (h | h) | h
  · refine ⟨[a] :: _, .cons (.inr ⟨rfl, h⟩) (tabs_hold ht), ?_⟩
    rw [List.flatten_cons, e]
    refine List.nodup_cons.mpr ⟨fun hm => ?_, nd⟩
    obtain ⟨p, hp, q⟩ := List.mem_map.mp hm
    have := ht p hp
    rw [q, h] at this
    cases this
  · exact fin (.inl h)
  · exact fin (.inr h)
end Sw

/-! Sw: the end of a law. -/
namespace Sw
open PySem PySem.Spec PyProof.Rows L2 LamX

/-- as walk_ofTs; what is known of the loose names is handed on -/
theorem walk_ofTX {l : PySem.W.OpenLaw} {n k : Nat} {q : Program} {loose : List Str} {XP : (Str → Option Value) → Heap → Prop} {YP : World → Heap → Prop} {d : DefRec} {K : Params → PySem.W.Frag} {CX : World → CXT} {x : Str}
    (hn : l.most = some n) (hn2 : n ≤ sizeLine) (hdf : d.params.defaults = []) (hr : Room k callerA) (hY : ∀ (w : World) (h : Heap), YP w h → (K w.params).In h)
    (F : ∀ (w : World) (mg : Str → Option Value) (fa : Addr) (h : Heap), YP w h → XP mg h → (K w.params).In h → h.Ns mainGlobals mg → mg d.name = some (.ref fa) → LawAtS l w (K w.params) (CX w) k n x mg fa h)
    (hCX : ∀ (w : World) (H : Hp) (s : Shared) (e : Value) (s' : Shared), CX w [] H s (fun _ _ _ => False) e s' → False) :
    PySem.W.WalkO q loose XP YP l.row.toRowW d [] (fun f vs => PySem.call f vs) := by
  refine Att.attach_callB hn hdf fun w s₀ s₁ mg mb fa o pm cd doc a vs ns G Y ho hd hcd hmg hobj hints hlen hbits hg => ?_
  have KX := hY w _ Y
  obtain ⟨fd, cs, sp, hT, nT, C, hb, hsp, hF⟩ := F w mg fa _ Y G.X KX G.T.g hmg
  exact law_callTs KX G.T.g G.T.b G.T.builtins G.T.nolimit hg hT nT C G.T.bmain hobj hints (Nat.le_trans hlen hn2) hr hF hb (fun H hH hS => hsp H a ns hlen hbits hH hS) fun H e s' => hCX w H s₁ e s'
theorem cx_never {P : Program} {w : World} {H : Hp} {s : Shared} {e : Value} {s' : Shared} (h : L2.CX P w [] H s (fun _ _ _ => False) e s') : False := by
  obtain ⟨_, _, _, _, _, _, _, _, _, _, _, _, z⟩ := h
  exact z

section
variable {K : PySem.W.Frag} {h : Heap} {mg : Str → Option Value} {x qual : Str} {st : Stmt} {f C fI : Addr} {oc kV dc pm cd ct : Value} {od an : Option Addr} {sl : Array (Option Value)} {n : Int} {t : Tok}
theorem TopF.k (X : K.In h) (G : h.Ns mainGlobals mg) (a : PySem.W.nsIn K mainGlobals x = some (some (.ref f))) (l : K.lookup f = some ⟨oc, od, .func (PySem.W.fnOf x x (defArgs st) (defBody st) (defScope st) .none kV dc pm an cd ct), sl⟩)
    (c : PySem.W.codeIn K cd x = true) (k : PySem.W.keepIn K (.ref f) = true) : TopF K mg x st := ⟨f, _, PySem.W.mg_of X G a, ⟨⟨oc, od, kV, dc, pm, an, cd, ct, sl, rfl, l, c⟩, k⟩⟩
theorem TopFL.k {cc : Addr} (X : K.In h) (G : h.Ns mainGlobals mg) (a : PySem.W.nsIn K mainGlobals x = some (some (.ref f))) (l : K.lookup f = some ⟨oc, od, .func (PySem.W.fnOf x x (defArgs st) (defBody st) (defScope st) .none kV dc pm an (.ref cc) ct), sl⟩)
    (c : PySem.W.codeIn K (.ref cc) x = true) (k : PySem.W.keepIn K (.ref f) = true) : TopFL K mg x st cc := ⟨f, oc, od, kV, dc, pm, an, ct, sl, PySem.W.mg_of X G a, k, l, c⟩
theorem TopM.k (X : K.In h) (G : h.Ns mainGlobals mg) (a : PySem.W.findIn K (.ref C) x = some (some (.ref f))) (hf : PySem.W.isFn K (.ref f) = true) (k : PySem.W.keepIn K (.ref f) = true)
    (l : K.lookup f = some ⟨oc, od, .func (PySem.W.fnOf x qual (defArgs st) (defBody st) (defScope st) .none kV dc pm an cd ct), sl⟩) (c : PySem.W.codeIn K cd qual = true) : TopM K C x qual st := ⟨f, _, ⟨a, hf, k⟩, ⟨⟨oc, od, kV, dc, pm, an, cd, ct, sl, rfl, l, c⟩, k⟩⟩
theorem OexC.k {nm q : Str} {N : Addr} {bs bm : List Value} {sn : List Str} {sub : List Value} {ab : Bool} {col : Option Bool} {dd : Option Addr} {k0 k1 k2 k3 k5 : Option Value}
    (l : K.lookup C = some (excClassObj nm q C N bs bm true sn sub ab col dd k0 k1 k2 k3 k5 "ValueError.__new__")) (r : PySem.HandSPX.refsVE bm = true) (sa : PySem.W.findIn K (.ref C) "__setattr__" = some (some (.builtin "object.__setattr__")))
    (ex : PySem.W.subIn K (.ref C) (.type "BaseException") = some true) (ty : PySem.W.typeIn K (.ref C) = some (.type "type")) (k : PySem.W.keepIn K (.ref C) = true) : OexC K C := ⟨⟨nm, q, N, bs, bm, sn, sub, ab, col, dd, k0, k1, k2, k3, k5, l, r⟩, sa, ex, ty, k⟩
theorem TopE.k {fs : List Str} (X : K.In h) (G : h.Ns mainGlobals mg) (a : PySem.W.nsIn K mainGlobals x = some (some (.ref C))) (o : OexC K C) (i : PySem.W.findIn K (.ref C) "__init__" = some (some (.ref fI))) (ti : PySem.W.typeIn K (.ref fI) = some (.type "function"))
    (l : K.lookup fI = some ⟨oc, od, .func (PySem.W.fnOf "__init__" qual (defArgs st) (defBody st) (defScope st) .none kV dc pm an cd ct), sl⟩) (c : PySem.W.codeIn K cd qual = true) (k : PySem.W.keepIn K (.ref fI) = true)
    (no : ∀ f ∈ fs, PySem.W.findIn K (.ref C) f = some none) : TopE K mg x qual C fs st := ⟨⟨fI, _, PySem.W.mg_of X G a, o, i, ti, ⟨⟨oc, od, kV, dc, pm, an, cd, ct, sl, rfl, l, c⟩, k⟩⟩, o, no⟩
theorem no1 {f : Str} (a : PySem.W.findIn K (.ref C) f = some none) : ∀ g ∈ [f], PySem.W.findIn K (.ref C) g = some none := fun g hg => by
  have : g = f := by simpa using hg
  rw [this]; exact a
theorem no2 {f g : Str} (a : PySem.W.findIn K (.ref C) f = some none) (b : PySem.W.findIn K (.ref C) g = some none) : ∀ u ∈ [f, g], PySem.W.findIn K (.ref C) u = some none := fun u hu => by
  rcases List.mem_cons.mp hu with e | e
  · rw [e]; exact a
  · have : u = g := by simpa using e
    rw [this]; exact b
theorem gInt (X : K.In h) (G : h.Ns mainGlobals mg) (a : PySem.W.nsIn K mainGlobals x = some (some (.int n t))) : ∃ u, mg x = some u ∧ RelV (.int n) u := ⟨_, PySem.W.mg_of X G a, ⟨t, rfl⟩⟩
theorem gRef (X : K.In h) (G : h.Ns mainGlobals mg) (a : PySem.W.nsIn K mainGlobals x = some (some (.ref f))) : ∃ u, mg x = some u ∧ RelV (.ref f) u := ⟨_, PySem.W.mg_of X G a, rfl⟩
theorem gLoose {p : Program} {lv : List (Str × PySem.W.WData)} (X : PySem.W.XL p lv mg h) (m : (x, PySem.W.WData.int n) ∈ lv) : ∃ u, mg x = some u ∧ RelV (.int n) u := by
  obtain ⟨v, a, r⟩ := X.2.val _ m
  cases r
  exact ⟨_, a, ⟨_, rfl⟩⟩
theorem k4 {s1 s2 s3 s4 : Str} {t1 t2 t3 t4 : Tok} {nn : Nat} {dd : Option Addr} (l : K.lookup f = some ⟨.type "tuple", dd, .seq #[.str s1 t1, .str s2 t2, .str s3 t3, .str s4 t4] nn, sl⟩) : ∀ H, SqT K H f [.str s1, .str s2, .str s3, .str s4] := fun H =>
  .inr ⟨_, _, _, l, rfl, rfl, by show 4 ≤ sizeLine; decide, .cons ⟨_, rfl⟩ (.cons ⟨_, rfl⟩ (.cons ⟨_, rfl⟩ (.cons ⟨_, rfl⟩ .nil)))⟩
def excB (K : PySem.W.Frag) (D : Addr) : Bool :=
  decide (PySem.W.findIn K (.ref D) "__getattribute__" = some (some (.builtin "BaseException.__getattribute__"))) && (decide (PySem.W.findIn K (.ref D) "__getattr__" = some none) && (decide (PySem.W.subIn K (.ref D) (.type "BaseException") = some true) && (PySem.W.hasDictIn K D &&
  (decide (PySem.W.findIn K (.ref D) "__class__" = some (some (.builtin "object.__class__"))) && (decide (PySem.W.specialIn K (.builtin "object.__class__") "__get__" = some (some (.builtin "getset_descriptor.__get__"))) && (decide (PySem.W.takesIn K (.builtin "object.__class__") = some true) && decide (PySem.W.mroIn K D (.type "object") = some true)))))))
theorem ExcC.k {D : Addr} (h1 : PySem.W.findIn K (.ref D) "__getattribute__" = some (some (.builtin "BaseException.__getattribute__"))) (h2 : PySem.W.findIn K (.ref D) "__getattr__" = some none) (h3 : PySem.W.subIn K (.ref D) (.type "BaseException") = some true) (h4 : PySem.W.hasDictIn K D = true)
    (h5 : PySem.W.findIn K (.ref D) "__class__" = some (some (.builtin "object.__class__"))) (h6 : PySem.W.specialIn K (.builtin "object.__class__") "__get__" = some (some (.builtin "getset_descriptor.__get__"))) (h7 : PySem.W.takesIn K (.builtin "object.__class__") = some true) (h8 : PySem.W.mroIn K D (.type "object") = some true) : ExcC K D := ⟨h1, h2, h3, h4, h5, h6, h7, h8⟩
theorem kit_k {D E : Addr} {b : Bool} (hd : (Value.ref D == Value.ref E) = false) (h1 : PySem.W.isClsIn K E = true) (h2 : PySem.W.typeIn K (.ref E) = some (.type "type")) (h3 : PySem.W.subIn K (.ref D) (.ref E) = some b) : PySem.W.kitOne K (.ref D) (.ref E) = some b := by
  unfold PySem.W.kitOne
  rw [if_neg (by rw [hd]; decide)]
  have e2 : ((PySem.W.clsIn K E).isSome && PySem.W.typeIn K (.ref E) == some (.type "type")) = true := by
    have h1' : (PySem.W.clsIn K E).isSome = true := h1
    rw [h1', h2] <;> rfl
  show (if ((PySem.W.clsIn K E).isSome && PySem.W.typeIn K (.ref E) == some (.type "type")) = true then PySem.W.subIn K (.ref D) (.ref E) else none) = some b
  rw [if_pos e2]
  exact h3

end

/-- the law's own promise -/
structure CalX (P : Program) (w : World) (K : PySem.W.Frag) (mg : Str → Option Value) (base : Heap) (x : Str) (k : Nat) (ps : List Str) (sp : Sp) : Prop where
  ex : ∃ f fd oc od sl, mg x = some (.ref f) ∧ K.lookup f = some ⟨oc, od, .func fd, sl⟩ ∧ FnOk P w K mg base (L2.CX P w) k f fd ps sp
theorem CalX.mk' {P : Program} {w : World} {K : PySem.W.Frag} {mg : Str → Option Value} {base : Heap} {x : Str} {k : Nat} {ps : List Str} {sp : Sp} {st : Stmt} {N : List Str} (F : TopF K mg x st) (S : FnScope N ps (defScope st))
    (len : ∀ vs H Q E, sp vs H Q E → vs.length = ps.length)
    (hbody : ∀ (f : Addr) (cdv : Value) (A : Around) (outer : List Env) (s : Shared) (H : Hp) (vs : List V) (Q : VK) (E : XK), Room k (A.deeper (envOfC x (defScope st) s.heap.objs.size f cdv)) →
      Takes (cxOf (L2.CX P w) P w K mg base N x (defScope st) f cdv A outer s H E) (fun cls d _ H => E cls d H) → PassesOwn (model P w) (cxOf (L2.CX P w) P w K mg base N x (defScope st) f cdv A outer s H E).A (cxOf (L2.CX P w) P w K mg base N x (defScope st) f cdv A outer s H E).env (cxOf (L2.CX P w) P w K mg base N x (defScope st) f cdv A outer s H E).xe →
      sp vs H Q E → ∃ t, PSs (cxOf (L2.CX P w) P w K mg base N x (defScope st) f cdv A outer s H E) (defBody st) t ∧ t { nx := fun _ H' => Q .non H', rt := Q } (L2.start N vs) H) : CalX P w K mg base x (k + 1) ps sp := by
  obtain ⟨f, fd, hm, F⟩ := F.ex
  have F0 := F
  obtain ⟨oc, od, kV, doc, pm, an, cdv, ct, osl, rfl, lk, hcd⟩ := F0.ex
  exact ⟨f, _, oc, od, osl, hm, lk, F.okX S len fun cdv A outer s H vs Q E hr h => hbody f cdv A outer s H vs Q E hr (takes_of rfl rfl rfl rfl) (passes_of rfl) h⟩
end Sw

/-! Sw: further rules and readings. -/
namespace Sw
open PySem PySem.Spec PyProof.Rows L2

section
variable {K : PySem.W.Frag} {σ : L2.St} {H : Hp} {L R : List HP} {Q : VK} {D : Ends} {A B : Prop}
/-! ### while -/
theorem hk_while {c : TT} {tb : TS} (Pv : Nat → L2.St → Hp → Prop) (m0 : Nat) (h0 : Pv m0 σ H)
    (hs : ∀ m σ H, Pv m σ H → c σ H fun b H1 => kIf b (tb { D with nx := fun σ' H' => ∃ m', m' < m ∧ Pv m' σ' H', ct := fun σ' H' => ∃ m', m' < m ∧ Pv m' σ' H', bk := D.nx } σ H1) (D.nx σ H1))
    (mono : ∀ σ H (Q Q' : Bool → Hp → Prop), (∀ b H1, Q b H1 → Q' b H1) → c σ H Q → c σ H Q') : tWhile c tb D σ H := by
  refine ⟨Pv, ⟨m0, h0⟩, fun m σ H hP => mono σ H _ _ (fun b H1 h => ?_) (hs m σ H hP)⟩
  cases b with
  | true => exact ⟨_, fun σ' H' h => h, h⟩
  | false => exact h
/-! ### max, min of two ints -/
def rMax2 : List V → Hp → VK → Prop := fun xs H Q => ∃ i j, xs = [.int i, .int j] ∧ Q (.int (if j > i then j else i)) H
def rMin2 : List V → Hp → VK → Prop := fun xs H Q => ∃ i j, xs = [.int i, .int j] ∧ Q (.int (if j < i then j else i)) H
theorem cU_max2 {X : Cx} (hc : X.calm = true) : CallR X (.builtin "max") rMax2 := call_max2 hc
theorem cU_min2 {X : Cx} (hc : X.calm = true) : CallR X (.builtin "min") rMin2 := call_min2 hc
theorem hk_max2 {i j : Int} (q : Q (.int (if j > i then j else i)) H) : rMax2 [.int i, .int j] H Q := ⟨i, j, rfl, q⟩
theorem hk_min2 {i j : Int} (q : Q (.int (if j < i then j else i)) H) : rMin2 [.int i, .int j] H Q := ⟨i, j, rfl, q⟩
theorem hk_ltT {a b : Addr} {ns ms : List Int} (h1 : SqT K H a (ns.map V.int)) (h2 : SqT K H b (ms.map V.int)) (q : Q (.bl (HT.lexLt ns ms)) H) : rLtT K (.ref a) (.ref b) H Q := ⟨a, b, ns, ms, rfl, rfl, h1, h2, q⟩
/-! ### is None -/
def rIsN : R2 := fun x y H Q => y = .non ∧ Q (.bl (decide (x = .non))) H
def rNotN : R2 := fun x y H Q => y = .non ∧ Q (.bl (!decide (x = .non))) H
theorem opU_isN {X : Cx} : OpR X (compareOp .Is) rIsN := op_isN
theorem opU_notN {X : Cx} : OpR X (compareOp .IsNot) rNotN := op_notN
def isNon : V → Bool
  | .non => true
  | _ => false
theorem isNon_eq (x : V) : decide (x = .non) = isNon x := by cases x <;> rfl
theorem hk_rIsN {x : V} (q : Q (.bl (isNon x)) H) : rIsN x .non H Q := ⟨rfl, by rw [isNon_eq]; exact q⟩
theorem hk_rNotN {x : V} (q : Q (.bl (!isNon x)) H) : rNotN x .non H Q := ⟨rfl, by rw [isNon_eq]; exact q⟩
theorem hk_ifN0 (h : A) : kIf (isNon .non) A B := h
theorem hk_ifNi {n : Int} (h : B) : kIf (isNon (.int n)) A B := h
theorem hk_ifNr {a : Addr} (h : B) : kIf (isNon (.ref a)) A B := h
theorem hk_ifNs {x : Str} (h : B) : kIf (isNon (.str x)) A B := h
theorem hk_ifNb {x : Bool} (h : B) : kIf (isNon (.bl x)) A B := h
/-! ### comprehensions -/
def kLc (J : It) (g : TG) (tt : TT) (te : TE) (vs : List Nat) (σ : L2.St) (H1 : Hp) (Q : VK) : Prop := ∀ D, H1 D = none → ∃ W : Nat → Nat → Hp → Prop, (∃ m, W 0 m (upd H1 D (.lst []))) ∧ ∀ i m H, W i m H →
  (J.stop i H ∧ Q (.ref D) H) ∨ (J.go i H ∧ ∃ Nx : Hp → Prop, (∀ H', Nx H' → ∃ m', m' < m ∧ W (i + 1) m' H') ∧ ∀ x H', J.yld i H x H' → g x (wipe σ vs) H' fun σ2 H2 => wipe σ2 vs = wipe σ vs ∧ tt σ2 H2 fun b H3 =>
    if b = true then te σ2 H3 fun y H4 => ∃ acc, H4 D = some (.lst acc) ∧ acc.length < sizeLine ∧ Nx (upd H4 D (.lst (acc ++ [y]))) else Nx H3)
theorem h_lc {wi : TI} {g : TG} {tt : TT} {te : TE} {vs : List Nat} (h : wi σ H fun J H1 => kLc J g tt te vs σ H1 Q) : tLc wi g tt te vs σ H Q := h
/-- an item is put behind -/
def kPut (D : Addr) (Nx : Hp → Prop) (y : V) (H4 : Hp) : Prop := ∃ acc, H4 D = some (.lst acc) ∧ acc.length < sizeLine ∧ Nx (upd H4 D (.lst (acc ++ [y])))
theorem hk_put {Da : Addr} {Nx : Hp → Prop} {y : V} {acc : List V} (S : Hold H L) (pk : Pick (pt Da (.lst acc)) L R) (hz : acc.length < sizeLine) (q : ∀ H', Hold H' (pt Da (.lst (acc ++ [y])) :: R) → Nx H') : kPut Da Nx y H :=
  ⟨acc, S.get pk.mem, hz, q _ (S.wr pk trivial)⟩
theorem hk_lcL {a : Addr} {xs : List V} {g : TG} {tt : TT} {te : TE} {vs : List Nat} (S : Hold H L) (Pv : Addr → Nat → Hp → Prop) (h0 : ∀ p H', Hold H' (pt p (.lst []) :: L) → Pv p 0 H') (hl : ∀ p i H, i ≤ xs.length → Pv p i H → SqL K H a xs)
    (hs : ∀ p i x H, xs[i]? = some x → Pv p i H → g x (wipe σ vs) H fun σ2 H2 => wipe σ2 vs = wipe σ vs ∧ tt σ2 H2 fun b H3 => kIf b (te σ2 H3 fun y H4 => kPut p (Pv p (i + 1)) y H4) (Pv p (i + 1) H3))
    (hd : ∀ p H, Pv p xs.length H → Q (.ref p) H) : kLc (Itl K a) g tt te vs σ H Q := fun p hp => lc_list (Pv p) (h0 p _ (S.new hp trivial)) (hl p) (hs p) (hd p)
theorem hk_lcT {a : Addr} {xs : List V} {g : TG} {tt : TT} {te : TE} {vs : List Nat} (S : Hold H L) (Pv : Addr → Nat → Hp → Prop) (h0 : ∀ p H', Hold H' (pt p (.lst []) :: L) → Pv p 0 H') (hl : ∀ p i H, i ≤ xs.length → Pv p i H → SqT K H a xs)
    (hs : ∀ p i x H, xs[i]? = some x → Pv p i H → g x (wipe σ vs) H fun σ2 H2 => wipe σ2 vs = wipe σ vs ∧ tt σ2 H2 fun b H3 => kIf b (te σ2 H3 fun y H4 => kPut p (Pv p (i + 1)) y H4) (Pv p (i + 1) H3))
    (hd : ∀ p H, Pv p xs.length H → Q (.ref p) H) : kLc (Itt K a) g tt te vs σ H Q := fun p hp => lc_tup (Pv p) (h0 p _ (S.new hp trivial)) (hl p) (hs p) (hd p)
theorem hk_lcR {lo : Int} {n : Nat} {g : TG} {tt : TT} {te : TE} {vs : List Nat} (S : Hold H L) (Pv : Addr → Nat → Hp → Prop) (h0 : ∀ p H', Hold H' (pt p (.lst []) :: L) → Pv p 0 H')
    (hs : ∀ p i H, i < n → Pv p i H → g (.int (lo + i)) (wipe σ vs) H fun σ2 H2 => wipe σ2 vs = wipe σ vs ∧ tt σ2 H2 fun b H3 => kIf b (te σ2 H3 fun y H4 => kPut p (Pv p (i + 1)) y H4) (Pv p (i + 1) H3))
    (hd : ∀ p H, Pv p n H → Q (.ref p) H) : kLc (Itr lo n) g tt te vs σ H Q := fun p hp => lc_range (Pv p) (h0 p _ (S.new hp trivial)) (hs p) (hd p)
end

/-! ### min of a list of pairs of ints -/
/-- the items are pairs -/
def Prs (K : PySem.W.Frag) (H : Hp) (xs : List V) (ps : List (Int × Int)) : Prop := xs.length = ps.length ∧ ∀ (i : Nat) (p : Int × Int), ps[i]? = some p → ∃ a, xs[i]? = some (.ref a) ∧ SqT K H a [.int p.1, .int p.2]
def ltP (p q : Int × Int) : Bool := if p.1 = q.1 then decide (p.2 < q.2) else decide (p.1 < q.1)
def minP (x : Int × Int) (xs : List (Int × Int)) : Int × Int := xs.foldl (fun a y => if ltP y a = true then y else a) x
def rMinP (K : PySem.W.Frag) : List V → Hp → VK → Prop := fun vs H Q => ∃ (a : Addr) (xs : List V) (p : Int × Int) (ps : List (Int × Int)), vs = [.ref a] ∧ SqL K H a xs ∧ Prs K H xs (p :: ps) ∧
  ∀ b, SqT K H b [.int (minP p ps).1, .int (minP p ps).2] → Q (.ref b) H
section
variable {X : Cx} {pins : List (Addr × Obj)} {σ : L2.St} {H : Hp} {s : Shared}
theorem holds_pr {a : Addr} {p : Int × Int} (I : Inv X pins σ H s) (h : SqT X.K H a [.int p.1, .int p.2]) : PySem.W.Holds s.heap (.ref a) p := by
  obtain ⟨its, r, hp, _⟩ := I.tuple h
  cases r with
  | cons r1 r =>
    cases r with
    | cons r2 r =>
      cases r
      obtain ⟨t1, rfl⟩ := r1
      obtain ⟨t2, rfl⟩ := r2
      exact PySem.W.holds_pair (show s.heap.IsTuple a _ from hp) (PySem.W.holds_int _ _) (PySem.W.holds_int _ _)
theorem hold_prs (I : Inv X pins σ H s) : ∀ {ps : List (Int × Int)} {xs : List V} {its : List Value}, Prs X.K H xs ps → Vals xs its → PySem.W.HoldAll s.heap its ps
  | [], xs, its, h, r => by
    have e := h.1
    cases r with
    | nil => exact PySem.W.HoldAll.nil
    | cons _ _ => simp at e
  | p :: ps, xs, its, h, r => by
    obtain ⟨a, ha, hT⟩ := h.2 0 p rfl
    cases r with
    | nil => simp at ha
    | @cons x u xs us rx r =>
      have e : x = .ref a := by simpa using ha
      subst e
      obtain rfl : u = Value.ref a := rx
      exact PySem.W.HoldAll.cons (holds_pr I hT) (hold_prs I ⟨by simpa using h.1, fun i q hq => by
        obtain ⟨b, hb, hT⟩ := h.2 (i + 1) q (by simpa using hq)
        exact ⟨b, by simpa using hb, hT⟩⟩ r)
end
theorem readsAll_ints {h : Heap} {vs : List Value} {x1 x2 : Int} {as : List Addr} (r : ReadsAll h vs [.int x1, .int x2] as) : ∃ t1 t2, vs = [.int x1 t1, .int x2 t2] := by
  cases r with
  | cons r1 r =>
    cases r with
    | cons r2 r =>
      cases r
      cases r1
      cases r2
      exact ⟨_, _, rfl⟩
theorem holds_pr_inj {h : Heap} {a : Addr} {x y : Int × Int} (h1 : PySem.W.Holds h (.ref a) x) (h2 : PySem.W.Holds h (.ref a) y) : x = y := by
  obtain ⟨as, r1⟩ := h1
  obtain ⟨bs, r2⟩ := h2
  have r1 : Reads h (.ref a) (.tuple [.int x.1, .int x.2]) as := r1
  have r2 : Reads h (.ref a) (.tuple [.int y.1, .int y.2]) bs := r2
  cases r1 with
  | tuple e1 c1 d1 q1 =>
    cases r2 with
    | tuple e2 c2 d2 q2 =>
      rw [e1] at e2
      cases e2
      rw [d1] at d2
      injection d2 with d3 _
      subst d3
      obtain ⟨t1, t2, e⟩ := readsAll_ints q1
      obtain ⟨t3, t4, e'⟩ := readsAll_ints q2
      rw [e] at e'
      injection e' with e1 e2
      injection e2 with e2 _
      injection e1 with e1 _
      injection e2 with e2 _
      exact Prod.ext e1 e2
theorem cr_minP {X : Cx} (hc : X.calm = true) (hu : X.A.units + 64 < cLine) : CallR X (.builtin "min") (rMinP X.K) := by
  intro pins s σ H vs us Q I r h
  obtain ⟨a, xs, p, ps, rfl, hs, hp, q⟩ := h
  obtain ⟨its, rv, hl, _⟩ := I.list hs
  rw [Vals.ref1 r]
  have hA := hold_prs I hp rv
  refine PySem.W.min_list_datum (I.ok.hd hc) hl.isList (x := p) (xs := ps) (by simpa using hA) (by
    have : PySem.W.Datum.depth (Int × Int) ≤ 1 := by decide
    omega) fun i v h' tk hi hm hk => ?_
  have hi : its[i]? = some v := by simpa using hi
  obtain ⟨x, hx, hh⟩ := hA.at hi
  obtain ⟨b, hb, hT⟩ := hp.2 i x hx
  obtain ⟨u, hu', ru⟩ := rv.get hb
  rw [hi] at hu'
  cases hu'
  obtain rfl : v = Value.ref b := ru
  have e : x = minP p ps := holds_pr_inj (hh.keeps hk) hm
  subst e
  exact ⟨.ref b, H, I.kept hk, rfl, q b hT⟩
theorem hk_minP {K : PySem.W.Frag} {H : Hp} {Q : VK} {a : Addr} {xs : List V} {p : Int × Int} {ps : List (Int × Int)} (hs : SqL K H a xs) (hp : Prs K H xs (p :: ps)) (q : ∀ b, SqT K H b [.int (minP p ps).1, .int (minP p ps).2] → Q (.ref b) H) : rMinP K [.ref a] H Q := ⟨a, xs, p, ps, rfl, hs, hp, q⟩
end Sw

/-! Sw: sorted by a lambda's keys. -/
namespace Sw
open PySem PySem.Spec PyProof.Rows L2 LamX

/-! ### expressions that only read -/
def Grows (h h' : Heap) : Prop := ∀ b o, h.get? b = some o → h'.get? b = some o
theorem Grows.refl (h : Heap) : Grows h h := fun _ _ e => e
theorem Grows.trans {h h1 h2 : Heap} (a : Grows h h1) (b : Grows h1 h2) : Grows h h2 := fun c o e => b c o (a c o e)
/-- e's value, wherever all of h0 stands -/
def KV (P : Program) (w : World) (A : Around) (env : Env) (h0 : Heap) (e : Expr) (R : Value → Heap → Prop) : Prop :=
  ∀ (s : Shared) (Q E : Value → Shared → Prop), Grows h0 s.heap → (∀ v h' tk, Grows s.heap h' → R v h' → Q v { s with heap := h', toks := tk }) → wpAny (model P w) A (eval e env) Q E s
def IsInt (n : Int) : Value → Heap → Prop := fun v _ => ∃ t, v = .int n t
section
variable {P : Program} {w : World} {A : Around} {env : Env} {h0 : Heap} {x : Str} {pos : Pos} {a b : Expr} {n m : Int} {R : Value → Heap → Prop}
theorem kv_const {i : Nat} : KV P w A env h0 (.Constant (.int n) i pos) (IsInt n) := fun s Q E _ h => wpAny_Constant_int (h _ _ _ (Grows.refl _) ⟨_, rfl⟩)
theorem kv_loc {u : Value} {f : Str → Option Value} (hk : env.scope.kind = .function) (hx : env.kindOf x = some .local) (N : h0.Ns env.locals f) (hm : f x = some u) (hd : (x == ("__debug__" : Str)) = false := by decide) : KV P w A env h0 (.Name x pos) (fun v _ => v = u) :=
  fun s Q E g h => wpAny_Name (wpAny_loadName_local hk hx (N.keeps g) hm (h u s.heap s.toks (Grows.refl _) rfl)) hd
theorem kv_free {u : Value} {c : Addr} (hk : env.scope.kind = .function) (hx : env.kindOf x = some .free) (hc : env.cells.lookup x = some c) (hv : h0.IsCell c (some u)) (hd : (x == ("__debug__" : Str)) = false := by decide) (hn : (x == ("__classdict__" : Str)) = false := by decide) :
    KV P w A env h0 (.Name x pos) (fun v _ => v = u) := fun s Q E g h => by
  obtain ⟨o, ho, hd'⟩ := hv
  exact wpAny_Name (wpAny_loadName_free hk hx hc ⟨o, g _ _ ho, hd'⟩ (h u s.heap s.toks (Grows.refl _) rfl) hn) hd
theorem KV.imp {R' : Value → Heap → Prop} (k : KV P w A env h0 a R) (f : ∀ v h, R v h → R' v h) : KV P w A env h0 a R' := fun s Q E g h => k s Q E g fun v h' tk e r => h v h' tk e (f v h' r)
/-- one after the other -/
theorem KV.two {R' : Value → Heap → Prop} {F : Value → Value → Sem Value} {s : Shared} {Q E : Value → Shared → Prop} (ka : KV P w A env h0 a R) (kb : KV P w A env h0 b R') (st : ∀ v h h', Grows h h' → R v h → R v h') (g : Grows h0 s.heap)
    (h : ∀ v u h' tk, Grows s.heap h' → R v h' → R' u h' → wpAny (model P w) A (F v u) Q E { s with heap := h', toks := tk }) :
    wpAny (model P w) A (eval a env) (fun v s₁ => wpAny (model P w) A (eval b env) (fun u s₂ => wpAny (model P w) A (F v u) Q E s₂) E s₁) E s :=
  ka s _ _ g fun v h1 t1 g1 r1 => kb { s with heap := h1, toks := t1 } _ _ (g.trans g1) fun u h2 t2 g2 r2 => h v u h2 t2 (g1.trans g2) (st v h1 h2 g2 r1) r2
theorem kv_sub (ka : KV P w A env h0 a (IsInt n)) (kb : KV P w A env h0 b (IsInt m)) : KV P w A env h0 (.BinOp a .Sub b pos) (IsInt (n - m)) := fun s Q E g h =>
  wpAny_BinOp (ka.two kb (fun _ _ _ _ r => r) g fun v u h' tk g1 ⟨t, e⟩ ⟨t', e'⟩ => by
    subst e e'
    exact sub_int (h _ _ _ g1 ⟨_, rfl⟩))
theorem kv_ge (ka : KV P w A env h0 a (IsInt n)) (kb : KV P w A env h0 b (IsInt m)) (hm : behindInMarks .GtE b = false) : KV P w A env h0 (.Compare a [.GtE] [b] pos) (fun v _ => v = .bool (decide (m ≤ n))) := fun s Q E g h =>
  wpAny_Compare1 (ka.two kb (fun _ _ _ _ r => r) g fun v u h' tk g1 ⟨t, e⟩ ⟨t', e'⟩ => by
    subst e e'
    exact ge_int (h _ _ _ g1 rfl)) hm
theorem kv_ix {l : Addr} {vs : List Value} {ns : List Int} (ka : KV P w A env h0 a (fun v _ => v = .ref l)) (kb : KV P w A env h0 b (IsInt n)) (hl : h0.IsList l vs.toArray) (hi : IntsAre vs ns) (n0 : 0 ≤ n) (n1 : n < ns.length) (n2 : n < 2 ^ 63)
    (hs : ∀ u, subscripted b false (.ref l) (.int n u) = operate [.ref l, .int n u] (getItem (.ref l) (.int n u))) : KV P w A env h0 (.Subscript a b pos) (IsInt (ns.getD n.toNat 0)) := fun s Q E g h =>
  Subscript_ (ka.two kb (fun _ _ _ _ r => r) g fun v u h' tk g1 e ⟨t', e'⟩ => by
    subst e e'
    obtain ⟨o, ho, hc⟩ := hl
    exact item_list_intsR (s := { s with heap := h', toks := tk }) ⟨o, g1 _ _ (g _ _ ho), hc⟩ hi n0 n1 n2 (fun t => h _ _ _ g1 ⟨t, rfl⟩) (hs _))
/-- items, each an int -/
def KVs (P : Program) (w : World) (A : Around) (env : Env) (h0 : Heap) (es : List Expr) (ns : List Int) : Prop :=
  ∀ (pos : Pos) (s : Shared) (Q : List Value → Shared → Prop) (E : Value → Shared → Prop), Grows h0 s.heap → (∀ us h' tk, Grows s.heap h' → IntsAre us ns → Q us { s with heap := h', toks := tk }) → wpAny (model P w) A (spliced (backTo pos (starEach es env))) Q E s
theorem kvs_nil : KVs P w A env h0 [] [] := fun pos s Q E g h => Calls.spliced_nil (h [] s.heap s.toks (Grows.refl _) .nil)
theorem kvs_cons {es : List Expr} {ns : List Int} (ka : KV P w A env h0 a (IsInt n)) (kb : KVs P w A env h0 es ns) (hs : starEach (a :: es) env = (false, eval a env) :: starEach es env := by rfl) : KVs P w A env h0 (a :: es) (n :: ns) := fun pos s Q E g h => by
  rw [hs]
  refine Calls.spliced_cons (x := eval a env) (rest := backTo pos (starEach es env)) (ka s _ E g fun v h1 t1 g1 ⟨t, e⟩ => ?_)
  subst e
  exact kb pos { s with heap := h1, toks := t1 } _ E (g.trans g1) fun us h2 t2 g2 r => h _ h2 t2 (g1.trans g2) (.cons n t r)
theorem reads_ints {h : Heap} : ∀ {us : List Value} {ns : List Int}, IntsAre us ns → ReadsAll h us (ns.map PyData.int) []
  | _, _, .nil => .nil
  | _, _, .cons n t r => .cons (as := []) (.int n t) (reads_ints r)
theorem kv_tup {es : List Expr} {ns : List Int} {p : Nat} (k : KVs P w A env h0 es ns) (hz : ns.length ≤ sizeLine) : KV P w A env h0 (.Tuple es p pos) (fun v h => Reads h v (.tuple (ns.map PyData.int)) []) := fun s Q E g h => by
  refine wpAny_Tuple_spliced (k pos s _ E g fun us h1 t1 g1 r => ⟨by rw [r.length]; exact hz, ?_⟩)
  refine h _ _ t1 (g1.trans fun b o e => Heap.get?_push_of_some _ e) ?_
  exact .tuple (Heap.get?_push_size _ rfl) rfl rfl (by simpa using reads_ints r)
end

/-! ### a lambda of one parameter that only reads -/
section
variable {P : Program} {w : World} {A : Around} {q : Str} {params : Arguments} {body : Expr} {scope : Scope} {clo : List (Str × Addr)} {pm ctv : Value} {c' f : Addr} {y : Str}
/-- f(v): the body's value in the lambda's own frame -/
theorem key_turn {h0 : Heap} {D : PyData} {v : Value} (hd : A.depth < recursionLimit) (sco : scope.isCoroutine = false) (sgen : scope.isGenerator = false) (skind : scope.kind = .function) (snc : ∀ z ∈ scope.names, z.2 ≠ .cell) (hy : scope.names.lookup y = some .local)
    (hbind : bindArgs (PySem.W.kla_fn "<lambda>" q params body scope clo pm (.ref c') ctv) ⟨[v], []⟩ = pure [(y, v)]) (hlim : h0.NoLimit)
    (hf : h0.get? f = some (PySem.W.kla_obj "<lambda>" q params body scope clo pm c' ctv)) (hc : ∃ (oc : Obj) (vs : Array Value) (t : Tok), h0.get? c' = some oc ∧ oc.data = .fields vs ∧ vs[1]? = some (.str q t))
    (hbody : ∀ (h1 : Heap) (L : Addr), Grows h0 h1 → h1.Ns L (fun z => [(y, v)].reverse.lookup z) → KV P w (A.deeper (PySem.W.envX q scope L f (.ref c') clo)) (PySem.W.envX q scope L f (.ref c') clo) h1 body (fun u h => Reads h u D []))
    (h : Heap) (tk : Nat) (s0 : Shared) (hg : Grows h0 h) : wpAny (model P w) A (call (.ref f) [v]) (PySem.W.KeyPure D { s0 with heap := h, toks := tk }) (fun _ _ => False) { s0 with heap := h, toks := tk } := by
  obtain ⟨oc, vs, t, hoc, hdc, hvc⟩ := hc
  refine wpAny_call (PySem.W.kla_callFunE hd (hg _ _ hf) rfl sco sgen rfl ⟨c', oc, vs, t, rfl, hg _ _ hoc, hdc, hvc⟩ ?_)
  rw [hbind]
  refine wpAny_pure (wpAny_newFunctionEnv snc (fun z hz => ?_) (fun h₁ hns hsb => ⟨?_, ?_⟩) skind)
  · have : z = (y, v) := by simpa using hz
    rw [this]; exact hy
  · exact (hlim.keeps hg).fresh _ hsb
  · have g1 : Grows h h₁ := fun b o e => hsb.extBut b o (Nat.ne_of_lt (Heap.lt_size e)) (Heap.get?_push_of_some _ e)
    refine PySem.W.kla_codeExpr (hbody h₁ _ (hg.trans g1) hns { s0 with heap := h₁, toks := _ } _ _ (Grows.refl _) fun u h2 t2 g2 r => ?_)
    exact ⟨h2, t2, rfl, g1.trans g2, r⟩
end

/-! ### sorted(e, key=lambda y: body) -/
/-- keys: rows of ints -/
def rowD (ks : List Int) : PyData := .tuple (ks.map PyData.int)
theorem alike_ints : ∀ xs ys : List Int, PySem.W.alikeAll (xs.map PyData.int) (ys.map PyData.int) = true
  | [], _ => by rw [List.map_nil, PySem.W.alikeAll]
  | _ :: _, [] => by rw [List.map_nil, List.map_cons, PySem.W.alikeAll]
  | x :: xs, y :: ys => by
    rw [List.map_cons, List.map_cons, PySem.W.alikeAll, alike_ints xs ys]
    simp [PySem.W.alike]
theorem depth_row (ks : List Int) : (rowD ks).depth ≤ 1 := by
  have h : ∀ ks : List Int, PyData.depthAll (ks.map PyData.int) ≤ 0 := by
    intro ks
    induction ks with
    | nil => simp [PyData.depthAll]
    | cons k ks ih =>
      rw [List.map_cons, PyData.depthAll]
      exact Nat.max_le.mpr ⟨by simp [PyData.depth], ih⟩
  have := h ks
  unfold rowD
  rw [PyData.depth]
  omega
/-- the list that sorted gives -/
def byRow (kf : Int → List Int) (ns : List Int) : List Int := ns.mergeSort (PySem.W.dataLe false fun n => rowD (kf n))
structure LamK (sc scope : Scope) (y : Str) : Prop where
  kind : scope.kind = .function
  co : scope.isCoroutine = false
  gen : scope.isGenerator = false
  loc : scope.names.lookup y = some .local
  nc : ∀ z ∈ scope.names, z.2 ≠ .cell
  free : ∀ z ∈ scope.names, z.2 = .free → sc.names.lookup z.1 = some .cell ∨ sc.names.lookup z.1 = some .free
def lamKB (sc scope : Scope) (y : Str) : Bool :=
  decide (scope.kind = .function) && (!scope.isCoroutine && (!scope.isGenerator && (decide (scope.names.lookup y = some .local) && scope.names.all fun z => !decide (z.2 = .cell) && (!decide (z.2 = .free) || (decide (sc.names.lookup z.1 = some .cell) || decide (sc.names.lookup z.1 = some .free))))))
theorem lamK_by {sc scope : Scope} {y : Str} (h : lamKB sc scope y = true) : LamK sc scope y := by
  unfold lamKB at h
  simp only [Bool.and_eq_true, Bool.or_eq_true, Bool.not_eq_true', decide_eq_true_eq, decide_eq_false_iff_not, List.all_eq_true] at h
  obtain ⟨h1, h2, h3, h4, h5⟩ := h
  refine ⟨h1, h2, h3, h4, fun z hz => (h5 z hz).1, fun z hz e => ?_⟩
  rcases (h5 z hz).2 with k | k
  · exact absurd e k
  · exact k
/-- what the lambda's frame gives for the body's reading -/
def BodyK (X : Cx) (scope : Scope) (y : Str) (body : Expr) (Bd : L2.St → Hp → Int → List Int → Prop) : Prop :=
  ∀ (pins : List (Addr × Obj)) (σ : L2.St) (H : Hp) (s : Shared), Inv X pins σ H s → ∀ (n : Int) (ks : List Int), Bd σ H n ks → ∀ (A : Around) (L f c' : Addr) (h1 : Heap) (t : Tok), A.units + 60 < cLine → Grows s.heap h1 → h1.Ns L (fun z => [(y, Value.int n t)].reverse.lookup z) →
    KV X.prog X.w A (PySem.W.envX (X.env.qual ++ "<lambda>") scope L f (.ref c') (cloFrom X.env.cells scope.names [])) h1 body (fun u h => Reads h u (rowD ks) [])
def kSorted (K : PySem.W.Frag) (P : Addr) (q : Str) (Bd : L2.St → Hp → Int → List Int → Prop) (z : V) (σ : L2.St) (H1 : Hp) (Q : VK) : Prop := ∃ (a : Addr) (ns : List Int) (kf : Int → List Int), z = .ref a ∧ TabS H1 P q ∧ (∀ n, kf n ≠ []) ∧
  ∀ H2, ButP P H1 H2 → TabS H2 P q → SqL K H2 a (ns.map V.int) ∧ (∀ n ∈ ns, Bd σ H2 n (kf n)) ∧ ∀ p, H2 p = none → Q (.ref p) (upd H2 p (.lst ((byRow kf ns).map V.int)))
def tSortedK (K : PySem.W.Frag) (P : Addr) (q : Str) (Bd : L2.St → Hp → Int → List Int → Prop) (te : TE) : TE := fun σ H Q => te σ H fun z H1 => kSorted K P q Bd z σ H1 Q
section
variable {X : Cx} {c P : Addr} {params : Arguments} {body e : Expr} {scope : Scope} {y : Str} {te : TE} {p lpos kpos pos : Pos} {Bd : L2.St → Hp → Int → List Int → Prop}
theorem vals_of_each : ∀ {out : List Value} {ms : List Int}, PySem.W.EachIs (fun v n => ∃ t, v = Value.int n t) out ms → Vals (ms.map V.int) out
  | _, _, .nil => .nil
  | _, _, .cons h r => .cons h (vals_of_each r)
theorem each_of_vals : ∀ {ms : List Int} {out : List Value}, Vals (ms.map V.int) out → PySem.W.EachIs (fun v n => ∃ t, v = Value.int n t) out ms
  | [], out, r => by
    cases r
    exact .nil
  | m :: ms, out, r => by
    cases r with
    | cons h r => exact .cons h (each_of_vals r)
theorem pe_sortedK (hB : BodyK X scope y body Bd) (hg : Gl X "sorted") (hm : X.mg "sorted" = none) (hv : bootBuiltins "sorted" = some (.builtin "sorted")) (he : PE X e te) (TB : TabB X.base X.mg c P) (hcode : X.env.code = .ref c) (hr : Room 1 X.A) (L : LamK X.env.scope scope y)
    (hdef : defaultsOf params X.env = ([], [])) (hbind : ∀ (q : Str) (cl : List (Str × Addr)) (pm cv ctv v : Value), bindArgs (PySem.W.kla_fn "<lambda>" q params body scope cl pm cv ctv) ⟨[v], []⟩ = pure [(y, v)])
    (hst : backTo pos (starEach [e] X.env) = (false, eval e X.env) :: backTo pos (starEach [] X.env) := by rfl) (hpl : (backTo pos (starEach [e] X.env)).any (·.1) = false := by rfl)
    (hall : (backToKw pos (keywordEach [⟨some "key", .Lambda params body scope lpos, kpos⟩] X.env)).all (·.1.isSome) = true := by rfl) (hnone : (backToKw pos (keywordEach [⟨some "key", .Lambda params body scope lpos, kpos⟩] X.env)).any (·.1.isNone) = false := by rfl) :
    PE X (.Call (.Name "sorted" p) [e] [⟨some "key", .Lambda params body scope lpos, kpos⟩] pos) (tSortedK X.K P (X.env.qual ++ "<lambda>") Bd te) := by
  refine ⟨fun pins s σ H Q I h => ?_⟩
  refine wpAny_Call_Name_kw (ld_blt I hg hm hv ?_)
  refine PyProof.Rows.callWith_kw ?_ hst hpl hall hnone
  rw [hst]
  refine Calls.spliced_cons (thn (he.run pins s σ H _ I h) fun u s1 ⟨z, H1, I1, rz, a, ns, kf, ez, hT, kne, hq⟩ => ?_)
  subst ez
  obtain rfl : u = Value.ref a := rz
  refine Calls.spliced_nil ?_
  show wpAny _ _ (evalAll [do let v ← eval (.Lambda params body scope lpos) X.env; standAt pos; pure v]) _ _ s1
  have hfree : ∀ z ∈ scope.names, z.2 = .free → ∃ c, X.env.cells.lookup z.1 = some c := fun z hz e => by
    rcases L.free z hz e with k | k
    · exact I1.ok.has _ (.inl k)
    · exact I1.ok.has _ (.inr k)
  refine wpAny_evalAll_cons (wpAny_bind (lam_make3 I1 TB hcode hT hdef hfree fun f c' pm ctv H2 s2 I2 eN T2 hf hfn hfr hco => wpAny_bind (wpAny_standAt (wpAny_pure (wpAny_evalAll_nil ?_)))))
  obtain ⟨hs, hbd, q⟩ := hq H2 eN T2
  obtain ⟨its, rv, hl, hz⟩ := I2.list hs
  have lim : s2.heap.NoLimit := I2.nolimit
  have hun := hr.un
  show wpAny _ _ (call (.builtin "sorted") [.ref a] [(Str.ofString "key", .ref f)]) _ _ _
  refine PySem.W.sorted_key_data (b := false) (fun n => rowD (kf n)) hl.isList (each_of_vals rv) (PySem.W.AllAlike.of fun _ _ => ?_) (PySem.W.Sortable.tuples fun n => ?_) (by rw [List.length_map] at hz; exact hz) (fun n _ => ?_) (PyProof.Rows.ksk_s1 _ _) (fun _ => PyProof.Rows.ksk_l1 _ _) (fun _ => PyProof.Rows.ksk_t1 _ _) (fun v n ⟨t, ev⟩ hn hh tk kp => ?_) fun out cc h' tk kp fr hD hlen eo => ?_
  · unfold rowD
    rw [PySem.W.alike]
    exact alike_ints _ _
  · cases hk : kf n with
    | nil => exact absurd hk (kne n)
    | cons x r => exact ⟨.int x, r.map PyData.int, rfl⟩
  · have := depth_row (kf n)
    omega
  · subst ev
    refine key_turn (A := X.A.in1.in1) (y := y) (by have := hr.dp; show X.A.depth < _; omega) L.co L.gen L.kind L.nc L.loc (hbind _ _ _ _ _ _) lim hf ?_ (fun h1 Lf g1 N => ?_) hh tk s2 kp
    · obtain ⟨hp, _, _⟩ := I2.hok c' _ hco
      exact hp
    · exact hB pins σ H2 s2 I2 n _ (hbd n hn) _ _ _ _ _ _ (by show X.A.units + 1 + 1 + 3 + 60 < _; omega) g1 N
  · have hz2 : (byRow kf ns).length ≤ sizeLine := by
      unfold byRow
      rw [List.length_mergeSort]
      rw [List.length_map] at hz
      exact hz
    refine ⟨.ref _, upd H2 (s2.heap.objs.size + 1) (.lst ((byRow kf ns).map V.int)), I2.laid (t' := tk) kp (Nat.le_succ _) ⟨by rw [List.length_map]; exact hz2, out, cc, vals_of_each eo, hD⟩, rfl, q _ (I2.hok.fresh (Nat.le_succ _))⟩
end

/-! ### the items of a key -/
abbrev lenv (X : Cx) (scope : Scope) (L f c' : Addr) : Env := PySem.W.envX (X.env.qual ++ "<lambda>") scope L f (.ref c') (cloFrom X.env.cells scope.names [])
/-- an item: what it gives for n -/
def KI (X : Cx) (scope : Scope) (y : Str) (e : Expr) (F : L2.St → Hp → Int → Int → Prop) : Prop :=
  ∀ (pins : List (Addr × Obj)) (σ : L2.St) (H : Hp) (s : Shared), Inv X pins σ H s → ∀ (n k : Int), F σ H n k → ∀ (A : Around) (L f c' : Addr) (h1 : Heap) (t : Tok), A.units + 60 < cLine → Grows s.heap h1 → h1.Ns L (fun z => [(y, Value.int n t)].reverse.lookup z) →
    KV X.prog X.w A (PySem.W.envX (X.env.qual ++ "<lambda>") scope L f (.ref c') (cloFrom X.env.cells scope.names [])) h1 e (IsInt k)
def KIs (X : Cx) (scope : Scope) (y : Str) (es : List Expr) (Bd : L2.St → Hp → Int → List Int → Prop) : Prop :=
  ∀ (pins : List (Addr × Obj)) (σ : L2.St) (H : Hp) (s : Shared), Inv X pins σ H s → ∀ (n : Int) (ks : List Int), Bd σ H n ks → ks.length = es.length ∧ ∀ (A : Around) (L f c' : Addr) (h1 : Heap) (t : Tok), A.units + 60 < cLine → Grows s.heap h1 → h1.Ns L (fun z => [(y, Value.int n t)].reverse.lookup z) →
    KVs X.prog X.w A (PySem.W.envX (X.env.qual ++ "<lambda>") scope L f (.ref c') (cloFrom X.env.cells scope.names [])) h1 es ks
def bNil : L2.St → Hp → Int → List Int → Prop := fun _ _ _ ks => ks = []
def bCons (F : L2.St → Hp → Int → Int → Prop) (G : L2.St → Hp → Int → List Int → Prop) : L2.St → Hp → Int → List Int → Prop := fun σ H n ks => ∃ k r, ks = k :: r ∧ F σ H n k ∧ G σ H n r
def fPar : L2.St → Hp → Int → Int → Prop := fun _ _ n k => k = n
def fIx (K : PySem.W.Frag) (i : Nat) : L2.St → Hp → Int → Int → Prop := fun σ H n k => ∃ (lc : Addr) (cs : List Int), σ[i]? = some (some (.ref lc)) ∧ SqL K H lc (cs.map V.int) ∧ 0 ≤ n ∧ n < cs.length ∧ k = cs.getD n.toNat 0
def fNeg (F : L2.St → Hp → Int → Int → Prop) : L2.St → Hp → Int → Int → Prop := fun σ H n k => ∃ j, F σ H n j ∧ k = 0 - j
def fGe (F : L2.St → Hp → Int → Int → Prop) (j : Nat) : L2.St → Hp → Int → Int → Prop := fun σ H n k => ∃ a b, F σ H n a ∧ σ[j]? = some (some (.int b)) ∧ k = if b ≤ a then 1 else 0
section
variable {X : Cx} {scope : Scope} {y x : Str} {e : Expr} {es : List Expr} {F : L2.St → Hp → Int → Int → Prop} {Bd : L2.St → Hp → Int → List Int → Prop} {i j : Nat} {pos p1 p2 p3 p4 : Pos}
theorem kis_nil : KIs X scope y [] bNil := fun pins σ H s I n ks h => by
  have h : ks = [] := h
  subst h
  exact ⟨rfl, fun A L f c' h1 t hu g N => kvs_nil⟩
theorem kis_cons (h : KI X scope y e F) (hr : KIs X scope y es Bd) (hs : ∀ env, starEach (e :: es) env = (false, eval e env) :: starEach es env := by intro _; rfl) : KIs X scope y (e :: es) (bCons F Bd) := fun pins σ H s I n ks hk => by
  obtain ⟨k, r, rfl, h1, h2⟩ := hk
  obtain ⟨l, h3⟩ := hr pins σ H s I n r h2
  exact ⟨by rw [List.length_cons, List.length_cons, l], fun A L f c' h1' t hu g N => kvs_cons (h pins σ H s I n k h1 A L f c' h1' t hu g N) (h3 A L f c' h1' t hu g N) (hs _)⟩
theorem body_tup {p : Nat} (h : KIs X scope y es Bd) (hz : es.length ≤ sizeLine := by decide) : BodyK X scope y (.Tuple es p pos) Bd := fun pins σ H s I n ks hk A L f c' h1 t hu g N => by
  obtain ⟨l, h2⟩ := h pins σ H s I n ks hk
  exact kv_tup (h2 A L f c' h1 t hu g N) (by rw [l]; exact hz)
theorem ki_par (hk : scope.kind = .function := by rfl) (hy : scope.names.lookup y = some .local := by rfl) (hd : (y == ("__debug__" : Str)) = false := by decide) : KI X scope y (.Name y pos) fPar := fun pins σ H s I n k e A L f c' h1 t hu g N => by
  have e : k = n := e
  subst e
  refine (kv_loc (env := lenv X scope L f c') (u := .int k t) hk hy N ?_ hd).imp fun v h r => ⟨t, r⟩
  simp
/-- what the lambda sees of a name of the def -/
theorem seen {pins : List (Addr × Obj)} {σ : L2.St} {H : Hp} {s : Shared} {v : V} (I : Inv X pins σ H s) (hN : X.N[i]? = some x) (hσ : σ[i]? = some (some v)) (hc : X.env.scope.names.lookup x = some .cell ∨ X.env.scope.names.lookup x = some .free) (hf : scope.names.lookup x = some .free)
    (hfr : ∀ z ∈ scope.names, z.2 = .free → X.env.scope.names.lookup z.1 = some .cell ∨ X.env.scope.names.lookup z.1 = some .free) : ∃ cc u, (cloFrom X.env.cells scope.names []).lookup x = some cc ∧ s.heap.IsCell cc (some u) ∧ RelV v u := by
  have hmem : (x, NameKind.free) ∈ scope.names := PySem.mem_of_lookup hf
  obtain ⟨cc, hcc⟩ := mem_lookup (cloFrom_has (cells := X.env.cells) (acc := []) hmem)
  have hfree : ∀ z ∈ scope.names, z.2 = .free → ∃ c, X.env.cells.lookup z.1 = some c := fun z hz e => I.ok.has _ (hfr z hz e)
  obtain ⟨m, hn, hl⟩ := I.loc
  obtain ⟨u, r, q⟩ := hl i x v hN hσ (hc.elim (fun k => .inr (.inl k)) (fun k => .inr (.inr k)))
  rcases q with ⟨k, _⟩ | ⟨_, c3, e3, z⟩
  · have k : X.env.scope.names.lookup x = some .local := k
    rcases hc with h | h <;> rw [h] at k <;> cases k
  · refine ⟨cc, u, hcc, ?_, r⟩
    rcases cloFrom_mem (PySem.mem_of_lookup hcc) with hm | ⟨h1, h2⟩
    · cases hm
    · obtain ⟨c1, hc1⟩ := hfree _ h1 rfl
      have hc1 : X.env.cells.lookup x = some c1 := hc1
      have e2 : cc = c1 := by
        rw [h2, hc1] <;> rfl
      rw [hc1] at e3
      cases e3
      rw [e2]
      exact z
theorem ki_ix (hN : X.N[i]? = some x) (hc : X.env.scope.names.lookup x = some .cell ∨ X.env.scope.names.lookup x = some .free) (hfr : ∀ z ∈ scope.names, z.2 = .free → X.env.scope.names.lookup z.1 = some .cell ∨ X.env.scope.names.lookup z.1 = some .free)
    (hf : scope.names.lookup x = some .free := by rfl) (hk : scope.kind = .function := by rfl) (hy : scope.names.lookup y = some .local := by rfl) (hd : (y == ("__debug__" : Str)) = false := by decide) (hd2 : (x == ("__debug__" : Str)) = false := by decide) (hd3 : (x == ("__classdict__" : Str)) = false := by decide)
    (hs : ∀ a b, subscripted (.Name y p2) false a b = operate [a, b] (getItem a b) := by intro _ _; rfl) : KI X scope y (.Subscript (.Name x p1) (.Name y p2) pos) (fIx X.K i) := fun pins σ H s I n k h A L f c' h1 t hu g N => by
  obtain ⟨lc, cs, hσ, hS, n0, n1, rfl⟩ := h
  obtain ⟨cc, u, hcc, hcell, ru⟩ := seen I hN hσ hc hf hfr
  obtain rfl : u = Value.ref lc := ru
  obtain ⟨its, rv, hl, hz⟩ := I.list hS
  have hb := (ki_par (X := X) (scope := scope) (y := y) (pos := p2) hk hy hd) pins σ H s I n n rfl A L f c' h1 t hu g N
  have hlen : cs.length ≤ sizeLine := by rw [List.length_map] at hz; exact hz
  refine kv_ix (l := lc) (vs := its) (ns := cs) (kv_free (env := lenv X scope L f c') hk hf hcc (hcell.elim fun o ho => ⟨o, g _ _ ho.1, ho.2⟩) hd2 hd3) hb ?_ rv.ints n0 n1 (by rw [sizeLine_eq] at hlen; omega) (fun u => hs _ _)
  obtain ⟨o, ho, hc⟩ := hl.isList
  exact ⟨o, g _ _ ho, hc⟩
theorem ki_neg {q : Nat} (h : KI X scope y e F) : KI X scope y (.BinOp (.Constant (.int 0) q p1) .Sub e pos) (fNeg F) := fun pins σ H s I n k hk A L f c' h1 t hu g N => by
  obtain ⟨j, hj, rfl⟩ := hk
  exact kv_sub kv_const (h pins σ H s I n j hj A L f c' h1 t hu g N)
theorem ki_ge (h : KI X scope y e F) (hN : X.N[j]? = some x) (hc : X.env.scope.names.lookup x = some .cell ∨ X.env.scope.names.lookup x = some .free) (hfr : ∀ z ∈ scope.names, z.2 = .free → X.env.scope.names.lookup z.1 = some .cell ∨ X.env.scope.names.lookup z.1 = some .free)
    (hm : X.mg "int" = none) (hv : bootBuiltins "int" = some (.type "int")) (hint : scope.names.lookup ("int" : Str) = some .globalImplicit := by rfl)
    (hf : scope.names.lookup x = some .free := by rfl) (hk : scope.kind = .function := by rfl) (hd2 : (x == ("__debug__" : Str)) = false := by decide) (hd3 : (x == ("__classdict__" : Str)) = false := by decide)
    (hst : ∀ env, starEach [.Compare e [.GtE] [.Name x p2] p3] env = (false, eval (.Compare e [.GtE] [.Name x p2] p3) env) :: starEach [] env := by intro _; rfl) : KI X scope y (.Call (.Name "int" p1) [.Compare e [.GtE] [.Name x p2] p3] [] pos) (fGe F j) := fun pins σ H s I n k hk' A L f c' h1 t hu g N => by
  obtain ⟨a, b, ha, hσ, rfl⟩ := hk'
  obtain ⟨cc, u, hcc, hcell, ru⟩ := seen I hN hσ hc hf hfr
  obtain ⟨tb, rfl⟩ := ru
  have k1 := h pins σ H s I n a ha A L f c' h1 t hu g N
  have k2 : KV X.prog X.w A (PySem.W.envX (X.env.qual ++ "<lambda>") scope L f (.ref c') (cloFrom X.env.cells scope.names [])) h1 (.Name x p2) (IsInt b) := (kv_free (env := lenv X scope L f c') (u := .int b tb) hk hf hcc (hcell.elim fun o ho => ⟨o, g _ _ ho.1, ho.2⟩) hd2 hd3).imp fun v h r => ⟨tb, r⟩
  have k3 := kv_ge (pos := p3) k1 k2 rfl
  intro s' Q E g' hq
  refine wpAny_Call_Name_kw ?_
  obtain ⟨mb, hb1, hb2⟩ := I.mod.blt
  have g2 : Grows s.heap s'.heap := g.trans g'
  refine Calls.Name_function_global (env := PySem.W.envX (X.env.qual ++ "<lambda>") scope L f (.ref c') (cloFrom X.env.cells scope.names [])) hk hint (Calls.loadGlobal_builtin ((I.mod.glob.keeps I.bk).keeps g2) hm ((hb1.keeps I.bk).keeps g2) ((hb2 "int" (by decide)).trans hv) ?_) (by decide)
  refine PyProof.Rows.callWith_type1 ?_ (hst _) rfl
  rw [hst]
  refine Calls.spliced_cons (x := eval (.Compare e [.GtE] [.Name x p2] p3) (PySem.W.envX (X.env.qual ++ "<lambda>") scope L f (.ref c') (cloFrom X.env.cells scope.names []))) (rest := []) (k3 s' _ E g' fun v h2 t2 g3 ev => Calls.spliced_nil ?_)
  subst ev
  refine call_int_bool (s := { s' with heap := h2, toks := t2 }) (hq _ h2 _ g3 ⟨t2, ?_⟩)
  by_cases hba : b ≤ a
  · rw [decide_eq_true hba, if_pos hba]; rfl
  · rw [decide_eq_false hba, if_neg hba]; rfl
end

/-! ### what the order says -/
theorem byRow_le (kf : Int → List Int) : PySem.W.dataLe false (fun n => rowD (kf n)) = fun a b => decide (kf a ≤ kf b) := by
  rw [PySem.W.dataLe_eq]
  funext a b
  show (!PySem.W.dataLt (rowD (kf b)) (rowD (kf a))) = _
  unfold rowD
  rw [PySem.W.dataLt_tuple]
  have e := PySem.W.dataLt_ints (kf b) (kf a)
  unfold PySem.W.rowLt at e
  rw [e]
  by_cases h : kf b < kf a
  · rw [decide_eq_true h, decide_eq_false (by rw [List.not_le]; exact h)]; rfl
  · rw [decide_eq_false h, decide_eq_true (Classical.not_not.mp fun z => h (List.not_le.mp z))]; rfl
theorem byRow_perm (kf : Int → List Int) (ns : List Int) : (byRow kf ns).Perm ns := List.mergeSort_perm _ _
theorem byRow_sorted (kf : Int → List Int) (ns : List Int) : (byRow kf ns).Pairwise fun a b => kf a ≤ kf b := by
  unfold byRow
  rw [byRow_le]
  have h := List.pairwise_mergeSort (le := fun a b => decide (kf a ≤ kf b)) (fun a b c h1 h2 => by
    simp only [decide_eq_true_eq] at *
    exact List.le_trans h1 h2) (fun a b => by
    rcases List.le_total (kf a) (kf b) with h | h
    · simp [h]
    · simp [h]) ns
  exact h.imp fun h => by simpa using h
theorem byRow_head {kf : Int → List Int} {ns : List Int} {m : Int} {r : List Int} (h : byRow kf ns = m :: r) : m ∈ ns ∧ ∀ n ∈ ns, kf m ≤ kf n := by
  have hp := byRow_perm kf ns
  have hs := byRow_sorted kf ns
  rw [h] at hp hs
  refine ⟨hp.mem_iff.mp List.mem_cons_self, fun n hn => ?_⟩
  rcases List.mem_cons.mp (hp.mem_iff.mpr hn) with e | hn
  · rw [e]; exact List.le_refl _
  · exact (List.pairwise_cons.mp hs).1 n hn
theorem byRow_cons {kf : Int → List Int} {ns : List Int} (h : ns ≠ []) : ∃ m r, byRow kf ns = m :: r := by
  cases e : byRow kf ns with
  | nil =>
    have := (byRow_perm kf ns).length_eq
    rw [e] at this
    exact absurd (List.length_eq_zero_iff.mp this.symm) h
  | cons m r => exact ⟨m, r, rfl⟩
theorem cons_le {a b : Int} {r s : List Int} (h : (a :: r) ≤ (b :: s)) : a < b ∨ (a = b ∧ r ≤ s) := by
  have h : ¬ (b :: s) < (a :: r) := h
  rw [List.cons_lt_cons_iff] at h
  by_cases h1 : a < b
  · exact .inl h1
  · have : ¬ b < a := fun z => h (.inl z)
    have e : a = b := by omega
    refine .inr ⟨e, ?_⟩
    have : ¬ s < r := fun z => h (.inr ⟨e.symm, z⟩)
    exact this
section
variable {K : PySem.W.Frag} {σ : L2.St} {H : Hp} {L : List HP} {Q : VK} {P a : Addr} {q : Str} {Bd : L2.St → Hp → Int → List Int → Prop} {te : TE} {ns : List Int}
theorem h_sortedK (h : te σ H fun z H1 => kSorted K P q Bd z σ H1 Q) : tSortedK K P q Bd te σ H Q := h
theorem hk_sorted (kf : Int → List Int) (S : Hold H (tab P q :: L)) (kne : ∀ n, kf n ≠ []) (hs : ∀ H, Hold H (tab P q :: L) → SqL K H a (ns.map V.int) ∧ ∀ n ∈ ns, Bd σ H n (kf n))
    (k : ∀ p H', Hold H' (pt p (.lst ((byRow kf ns).map V.int)) :: tab P q :: L) → Q (.ref p) H') : kSorted K P q Bd (.ref a) σ H Q :=
  ⟨a, ns, kf, rfl, S.tabS List.mem_cons_self, kne, fun H2 e t => by
    have S2 := S.tabbed e t
    obtain ⟨h1, h2⟩ := hs H2 S2
    exact ⟨h1, h2, fun p hp => k p _ (S2.new hp trivial)⟩⟩
end

/-! ### list(range(n)), remove -/
section
variable {K : PySem.W.Frag} {σ : L2.St} {H : Hp} {L R : List HP} {Q : VK} {te : TE} {n : Int} {a : Addr} {ns : List Int} {k : Int} {j : Nat}
def kRg (n : Int) (H1 : Hp) (Q : VK) : Prop := RgOk 0 n ∧ ∀ q, H1 q = none → Q (.ref q) (upd H1 q (.lst (rgV 0 n)))
theorem h_lstRg (h : te σ H fun x H1 => ∃ n, x = .int n ∧ kRg n H1 Q) : tLstRg (tRg1 te) σ H Q := h
theorem hk_rg (S : Hold H L) (h : RgOk 0 n) (q : ∀ p H', Hold H' (pt p (.lst (rgV 0 n)) :: L) → Q (.ref p) H') : kRg n H Q := ⟨h, fun p hp => q p _ (S.new hp trivial)⟩
theorem hk_remove (S : Hold H L) (pk : Pick (pt a (.lst (ns.map V.int))) L R) (hj : ns[j]? = some k) (h0 : ∀ m : Nat, m < j → ns[m]? ≠ some k) (q : ∀ H', Hold H' (pt a (.lst ((ns.eraseIdx j).map V.int)) :: R) → Q .non H') : rRemI (.ref a) [.int k] H Q :=
  ⟨a, ns, k, j, rfl, rfl, S.get pk.mem, hj, h0, q _ (S.wr pk trivial)⟩
end

/-! ### an if without else, what follows it once -/
theorem hk_ifJ {P : Prop} [Decidable P] {tA : TS} {D' : Ends} {σ : L2.St} {H : Hp} (J : L2.St → Hp → Prop) (h1 : P → ∀ nx', (∀ σ H, J σ H → nx' σ H) → tA { D' with nx := nx' } σ H) (h2 : ¬ P → J σ H) (rest : ∀ σ H, J σ H → D'.nx σ H) : kIf (decide P) (tA D' σ H) (tNext D' σ H) := by
  by_cases h : P
  · rw [decide_eq_true h]; exact h1 h D'.nx rest
  · rw [decide_eq_false h]; exact rest σ H (h2 h)
theorem hk_litT {P A B : Prop} [Decidable P] (h : P) (a : A) : kIf (decide P) A B := by rw [decide_eq_true h]; exact a
theorem hk_litF {P A B : Prop} [Decidable P] (h : ¬ P) (b : B) : kIf (decide P) A B := by rw [decide_eq_false h]; exact b
/-! ### lists of ints as data -/
theorem dp_ints {K : PySem.W.Frag} {H : Hp} : ∀ ns : List Int, DpAll K H (ns.map V.int) (ns.map PyData.int)
  | [] => .nil
  | n :: ns => .cons (.int n) (dp_ints ns)
theorem shaped_ints (ns : List Int) : SeqAt.shaped (.list (ns.map PyData.int)) = true := by
  have h : ∀ ns : List Int, PyData.canLayAll0 (ns.map PyData.int) = true ∧ PyData.depthAll (ns.map PyData.int) ≤ 0 := by
    intro ns
    induction ns with
    | nil => exact ⟨rfl, by simp [PyData.depthAll]⟩
    | cons n ns ih =>
      refine ⟨?_, ?_⟩
      · rw [List.map_cons, PyData.canLayAll0, ih.1]
        rfl
      · rw [List.map_cons, PyData.depthAll]
        exact Nat.max_le.mpr ⟨by simp [PyData.depth], ih.2⟩
  obtain ⟨h1, h2⟩ := h ns
  unfold SeqAt.shaped
  rw [Bool.and_eq_true, decide_eq_true_eq]
  exact ⟨h1, by rw [PyData.depth]; omega⟩
theorem eqv_empty (ds : List PyData) : PyData.eqv (.list ds) (.list []) = ds.isEmpty := by
  cases ds <;> simp [PyData.eqv, PyData.eqvAll]
/-- free != [] -/
theorem hk_neNil {K : PySem.W.Frag} {H : Hp} {Q : VK} {a b : Addr} {ns : List Int} (h1 : SqL K H a (ns.map V.int)) (h2 : SqL K H b []) (q : Q (.bl (!ns.isEmpty)) H) : rNeU K (.ref a) (.ref b) H Q := by
  refine hk_neD (.lst h1 (dp_ints ns)) (.lst h2 .nil) (shaped_ints ns) (by decide) ?_
  rw [eqv_empty]
  cases ns <;> exact q
theorem rNeU_mono {K : PySem.W.Frag} {x y : V} {H : Hp} {Q Q' : VK} (m : ∀ v H, Q v H → Q' v H) (h : rNeU K x y H Q) : rNeU K x y H Q' := by
  rcases h with ⟨h1, h2⟩ | ⟨d, e, h1, h2, h3, h4, h5⟩
  · exact .inl ⟨h1, m _ _ h2⟩
  · exact .inr ⟨d, e, h1, h2, h3, h4, m _ _ h5⟩
theorem mono_neNil {K : PySem.W.Frag} {i : Nat} {σ : L2.St} {H : Hp} {Q Q' : Bool → Hp → Prop} (m : ∀ b H, Q b H → Q' b H) (h : tTest (tOp (rNeU K) (tVar i) (tLst tNil)) σ H Q) : tTest (tOp (rNeU K) (tVar i) (tLst tNil)) σ H Q' := by
  obtain ⟨x, e, z, h⟩ := h
  exact ⟨x, e, z, fun p hp => rNeU_mono (fun v H ⟨k, e, q⟩ => ⟨k, e, m _ _ q⟩) (h p hp)⟩
end Sw

/-! Sw: an own class's in, [], len; dicts. -/
namespace Sw
open PySem PySem.Spec PyProof.Rows L2

section
variable {X : Cx} {pins : List (Addr × Obj)} {σ : L2.St} {H : Hp} {s : Shared} {Q : VK} {E : XK} {k : Nat} {f : Addr} {fd : FuncData} {ps : List Str} {sp : Sp} {us : List Value} {vs : List V} {W : WX}
/-- a def called from a built-in's own tree -/
theorem run_in {A : Around} (hA : A.frames = X.A.frames) (F : FnOk X.prog X.w X.K X.mg X.base (L2.CX X.prog X.w) k f fd ps sp) (hr : Room k A) (hb : Binds X.K fd ps []) (tk : Takes X W) (I : Inv X pins σ H s) (r : Vals vs us) (h : sp vs H Q (WE W σ)) :
    wpAny (model X.prog X.w) A (call (.ref f) us) (EP X pins σ Q) X.xe s := by
  have hl : us.length = ps.length := by rw [← r.length]; exact F.len _ _ _ _ h
  have b := hb s us I.kIn (by rw [List.append_nil]; exact hl)
  rw [List.append_nil] at b
  have e := I.env0
  have e0 : Env0 X.prog X.w X.K X.mg X.base A X.stack s H := ⟨hA.trans e.frames, e.mod, e.bs, e.bsz, e.funs, e.frf, e.hok, e.bare⟩
  refine wpAny_call (codeAny_mono (F.run A X.stack s H ⟨us, []⟩ us vs Q (WE W σ) hr e0 b r h) fun q s' hq => ?_)
  cases q with
  | error e => exact passAt tk σ pins H s e s' I hq
  | ok fl =>
    cases fl with
    | ret u => exact I.after hq
    | next => exact hq.elim
    | brk => exact hq.elim
    | cont => exact hq.elim
theorem room_in1 {A : Around} (h : Room (k + 1) A) : Room k A.in1 := ⟨h.hd, by have := h.dp; show A.depth + 3 * k + 5 < _; omega, by have := h.un; show A.units + 1 + 16 * k + 200 < _; omega⟩
end

section
variable {X : Cx} {C : Addr} {k : Nat} {ps : List Str} {sp : Sp} {W : WX} {o i : Expr} {to ti : TE} {pos p : Pos}
/-- an instance of the class at C -/
def InsC (C : Addr) (y : V) (H : Hp) (a : Addr) : Prop := ∃ dx fs, y = .ref a ∧ H a = some (.ins C dx fs)
/-- x in y, y an object of the text's class -/
def tInC (C : Addr) (neg : Bool) (sp : Sp) (E : L2.St → XK) (ti to : TE) : TE := fun σ H Q => ti σ H fun x H1 => to σ H1 fun y H2 => ∃ a, InsC C y H2 a ∧ sp [.ref a, x] H2 (fun v H3 => ∃ b, v = .bl b ∧ Q (.bl (if neg then !b else b)) H3) (E σ)
theorem pe_inC (hm : CalM X.prog X.w X.K X.mg X.base C "__contains__" k ps sp) (hr : Room k X.A) (tk : Takes X W) (hi : PE X i ti) (ho : PE X o to) (hb : behindInMarks .In o = false := by rfl) : PE X (.Compare i [.In] [o] pos) (tInC C false sp (WE W) ti to) := by
  obtain ⟨f, fd, M, hbd, F⟩ := hm.ex
  refine ⟨fun pins s σ H Q I h => ?_⟩
  refine wpAny_Compare1 (thn (hi.run pins s σ H _ I h) fun v s1 ⟨x, H1, I1, rx, q1⟩ => thn (ho.run pins s1 σ H1 _ I1 q1) fun u s2 ⟨y, H2, I2, ry, a, ⟨dx, fs, ey, ea⟩, q2⟩ => ?_) hb
  subst ey
  obtain rfl : u = Value.ref a := ry
  obtain ⟨m, fr⟩ := I2.fr
  obtain ⟨mA, O, _⟩ := ins_get I2.hok ea
  obtain ⟨od, J, _⟩ := O.look
  refine PySem.W.in_K fr I2.ok.mod.kin J M.at_ M.fn (thn (run_in rfl F hr hbd tk I2 (us := [.ref a, v]) (vs := [.ref a, x]) (.cons rfl (.cons rx .nil)) q2) fun r s3 ⟨z, H3, I3, rz, b, ez, q3⟩ => ?_)
  subst ez
  obtain rfl : r = Value.bool b := rz
  exact wpAny_pure ⟨.bl b, H3, I3, rfl, q3⟩
theorem pe_notInC (hm : CalM X.prog X.w X.K X.mg X.base C "__contains__" k ps sp) (hr : Room k X.A) (tk : Takes X W) (hi : PE X i ti) (ho : PE X o to) (hb : behindInMarks .NotIn o = false := by rfl) : PE X (.Compare i [.NotIn] [o] pos) (tInC C true sp (WE W) ti to) := by
  obtain ⟨f, fd, M, hbd, F⟩ := hm.ex
  refine ⟨fun pins s σ H Q I h => ?_⟩
  refine wpAny_Compare1 (thn (hi.run pins s σ H _ I h) fun v s1 ⟨x, H1, I1, rx, q1⟩ => thn (ho.run pins s1 σ H1 _ I1 q1) fun u s2 ⟨y, H2, I2, ry, a, ⟨dx, fs, ey, ea⟩, q2⟩ => ?_) hb
  subst ey
  obtain rfl : u = Value.ref a := ry
  obtain ⟨m, fr⟩ := I2.fr
  obtain ⟨mA, O, _⟩ := ins_get I2.hok ea
  obtain ⟨od, J, _⟩ := O.look
  refine PySem.W.notIn_K fr I2.ok.mod.kin J M.at_ M.fn (thn (run_in rfl F hr hbd tk I2 (us := [.ref a, v]) (vs := [.ref a, x]) (.cons rfl (.cons rx .nil)) q2) fun r s3 ⟨z, H3, I3, rz, b, ez, q3⟩ => ?_)
  subst ez
  obtain rfl : r = Value.bool b := rz
  exact wpAny_pure ⟨.bl (!b), H3, I3, rfl, q3⟩
/-- o[i] -/
def tIxC (C : Addr) (sp : Sp) (E : L2.St → XK) (to ti : TE) : TE := fun σ H Q => to σ H fun y H1 => ti σ H1 fun x H2 => ∃ a, InsC C y H2 a ∧ sp [.ref a, x] H2 Q (E σ)
theorem pe_ixC (hm : CalM X.prog X.w X.K X.mg X.base C "__getitem__" k ps sp) (hr : Room (k + 1) X.A) (tk : Takes X W) (ho : PE X o to) (hi : PE X i ti) (hf : ∀ f, PySem.W.findIn X.K (.ref C) "__getitem__" = some (some (.ref f)) → PySem.W.fnIn X.K f = true)
    (hsl : ∀ a v, subscripted i true (.ref a) v = runValue (.builtin "lifetime.subscript" ⟨[.ref a, v], []⟩) := by intro _ _; rfl) : PE X (.Subscript o i pos) (tIxC C sp (WE W) to ti) := by
  obtain ⟨f, fd, M, hbd, F⟩ := hm.ex
  refine ⟨fun pins s σ H Q I h => ?_⟩
  refine Subscript_ (thn (ho.run pins s σ H _ I h) fun u s1 ⟨y, H1, I1, ry, q1⟩ => thn (hi.run pins s1 σ H1 _ I1 q1) fun v s2 ⟨x, H2, I2, rx, a, ⟨dx, fs, ey, ea⟩, q2⟩ => ?_)
  subst ey
  obtain rfl : u = Value.ref a := ry
  obtain ⟨m, fr⟩ := I2.fr
  obtain ⟨mA, O, _⟩ := ins_get I2.hok ea
  obtain ⟨od, J, _⟩ := O.look
  exact PySem.W.sub_K fr I2.ok.mod.kin J M.at_ (hf f M.at_) M.fn (run_in rfl F (room_in1 hr) hbd tk I2 (us := [.ref a, v]) (vs := [.ref a, x]) (.cons rfl (.cons rx .nil)) q2) (hsl a v)
/-- len(o) -/
def tLenC (C : Addr) (sp : Sp) (E : L2.St → XK) (to : TE) : TE := fun σ H Q => to σ H fun y H1 => ∃ a, InsC C y H1 a ∧ sp [.ref a] H1 (fun v H2 => ∃ n : Int, v = .int n ∧ 0 ≤ n ∧ n < 2 ^ 62 ∧ Q (.int n) H2) (E σ)
theorem pe_lenC (hm : CalM X.prog X.w X.K X.mg X.base C "__len__" k ps sp) (hr : Room (k + 1) X.A) (tk : Takes X W) (ho : PE X o to) (hg : Gl X "len") (hml : X.mg "len" = none) (hv : bootBuiltins "len" = some (.builtin "len"))
    (he : starEach [o] X.env = (false, eval o X.env) :: starEach [] X.env := by rfl) : PE X (.Call (.Name "len" p) [o] [] pos) (tLenC C sp (WE W) to) := by
  obtain ⟨f, fd, M, hbd, F⟩ := hm.ex
  refine ⟨fun pins s σ H Q I h => ?_⟩
  refine wpAny_Call_Name_kw (ld_blt I hg hml hv ?_)
  refine PyProof.Rows.callWith_builtin1 ?_ he rfl
  rw [he]
  refine Calls.spliced_cons (thn (ho.run pins s σ H _ I h) fun u s1 ⟨y, H1, I1, ry, a, ⟨dx, fs, ey, ea⟩, q1⟩ => Calls.spliced_nil ?_)
  subst ey
  obtain rfl : u = Value.ref a := ry
  obtain ⟨m, fr⟩ := I1.fr
  obtain ⟨mA, O, _⟩ := ins_get I1.hok ea
  obtain ⟨od, J, _⟩ := O.look
  refine PySem.W.len_K fr I1.ok.mod.kin J M.at_ M.fn (thn (run_in rfl F (room_in1 hr) hbd tk I1 (us := [.ref a]) (vs := [.ref a]) (.cons rfl .nil) q1) fun r s2 ⟨z, H2, I2, rz, n, ez, n0, n1, q2⟩ => ?_)
  subst ez
  obtain ⟨t, rfl⟩ := rz
  exact ⟨⟨n0, by omega⟩, .int n, H2, I2.tok _, ⟨_, rfl⟩, q2⟩
end
end Sw

namespace Sw
open PySem PySem.Spec PyProof.Rows L2 Sw
local macro_rules | `(tactic| walk_at "mem") => `(tactic| first | with_reducible exact List.mem_cons_self | (with_reducible refine List.mem_cons_of_mem _ ?_; walk_at "mem"))
local macro_rules | `(tactic| walk_at "pick") => `(tactic| first | with_reducible exact Pick.here _ | (with_reducible apply Pick.there; walk_at "pick"))
local macro_rules | `(tactic| walk_at "sub") => `(tactic| first | with_reducible exact Sub.refl _ | with_reducible exact Sub.nil _ | (with_reducible refine Sub.cons (by walk_at "pick") ?_; walk_at "sub") | (with_reducible refine Sub.drop ?_; walk_at "sub"))
local macro_rules | `(tactic| walk_at "hold") => `(tactic| (refine Hold.take (by assumption) ?_; walk_at "sub"))
local macro_rules | `(tactic| walk_at "sql") => `(tactic| first | assumption | exact Hold.sqL (by assumption) (by walk_at "mem") | exact Hold.flL (by assumption) (by walk_at "mem") | exact Hold.sqq (by assumption) (by walk_at "mem"))
local macro_rules | `(tactic| walk_at "sqt") => `(tactic| first | assumption | exact Hold.sqT (by assumption) (by walk_at "mem") | exact Hold.tqT (by assumption) (by walk_at "mem"))
local macro_rules | `(tactic| walk_at "st1") => `(tactic| first
  | with_reducible refine h_seq ?_ | with_reducible refine h_asg ?_ | with_reducible refine h_gn ?_ | with_reducible refine h_ret ?_ | with_reducible refine h_ifS ?_ | with_reducible refine h_drop ?_ | with_reducible refine h_next ?_
  | ((with_reducible refine' h_var ?hv ?_); (case hv => exact rfl)) | with_reducible refine h_c ?_ | with_reducible refine h_op ?_ | with_reducible refine h_cb ?_ | with_reducible refine h_cons ?_ | with_reducible refine h_nil ?_
  | with_reducible refine h_test ?_ | with_reducible refine h_tb ?_ | with_reducible refine h_and ?_ | with_reducible refine h_or ?_ | with_reducible refine h_not ?_
  | with_reducible refine h_andV ?_ | with_reducible refine h_orV ?_ | with_reducible refine h_notV ?_ | with_reducible refine h_ifE ?_ | with_reducible refine h_chain ?_
  | with_reducible refine h_call ?_ | with_reducible refine h_callK ?_ | with_reducible refine h_fld ?_ | with_reducible refine h_meth ?_ | with_reducible refine h_bm ?_ | with_reducible refine h_bm0 ?_
  | with_reducible refine h_lst ?_ | with_reducible refine h_tup ?_ | with_reducible refine h_un ?_ | with_reducible refine h_sl ?_ | with_reducible refine h_nop ?_ | with_reducible refine h_part ?_
  | with_reducible refine h_gs ?_ | with_reducible refine h_par ?_ | with_reducible refine h_retN ?_ | with_reducible refine h_for ?_ | with_reducible refine h_iu ?_ | with_reducible refine h_rng1 ?_ | with_reducible refine h_rng2 ?_ | with_reducible refine h_sfld ?_
  | with_reducible refine h_gcons ?_ | with_reducible refine h_gnil ?_ | with_reducible refine h_brk ?_ | with_reducible refine h_cont ?_ | with_reducible refine h_mkO ?_ | with_reducible refine h_try ?_ | with_reducible refine h_inAs ?_ | with_reducible refine h_inN ?_ | with_reducible refine h_xf ?_ | with_reducible refine h_lc ?_ | with_reducible refine h_sortedK ?_ | with_reducible refine h_lstRg ?_)
local macro_rules | `(tactic| walk_at "st2") => `(tactic| first
  | with_reducible refine hk_b ?_ | with_reducible refine hk_int ?_ | with_reducible refine hk_2 ?_ | with_reducible refine kIf_of ?_ | with_reducible refine hk_ifT ?_ | with_reducible refine hk_ifF ?_ | with_reducible refine hk_ifn ?_ | with_reducible refine hk_and ?_ | with_reducible refine hk_or ?_
  | with_reducible refine hk_addI ?_ | with_reducible refine hk_sub ?_ | with_reducible refine hk_neg ?_ | with_reducible refine hk_eqI ?_ | with_reducible refine hk_neI ?_ | with_reducible refine hk_eqS ?_ | with_reducible refine hk_neS ?_
  | with_reducible refine hk_intI ?_ | with_reducible refine hk_intB ?_ | with_reducible refine hk_i0 ?_ | with_reducible refine hk_ifN0 ?_ | with_reducible refine hk_ifNi ?_ | with_reducible refine hk_ifNr ?_ | with_reducible refine hk_ifNs ?_ | with_reducible refine hk_ifNb ?_ | with_reducible refine hk_max2 ?_ | with_reducible refine hk_min2 ?_ | with_reducible refine hk_rIsN ?_ | with_reducible refine hk_rNotN ?_
  | ((with_reducible refine hk_eq ?_ ?_); (· rfl)) | ((with_reducible refine hk_ne ?_ ?_); (· rfl)))
local macro_rules | `(tactic| walk_at "st") => `(tactic| repeat (first | walk_at "st1" | walk_at "st2"))
local macro_rules | `(tactic| walk_at "ixl") => `(tactic| (refine hk_ixL (by walk_at "sql") (by rfl) ?_))
local macro_rules | `(tactic| walk_at "ixt") => `(tactic| (refine hk_ixT (by walk_at "sqt") (by rfl) ?_))
local macro_rules | `(tactic| walk_at "go") => `(tactic| repeat (first | walk_at "st1" | walk_at "st2" | walk_at "ixl" | walk_at "ixt"))
local macro_rules | `(tactic| walk_at "lit") => `(tactic| repeat (first | walk_at "st1" | walk_at "st2" | (with_reducible refine hk_litT ?_ ?_; (· decide)) | (with_reducible refine hk_litF ?_ ?_; (· decide))))
/-! ### txt -/
def top (i : Nat) : Stmt := PySem.Challenge.pw_slotwraps_k65_whole_any_rule_of_reuse.main.body.getD i (.Pass ⟨0, 0, 0, 0⟩)
structure Txt (G : Gx) (mg : Str → Option Value) : Prop where
  b_bool : mg "bool" = none
  b_int : mg "int" = none
  b_isinstance : mg "isinstance" = none
  b_len : mg "len" = none
  b_list : mg "list" = none
  b_range : mg "range" = none
  b_sorted : mg "sorted" = none
  b_str : mg "str" = none
  g_RULES : ∃ u, mg "RULES" = some u ∧ RelV (.ref G.aRULES) u
  g_MOST_SLOTS : ∃ u, mg "MOST_SLOTS" = some u ∧ RelV (.int 64) u
  g_MOST_GENERATIONS : ∃ u, mg "MOST_GENERATIONS" = some u ∧ RelV (.int 1000000000) u
  k_RULES : ∀ H, SqT G.K H G.aRULES ([.str "last", .str "first", .str "lowest", .str "least"])
  c_SlotError : mg "SlotError" = some (.ref G.eSlotError)
  c_NoSlots : mg "NoSlots" = some (.ref G.eNoSlots)

/-! ### errs -/
section
variable {P : Program} {w : World} {mg : Str → Option Value} {base : Heap} {G : Gx}
abbrev s_NoSlots_init : Stmt := (inClass (top 2) 0)
theorem sc_NoSlots_init : FnScope ["self", "why"] ["self", "why"] (defScope s_NoSlots_init) := ⟨rfl, rfl, rfl, by decide +kernel, rfl, by decide +kernel, by decide +kernel⟩
def sp_NoSlots_init (G : Gx) : Sp := spErr1 G.eNoSlots "why"
theorem ok_NoSlots_init (F : TopE G.K mg "NoSlots" "NoSlots.__init__" G.eNoSlots ["why"] s_NoSlots_init) : CalE P w G.K mg base "NoSlots" G.eNoSlots 1 ["self", "why"] (sp_NoSlots_init G) := by
  refine CalE.mk' F sc_NoSlots_init (fun _ _ _ _ _ _ us hl => match us, hl with | [_, _], _ => rfl) (fun vs H Q E h => by obtain ⟨_, _, rfl, _⟩ := h; rfl) (fun f cdv A outer s H vs Q E h => ?_)
  obtain ⟨a, v, rfl, h1, k⟩ := h
  exact ⟨_, (pss_one (ps_ost (pv 0) (pv 1))), _, rfl, _, rfl, a, _, rfl, F.oex, F.no _ (by decide), .inl ⟨h1, fun dx h2 h3 => k dx h2 h3⟩⟩
end

/-! ### ri -/
section
variable {P : Program} {w : World} {mg : Str → Option Value} {base : Heap} {G : Gx}
/-! is_integer -/
abbrev s_is_integer : Stmt := (top 5)
theorem sc_is_integer : FnScope ["value"] ["value"] (defScope s_is_integer) := ⟨rfl, rfl, rfl, by decide +kernel, rfl, by decide +kernel, by decide +kernel⟩
def sp_is_integer (G : Gx) : Sp := fun vs H Q _ => ∃ v t, vs = [v] ∧ Kd G.K H v t ∧ Q (.bl (isI v)) H
theorem len_is_integer {vs : List V} {H : Hp} {Q : VK} {E : XK} (h : sp_is_integer G vs H Q E) : vs.length = 1 := by obtain ⟨_, _, rfl, _⟩ := h; rfl
theorem ok_is_integer (T : Txt G mg)   (F : TopF G.K mg "is_integer" s_is_integer) : Cal P w G.K mg base "is_integer" 1 ["value"] (sp_is_integer G) := by
  refine Cal.mk' F sc_is_integer (fun _ _ _ _ _ _ us hl => match us, hl with | [_], _ => rfl) (fun vs H Q E h => len_is_integer h) (fun f cdv A outer s H vs Q E hr tk po h => ?_)
  refine ⟨_, (pss_one (ps_ret (pe_and (pe_callB cU_isinstance_2 (by rfl) T.b_isinstance (by decide +kernel) (pa_cons (pv 0) (pa_cons (pe_bltn (v := .ty "int") (by rfl) T.b_int (by decide +kernel) rfl) pa_nil))) (pe_one (pe_not (pe_callB cU_isinstance_2 (by rfl) T.b_isinstance (by decide +kernel) (pa_cons (pv 0) (pa_cons (pe_bltn (v := .ty "bool") (by rfl) T.b_bool (by decide +kernel) rfl) pa_nil)))))))), ?_⟩
  clear tk po F
  try dsimp only [cxOf]
  obtain ⟨v, t, rfl, kd, q⟩ := h
  rw [← kd.isI] at q
  walk_at "st"
  refine hk_isK kd (by decide) ?_
  walk_at "st"
  refine hk_if2 (fun h1 => ?_) (fun h1 => ?_)
  · walk_at "st"
    refine hk_isK kd (by decide) ?_
    walk_at "st"
    rw [h1] at q; exact q
  · rw [h1] at q; exact q
end

/-! ### rb -/
section
variable {P : Program} {w : World} {mg : Str → Option Value} {base : Heap} {G : Gx}
/-! is_between -/
abbrev s_is_between : Stmt := (top 6)
theorem sc_is_between : FnScope ["value", "low", "high"] ["value", "low", "high"] (defScope s_is_between) := ⟨rfl, rfl, rfl, by decide +kernel, rfl, by decide +kernel, by decide +kernel⟩
def btw (v : V) (a b : Int) : Bool := match v with
  | .int i => decide (a ≤ i) && decide (i ≤ b)
  | _ => false
def sp_is_between (G : Gx) : Sp := fun vs H Q _ => ∃ v t a b, vs = [v, .int a, .int b] ∧ Kd G.K H v t ∧ Q (.bl (btw v a b)) H
theorem len_is_between {vs : List V} {H : Hp} {Q : VK} {E : XK} (h : sp_is_between G vs H Q E) : vs.length = 3 := by obtain ⟨_, _, _, _, rfl, _⟩ := h; rfl
theorem ok_is_between (T : Txt G mg) (c_is_integer : Cal P w G.K mg base "is_integer" 1 ["value"] (sp_is_integer G))  (F : TopF G.K mg "is_between" s_is_between) : CalKw P w G.K mg base "is_between" 2 1 ["value", "low", "high"] ["low", "high"] (sp_is_between G) := by
  refine CalKw.mk' F sc_is_between (by decide) (fun _ _ _ _ _ _ us ws hu hl => match us, hu with | [_], _ => match ws, hl with | [_, _], _ => rfl) (fun vs H Q E h => len_is_between h) (by decide) (fun f cdv A outer s H vs Q E hr tk po h => ?_)
  refine ⟨_, (pss_one (ps_ret (pe_and (pe_c c_is_integer (hr.mono (by decide)) (by rfl) tk (pa_cons (pv 0) pa_nil)) (pe_one (pe_chain op_le op_le (pv 1) (pv 0) (pv 2)))))), ?_⟩
  clear tk po F c_is_integer
  try dsimp only [cxOf]
  obtain ⟨v, t, a, b, rfl, kd, q⟩ := h
  walk_at "st"
  refine ⟨v, t, rfl, kd, ?_⟩
  walk_at "st"
  cases v <;> first
    | exact hk_ifF q
    | (refine hk_ifT ?_
       walk_at "st"
       refine hk_ifd (fun h1 => ?_) (fun h1 => ?_)
       · walk_at "st"
         simp only [btw, h1, decide_true, Bool.true_and] at q
         exact q
       · simp only [btw, h1, decide_false, Bool.false_and] at q
         exact q)
/-! is_rule -/
abbrev s_is_rule : Stmt := (top 7)
theorem sc_is_rule : FnScope ["value"] ["value"] (defScope s_is_rule) := ⟨rfl, rfl, rfl, by decide +kernel, rfl, by decide +kernel, by decide +kernel⟩
def ruleNames : List Str := ["last", "first", "lowest", "least"]
def isRule (v : V) : Bool := match v with
  | .str x => decide (x ∈ ruleNames)
  | _ => false
def sp_is_rule (G : Gx) : Sp := fun vs H Q _ => ∃ v t, vs = [v] ∧ Kd G.K H v t ∧ Q (.bl (isRule v)) H
theorem len_is_rule {vs : List V} {H : Hp} {Q : VK} {E : XK} (h : sp_is_rule G vs H Q E) : vs.length = 1 := by obtain ⟨_, _, rfl, _⟩ := h; rfl
theorem inV_str (x : Str) : inV (.str x) ([.str "last", .str "first", .str "lowest", .str "least"]) = decide (x ∈ ruleNames) := by
  simp only [inV, List.any_cons, List.any_nil, eqV, ruleNames, List.mem_cons, List.not_mem_nil, or_false]
  by_cases h1 : x = "last"
  · subst h1; decide
  by_cases h2 : x = "first"
  · subst h2; decide
  by_cases h3 : x = "lowest"
  · subst h3; decide
  by_cases h4 : x = "least"
  · subst h4; decide
  simp [h1, h2, h3, h4, Ne.symm h1, Ne.symm h2, Ne.symm h3, Ne.symm h4]
theorem ok_is_rule (T : Txt G mg)   (F : TopF G.K mg "is_rule" s_is_rule) : Cal P w G.K mg base "is_rule" 1 ["value"] (sp_is_rule G) := by
  refine Cal.mk' F sc_is_rule (fun _ _ _ _ _ _ us hl => match us, hl with | [_], _ => rfl) (fun vs H Q E h => len_is_rule h) (fun f cdv A outer s H vs Q E hr tk po h => ?_)
  refine ⟨_, (pss_one (ps_ret (pe_and (pe_callB cU_isinstance_2 (by rfl) T.b_isinstance (by decide +kernel) (pa_cons (pv 0) (pa_cons (pe_bltn (v := .ty "str") (by rfl) T.b_str (by decide +kernel) rfl) pa_nil))) (pe_one (pe_cmpR opU_in (pv 0) (pe_gc (by rfl) T.g_RULES) (by rfl)))))), ?_⟩
  clear tk po F
  try dsimp only [cxOf]
  obtain ⟨v, t, rfl, kd, q⟩ := h
  walk_at "st"
  refine hk_isK kd (by decide) ?_
  walk_at "st"
  rw [kd.isStr]
  cases v <;> first
    | exact hk_ifF q
    | (refine hk_ifT ?_
       walk_at "st"
       refine hk_inT (T.k_RULES H) rfl rfl ?_
       rw [if_neg (by decide), inV_str]
       exact q)
end

/-! ### math65 -/
/-! ### the plain law of k65 -/
/-- the count of slot i -/
def cnt (cs : List Int) (i : Int) : Int := cs.getD i.toNat 0
theorem cnt_set {cs : List Int} {m : Int} {v : Int} (h0 : 0 ≤ m) (h1 : m < cs.length) (i : Int) (hi : 0 ≤ i) : cnt (cs.set m.toNat v) i = if i = m then v else cnt cs i := by
  unfold cnt
  have hm : m.toNat < cs.length := by omega
  simp only [List.getD_eq_getElem?_getD, List.getElem?_set]
  by_cases h : i = m
  · subst h
    rw [if_pos rfl, if_pos rfl, if_pos hm]
    rfl
  · have : m.toNat ≠ i.toNat := by omega
    rw [if_neg this, if_neg h]
theorem sum_congr {f g : Int → Int} : ∀ {l : List Int}, (∀ x ∈ l, f x = g x) → (l.map f).sum = (l.map g).sum
  | [], _ => rfl
  | x :: l, h => by
    rw [List.map_cons, List.map_cons, List.sum_cons, List.sum_cons, h x List.mem_cons_self, sum_congr fun y hy => h y (List.mem_cons_of_mem _ hy)]
theorem sum_perm {l m : List Int} (p : l.Perm m) : l.sum = m.sum := by
  induction p with
  | nil => rfl
  | cons x p ih => rw [List.sum_cons, List.sum_cons, ih]
  | swap x y l => simp only [List.sum_cons]; omega
  | trans _ _ h1 h2 => exact h1.trans h2
theorem sum_le {f : Int → Int} {g : Int} : ∀ {l : List Int}, (∀ x ∈ l, f x ≤ g) → (l.map f).sum ≤ g * l.length
  | [], _ => by simp
  | x :: l, h => by
    have h1 := h x List.mem_cons_self
    have h2 := sum_le (l := l) fun y hy => h y (List.mem_cons_of_mem _ hy)
    rw [List.map_cons, List.sum_cons, List.length_cons]
    have e : g * ((l.length + 1 : Nat) : Int) = g * l.length + g := by rw [Int.natCast_add, Int.mul_add]; simp
    omega
theorem sum_nn {f : Int → Int} : ∀ {l : List Int}, (∀ x ∈ l, 0 ≤ f x) → 0 ≤ (l.map f).sum ∧ ∀ x ∈ l, f x ≤ (l.map f).sum
  | [], _ => ⟨by simp, fun x hx => by simp at hx⟩
  | x :: l, h => by
    have h1 := h x List.mem_cons_self
    obtain ⟨h2, h3⟩ := sum_nn (l := l) fun y hy => h y (List.mem_cons_of_mem _ hy)
    rw [List.map_cons, List.sum_cons]
    refine ⟨by omega, fun y hy => ?_⟩
    rcases List.mem_cons.mp hy with e | hy
    · rw [e]; omega
    · have := h3 y hy; omega
theorem sum_all {f : Int → Int} {g : Int} : ∀ {l : List Int}, (∀ x ∈ l, f x = g) → (l.map f).sum = g * l.length
  | [], _ => by simp
  | x :: l, h => by
    have h1 := h x List.mem_cons_self
    have h2 := sum_all (l := l) fun y hy => h y (List.mem_cons_of_mem _ hy)
    rw [List.map_cons, List.sum_cons, List.length_cons]
    have e : g * ((l.length + 1 : Nat) : Int) = g * l.length + g := by rw [Int.natCast_add, Int.mul_add]; simp
    omega
theorem le_mul1 {g : Int} (hg : 1 ≤ g) (r : Nat) : (r : Int) ≤ g * r := by
  have := Int.mul_le_mul_of_nonneg_right hg (Int.natCast_nonneg r)
  omega
def slotsUp (n : Int) : List Int := (List.range n.toNat).map Int.ofNat
/-- what holds behind a number of takes; ro: slots that are retired -/
structure S65 (ret : Bool) (n l g : Int) (free cs : List Int) (num : Int) (ro : Nat) : Prop where
  n0 : 0 ≤ num
  cl : (cs.length : Int) = n
  nd : free.Nodup
  rg : ∀ i ∈ free, 0 ≤ i ∧ i < n
  bd : ∀ i ∈ free, 0 ≤ cnt cs i ∧ cnt cs i ≤ g ∧ (ret = true → cnt cs i < g)
  len : (free.length : Int) + (if num ≤ l - 1 then num else l - 1) + ro = n
  sm : (free.map (cnt cs)).sum + (if num ≤ l - 1 then num else l - 1) + g * ro = num
  r0 : ret = false → ro = 0
theorem S65.zero {ret : Bool} {n l g : Int} {free cs : List Int} {num : Int} {ro : Nat} (S : S65 ret n l g free cs num ro) (hg : 1 ≤ g) (h : num ≤ l - 1) : ro = 0 ∧ ∀ i ∈ free, cnt cs i = 0 := by
  obtain ⟨h2, h3⟩ := sum_nn (l := free) (f := cnt cs) fun i hi => (S.bd i hi).1
  have hs := S.sm
  rw [if_pos h] at hs
  have hr := le_mul1 hg ro
  refine ⟨by omega, fun i hi => ?_⟩
  have := h3 i hi
  have := (S.bd i hi).1
  have : 0 ≤ g * (ro : Int) := by omega
  omega
/-- one take of slot m -/
theorem S65.step {ret : Bool} {n l g : Int} {free cs : List Int} {num : Int} {ro : Nat} {m : Int} (S : S65 ret n l g free cs num ro) (hg : 1 ≤ g) (hl : 1 ≤ l) (hm : m ∈ free) (hc : cnt cs m ≠ g) :
    ∃ ro', S65 ret n l g (if num + 1 ≥ l ∧ ¬ (ret = true ∧ cnt cs m + 1 = g) then free.erase m ++ [m] else free.erase m) (cs.set m.toNat (cnt cs m + 1)) (num + 1) ro' := by
  obtain ⟨m0, m1⟩ := S.rg m hm
  have hml : m < cs.length := by rw [S.cl]; exact m1
  have hb := S.bd m hm
  have hp := List.perm_cons_erase hm
  have hcs := fun i (hi : 0 ≤ i) => cnt_set (v := cnt cs m + 1) m0 hml i hi
  have hnm : m ∉ free.erase m := fun z => by
    have := (hp.nodup S.nd)
    exact (List.nodup_cons.mp this).1 z
  have herase : ∀ i ∈ free.erase m, i ∈ free ∧ i ≠ m := fun i hi => ⟨List.mem_of_mem_erase hi, fun z => hnm (z ▸ hi)⟩
  have hsum : (free.map (cnt cs)).sum = cnt cs m + ((free.erase m).map (cnt cs)).sum := by
    have := sum_perm (hp.map (cnt cs))
    rw [List.map_cons, List.sum_cons] at this
    exact this
  have hlen : free.length = (free.erase m).length + 1 := by have := hp.length_eq; simpa using this
  have hsame : ((free.erase m).map (cnt (cs.set m.toNat (cnt cs m + 1)))).sum = ((free.erase m).map (cnt cs)).sum := sum_congr fun i hi => by
    rw [hcs i (S.rg i (herase i hi).1).1, if_neg (herase i hi).2]
  have hcl : (((cs.set m.toNat (cnt cs m + 1)).length : Nat) : Int) = n := by rw [List.length_set]; exact S.cl
  have hnum : 0 ≤ num := S.n0
  have bdE : ∀ i ∈ free.erase m, 0 ≤ cnt (cs.set m.toNat (cnt cs m + 1)) i ∧ cnt (cs.set m.toNat (cnt cs m + 1)) i ≤ g ∧ (ret = true → cnt (cs.set m.toNat (cnt cs m + 1)) i < g) := fun i hi => by
    rw [hcs i (S.rg i (herase i hi).1).1, if_neg (herase i hi).2]
    exact S.bd i (herase i hi).1
  have S1 := S.len
  have S2 := S.sm
  by_cases hk : num + 1 ≥ l
  · have e1 : (if num ≤ l - 1 then num else l - 1) = l - 1 := by split <;> omega
    have e2 : (if num + 1 ≤ l - 1 then num + 1 else l - 1) = l - 1 := by rw [if_neg (by omega)]
    rw [e1] at S1 S2
    by_cases hr : ret = true ∧ cnt cs m + 1 = g
    · rw [if_neg (by intro z; exact z.2 hr)]
      refine ⟨ro + 1, by omega, hcl, S.nd.erase m, fun i hi => S.rg i (herase i hi).1, bdE, ?_, ?_, fun z => ?_⟩
      · rw [e2]; omega
      · rw [e2, hsame]
        have : g * ((ro + 1 : Nat) : Int) = g * ro + g := by rw [Int.natCast_add, Int.mul_add]; simp
        omega
      · rw [hr.1] at z; cases z
    · rw [if_pos ⟨hk, hr⟩]
      refine ⟨ro, by omega, hcl, ?_, fun i hi => ?_, fun i hi => ?_, ?_, ?_, S.r0⟩
      · rw [List.nodup_append]
        refine ⟨S.nd.erase m, by simp, fun x hx y hy => ?_⟩
        have : y = m := by simpa using hy
        rw [this]; exact (herase x hx).2
      · rcases List.mem_append.mp hi with h | h
        · exact S.rg i (herase i h).1
        · have : i = m := by simpa using h
          rw [this]; exact ⟨m0, m1⟩
      · rcases List.mem_append.mp hi with h | h
        · exact bdE i h
        · have : i = m := by simpa using h
          subst this
          rw [hcs i m0, if_pos rfl]
          refine ⟨by omega, by omega, fun z => ?_⟩
          have := hb.2.2 z
          have : ¬ (cnt cs i + 1 = g) := fun q => hr ⟨z, q⟩
          omega
      · rw [e2, List.length_append]
        simp only [List.length_cons, List.length_nil]
        omega
      · rw [e2, List.map_append, List.sum_append, hsame]
        simp only [List.map_cons, List.map_nil, List.sum_cons, List.sum_nil]
        rw [hcs m m0, if_pos rfl]
        omega
  · rw [if_neg (by intro z; exact hk z.1)]
    obtain ⟨z1, z2⟩ := S.zero hg (by omega)
    have e1 : (if num ≤ l - 1 then num else l - 1) = num := if_pos (by omega)
    have e2 : (if num + 1 ≤ l - 1 then num + 1 else l - 1) = num + 1 := if_pos (by omega)
    rw [e1] at S1 S2
    refine ⟨ro, by omega, hcl, S.nd.erase m, fun i hi => S.rg i (herase i hi).1, bdE, ?_, ?_, S.r0⟩
    · rw [e2]; omega
    · rw [e2, hsame]
      have := z2 m hm
      omega
theorem S65.most {ret : Bool} {n l g : Int} {free cs : List Int} {num : Int} {ro : Nat} (S : S65 ret n l g free cs num ro) (hg : 1 ≤ g) (hl : 1 ≤ l) (hln : l ≤ n) : num ≤ g * (n - l + 1) + l - 1 := by
  have h := sum_le (l := free) (f := cnt cs) (g := g) fun i hi => (S.bd i hi).2.1
  have S1 := S.len
  have S2 := S.sm
  have hr := le_mul1 hg ro
  by_cases hk : num ≤ l - 1
  · have : 0 ≤ g * (n - l + 1) := Int.mul_nonneg (by omega) (by omega)
    omega
  · rw [if_neg hk] at S1 S2
    have e : g * (n - l + 1) = g * free.length + g * ro := by rw [← Int.mul_add]; congr 1; omega
    omega
/-- a handle repeats: at most then; exactly then if the slot with the fewest takes is taken -/
theorem S65.rep {ret : Bool} {n l g : Int} {free cs : List Int} {num : Int} {ro : Nat} {m : Int} (S : S65 ret n l g free cs num ro) (hg : 1 ≤ g) (hl : 1 ≤ l) (hln : l ≤ n) (hm : m ∈ free) (hc : cnt cs m = g) (hr : ret = false) (hmin : ∀ i ∈ free, cnt cs m ≤ cnt cs i) : num + 1 = g * (n - l + 1) + l := by
  have ha := sum_all (l := free) (f := cnt cs) (g := g) fun i hi => by
    have := hmin i hi
    have := (S.bd i hi).2.1
    omega
  have S1 := S.len
  have S2 := S.sm
  have r0 := S.r0 hr
  subst r0
  by_cases hk : num ≤ l - 1
  · have := (S.zero hg hk).2 m hm
    omega
  · rw [if_neg hk] at S1 S2
    have e : g * (n - l + 1) = g * free.length := by congr 1; omega
    simp at S2
    omega
theorem S65.noRet {n l g : Int} {free cs : List Int} {num : Int} {ro : Nat} {m : Int} (S : S65 true n l g free cs num ro) (hm : m ∈ free) : cnt cs m ≠ g := by
  have := (S.bd m hm).2.2 rfl
  omega
/-- the free list is empty: all are retired -/
theorem S65.fin {ret : Bool} {n l g : Int} {cs : List Int} {num : Int} {ro : Nat} (S : S65 ret n l g [] cs num ro) (hg : 1 ≤ g) (hl : 1 ≤ l) (hln : l ≤ n) : num = g * (n - l + 1) + l - 1 ∧ ret = true := by
  have S1 := S.len
  have S2 := S.sm
  simp only [List.length_nil, List.map_nil, List.sum_nil] at S1 S2
  by_cases hk : num ≤ l - 1
  · have := (S.zero hg hk).1
    rw [if_pos hk] at S1
    omega
  · rw [if_neg hk] at S1 S2
    have e : g * (n - l + 1) = g * ro := by congr 1; omega
    refine ⟨by omega, ?_⟩
    cases ret with
    | true => rfl
    | false =>
      have := S.r0 rfl
      omega
theorem S65.start {ret : Bool} {n l g : Int} (hg : 1 ≤ g) (hl : 1 ≤ l) (hn : 0 ≤ n) : S65 ret n l g (slotsUp n) (List.replicate n.toNat 0) 0 0 := by
  have c0 : ∀ i, cnt (List.replicate n.toNat 0) i = 0 := fun i => by
    unfold cnt
    rw [List.getD_eq_getElem?_getD, List.getElem?_replicate]
    split <;> rfl
  refine ⟨Int.le_refl _, by rw [List.length_replicate]; omega, ?_, fun i hi => ?_, fun i hi => ?_, ?_, ?_, fun _ => rfl⟩
  · unfold slotsUp
    rw [List.nodup_iff_pairwise_ne, List.pairwise_map]
    exact (List.nodup_iff_pairwise_ne.mp List.nodup_range).imp fun h z => h (Int.ofNat.inj z)
  · obtain ⟨j, hj, rfl⟩ := List.mem_map.mp hi
    have := List.mem_range.mp hj
    have e : Int.ofNat j = (j : Int) := rfl
    omega
  · rw [c0]; exact ⟨Int.le_refl _, by omega, fun _ => by omega⟩
  · unfold slotsUp; rw [if_pos (by omega), List.length_map, List.length_range]; omega
  · rw [sum_all (g := 0) fun i _ => c0 i, if_pos (by omega)]
    simp
/-- slots taken by turns: the counts along the free list -/
def Queue (free cs : List Int) : Prop := free.Pairwise (fun a b => cnt cs a ≤ cnt cs b) ∧ ∀ a ∈ free, ∀ b ∈ free, cnt cs b ≤ cnt cs a + 1
theorem Queue.start (n : Int) : Queue (slotsUp n) (List.replicate n.toNat 0) := by
  have c0 : ∀ i, cnt (List.replicate n.toNat 0) i = 0 := fun i => by
    unfold cnt
    rw [List.getD_eq_getElem?_getD, List.getElem?_replicate]
    split <;> rfl
  refine ⟨?_, fun a _ b _ => by rw [c0, c0]; decide⟩
  refine List.pairwise_of_forall ?_
  intro a b
  rw [c0, c0]
  exact Int.le_refl _
theorem Queue.head {m : Int} {r cs : List Int} (q : Queue (m :: r) cs) : ∀ i ∈ m :: r, cnt cs m ≤ cnt cs i := fun i hi => by
  rcases List.mem_cons.mp hi with e | hi
  · rw [e]; exact Int.le_refl _
  · exact (List.pairwise_cons.mp q.1).1 i hi
theorem Queue.step {m : Int} {r cs : List Int} (b : Bool) (q : Queue (m :: r) cs) (nd : (m :: r).Nodup) (rg : ∀ i ∈ m :: r, 0 ≤ i) (hl : m < cs.length) : Queue (if b = true then r ++ [m] else r) (cs.set m.toNat (cnt cs m + 1)) := by
  have m0 := rg m List.mem_cons_self
  have hcs := fun i (hi : 0 ≤ i) => cnt_set (v := cnt cs m + 1) m0 hl i hi
  obtain ⟨p1, p2⟩ := List.pairwise_cons.mp q.1
  have hnm : m ∉ r := (List.nodup_cons.mp nd).1
  have hr : ∀ i ∈ r, cnt (cs.set m.toNat (cnt cs m + 1)) i = cnt cs i := fun i hi => by
    have hne : i ≠ m := fun z => hnm (by rw [← z]; exact hi)
    rw [hcs i (rg i (List.mem_cons_of_mem _ hi)), if_neg hne]
  have pr : r.Pairwise fun a b => cnt (cs.set m.toNat (cnt cs m + 1)) a ≤ cnt (cs.set m.toNat (cnt cs m + 1)) b := by
    refine p2.imp_of_mem fun {a b} ha hb h => ?_
    rw [hr a ha, hr b hb]
    exact h
  have hm : cnt (cs.set m.toNat (cnt cs m + 1)) m = cnt cs m + 1 := by rw [hcs m m0, if_pos rfl]
  have q2 : ∀ a ∈ r, ∀ b ∈ r, cnt cs b ≤ cnt cs a + 1 := fun a ha b hb => q.2 a (List.mem_cons_of_mem _ ha) b (List.mem_cons_of_mem _ hb)
  cases b with
  | false =>
    refine ⟨pr, fun a ha b hb => ?_⟩
    have ha : a ∈ r := ha
    have hb : b ∈ r := hb
    rw [hr a ha, hr b hb]
    exact q2 a ha b hb
  | true =>
    refine ⟨?_, fun a ha b hb => ?_⟩
    · rw [if_pos rfl, List.pairwise_append]
      refine ⟨pr, by simp, fun a ha b hb => ?_⟩
      have : b = m := by simpa using hb
      rw [this, hm, hr a ha]
      exact q.2 m List.mem_cons_self a (List.mem_cons_of_mem _ ha)
    · rw [if_pos rfl] at ha hb
      rcases List.mem_append.mp ha with ha | ha <;> rcases List.mem_append.mp hb with hb | hb
      · rw [hr a ha, hr b hb]
        exact q2 a ha b hb
      · have : b = m := by simpa using hb
        rw [this, hm, hr a ha]
        have := p1 a ha
        omega
      · have : a = m := by simpa using ha
        rw [this, hm, hr b hb]
        have := q.2 m List.mem_cons_self b (List.mem_cons_of_mem _ hb)
        omega
      · have e1 : a = m := by simpa using ha
        have e2 : b = m := by simpa using hb
        rw [e1, e2]
        omega
theorem find_at {m : Int} {free : List Int} (h : m ∈ free) : ∃ j, free[j]? = some m ∧ (∀ k, k < j → free[k]? ≠ some m) ∧ free.eraseIdx j = free.erase m := by
  induction free with
  | nil => simp at h
  | cons x free ih =>
    by_cases e : x = m
    · subst e
      exact ⟨0, rfl, fun k hk => absurd hk (by omega), by simp⟩
    · have hm : m ∈ free := by
        rcases List.mem_cons.mp h with z | z
        · exact absurd z.symm e
        · exact z
      obtain ⟨j, h1, h2, h3⟩ := ih hm
      refine ⟨j + 1, by simpa using h1, fun k hk => ?_, ?_⟩
      · cases k with
        | zero => simpa using e
        | succ k => simpa using h2 k (by omega)
      · rw [List.eraseIdx_cons_succ, h3, List.erase_cons_tail (by simpa using e)]

/-! ### horiz -/
section
variable {P : Program} {w : World} {mg : Str → Option Value} {base : Heap} {G : Gx}
/-! check_map -/
abbrev s_check_map : Stmt := (top 11)
theorem sc_check_map : FnScope ["n", "limit", "generations", "rule"] ["n", "limit", "generations", "rule"] (defScope s_check_map) := ⟨rfl, rfl, rfl, by decide +kernel, rfl, by decide +kernel, by decide +kernel⟩
/-- the arguments' numbers -/
def vI (v : V) : Int := match v with
  | .int i => i
  | _ => 0
/-- the first of the arguments that doesn't describe a map -/
def badArg (n limit gens rule : V) : Option Str :=
  if btw n 1 64 = false then some "n"
  else if btw limit 1 (vI n) = false then some "limit"
  else if btw gens 1 1000000000 = false then some "generations"
  else if isRule rule = false then some "rule" else none
def sp_check_map (G : Gx) : Sp := fun vs H Q E => ∃ n t1 l t2 g t3 r t4, vs = [n, l, g, r] ∧ Kd G.K H n t1 ∧ Kd G.K H l t2 ∧ Kd G.K H g t3 ∧ Kd G.K H r t4 ∧
  (badArg n l g r = none → Q .non H) ∧ (∀ x, badArg n l g r = some x → ∀ d, H d = none → E (.ref G.eNoSlots) (some d) (upd H d (.xd [("why", .str x)])))
theorem len_check_map {vs : List V} {H : Hp} {Q : VK} {E : XK} (h : sp_check_map G vs H Q E) : vs.length = 4 := by obtain ⟨_, _, _, _, _, _, _, _, rfl, _⟩ := h; rfl
theorem ok_check_map (T : Txt G mg) (c_is_between : CalKw P w G.K mg base "is_between" 2 1 ["value", "low", "high"] ["low", "high"] (sp_is_between G)) (c_NoSlots : CalE P w G.K mg base "NoSlots" G.eNoSlots 1 ["self", "why"] (sp_NoSlots_init G)) (c_is_rule : Cal P w G.K mg base "is_rule" 1 ["value"] (sp_is_rule G))  (F : TopF G.K mg "check_map" s_check_map) : Cal P w G.K mg base "check_map" 3 ["n", "limit", "generations", "rule"] (sp_check_map G) := by
  refine Cal.mk' F sc_check_map (fun _ _ _ _ _ _ us hl => match us, hl with | [_, _, _, _], _ => rfl) (fun vs H Q E h => len_check_map h) (fun f cdv A outer s H vs Q E hr tk po h => ?_)
  refine ⟨_, (pss_cons (ps_if (pt_not (pt_val (pe_ck c_is_between (hr.mono (by decide)) (by rfl) tk (pa_cons (pv 0) pa_nil) (pk_cons pe_int (pk_cons (pe_gc (by rfl) T.g_MOST_SLOTS) pk_nil))))) (pss_one (ps_raise rfl tk (pmk_e c_NoSlots (hr.mono (by decide)) (pa_cons pe_str pa_nil)))) pss_nil)
  (pss_cons (ps_if (pt_not (pt_val (pe_ck c_is_between (hr.mono (by decide)) (by rfl) tk (pa_cons (pv 1) pa_nil) (pk_cons pe_int (pk_cons (pv 0) pk_nil))))) (pss_one (ps_raise rfl tk (pmk_e c_NoSlots (hr.mono (by decide)) (pa_cons pe_str pa_nil)))) pss_nil)
  (pss_cons (ps_if (pt_not (pt_val (pe_ck c_is_between (hr.mono (by decide)) (by rfl) tk (pa_cons (pv 2) pa_nil) (pk_cons pe_int (pk_cons (pe_gc (by rfl) T.g_MOST_GENERATIONS) pk_nil))))) (pss_one (ps_raise rfl tk (pmk_e c_NoSlots (hr.mono (by decide)) (pa_cons pe_str pa_nil)))) pss_nil)
  (pss_one (ps_if (pt_not (pt_val (pe_c c_is_rule (hr.mono (by decide)) (by rfl) tk (pa_cons (pv 3) pa_nil)))) (pss_one (ps_raise rfl tk (pmk_e c_NoSlots (hr.mono (by decide)) (pa_cons pe_str pa_nil)))) pss_nil))))), ?_⟩
  clear tk po F c_is_between c_NoSlots c_is_rule
  try dsimp only [cxOf]
  obtain ⟨n, t1, l, t2, g, t3, r, t4, rfl, k1, k2, k3, k4, q, qe⟩ := h
  walk_at "st"
  refine ⟨rfl, n, t1, _, _, rfl, k1, ?_⟩
  walk_at "st"
  refine hk_if2 (fun h1 => ?_) (fun h1 => ?_)
  rotate_left
  · walk_at "st"
    refine hk_mk1 fun d hd => qe "n" (by simp [badArg, vI, *]) d hd
  walk_at "st"
  obtain ⟨i, rfl⟩ : ∃ i, n = .int i := by
    cases n <;> first | exact ⟨_, rfl⟩ | exact absurd h1 Bool.false_ne_true
  refine ⟨rfl, l, t2, _, _, rfl, k2, ?_⟩
  walk_at "st"
  refine hk_if2 (fun h2 => ?_) (fun h2 => ?_)
  rotate_left
  · walk_at "st"
    refine hk_mk1 fun d hd => qe "limit" (by simp [badArg, vI, *]) d hd
  walk_at "st"
  refine ⟨rfl, g, t3, _, _, rfl, k3, ?_⟩
  walk_at "st"
  refine hk_if2 (fun h3 => ?_) (fun h3 => ?_)
  rotate_left
  · walk_at "st"
    refine hk_mk1 fun d hd => qe "generations" (by simp [badArg, vI, *]) d hd
  walk_at "st"
  refine ⟨r, t4, rfl, k4, ?_⟩
  walk_at "st"
  refine hk_if2 (fun h4 => ?_) (fun h4 => ?_)
  rotate_left
  · walk_at "st"
    refine hk_mk1 fun d hd => qe "rule" (by simp [badArg, vI, *]) d hd
  walk_at "st"
  exact q (by simp [badArg, vI, *])
/-! full_horizon, horizon, retired -/
abbrev s_full_horizon : Stmt := (top 13)
theorem sc_full_horizon : FnScope ["n", "limit", "generations"] ["n", "limit", "generations"] (defScope s_full_horizon) := ⟨rfl, rfl, rfl, by decide +kernel, rfl, by decide +kernel, by decide +kernel⟩
def fullH (n l g : Int) : Int := g * (n - l + 1) + l
def sp_full_horizon (G : Gx) : Sp := fun vs H Q _ => ∃ n l g, vs = [.int n, .int l, .int g] ∧ CMul g (n - l + 1) ∧ Q (.int (fullH n l g)) H
theorem len_full_horizon {vs : List V} {H : Hp} {Q : VK} {E : XK} (h : sp_full_horizon G vs H Q E) : vs.length = 3 := by obtain ⟨_, _, _, rfl, _⟩ := h; rfl
theorem ok_full_horizon (T : Txt G mg)   (F : TopF G.K mg "full_horizon" s_full_horizon) : Cal P w G.K mg base "full_horizon" 1 ["n", "limit", "generations"] (sp_full_horizon G) := by
  refine Cal.mk' F sc_full_horizon (fun _ _ _ _ _ _ us hl => match us, hl with | [_, _, _], _ => rfl) (fun vs H Q E h => len_full_horizon h) (fun f cdv A outer s H vs Q E hr tk po h => ?_)
  refine ⟨_, (pss_one (ps_ret (pe_op opU_add (pe_op opU_mul (pv 2) (pe_op opU_add (pe_op op_sub (pv 0) (pv 1)) pe_int)) (pv 1)))), ?_⟩
  clear tk po F
  try dsimp only [cxOf]
  obtain ⟨n, l, g, rfl, hm, q⟩ := h
  walk_at "st"
  refine hk_mul hm ?_
  walk_at "st"
  exact q
abbrev s_horizon : Stmt := (top 14)
theorem sc_horizon : FnScope ["n", "limit", "generations", "rule"] ["n", "limit", "generations", "rule"] (defScope s_horizon) := ⟨rfl, rfl, rfl, by decide +kernel, rfl, by decide +kernel, by decide +kernel⟩
def horizonV (n l g r : V) : Int := if r = .str "last" ∨ r = .str "lowest" then vI g + 1 else fullH (vI n) (vI l) (vI g)
theorem btw_int {v : V} {a b : Int} (h : btw v a b = true) : ∃ i, v = .int i ∧ a ≤ i ∧ i ≤ b := by
  cases v <;> first
    | exact absurd h Bool.false_ne_true
    | (simp only [btw, Bool.and_eq_true, decide_eq_true_eq] at h
       exact ⟨_, rfl, h.1, h.2⟩)
theorem badArg_none {n l g r : V} (h : badArg n l g r = none) : ∃ n' l' g' x, n = .int n' ∧ l = .int l' ∧ g = .int g' ∧ r = .str x ∧ 1 ≤ n' ∧ n' ≤ 64 ∧ 1 ≤ l' ∧ l' ≤ n' ∧ 1 ≤ g' ∧ g' ≤ 1000000000 ∧ x ∈ ruleNames := by
  unfold badArg at h
  split at h; · cases h
  split at h; · cases h
  split at h; · cases h
  split at h; · cases h
  rename_i h1 h2 h3 h4
  obtain ⟨n', rfl, a1, a2⟩ := btw_int (by simpa using h1)
  obtain ⟨l', rfl, b1, b2⟩ := btw_int (by simpa using h2)
  obtain ⟨g', rfl, c1, c2⟩ := btw_int (by simpa using h3)
  have : ∃ x, r = .str x ∧ x ∈ ruleNames := by
    cases r with
    | str x => exact ⟨x, rfl, by simpa [isRule] using h4⟩
    | _ => exact absurd rfl h4
  obtain ⟨x, rfl, hx⟩ := this
  exact ⟨n', l', g', x, rfl, rfl, rfl, rfl, a1, a2, b1, b2, c1, c2, hx⟩
/-- horizon: what stood in the heap stands; a tuple may have come -/
def sp_horizon (G : Gx) : Sp := fun vs H Q E => ∃ n t1 l t2 g t3 r t4 L, vs = [n, l, g, r] ∧ Hold H L ∧ (∀ H, Hold H L → Kd G.K H n t1 ∧ Kd G.K H l t2 ∧ Kd G.K H g t3 ∧ Kd G.K H r t4) ∧
  (badArg n l g r = none → ∀ H', Hold H' L → Q (.int (horizonV n l g r)) H') ∧ (∀ x, badArg n l g r = some x → ∀ d H', Hold H' (xd d [("why", .str x)] :: L) → E (.ref G.eNoSlots) (some d) H')
theorem len_horizon {vs : List V} {H : Hp} {Q : VK} {E : XK} (h : sp_horizon G vs H Q E) : vs.length = 4 := by obtain ⟨_, _, _, _, _, _, _, _, _, rfl, _⟩ := h; rfl
theorem Hold.newX {H : Hp} {L : List HP} {d : Addr} {fs : List (Str × V)} (h : Hold H L) (hd : H d = none) : Hold (upd H d (.xd fs)) (xd d fs :: L) := h.newF hd upd_same
theorem inV_two (x : Str) : inV (.str x) ([.str "last", .str "lowest"]) = decide (V.str x = .str "last" ∨ V.str x = .str "lowest") := by
  simp only [inV, List.any_cons, List.any_nil, eqV]
  by_cases h1 : x = "last"
  · subst h1; decide
  by_cases h2 : x = "lowest"
  · subst h2; decide
  simp [h1, h2, Ne.symm h1, Ne.symm h2]
theorem ok_horizon (T : Txt G mg) (c_check_map : Cal P w G.K mg base "check_map" 3 ["n", "limit", "generations", "rule"] (sp_check_map G)) (c_full_horizon : Cal P w G.K mg base "full_horizon" 1 ["n", "limit", "generations"] (sp_full_horizon G))  (F : TopF G.K mg "horizon" s_horizon) : Cal P w G.K mg base "horizon" 4 ["n", "limit", "generations", "rule"] (sp_horizon G) := by
  refine Cal.mk' F sc_horizon (fun _ _ _ _ _ _ us hl => match us, hl with | [_, _, _, _], _ => rfl) (fun vs H Q E h => len_horizon h) (fun f cdv A outer s H vs Q E hr tk po h => ?_)
  refine ⟨_, (pss_cons (ps_expr (pe_c c_check_map (hr.mono (by decide)) (by rfl) tk (pa_cons (pv 0) (pa_cons (pv 1) (pa_cons (pv 2) (pa_cons (pv 3) pa_nil))))))
  (pss_cons (ps_if (pt_cmpR opU_in (pv 3) (pe_tup (pa_cons pe_str (pa_cons pe_str pa_nil))) (by rfl)) (pss_one (ps_ret (pe_op opU_add (pv 2) pe_int))) pss_nil)
  (pss_one (ps_ret (pe_c c_full_horizon (hr.mono (by decide)) (by rfl) tk (pa_cons (pv 0) (pa_cons (pv 1) (pa_cons (pv 2) pa_nil)))))))), ?_⟩
  clear tk po F c_check_map c_full_horizon
  try dsimp only [cxOf]
  obtain ⟨n, t1, l, t2, g, t3, r, t4, L, rfl, S, kd, q, qe⟩ := h
  obtain ⟨k1, k2, k3, k4⟩ := kd H S
  walk_at "st"
  refine ⟨n, t1, l, t2, g, t3, r, t4, rfl, k1, k2, k3, k4, fun hb => ?_, fun x hx d hd => qe x hx d _ (S.newX hd)⟩
  have q := q hb
  obtain ⟨n', l', g', x, rfl, rfl, rfl, rfl, a1, a2, b1, b2, c1, c2, hx⟩ := badArg_none hb
  walk_at "st"
  refine hk_tup S (by show 2 ≤ sizeLine; decide) fun p H S => ?_
  refine hk_inT (S.sqT (by walk_at "mem")) rfl rfl ?_
  rw [if_neg (by decide), inV_two]
  walk_at "st"
  refine hk_ifd (fun h1 => ?_) (fun h1 => ?_)
  · walk_at "st"
    have := q H S.tail
    unfold horizonV at this
    rw [if_pos h1] at this
    exact this
  · walk_at "st"
    refine ⟨n', l', g', rfl, .inl (by omega), ?_⟩
    have := q H S.tail
    unfold horizonV at this
    rw [if_neg h1] at this
    exact this
abbrev s_retired : Stmt := (top 15)
theorem sc_retired : FnScope ["n", "limit", "generations"] ["n", "limit", "generations"] (defScope s_retired) := ⟨rfl, rfl, rfl, by decide +kernel, rfl, by decide +kernel, by decide +kernel⟩
def sp_retired (G : Gx) : Sp := fun vs H Q E => ∃ n t1 l t2 g t3, vs = [n, l, g] ∧ Kd G.K H n t1 ∧ Kd G.K H l t2 ∧ Kd G.K H g t3 ∧
  (badArg n l g (.str "first") = none → Q (.int (fullH (vI n) (vI l) (vI g) - 1)) H) ∧ (∀ x, badArg n l g (.str "first") = some x → ∀ d, H d = none → E (.ref G.eNoSlots) (some d) (upd H d (.xd [("why", .str x)])))
theorem len_retired {vs : List V} {H : Hp} {Q : VK} {E : XK} (h : sp_retired G vs H Q E) : vs.length = 3 := by obtain ⟨_, _, _, _, _, _, rfl, _⟩ := h; rfl
theorem ok_retired (T : Txt G mg) (c_check_map : Cal P w G.K mg base "check_map" 3 ["n", "limit", "generations", "rule"] (sp_check_map G)) (c_full_horizon : Cal P w G.K mg base "full_horizon" 1 ["n", "limit", "generations"] (sp_full_horizon G))  (F : TopF G.K mg "retired" s_retired) : Cal P w G.K mg base "retired" 4 ["n", "limit", "generations"] (sp_retired G) := by
  refine Cal.mk' F sc_retired (fun _ _ _ _ _ _ us hl => match us, hl with | [_, _, _], _ => rfl) (fun vs H Q E h => len_retired h) (fun f cdv A outer s H vs Q E hr tk po h => ?_)
  refine ⟨_, (pss_cons (ps_expr (pe_c c_check_map (hr.mono (by decide)) (by rfl) tk (pa_cons (pv 0) (pa_cons (pv 1) (pa_cons (pv 2) (pa_cons pe_str pa_nil))))))
  (pss_one (ps_ret (pe_op op_sub (pe_c c_full_horizon (hr.mono (by decide)) (by rfl) tk (pa_cons (pv 0) (pa_cons (pv 1) (pa_cons (pv 2) pa_nil)))) pe_int)))), ?_⟩
  clear tk po F c_check_map c_full_horizon
  try dsimp only [cxOf]
  obtain ⟨n, t1, l, t2, g, t3, rfl, k1, k2, k3, q, qe⟩ := h
  walk_at "st"
  refine ⟨n, t1, l, t2, g, t3, .str "first", "str", rfl, k1, k2, k3, Kd.str, fun hb => ?_, fun x hx d hd => qe x hx d hd⟩
  have q := q hb
  obtain ⟨n', l', g', x, rfl, rfl, rfl, _, a1, a2, b1, b2, c1, c2, hx⟩ := badArg_none hb
  walk_at "st"
  refine ⟨n', l', g', rfl, .inl (by omega), ?_⟩
  walk_at "st"
  exact q
end

/-! ### draw -/
section
variable {P : Program} {w : World} {mg : Str → Option Value} {base : Heap} {G : Gx}
/-- a source of choices -/
def srcL (s : Int × Int × Int) : List V := [.int s.1, .int s.2.1, .int s.2.2]
def SrcX (a : Addr) (s : Int × Int × Int) : HP := pt a (.lst (srcL s))
def Src (a : Addr) : HP := ex fun s => SrcX a s
abbrev s__law_source_of : Stmt := (top 18)
theorem sc__law_source_of : FnScope ["_law_cell"] ["_law_cell"] (defScope s__law_source_of) := ⟨rfl, rfl, rfl, by decide +kernel, rfl, by decide +kernel, by decide +kernel⟩
def srcOf (c : Int) : Int × Int × Int := let c' := if 0 ≤ c then c else 0 - 3 * c - 1; (c' * (if decide (1000000000000000000 ≤ c') = true then 1 else 0), c' % 2147483647, 0)
def sp__law_source_of (G : Gx) : Sp := fun vs H Q _ => ∃ c L, vs = [.int c] ∧ Hold H L ∧ ∀ p H', Hold H' (SrcX p (srcOf c) :: L) → Q (.ref p) H'
theorem len__law_source_of {vs : List V} {H : Hp} {Q : VK} {E : XK} (h : sp__law_source_of G vs H Q E) : vs.length = 1 := by obtain ⟨_, _, rfl, _⟩ := h; rfl
theorem ok__law_source_of (T : Txt G mg)   (F : TopF G.K mg "_law_source_of" s__law_source_of) : Cal P w G.K mg base "_law_source_of" 1 ["_law_cell"] (sp__law_source_of G) := by
  refine Cal.mk' F sc__law_source_of (fun _ _ _ _ _ _ us hl => match us, hl with | [_], _ => rfl) (fun vs H Q E h => len__law_source_of h) (fun f cdv A outer s H vs Q E hr tk po h => ?_)
  refine ⟨_, (pss_cons (ps_set (i := 0) sc__law_source_of.nd rfl (by first | exact Or.inl rfl | exact Or.inr rfl) (pe_ifExp (pt_cmpR op_ge (pv 0) pe_int (nomark _)) (pv 0) (pe_op op_sub (pe_op op_sub pe_int (pe_op opU_mul pe_int (pv 0))) pe_int)))
  (pss_one (ps_ret (pe_lst (pa_cons (pe_op opU_mul (pv 0) (pe_callTy cU_int_1 (by rfl) T.b_int (by decide +kernel) (pa_cons (pe_cmpR op_ge (pv 0) (pe_op op_pow pe_int pe_int) (nomark _)) pa_nil))) (pa_cons (pe_op op_mod (pe_callTy cU_int_1 (by rfl) T.b_int (by decide +kernel) (pa_cons (pv 0) pa_nil)) pe_int) (pa_cons pe_int pa_nil))))))), ?_⟩
  clear tk po F
  try dsimp only [cxOf]
  obtain ⟨c, L, rfl, S, q⟩ := h
  walk_at "st"
  refine hk_ifj (x := .int c) (y := .int (0 - 3 * c - 1)) (fun _ Q q => ?_) (fun _ Q q => ?_) ?_
  · walk_at "st"; exact q
  · walk_at "st"
    refine hk_mul (.inl (by decide)) ?_
    walk_at "st"; exact q
  have e0 : (if 0 ≤ c then V.int c else .int (0 - 3 * c - 1)) = .int (if 0 ≤ c then c else 0 - 3 * c - 1) := by split <;> rfl
  rw [e0]
  generalize e : (if 0 ≤ c then c else 0 - 3 * c - 1) = c'
  walk_at "st"
  refine hk_pow ⟨by decide, by decide, by decide⟩ ?_
  walk_at "st"
  have e1 : (10 : Int) ^ (18 : Int).toNat = 1000000000000000000 := by decide
  rw [e1]
  refine hk_mul (.inr (by split <;> decide)) ?_
  walk_at "st"
  refine hk_mod (by decide) ?_
  walk_at "st"
  refine hk_lst S (by show 3 ≤ sizeLine; decide) fun p H S => q p H ?_
  unfold SrcX srcL srcOf
  simp only [e]
  exact S
abbrev s__law_next : Stmt := (top 19)
theorem sc__law_next : FnScope ["_law_source", "_law_many", "_law_found", "_law_prime", "_law_number"] ["_law_source", "_law_many"] (defScope s__law_next) := ⟨rfl, rfl, rfl, by decide +kernel, rfl, by decide +kernel, by decide +kernel⟩
def mixN (s1 s2 : Int) : Int :=
  let n0 := (s1 + 104729 * s2 + 7919) % 2147483647
  let n1 := (n0 * 48271) % 2147483647
  let n2 := (n1 * (n1 / 1009 + 69621)) % 2147483647
  let n3 := (n2 * (n2 / 2003 + 40692)) % 2147483399
  n3 / 7
def nextR (s : Int × Int × Int) (m : Int) : Int := if 0 < s.1 then s.1 % m else mixN s.2.1 (s.2.2 + 1) % m
def nextS (s : Int × Int × Int) (m : Int) : Int × Int × Int := if 0 < s.1 then (s.1 / m, s.2) else (s.1, s.2.1, s.2.2 + 1)
theorem nextR_nn (s : Int × Int × Int) {m : Int} (h : 0 < m) : 0 ≤ nextR s m := by unfold nextR; split <;> exact Int.emod_nonneg _ (by omega)
theorem nextR_lt (s : Int × Int × Int) {m : Int} (h : 0 < m) : nextR s m < m := by unfold nextR; split <;> exact Int.emod_lt_of_pos _ h
def sp__law_next (G : Gx) : Sp := fun vs H Q _ => ∃ a m s L, vs = [.ref a, .int m] ∧ 0 < m ∧ m.natAbs.log2 < 9000 ∧ Hold H (SrcX a s :: L) ∧ ∀ H', Hold H' (SrcX a (nextS s m) :: L) → Q (.int (nextR s m)) H'
theorem len__law_next {vs : List V} {H : Hp} {Q : VK} {E : XK} (h : sp__law_next G vs H Q E) : vs.length = 2 := by obtain ⟨_, _, _, _, rfl, _⟩ := h; rfl
theorem ok__law_next (T : Txt G mg)   (F : TopF G.K mg "_law_next" s__law_next) : Cal P w G.K mg base "_law_next" 1 ["_law_source", "_law_many"] (sp__law_next G) := by
  refine Cal.mk' F sc__law_next (fun _ _ _ _ _ _ us hl => match us, hl with | [_, _], _ => rfl) (fun vs H Q E h => len__law_next h) (fun f cdv A outer s H vs Q E hr tk po h => ?_)
  refine ⟨_, (pss_cons (ps_if (pt_cmpR op_gt (pe_ix ixU (pv 0) pe_int (fun _ _ => rfl)) pe_int (nomark _)) (pss_cons (ps_set (i := 2) sc__law_next.nd rfl (by first | exact Or.inl rfl | exact Or.inr rfl) (pe_op op_mod (pe_callTy cU_int_1 (by rfl) T.b_int (by decide +kernel) (pa_cons (pe_ix ixU (pv 0) pe_int (fun _ _ => rfl)) pa_nil)) (pv 1)))
  (pss_cons (ps_asg (pe_op op_fdivW (pe_ix ixU (pv 0) pe_int (fun _ _ => rfl)) (pv 1)) (pg_sub (pv 0) pe_int setU))
  (pss_one (ps_ret (pv 2))))) pss_nil)
  (pss_cons (ps_asg (pe_op opU_add (pe_ix ixU (pv 0) pe_int (fun _ _ => rfl)) pe_int) (pg_sub (pv 0) pe_int setU))
  (pss_cons (ps_set (i := 3) sc__law_next.nd rfl (by first | exact Or.inl rfl | exact Or.inr rfl) pe_int)
  (pss_cons (ps_set (i := 4) sc__law_next.nd rfl (by first | exact Or.inl rfl | exact Or.inr rfl) (pe_op op_mod (pe_callTy cU_int_1 (by rfl) T.b_int (by decide +kernel) (pa_cons (pe_op opU_add (pe_op opU_add (pe_ix ixU (pv 0) pe_int (fun _ _ => rfl)) (pe_op opU_mul pe_int (pe_ix ixU (pv 0) pe_int (fun _ _ => rfl)))) pe_int) pa_nil)) (pv 3)))
  (pss_cons (ps_set (i := 4) sc__law_next.nd rfl (by first | exact Or.inl rfl | exact Or.inr rfl) (pe_op op_mod (pe_callTy cU_int_1 (by rfl) T.b_int (by decide +kernel) (pa_cons (pe_op opU_mul (pv 4) pe_int) pa_nil)) (pv 3)))
  (pss_cons (ps_set (i := 4) sc__law_next.nd rfl (by first | exact Or.inl rfl | exact Or.inr rfl) (pe_op op_mod (pe_callTy cU_int_1 (by rfl) T.b_int (by decide +kernel) (pa_cons (pe_op opU_mul (pv 4) (pe_op opU_add (pe_op op_fdivW (pv 4) pe_int) pe_int)) pa_nil)) (pv 3)))
  (pss_cons (ps_set (i := 4) sc__law_next.nd rfl (by first | exact Or.inl rfl | exact Or.inr rfl) (pe_op op_mod (pe_callTy cU_int_1 (by rfl) T.b_int (by decide +kernel) (pa_cons (pe_op opU_mul (pv 4) (pe_op opU_add (pe_op op_fdivW (pv 4) pe_int) pe_int)) pa_nil)) pe_int))
  (pss_one (ps_ret (pe_op op_mod (pe_callTy cU_int_1 (by rfl) T.b_int (by decide +kernel) (pa_cons (pe_op op_fdivW (pv 4) pe_int) pa_nil)) (pv 1))))))))))), ?_⟩
  clear tk po F
  try dsimp only [cxOf]
  obtain ⟨a, m, s, L, rfl, hm, hm2, S, q⟩ := h
  unfold SrcX srcL at S
  walk_at "go"
  refine hk_ifd (fun h => ?_) (fun h => ?_)
  · walk_at "go"
    refine hk_mod hm ?_
    walk_at "go"
    refine hk_div ⟨hm, hm2⟩ ?_
    walk_at "go"
    refine hk_setL S (by walk_at "pick") rfl fun H S => ?_
    walk_at "go"
    have := q H (by unfold SrcX srcL nextS; rw [if_pos h]; exact S)
    unfold nextR at this
    rw [if_pos h] at this
    exact this
  · walk_at "go"
    refine hk_setL S (by walk_at "pick") rfl fun H S => ?_
    have S : Hold H (pt a (.lst [.int s.1, .int s.2.1, .int (s.2.2 + 1)]) :: L) := S
    walk_at "go"
    refine hk_mul (.inl (by decide)) ?_
    walk_at "go"
    refine hk_mod (by decide) ?_
    walk_at "go"
    have b0 := Int.emod_nonneg (s.2.1 + 104729 * (s.2.2 + 1) + 7919) (b := 2147483647) (by decide)
    have b1 := Int.emod_lt_of_pos (s.2.1 + 104729 * (s.2.2 + 1) + 7919) (b := 2147483647) (by decide)
    refine hk_mul (.inl (by omega)) ?_
    walk_at "go"
    refine hk_mod (by decide) ?_
    generalize e0 : (s.2.1 + 104729 * (s.2.2 + 1) + 7919) % 2147483647 = n0 at *
    walk_at "go"
    have c0 := Int.emod_nonneg (n0 * 48271) (b := 2147483647) (by decide)
    have c1 := Int.emod_lt_of_pos (n0 * 48271) (b := 2147483647) (by decide)
    generalize e1 : (n0 * 48271) % 2147483647 = n1 at *
    refine hk_div (cdiv_small (by decide) (by decide)) ?_
    walk_at "go"
    refine hk_mul (.inl (by omega)) ?_
    walk_at "go"
    refine hk_mod (by decide) ?_
    have d0 := Int.emod_nonneg (n1 * (n1 / 1009 + 69621)) (b := 2147483647) (by decide)
    have d1 := Int.emod_lt_of_pos (n1 * (n1 / 1009 + 69621)) (b := 2147483647) (by decide)
    generalize e2 : (n1 * (n1 / 1009 + 69621)) % 2147483647 = n2 at *
    walk_at "go"
    refine hk_div (cdiv_small (by decide) (by decide)) ?_
    walk_at "go"
    refine hk_mul (.inl (by omega)) ?_
    walk_at "go"
    refine hk_mod (by decide) ?_
    walk_at "go"
    refine hk_div (cdiv_small (by decide) (by decide)) ?_
    walk_at "go"
    refine hk_mod hm ?_
    have := q H (by unfold SrcX srcL nextS; rw [if_neg h]; exact S)
    unfold nextR mixN at this
    rw [if_neg h] at this
    simp only [e0, e1, e2] at this
    exact this
abbrev s__law_one : Stmt := (top 20)
theorem sc__law_one : FnScope ["_law_source", "_law_some"] ["_law_source", "_law_some"] (defScope s__law_one) := ⟨rfl, rfl, rfl, by decide +kernel, rfl, by decide +kernel, by decide +kernel⟩
def sp__law_one (G : Gx) : Sp := fun vs H Q _ => ∃ a b xs s L, vs = [.ref a, .ref b] ∧ Hold H (SrcX a s :: L) ∧ SeqIn G.K (SrcX a s :: L) b xs ∧ (∀ s', SeqIn G.K (SrcX a s' :: L) b xs) ∧ 0 < xs.length ∧ xs.length ≤ sizeLine ∧
  ∀ (i : Nat) v H', i < xs.length → (nextR s xs.length).toNat = i → xs[i]? = some v → Hold H' (SrcX a (nextS s xs.length) :: L) → Q v H'
theorem len__law_one {vs : List V} {H : Hp} {Q : VK} {E : XK} (h : sp__law_one G vs H Q E) : vs.length = 2 := by obtain ⟨_, _, _, _, _, rfl, _⟩ := h; rfl
theorem ok__law_one (T : Txt G mg) (c__law_next : Cal P w G.K mg base "_law_next" 1 ["_law_source", "_law_many"] (sp__law_next G))  (F : TopF G.K mg "_law_one" s__law_one) : Cal P w G.K mg base "_law_one" 2 ["_law_source", "_law_some"] (sp__law_one G) := by
  refine Cal.mk' F sc__law_one (fun _ _ _ _ _ _ us hl => match us, hl with | [_, _], _ => rfl) (fun vs H Q E h => len__law_one h) (fun f cdv A outer s H vs Q E hr tk po h => ?_)
  refine ⟨_, (pss_one (ps_ret (pe_ix ixU (pv 1) (pe_c c__law_next (hr.mono (by decide)) (by rfl) tk (pa_cons (pv 0) (pa_cons (pe_callB cU_len_1 (by rfl) T.b_len (by decide +kernel) (pa_cons (pv 1) pa_nil)) pa_nil))) (fun _ _ => rfl)))), ?_⟩
  clear tk po F c__law_next
  try dsimp only [cxOf]
  obtain ⟨a, b, xs, s, L, rfl, S, h1, h2, h3, h4, q⟩ := h
  walk_at "st"
  refine hk_lenS h1 S ?_
  walk_at "st"
  have hz : (xs.length : Int) ≤ 16777216 := by rw [sizeLine_eq] at h4; omega
  refine ⟨a, xs.length, s, L, rfl, by omega, log2_small (by omega) (by omega), S, fun H S => ?_⟩
  have r0 := nextR_nn s (m := xs.length) (by omega)
  have r1 := nextR_lt s (m := xs.length) (by omega)
  obtain ⟨i, hi⟩ : ∃ i : Nat, nextR s xs.length = i := ⟨(nextR s xs.length).toNat, by omega⟩
  have hlt : i < xs.length := by omega
  refine hk_ixS (h2 _) S (v := xs[i]) (by rw [hi]; exact atI_nat (by simp [hlt])) ?_
  exact q i _ H hlt (by omega) (by simp [hlt]) S
end

/-! ### menu -/
theorem menu_int {xs : List Int} {i : Nat} {v : V} (h : (xs.map V.int)[i]? = some v) : ∃ g, v = .int g ∧ g ∈ xs := by
  rw [List.getElem?_map] at h
  cases e : xs[i]? with
  | none => rw [e] at h; cases h
  | some g => rw [e] at h; exact ⟨g, (Option.some.inj h).symm, List.mem_of_getElem? e⟩
theorem menu_str {xs : List Str} {i : Nat} {v : V} (h : (xs.map V.str)[i]? = some v) : ∃ g, v = .str g ∧ g ∈ xs := by
  rw [List.getElem?_map] at h
  cases e : xs[i]? with
  | none => rw [e] at h; cases h
  | some g => rw [e] at h; exact ⟨g, (Option.some.inj h).symm, List.mem_of_getElem? e⟩

/-! ### played65 -/
section
variable {P : Program} {w : World} {mg : Str → Option Value} {base : Heap} {G : Gx}
abbrev s__law_chosen : Stmt := (top 22)
theorem sc__law_chosen : FnScope ["_law_source", "_law_rule", "_law_free", "_law_counts", "_law_generations", "_law_one_here"] ["_law_source", "_law_rule", "_law_free", "_law_counts", "_law_generations"] (defScope s__law_chosen) := ⟨rfl, rfl, rfl, by decide +kernel, rfl, by decide +kernel, by decide +kernel⟩
def six : List Str := ["fewest", "most", "last", "first", "any", "late"]
def tabC (G : Gx) : HP := tab (G.lt "_law_chosen") (lamQ "_law_chosen")
def freeL (G : Gx) (ps : Addr) (s : Int × Int × Int) (fr ct : Addr) (free cs : List Int) (L : List HP) : List HP := tabC G :: SrcX ps s :: pt fr (.lst (free.map V.int)) :: pt ct (.lst (cs.map V.int)) :: L
def sp__law_chosen (G : Gx) : Sp := fun vs H Q _ => ∃ (ps fr ct : Addr) (rule : Str) (g : Int) (free cs : List Int) (s : Int × Int × Int) (L : List HP), vs = [.ref ps, .str rule, .ref fr, .ref ct, .int g] ∧ (rule = "changing" ∨ rule ∈ six) ∧ free ≠ [] ∧ free.length ≤ 1000 ∧ (∀ i ∈ free, 0 ≤ i ∧ i < cs.length) ∧
  Hold H (freeL G ps s fr ct free cs L) ∧ ∀ m s' H', m ∈ free → (rule = "fewest" → ∀ i ∈ free, cnt cs m ≤ cnt cs i) → (rule = "first" → free.head? = some m) → Hold H' (freeL G ps s' fr ct free cs L) → Q (.int m) H'
theorem len__law_chosen {vs : List V} {H : Hp} {Q : VK} {E : XK} (h : sp__law_chosen G vs H Q E) : vs.length = 5 := by obtain ⟨_, _, _, _, _, _, _, _, _, rfl, _⟩ := h; rfl
theorem last_mem {free : List Int} (h : free ≠ []) : ∃ m, m ∈ free ∧ atI (free.map V.int) (-1) = some (.int m) := by
  refine ⟨free.getLast h, List.getLast_mem h, ?_⟩
  have e : free.map V.int = (free.dropLast.map V.int) ++ [.int (free.getLast h)] := by
    conv => lhs; rw [← List.dropLast_concat_getLast h]
    rw [List.map_append]
    rfl
  rw [e]
  exact atI_last _ _
theorem head_at {free : List Int} {m : Int} {r : List Int} (h : free = m :: r) : atI (free.map V.int) 0 = some (.int m) := by subst h; exact atI_nat (j := 0) rfl
theorem ok__law_chosen (T : Txt G mg) (TB : LamX.TabB base mg (G.lc "_law_chosen") (G.lt "_law_chosen")) (c__law_one : Cal P w G.K mg base "_law_one" 2 ["_law_source", "_law_some"] (sp__law_one G))  (F : TopFL G.K mg "_law_chosen" s__law_chosen (G.lc "_law_chosen")) : Cal P w G.K mg base "_law_chosen" 5 ["_law_source", "_law_rule", "_law_free", "_law_counts", "_law_generations"] (sp__law_chosen G) := by
  refine Cal.mkL F sc__law_chosen (fun _ _ _ _ _ _ us hl => match us, hl with | [_, _, _, _, _], _ => rfl) (fun vs H Q E h => len__law_chosen h) (fun f A outer s H vs Q E hr tk po h => ?_)
  refine ⟨_, (pss_cons (ps_if (pt_cmpR (opU_eq hr.units) (pv 1) pe_str (nomark _)) (pss_one (ps_set (i := 1) sc__law_chosen.nd rfl (by first | exact Or.inl rfl | exact Or.inr rfl) (pe_c c__law_one (hr.mono (by decide)) (by rfl) tk (pa_cons (pv 0) (pa_cons (pe_lst (pa_cons pe_str (pa_cons pe_str (pa_cons pe_str (pa_cons pe_str (pa_cons pe_str (pa_cons pe_str pa_nil))))))) pa_nil))))) pss_nil)
  (pss_cons (ps_if (pt_cmpR (opU_eq hr.units) (pv 1) pe_str (nomark _)) (pss_one (ps_ret (pe_ix ixU (pv 2) pe_int (fun _ _ => rfl)))) pss_nil)
  (pss_cons (ps_if (pt_cmpR (opU_eq hr.units) (pv 1) pe_str (nomark _)) (pss_one (ps_ret (pe_ix ixU (pv 2) (pe_un un_neg pe_int) (fun _ _ => rfl)))) pss_nil)
  (pss_cons (ps_if (pt_cmpR (opU_eq hr.units) (pv 1) pe_str (nomark _)) (pss_one (ps_ret (pe_c c__law_one (hr.mono (by decide)) (by rfl) tk (pa_cons (pv 0) (pa_cons (pv 2) pa_nil))))) pss_nil)
  (pss_cons (ps_if (pt_cmpR (opU_eq hr.units) (pv 1) pe_str (nomark _)) (pss_one (ps_ret (pe_ix ixU (pe_sortedK (body_tup (kis_cons (ki_neg (ki_ix (i := 3) rfl (by first | exact Or.inl rfl | exact Or.inr rfl) (lamK_by (sc := defScope s__law_chosen) (y := "_law_one_here") (by decide +kernel)).free)) (kis_cons ki_par kis_nil))) (by rfl) T.b_sorted (by decide +kernel) (pv 2) TB rfl (hr.mono (by decide)) (lamK_by (sc := defScope s__law_chosen) (y := "_law_one_here") (by decide +kernel)) rfl (fun _ _ _ _ _ _ => rfl)) pe_int (fun _ _ => rfl)))) pss_nil)
  (pss_cons (ps_if (pt_cmpR (opU_eq hr.units) (pv 1) pe_str (nomark _)) (pss_one (ps_ret (pe_ix ixU (pe_sortedK (body_tup (kis_cons (ki_ge (j := 4) (ki_ix (i := 3) rfl (by first | exact Or.inl rfl | exact Or.inr rfl) (lamK_by (sc := defScope s__law_chosen) (y := "_law_one_here") (by decide +kernel)).free) rfl (by first | exact Or.inl rfl | exact Or.inr rfl) (lamK_by (sc := defScope s__law_chosen) (y := "_law_one_here") (by decide +kernel)).free T.b_int (by decide +kernel)) (kis_cons (ki_neg (ki_ix (i := 3) rfl (by first | exact Or.inl rfl | exact Or.inr rfl) (lamK_by (sc := defScope s__law_chosen) (y := "_law_one_here") (by decide +kernel)).free)) (kis_cons ki_par kis_nil)))) (by rfl) T.b_sorted (by decide +kernel) (pv 2) TB rfl (hr.mono (by decide)) (lamK_by (sc := defScope s__law_chosen) (y := "_law_one_here") (by decide +kernel)) rfl (fun _ _ _ _ _ _ => rfl)) pe_int (fun _ _ => rfl)))) pss_nil)
  (pss_one (ps_ret (pe_ix ixU (pe_sortedK (body_tup (kis_cons (ki_ix (i := 3) rfl (by first | exact Or.inl rfl | exact Or.inr rfl) (lamK_by (sc := defScope s__law_chosen) (y := "_law_one_here") (by decide +kernel)).free) (kis_cons ki_par kis_nil))) (by rfl) T.b_sorted (by decide +kernel) (pv 2) TB rfl (hr.mono (by decide)) (lamK_by (sc := defScope s__law_chosen) (y := "_law_one_here") (by decide +kernel)) rfl (fun _ _ _ _ _ _ => rfl)) pe_int (fun _ _ => rfl)))))))))), ?_⟩
  clear tk po F TB c__law_one
  try dsimp only [cxOf]
  obtain ⟨ps, fr, ct, rule, g, free, cs, s, L, rfl, hrule, hne, hlen, hrg, S, q⟩ := h
  unfold freeL at S q
  walk_at "st"
  refine hk_ifJ (fun σ H => ∃ r s, r ∈ six ∧ (rule = "fewest" → r = "fewest") ∧ (rule = "first" → r = "first") ∧ σ = [some (.ref ps), some (.str r), some (.ref fr), some (.ref ct), some (.int g), none] ∧ Hold H (tabC G :: SrcX ps s :: pt fr (.lst (free.map V.int)) :: pt ct (.lst (cs.map V.int)) :: L)) (fun hc nx' hJ => ?_) (fun hc => ?_) (fun σ H hJ => ?_)
  · subst hc
    walk_at "st"
    refine hk_lst S (by show 6 ≤ sizeLine; decide) fun p H S => ?_
    refine ⟨ps, p, _, s, _, rfl, S.out (A := SrcX ps s) (by walk_at "pick"), .lst (by walk_at "mem"), fun _ => .lst (by walk_at "mem"), by decide, by decide, fun i v H _ _ hv S => ?_⟩
    obtain ⟨r, rfl, hr⟩ : ∃ r, v = .str r ∧ r ∈ six := menu_str (xs := six) hv
    walk_at "st"
    exact hJ _ _ ⟨r, _, hr, fun z => absurd z (by decide), fun z => absurd z (by decide), rfl, by walk_at "hold"⟩
  · exact ⟨rule, s, hrule.resolve_left hc, fun z => z, fun z => z, rfl, S⟩
  · obtain ⟨r, s, hr, hf1, hf2, rfl, S⟩ := hJ
    obtain ⟨m0, r0, e0⟩ : ∃ m r, free = m :: r := by
      cases free with
      | nil => exact absurd rfl hne
      | cons m r => exact ⟨m, r, rfl⟩
    have hm0 : m0 ∈ free := by rw [e0]; exact List.mem_cons_self
    have sqc : ∀ H, Hold H (tabC G :: SrcX ps s :: pt fr (.lst (free.map V.int)) :: pt ct (.lst (cs.map V.int)) :: L) → SqL G.K H fr (free.map V.int) ∧ SqL G.K H ct (cs.map V.int) := fun H S => ⟨S.sqL (by walk_at "mem"), S.sqL (by walk_at "mem")⟩
    have done : ∀ (kf : Int → List Int) p H, Hold H (pt p (.lst ((byRow kf free).map V.int)) :: tabC G :: SrcX ps s :: pt fr (.lst (free.map V.int)) :: pt ct (.lst (cs.map V.int)) :: L) → (rule = "first" → False) → (rule = "fewest" → ∀ n, ∃ t, kf n = cnt cs n :: t) → rIxU G.K (.ref p) (.int 0) H Q := fun kf p H S n1 n2 => by
      obtain ⟨m, t, e⟩ := byRow_cons (kf := kf) hne
      obtain ⟨h1, h2⟩ := byRow_head e
      refine hk_ixL (S.sqL List.mem_cons_self) (head_at e) (q m s H h1 (fun z i hi => ?_) (fun z => (n1 z).elim) S.tail)
      obtain ⟨t1, e1⟩ := n2 z m
      obtain ⟨t2, e2⟩ := n2 z i
      have := h2 i hi
      rw [e1, e2] at this
      rcases cons_le this with h | h <;> omega
    simp only [six, List.mem_cons, List.not_mem_nil, or_false] at hr
    rcases hr with rfl | rfl | rfl | rfl | rfl | rfl
    · walk_at "lit"
      refine hk_sorted (fun n => [cnt cs n, n]) S (fun _ => by simp) (fun H S => ⟨(sqc H S).1, fun n hn => ?_⟩) fun p H S => ?_
      · exact ⟨_, _, rfl, ⟨ct, cs, rfl, (sqc H S).2, (hrg n hn).1, (hrg n hn).2, rfl⟩, _, _, rfl, rfl, rfl⟩
      walk_at "lit"
      exact done _ p H S (fun z => by have := hf2 z; exact absurd this (by decide)) fun _ n => ⟨_, rfl⟩
    · walk_at "lit"
      refine hk_sorted (fun n => [0 - cnt cs n, n]) S (fun _ => by simp) (fun H S => ⟨(sqc H S).1, fun n hn => ?_⟩) fun p H S => ?_
      · exact ⟨_, _, rfl, ⟨_, ⟨ct, cs, rfl, (sqc H S).2, (hrg n hn).1, (hrg n hn).2, rfl⟩, rfl⟩, _, _, rfl, rfl, rfl⟩
      walk_at "lit"
      exact done _ p H S (fun z => by have := hf2 z; exact absurd this (by decide)) fun z n => by have := hf1 z; exact absurd this (by decide)
    · walk_at "lit"
      obtain ⟨m, h1, h2⟩ := last_mem hne
      refine hk_ixL (sqc H S).1 h2 ?_
      exact q m s H h1 (fun z => by have := hf1 z; exact absurd this (by decide)) (fun z => by have := hf2 z; exact absurd this (by decide)) S
    · walk_at "lit"
      refine hk_ixL (sqc H S).1 (head_at e0) ?_
      exact q m0 s H hm0 (fun z => by have := hf1 z; exact absurd this (by decide)) (fun z => by rw [e0]; rfl) S
    · walk_at "lit"
      refine ⟨ps, fr, free.map V.int, s, _, rfl, S.out (A := SrcX ps s) (by walk_at "pick"), .lst (by walk_at "mem"), fun _ => .lst (by walk_at "mem"), by rw [List.length_map]; exact List.length_pos_iff.mpr hne, by rw [List.length_map]; exact Nat.le_trans hlen (by decide), fun i v H _ _ hv S => ?_⟩
      obtain ⟨m, rfl, hm⟩ := menu_int hv
      exact q m _ H hm (fun z => by have := hf1 z; exact absurd this (by decide)) (fun z => by have := hf2 z; exact absurd this (by decide)) (by walk_at "hold")
    · walk_at "lit"
      refine hk_sorted (fun n => [if g ≤ cnt cs n then 1 else 0, 0 - cnt cs n, n]) S (fun _ => by simp) (fun H S => ⟨(sqc H S).1, fun n hn => ?_⟩) fun p H S => ?_
      · exact ⟨_, _, rfl, ⟨_, _, ⟨ct, cs, rfl, (sqc H S).2, (hrg n hn).1, (hrg n hn).2, rfl⟩, rfl, rfl⟩, _, _, rfl, ⟨_, ⟨ct, cs, rfl, (sqc H S).2, (hrg n hn).1, (hrg n hn).2, rfl⟩, rfl⟩, _, _, rfl, rfl, rfl⟩
      walk_at "lit"
      exact done _ p H S (fun z => by have := hf2 z; exact absurd this (by decide)) fun z n => by have := hf1 z; exact absurd this (by decide)
abbrev s__law_played : Stmt := (top 23)
theorem sc__law_played : FnScope ["_law_source", "_law_rule", "_law_n", "_law_limit", "_law_generations", "_law_is_retiring", "_law_free", "_law_counts", "_law_number", "_law_slot"] ["_law_source", "_law_rule", "_law_n", "_law_limit", "_law_generations", "_law_is_retiring"] (defScope s__law_played) := ⟨rfl, rfl, rfl, by decide +kernel, rfl, by decide +kernel, by decide +kernel⟩
def most65 (n l g : Int) : Int := g * (n - l + 1) + l
def seven : List Str := ["fewest", "most", "last", "first", "any", "late", "changing"]
def sp__law_played (G : Gx) : Sp := fun vs H Q _ => ∃ (ps : Addr) (rule : Str) (n l g : Int) (ret : Bool) (s : Int × Int × Int) (L : List HP), vs = [.ref ps, .str rule, .int n, .int l, .int g, .bl ret] ∧ rule ∈ seven ∧ 1 ≤ l ∧ l ≤ n ∧ n ≤ 900 ∧ 1 ≤ g ∧ Hold H (tabC G :: SrcX ps s :: L) ∧
  ∀ num s' H', (ret = false → num ≤ most65 n l g) → (ret = false → (rule = "fewest" ∨ rule = "first") → num = most65 n l g) → (ret = true → num = most65 n l g - 1) → Hold H' (tabC G :: SrcX ps s' :: L) → Q (.int num) H'
theorem len__law_played {vs : List V} {H : Hp} {Q : VK} {E : XK} (h : sp__law_played G vs H Q E) : vs.length = 6 := by obtain ⟨_, _, _, _, _, _, _, _, rfl, _⟩ := h; rfl
theorem rgV_up (n : Int) : rgV 0 n = (slotsUp n).map V.int := by
  unfold rgV slotsUp
  rw [List.map_map, Int.sub_zero]
  refine List.map_congr_left fun i _ => ?_
  show V.int (0 + (i : Int)) = V.int (Int.ofNat i)
  rw [Int.zero_add]
  rfl
theorem rep_zero (n : Int) : (List.replicate n.toNat [V.int 0]).flatten = (List.replicate n.toNat (0 : Int)).map V.int := by
  generalize n.toNat = k
  induction k with
  | zero => rfl
  | succ k ih => rw [List.replicate_succ, List.flatten_cons, ih, List.replicate_succ, List.map_cons]; rfl
theorem cnt_at {cs : List Int} {m : Int} (h0 : 0 ≤ m) (h1 : m < cs.length) : atI (cs.map V.int) m = some (.int (cnt cs m)) := by
  obtain ⟨k, rfl⟩ : ∃ k : Nat, m = k := ⟨m.toNat, by omega⟩
  refine atI_nat ?_
  have hk : k < cs.length := by omega
  unfold cnt
  rw [List.getElem?_map, Int.toNat_natCast, List.getD_eq_getElem?_getD, List.getElem?_eq_getElem hk]
  rfl
theorem set_map {cs : List Int} {k : Nat} {v : Int} : (cs.map V.int).set k (.int v) = (cs.set k v).map V.int := by rw [List.map_set]
theorem ok__law_played (T : Txt G mg) (c__law_chosen : Cal P w G.K mg base "_law_chosen" 5 ["_law_source", "_law_rule", "_law_free", "_law_counts", "_law_generations"] (sp__law_chosen G))  (F : TopF G.K mg "_law_played" s__law_played) : Cal P w G.K mg base "_law_played" 6 ["_law_source", "_law_rule", "_law_n", "_law_limit", "_law_generations", "_law_is_retiring"] (sp__law_played G) := by
  refine Cal.mk' F sc__law_played (fun _ _ _ _ _ _ us hl => match us, hl with | [_, _, _, _, _, _], _ => rfl) (fun vs H Q E h => len__law_played h) (fun f cdv A outer s H vs Q E hr tk po h => ?_)
  refine ⟨_, (pss_cons (ps_set (i := 6) sc__law_played.nd rfl (by first | exact Or.inl rfl | exact Or.inr rfl) (pe_listRg rfl (by rfl) T.b_list (prg_1 (by rfl) T.b_range (pv 2))))
  (pss_cons (ps_set (i := 7) sc__law_played.nd rfl (by first | exact Or.inl rfl | exact Or.inr rfl) (pe_op opU_mul (pe_lst (pa_cons pe_int pa_nil)) (pv 2)))
  (pss_cons (ps_set (i := 8) sc__law_played.nd rfl (by first | exact Or.inl rfl | exact Or.inr rfl) pe_int)
  (pss_cons (ps_while po (pt_cmpR (opU_ne hr.units) (pv 6) (pe_lst pa_nil) (nomark _))
  (pss_cons (ps_set (i := 8) sc__law_played.nd rfl (by first | exact Or.inl rfl | exact Or.inr rfl) (pe_op opU_add (pv 8) pe_int))
  (pss_cons (ps_set (i := 9) sc__law_played.nd rfl (by first | exact Or.inl rfl | exact Or.inr rfl) (pe_c c__law_chosen (hr.mono (by decide)) (by rfl) tk (pa_cons (pv 0) (pa_cons (pv 1) (pa_cons (pv 6) (pa_cons (pv 7) (pa_cons (pv 4) pa_nil)))))))
  (pss_cons (ps_if (pt_cmpR (opU_eq hr.units) (pe_ix ixU (pv 7) (pv 9) (fun _ _ => rfl)) (pv 4) (nomark _)) (pss_one (ps_ret (pv 8))) pss_nil)
  (pss_cons (ps_asg (pe_op opU_add (pe_ix ixU (pv 7) (pv 9) (fun _ _ => rfl)) pe_int) (pg_sub (pv 7) (pv 9) setU))
  (pss_cons (ps_expr (pe_bm PySem.F.plainAttrs_list PySem.F.slot_list_remove PySem.F.type_list_remove mt_remove (pv 6) (pa_cons (pv 9) pa_nil)))
  (pss_one (ps_if (PW.pt (pw_and (pt_cmpR op_ge (pv 8) (pv 3) (nomark _)) (pw_and1 (pt_not (PW.pt (pw_and (pt_val (pv 5)) (pw_and1 (pt_cmpR (opU_eq hr.units) (pe_ix ixU (pv 7) (pv 9) (fun _ _ => rfl)) (pv 4) (nomark _))))))))) (pss_one (ps_expr (pe_bm PySem.F.plainAttrs_list PySem.F.slot_list_append PySem.F.type_list_append mt_append (pv 6) (pa_cons (pv 9) pa_nil)))) pss_nil))))))))
  (pss_one (ps_ret (pv 8))))))), ?_⟩
  clear tk po F c__law_chosen
  try dsimp only [cxOf]
  obtain ⟨ps, rule, n, l, g, ret, s, L, rfl, hrule, hl, hln, hn, hg, S, q⟩ := h
  walk_at "st"
  refine hk_rg S (RgOk.of_le (by decide) (by omega) (by decide) (by omega)) fun fr H S => ?_
  rw [rgV_up] at S
  walk_at "st"
  refine hk_lst S (by show 1 ≤ sizeLine; decide) fun p0 H S => ?_
  walk_at "st"
  have z2000 : 2000 ≤ sizeLine := by decide
  refine hk_rep S (by walk_at "mem") (by omega) (by omega) (by show 1 * n.toNat ≤ sizeLine; omega) fun ct H S => ?_
  rw [rep_zero] at S
  walk_at "st"
  refine hk_while (fun m σ H => ∃ free cs num ro x9 s, σ = [some (.ref ps), some (.str rule), some (.int n), some (.int l), some (.int g), some (.bl ret), some (.ref fr), some (.ref ct), some (.int num), x9] ∧ S65 ret n l g free cs num ro ∧ (rule = "first" → Queue free cs) ∧ Hold H (freeL G ps s fr ct free cs L) ∧ m = (most65 n l g - num).toNat) _ ⟨slotsUp n, List.replicate n.toNat 0, 0, 0, _, s, rfl, S65.start hg hl (by omega), fun _ => Queue.start n, by unfold freeL; walk_at "hold", rfl⟩ (fun m σ H hP => ?_) (fun σ H Q Q' hQ h => mono_neNil hQ h)
  obtain ⟨free, cs, num, ro, x9, s, rfl, K, hq, S, rfl⟩ := hP
  unfold freeL at S
  have hnum := K.most hg hl hln
  have hfl : free.length ≤ 1000 := by
    have h0 := K.n0
    have h1 := K.len
    split at h1 <;> omega
  walk_at "st"
  refine hk_lst S (by show 0 ≤ sizeLine; decide) fun p1 H S => ?_
  refine hk_neNil (ns := free) (by walk_at "sql") (by walk_at "sql") ?_
  walk_at "st"
  cases hfree : free with
  | nil =>
    refine hk_ifT ?_
    walk_at "st"
    rw [hfree] at K
    obtain ⟨e1, e2⟩ := K.fin hg hl hln
    exact q num s H (fun z => by rw [e2] at z; cases z) (fun z => by rw [e2] at z; cases z) (fun _ => by unfold most65; omega) (by walk_at "hold")
  | cons m0 r0 =>
    refine hk_ifF ?_
    walk_at "st"
    have S : Hold H (freeL G ps s fr ct free cs L) := by unfold freeL; walk_at "hold"
    have hcl := K.cl
    refine ⟨ps, fr, ct, rule, g, free, cs, s, L, rfl, ?_, by rw [hfree]; simp, hfl, fun i hi => ?_, S, fun m s H hm c1 c2 S => ?_⟩
    · simp only [seven, List.mem_cons, List.not_mem_nil, or_false] at hrule
      rcases hrule with h | h | h | h | h | h | h
      all_goals first | exact .inl h | (right; rw [h]; decide)
    · have := K.rg i hi
      omega
    obtain ⟨m0', m1'⟩ := K.rg m hm
    have hml : m < cs.length := by omega
    unfold freeL at S
    walk_at "st"
    refine hk_ixL (by walk_at "sql") (cnt_at m0' hml) ?_
    walk_at "st"
    have hmin : rule = "fewest" ∨ rule = "first" → ∀ i ∈ free, cnt cs m ≤ cnt cs i := fun z => by
      rcases z with z | z
      · exact c1 z
      · have e := c2 z
        have hQ := hq z
        rw [hfree] at e hQ ⊢
        have e : m0 = m := by simpa using e
        subst e
        exact hQ.head
    refine hk_ifd (fun hc => ?_) (fun hc => ?_)
    · walk_at "st"
      have hr : ret = false := by
        cases ret with
        | false => rfl
        | true => exact absurd hc (K.noRet hm)
      refine q (num + 1) s H (fun _ => by unfold most65; omega) (fun _ z => ?_) (fun z => by rw [hr] at z; cases z) (by walk_at "hold")
      have := K.rep hg hl hln hm hc hr (hmin z)
      unfold most65
      omega
    · walk_at "st"
      refine hk_ixL (by walk_at "sql") (cnt_at m0' hml) ?_
      walk_at "st"
      have hix : ixN (cs.map V.int).length m = some m.toNat := by
        unfold ixN
        rw [if_pos m0', List.length_map, if_pos hml]
      refine hk_setL S (by walk_at "pick") hix fun H S => ?_
      rw [set_map] at S
      obtain ⟨ro', K'⟩ := K.step hg hl hm hc
      have hnum' := K'.most hg hl hln
      obtain ⟨j, j1, j2, j3⟩ := find_at hm
      walk_at "st"
      refine hk_mtL S (by walk_at "mem") ?_
      walk_at "st"
      refine hk_remove S (by walk_at "pick") j1 j2 fun H S => ?_
      rw [j3] at S
      have hcs' : (cs.set m.toNat (cnt cs m + 1)).length = cs.length := by rw [List.length_set]
      have hq' : ∀ b : Bool, (b = true ↔ (num + 1 ≥ l ∧ ¬ (ret = true ∧ cnt cs m + 1 = g))) → rule = "first" → Queue (if num + 1 ≥ l ∧ ¬ (ret = true ∧ cnt cs m + 1 = g) then free.erase m ++ [m] else free.erase m) (cs.set m.toNat (cnt cs m + 1)) := fun b hb z => by
        have e := c2 z
        have hQ := hq z
        have hnd := K.nd
        have hrg := fun i hi => (K.rg i hi).1
        rw [hfree] at e hQ hnd hrg ⊢
        have e : m0 = m := by simpa using e
        subst e
        have := hQ.step b hnd hrg hml
        rw [List.erase_cons_head]
        by_cases hbb : b = true
        · rw [if_pos hbb] at this
          rw [if_pos (hb.1 hbb)]
          exact this
        · rw [if_neg hbb] at this
          rw [if_neg fun y => hbb (hb.2 y)]
          exact this
      have fin : ∀ H, Hold H (freeL G ps s fr ct (if num + 1 ≥ l ∧ ¬ (ret = true ∧ cnt cs m + 1 = g) then free.erase m ++ [m] else free.erase m) (cs.set m.toNat (cnt cs m + 1)) L) →
          ∃ m', m' < (most65 n l g - num).toNat ∧ ∃ free cs num' ro x9 s', [some (.ref ps), some (.str rule), some (.int n), some (.int l), some (.int g), some (.bl ret), some (.ref fr), some (.ref ct), some (.int (num + 1)), some (V.int m)] = [some (.ref ps), some (.str rule), some (.int n), some (.int l), some (.int g), some (.bl ret), some (.ref fr), some (.ref ct), some (.int num'), x9] ∧ S65 ret n l g free cs num' ro ∧ (rule = "first" → Queue free cs) ∧ Hold H (freeL G ps s' fr ct free cs L) ∧ m' = (most65 n l g - num').toNat := fun H S =>
        ⟨_, by unfold most65; omega, _, _, num + 1, ro', _, s, rfl, K', hq' (decide (num + 1 ≥ l ∧ ¬ (ret = true ∧ cnt cs m + 1 = g))) decide_eq_true_iff, S, rfl⟩
      walk_at "st"
      refine hk_ifd (fun d1 => ?_) (fun d1 => ?_)
      · walk_at "st"
        cases ret with
        | false =>
          refine hk_ifF ?_
          walk_at "st"
          refine hk_mtL S (by walk_at "mem") ?_
          walk_at "st"
          refine hk_append S (by walk_at "pick") (by rw [List.length_map]; have := List.length_erase_le (a := m) (l := free); omega) fun H S => ?_
          walk_at "st"
          refine fin H ?_
          rw [if_pos ⟨d1, fun z => by cases z.1⟩]
          unfold freeL
          rw [List.map_append]
          have S : Hold H (pt fr (.lst ((free.erase m).map V.int ++ [m].map V.int)) :: _) := S
          walk_at "hold"
        | true =>
          refine hk_ifT ?_
          walk_at "st"
          have hml' : m < (cs.set m.toNat (cnt cs m + 1)).length := by rw [hcs']; exact hml
          refine hk_ixL (S.sqL (a := ct) (xs := (cs.set m.toNat (cnt cs m + 1)).map V.int) (by walk_at "mem")) (cnt_at m0' hml') ?_
          rw [cnt_set m0' hml m m0', if_pos rfl]
          walk_at "st"
          refine hk_ifd (fun d2 => ?_) (fun d2 => ?_)
          · walk_at "st"
            refine fin H ?_
            rw [if_neg fun z => z.2 ⟨rfl, d2⟩]
            unfold freeL
            walk_at "hold"
          · walk_at "st"
            refine hk_mtL S (by walk_at "mem") ?_
            walk_at "st"
            refine hk_append S (by walk_at "pick") (by rw [List.length_map]; have := List.length_erase_le (a := m) (l := free); omega) fun H S => ?_
            walk_at "st"
            refine fin H ?_
            rw [if_pos ⟨d1, fun z => d2 z.2⟩]
            unfold freeL
            rw [List.map_append]
            have S : Hold H (pt fr (.lst ((free.erase m).map V.int ++ [m].map V.int)) :: _) := S
            walk_at "hold"
      · walk_at "st"
        refine fin H ?_
        rw [if_neg fun z => d1 z.1]
        unfold freeL
        walk_at "hold"
end

/-! ### law65 -/
section
variable {P : Program} {w : World} {mg : Str → Option Value} {base : Heap} {G : Gx}
abbrev s_law : Stmt := (top 24)
theorem sc_law : FnScope ["_law_script", "_law_cell", "_law_source", "_law_n", "_law_limit", "_law_generations", "_law_most", "_law_rule", "_law_found"] ["_law_script"] (defScope s_law) := ⟨rfl, rfl, rfl, by decide +kernel, rfl, by decide +kernel, by decide +kernel⟩
def sp_law (G : Gx) : Sp := fun vs H Q _ => ∃ (a : Addr) (ns : List Int), vs = [.ref a] ∧ ns.length ≤ 63 ∧ Hold H [sq G.K a (ns.map V.int), tabC G] ∧ ∀ H', Q (.bl true) H'
theorem len_law {vs : List V} {H : Hp} {Q : VK} {E : XK} (h : sp_law G vs H Q E) : vs.length = 1 := by obtain ⟨_, _, rfl, _⟩ := h; rfl
theorem cut2_int {ns ms : List Int} {lo hi : Option Int} {i : Nat} {x : V} (h : (ms.map V.int ++ cutV (ns.map V.int) lo hi)[i]? = some x) : ∃ c, x = .int c := by
  have m := List.mem_of_getElem? h
  rcases List.mem_append.mp m with m | m
  · obtain ⟨c, _, e⟩ := List.mem_map.mp m
    exact ⟨c, e.symm⟩
  · unfold cutV at m
    have m := List.mem_of_mem_drop (List.mem_of_mem_take m)
    obtain ⟨c, _, e⟩ := List.mem_map.mp m
    exact ⟨c, e.symm⟩
theorem bad_ok {n l g : Int} {r : Str} (h1 : 1 ≤ n) (h2 : n ≤ 64) (h3 : 1 ≤ l) (h4 : l ≤ n) (h5 : 1 ≤ g) (h6 : g ≤ 1000000000) (hr : r ∈ ruleNames) : badArg (.int n) (.int l) (.int g) (.str r) = none := by
  unfold badArg
  have e1 : btw (.int n) 1 64 = true := by simp [btw, h1, h2]
  have e2 : btw (.int l) 1 (vI (.int n)) = true := by simp [btw, vI, h3, h4]
  have e3 : btw (.int g) 1 1000000000 = true := by simp [btw, h5, h6]
  have e4 : isRule (.str r) = true := by simp [isRule, hr]
  rw [e1, e2, e3, e4]
  rfl
theorem inV_ff (x : Str) : inV (.str x) ([.str "fewest", .str "first"]) = decide (x = "fewest" ∨ x = "first") := by
  simp only [inV, List.any_cons, List.any_nil, eqV]
  by_cases h1 : x = "fewest"
  · subst h1; decide
  by_cases h2 : x = "first"
  · subst h2; decide
  simp [h1, h2, Ne.symm h1, Ne.symm h2]
theorem ok_law (T : Txt G mg) (c__law_source_of : Cal P w G.K mg base "_law_source_of" 1 ["_law_cell"] (sp__law_source_of G)) (c_horizon : Cal P w G.K mg base "horizon" 4 ["n", "limit", "generations", "rule"] (sp_horizon G)) (c__law_next : Cal P w G.K mg base "_law_next" 1 ["_law_source", "_law_many"] (sp__law_next G)) (c__law_played : Cal P w G.K mg base "_law_played" 6 ["_law_source", "_law_rule", "_law_n", "_law_limit", "_law_generations", "_law_is_retiring"] (sp__law_played G)) (c_retired : Cal P w G.K mg base "retired" 4 ["n", "limit", "generations"] (sp_retired G))  (F : TopF G.K mg "law" s_law) : CalX P w G.K mg base "law" 7 ["_law_script"] (sp_law G) := by
  refine CalX.mk' F sc_law (fun vs H Q E h => len_law h) (fun f cdv A outer s H vs Q E hr tk po h => ?_)
  refine ⟨_, (pss_cons (ps_for po rfl (pi_u (pe_op opU_add (pe_lst (pa_cons pe_int (pa_cons pe_int (pa_cons pe_int (pa_cons pe_int pa_nil))))) (pe_slice slU (pv 0) po_none (po_some pe_int)))) (pg_name (i := 1) sc_law.nd rfl (by first | exact Or.inl rfl | exact Or.inr rfl))
  (pss_cons (ps_set (i := 2) sc_law.nd rfl (by first | exact Or.inl rfl | exact Or.inr rfl) (pe_c c__law_source_of (hr.mono (by decide)) (by rfl) tk (pa_cons (pv 1) pa_nil)))
  (pss_cons (ps_set (i := 3) sc_law.nd rfl (by first | exact Or.inl rfl | exact Or.inr rfl) (pe_op opU_add pe_int (pe_c c__law_next (hr.mono (by decide)) (by rfl) tk (pa_cons (pv 2) (pa_cons pe_int pa_nil)))))
  (pss_cons (ps_set (i := 4) sc_law.nd rfl (by first | exact Or.inl rfl | exact Or.inr rfl) (pe_op opU_add pe_int (pe_c c__law_next (hr.mono (by decide)) (by rfl) tk (pa_cons (pv 2) (pa_cons (pv 3) pa_nil)))))
  (pss_cons (ps_set (i := 5) sc_law.nd rfl (by first | exact Or.inl rfl | exact Or.inr rfl) (pe_op opU_add pe_int (pe_c c__law_next (hr.mono (by decide)) (by rfl) tk (pa_cons (pv 2) (pa_cons pe_int pa_nil)))))
  (pss_cons (ps_set (i := 6) sc_law.nd rfl (by first | exact Or.inl rfl | exact Or.inr rfl) (pe_c c_horizon (hr.mono (by decide)) (by rfl) tk (pa_cons (pv 3) (pa_cons (pv 4) (pa_cons (pv 5) (pa_cons pe_str pa_nil))))))
  (pss_cons (ps_if (PW.pt (pw_or (pt_cmpR (opU_ne hr.units) (pe_c c_horizon (hr.mono (by decide)) (by rfl) tk (pa_cons (pv 3) (pa_cons (pv 4) (pa_cons (pv 5) (pa_cons pe_str pa_nil))))) (pv 6) (nomark _)) (pw_or1 (pt_cmpR (opU_ne hr.units) (pe_c c_retired (hr.mono (by decide)) (by rfl) tk (pa_cons (pv 3) (pa_cons (pv 4) (pa_cons (pv 5) pa_nil)))) (pe_op op_sub (pv 6) pe_int) (nomark _))))) (pss_one (ps_ret pe_bl)) pss_nil)
  (pss_one (ps_for po rfl (pi_u (pe_lst (pa_cons pe_str (pa_cons pe_str (pa_cons pe_str (pa_cons pe_str (pa_cons pe_str (pa_cons pe_str (pa_cons pe_str pa_nil))))))))) (pg_name (i := 7) sc_law.nd rfl (by first | exact Or.inl rfl | exact Or.inr rfl))
  (pss_cons (ps_set (i := 8) sc_law.nd rfl (by first | exact Or.inl rfl | exact Or.inr rfl) (pe_c c__law_played (hr.mono (by decide)) (by rfl) tk (pa_cons (pv 2) (pa_cons (pv 7) (pa_cons (pv 3) (pa_cons (pv 4) (pa_cons (pv 5) (pa_cons pe_bl pa_nil))))))))
  (pss_cons (ps_if (PW.pt (pw_or (pt_cmpR op_gt (pv 8) (pv 6) (nomark _)) (pw_or1 (PW.pt (pw_and (pt_cmpR opU_in (pv 7) (pe_lst (pa_cons pe_str (pa_cons pe_str pa_nil))) (by rfl)) (pw_and1 (pt_cmpR (opU_ne hr.units) (pv 8) (pv 6) (nomark _)))))))) (pss_one (ps_ret pe_bl)) pss_nil)
  (pss_one (ps_if (pt_cmpR (opU_ne hr.units) (pe_c c__law_played (hr.mono (by decide)) (by rfl) tk (pa_cons (pv 2) (pa_cons (pv 7) (pa_cons (pv 3) (pa_cons (pv 4) (pa_cons (pv 5) (pa_cons pe_bl pa_nil))))))) (pe_c c_retired (hr.mono (by decide)) (by rfl) tk (pa_cons (pv 3) (pa_cons (pv 4) (pa_cons (pv 5) pa_nil)))) (nomark _)) (pss_one (ps_ret pe_bl)) pss_nil)))))))))))))
  (pss_one (ps_ret pe_bl))), ?_⟩
  clear tk po F c__law_source_of c_horizon c__law_next c__law_played c_retired
  try dsimp only [cxOf]
  obtain ⟨a, ns, rfl, hl, S, q⟩ := h
  walk_at "st"
  refine hk_lst S (by show 4 ≤ sizeLine; decide) fun p0 H S => ?_
  walk_at "st"
  refine hk_slL S (by walk_at "sql") fun p1 H S => ?_
  have zz : ([.int 0, .int 1, .int 2, .int 3] : List V).length + (cutV (ns.map V.int) none (some 6)).length ≤ sizeLine := by
    have h1 := cutV_length (ns.map V.int) none (some 6)
    rw [List.length_map] at h1
    have : 100 ≤ sizeLine := by decide
    show 4 + _ ≤ sizeLine
    omega
  refine hk_cat S (by walk_at "sql") (by walk_at "sql") zz fun p H S => ?_
  have hint : ∀ (i : Nat) (x : V), (([.int 0, .int 1, .int 2, .int 3] : List V) ++ cutV (ns.map V.int) none (some 6))[i]? = some x → ∃ c, x = .int c := fun i x h => cut2_int (ms := [0, 1, 2, 3]) h
  generalize ([.int 0, .int 1, .int 2, .int 3] : List V) ++ cutV (ns.map V.int) none (some 6) = xs at *
  have S : Hold H [pt p (.lst xs), tabC G] := by walk_at "hold"
  walk_at "st"
  refine hk_iuL (S.sqL (by walk_at "mem")) ?_
  refine hk_forL (fun _ σ H => ∃ x1 x2 x3 x4 x5 x6 x7 x8, σ = [some (.ref a), x1, x2, x3, x4, x5, x6, x7, x8] ∧ Hold H [pt p (.lst xs), tabC G]) ⟨_, _, _, _, _, _, _, _, rfl, S⟩ (fun i σ H _ ⟨_, _, _, _, _, _, _, _, _, S⟩ => S.sqL (by walk_at "mem")) (fun i x σ H hx hP => ?_) (fun σ H hP => ?_)
  rotate_left
  · walk_at "st"; exact q H
  obtain ⟨x1, x2, x3, x4, x5, x6, x7, x8, rfl, S⟩ := hP
  obtain ⟨c, rfl⟩ := hint _ _ hx
  walk_at "st"
  refine ⟨c, _, rfl, S, fun ps H S => ?_⟩
  walk_at "st"
  refine ⟨ps, 9, _, _, rfl, by decide, log2_small (by decide) (by decide), S, fun H S => ?_⟩
  have r0 := nextR_nn (srcOf c) (m := 9) (by decide)
  have r1 := nextR_lt (srcOf c) (m := 9) (by decide)
  generalize nextR (srcOf c) 9 = u1 at *
  generalize nextS (srcOf c) 9 = s1 at *
  walk_at "st"
  obtain ⟨n, hn⟩ : ∃ n, n = 1 + u1 := ⟨_, rfl⟩
  rw [← hn]
  refine ⟨ps, n, s1, _, rfl, by omega, log2_small (by omega) (by omega), S, fun H S => ?_⟩
  have r2 := nextR_nn s1 (m := n) (by omega)
  have r3 := nextR_lt s1 (m := n) (by omega)
  generalize nextR s1 n = u2 at *
  generalize nextS s1 n = s2 at *
  walk_at "st"
  refine ⟨ps, 6, s2, _, rfl, by decide, log2_small (by decide) (by decide), S, fun H S => ?_⟩
  have r4 := nextR_nn s2 (m := 6) (by decide)
  have r5 := nextR_lt s2 (m := 6) (by decide)
  generalize nextR s2 6 = u3 at *
  generalize nextS s2 6 = s3 at *
  walk_at "st"
  obtain ⟨l, hl'⟩ : ∃ l, l = 1 + u2 := ⟨_, rfl⟩
  obtain ⟨g, hg'⟩ : ∃ g, g = 1 + u3 := ⟨_, rfl⟩
  rw [← hl', ← hg']
  have bad : ∀ r ∈ ruleNames, badArg (.int n) (.int l) (.int g) (.str r) = none := fun r hr => bad_ok (by omega) (by omega) (by omega) (by omega) (by omega) (by omega) hr
  have hz : ∀ r : Str, r = "first" ∨ r = "least" → horizonV (.int n) (.int l) (.int g) (.str r) = most65 n l g := fun r hr => by
    unfold horizonV
    rw [if_neg (by rcases hr with rfl | rfl <;> decide)]
    rfl
  have hor : ∀ (r : Str) (H : Hp) (L : List HP) (Q : VK) (E : XK), (r = "first" ∨ r = "least") → Hold H L → (∀ H', Hold H' L → Q (.int (most65 n l g)) H') → sp_horizon G [.int n, .int l, .int g, .str r] H Q E := fun r H L Q E hr S k => by
    have hb := bad r (by rcases hr with rfl | rfl <;> decide)
    refine ⟨_, "int", _, "int", _, "int", _, "str", L, rfl, S, fun H S => ⟨Kd.int, Kd.int, Kd.int, Kd.str⟩, fun _ H' S => ?_, fun x hx => ?_⟩
    · rw [hz r hr]; exact k H' S
    · rw [hb] at hx; cases hx
  have ret : ∀ (H : Hp) (Q : VK) (E : XK), Q (.int (most65 n l g - 1)) H → sp_retired G [.int n, .int l, .int g] H Q E := fun H Q E k => by
    have hb := bad "first" (by decide)
    refine ⟨_, "int", _, "int", _, "int", rfl, Kd.int, Kd.int, Kd.int, fun _ => k, fun x hx => ?_⟩
    rw [hb] at hx; cases hx
  refine hor "first" H _ _ _ (.inl rfl) S fun H S => ?_
  walk_at "st"
  refine hor "least" H _ _ _ (.inr rfl) S fun H S => ?_
  walk_at "st"
  refine hk_litT rfl ?_
  walk_at "st"
  refine ret H _ _ ?_
  walk_at "st"
  refine hk_litT rfl ?_
  walk_at "st"
  refine hk_lst S (by show 7 ≤ sizeLine; decide) fun pl H S => ?_
  walk_at "st"
  refine hk_iuL (S.sqL (by walk_at "mem")) ?_
  refine hk_forL (xs := seven.map V.str) (fun _ σ H => ∃ x7 x8, σ = [some (.ref a), some (.int c), some (.ref ps), some (.int n), some (.int l), some (.int g), some (.int (most65 n l g)), x7, x8] ∧ ∃ s, Hold H [tabC G, SrcX ps s, pt pl (.lst (seven.map V.str)), pt p (.lst xs)]) ⟨_, _, rfl, s3, by
    have S : Hold H (pt pl (.lst (seven.map V.str)) :: _) := S
    walk_at "hold"⟩ (fun i σ H _ ⟨_, _, _, _, S⟩ => S.sqL (by walk_at "mem")) (fun i x σ H hx hP => ?_) (fun σ H hP => ?_)
  rotate_left
  · obtain ⟨x7, x8, rfl, s, S⟩ := hP
    walk_at "st"
    exact ⟨_, _, _, _, _, _, _, _, rfl, by walk_at "hold"⟩
  obtain ⟨x7, x8, rfl, s, S⟩ := hP
  obtain ⟨rule, rfl, hr⟩ := menu_str (xs := seven) hx
  walk_at "st"
  refine ⟨ps, rule, n, l, g, false, s, _, rfl, hr, by omega, by omega, by omega, by omega, S, fun num s' H k1 k2 _ S => ?_⟩
  have k1 := k1 rfl
  walk_at "st"
  refine hk_litF (by omega) ?_
  walk_at "st"
  refine hk_lst S (by show 2 ≤ sizeLine; decide) fun p2 H S => ?_
  refine hk_inL (S.sqL (by walk_at "mem")) rfl rfl ?_
  rw [if_neg (by decide)]
  rw [inV_ff]
  walk_at "st"
  refine hk_ifd (fun hc => ?_) (fun hc => ?_)
  · walk_at "st"
    rw [k2 rfl hc]
    refine hk_litT rfl ?_
    walk_at "st"
    have S : Hold H [tabC G, SrcX ps s', pt pl (.lst (seven.map V.str)), pt p (.lst xs)] := by walk_at "hold"
    refine ⟨ps, rule, n, l, g, true, s', _, rfl, hr, by omega, by omega, by omega, by omega, S, fun num2 s2 H _ _ k3 S => ?_⟩
    rw [k3 rfl]
    walk_at "st"
    refine ret H _ _ ?_
    walk_at "st"
    refine hk_litT rfl ?_
    walk_at "st"
    exact ⟨_, _, rfl, _, S⟩
  · walk_at "st"
    have S : Hold H [tabC G, SrcX ps s', pt pl (.lst (seven.map V.str)), pt p (.lst xs)] := by walk_at "hold"
    refine ⟨ps, rule, n, l, g, true, s', _, rfl, hr, by omega, by omega, by omega, by omega, S, fun num2 s2 H _ _ k3 S => ?_⟩
    rw [k3 rfl]
    walk_at "st"
    refine ret H _ _ ?_
    walk_at "st"
    refine hk_litT rfl ?_
    walk_at "st"
    exact ⟨_, _, rfl, _, S⟩
end

end Sw
namespace Sw
open PySem PySem.Spec PyProof.Rows L2
theorem lawsp {G : Gx} {H : Hp} {a : Addr} {ns : List Int} (S : Hold H (sq G.K a (ns.map V.int) :: tabsL [(G.lt "_law_chosen", lamQ "_law_chosen")])) (hl : ns.length ≤ 63) (hb : ∀ z ∈ ns, Builtin.Int.intBits z ≤ 1048576) : sp_law G [.ref a] H (fun v _ => v = .bl true) fun _ _ _ => False :=
  ⟨a, ns, rfl, hl, S, fun _ => rfl⟩
theorem law_at {l : PySem.W.OpenLaw} {w : World} {K : PySem.W.Frag} {h : Heap} {mg : Str → Option Value} {q : Program} {LV : List (Str × PySem.W.WData)} {fa : Addr} (KX : K.In h) (G0 : h.Ns mainGlobals mg) (XLH : PySem.W.XL q LV mg h) (hfa : mg "law" = some (.ref fa))
    {e_SlotError : Addr} {e_NoSlots : Addr} {a_R : Addr} {s1_R s2_R s3_R s4_R : Tok} {n_R : Nat} {d_R : Option Addr} {sl_R : Array (Option Value)} {t_MOST_SLOTS : Tok} {f_NoSlots_init : Addr} {oc_NoSlots_init kV_NoSlots_init dc_NoSlots_init pm_NoSlots_init cd_NoSlots_init ct_NoSlots_init : Value} {od_NoSlots_init an_NoSlots_init : Option Addr} {sl_NoSlots_init : Array (Option Value)} {nm_NoSlots q_NoSlots : Str} {N_NoSlots : Addr} {bs_NoSlots bm_NoSlots : List Value} {sn_NoSlots : List Str} {sub_NoSlots : List Value} {ab_NoSlots : Bool} {col_NoSlots : Option Bool} {dd_NoSlots : Option Addr} {k0_NoSlots k1_NoSlots k2_NoSlots k3_NoSlots k5_NoSlots : Option Value} {f_is_integer : Addr} {oc_is_integer kV_is_integer dc_is_integer pm_is_integer cd_is_integer ct_is_integer : Value} {od_is_integer an_is_integer : Option Addr} {sl_is_integer : Array (Option Value)} {f_is_between : Addr} {oc_is_between kV_is_between dc_is_between pm_is_between cd_is_between ct_is_between : Value} {od_is_between an_is_between : Option Addr} {sl_is_between : Array (Option Value)} {f_is_rule : Addr} {oc_is_rule kV_is_rule dc_is_rule pm_is_rule cd_is_rule ct_is_rule : Value} {od_is_rule an_is_rule : Option Addr} {sl_is_rule : Array (Option Value)} {f_check_map : Addr} {oc_check_map kV_check_map dc_check_map pm_check_map cd_check_map ct_check_map : Value} {od_check_map an_check_map : Option Addr} {sl_check_map : Array (Option Value)} {f_full_horizon : Addr} {oc_full_horizon kV_full_horizon dc_full_horizon pm_full_horizon cd_full_horizon ct_full_horizon : Value} {od_full_horizon an_full_horizon : Option Addr} {sl_full_horizon : Array (Option Value)} {f_horizon : Addr} {oc_horizon kV_horizon dc_horizon pm_horizon cd_horizon ct_horizon : Value} {od_horizon an_horizon : Option Addr} {sl_horizon : Array (Option Value)} {f_retired : Addr} {oc_retired kV_retired dc_retired pm_retired cd_retired ct_retired : Value} {od_retired an_retired : Option Addr} {sl_retired : Array (Option Value)} {f__law_source_of : Addr} {oc__law_source_of kV__law_source_of dc__law_source_of pm__law_source_of cd__law_source_of ct__law_source_of : Value} {od__law_source_of an__law_source_of : Option Addr} {sl__law_source_of : Array (Option Value)} {f__law_next : Addr} {oc__law_next kV__law_next dc__law_next pm__law_next cd__law_next ct__law_next : Value} {od__law_next an__law_next : Option Addr} {sl__law_next : Array (Option Value)} {f__law_one : Addr} {oc__law_one kV__law_one dc__law_one pm__law_one cd__law_one ct__law_one : Value} {od__law_one an__law_one : Option Addr} {sl__law_one : Array (Option Value)} {f__law_chosen : Addr} {oc__law_chosen kV__law_chosen dc__law_chosen pm__law_chosen ct__law_chosen : Value} {od__law_chosen an__law_chosen : Option Addr} {sl__law_chosen : Array (Option Value)} {c__law_chosen p__law_chosen : Addr} {f__law_played : Addr} {oc__law_played kV__law_played dc__law_played pm__law_played cd__law_played ct__law_played : Value} {od__law_played an__law_played : Option Addr} {sl__law_played : Array (Option Value)} {f_law : Addr} {oc_law kV_law dc_law pm_law cd_law ct_law : Value} {od_law an_law : Option Addr} {sl_law : Array (Option Value)}
    (a_SlotError : PySem.W.nsIn K mainGlobals "SlotError" = some (some (.ref e_SlotError)))
    (a_NoSlots : PySem.W.nsIn K mainGlobals "NoSlots" = some (some (.ref e_NoSlots)))
    (hb_bool : PySem.W.nsIn K mainGlobals "bool" = some none)
    (hb_int : PySem.W.nsIn K mainGlobals "int" = some none)
    (hb_isinstance : PySem.W.nsIn K mainGlobals "isinstance" = some none)
    (hb_len : PySem.W.nsIn K mainGlobals "len" = some none)
    (hb_list : PySem.W.nsIn K mainGlobals "list" = some none)
    (hb_range : PySem.W.nsIn K mainGlobals "range" = some none)
    (hb_sorted : PySem.W.nsIn K mainGlobals "sorted" = some none)
    (hb_str : PySem.W.nsIn K mainGlobals "str" = some none)
    (a_RULES : PySem.W.nsIn K mainGlobals "RULES" = some (some (.ref a_R)))
    (l_RULES : K.lookup a_R = some ⟨.type "tuple", d_R, .seq #[.str "last" s1_R, .str "first" s2_R, .str "lowest" s3_R, .str "least" s4_R] n_R, sl_R⟩)
    (hg_MOST_SLOTS : PySem.W.nsIn K mainGlobals "MOST_SLOTS" = some (some (.int 64 t_MOST_SLOTS)))
    (hg_MOST_GENERATIONS : (("MOST_GENERATIONS" : Str), PySem.W.WData.int 1000000000) ∈ LV)
    (l_NoSlots : K.lookup e_NoSlots = some (excClassObj nm_NoSlots q_NoSlots e_NoSlots N_NoSlots bs_NoSlots bm_NoSlots true sn_NoSlots sub_NoSlots ab_NoSlots col_NoSlots dd_NoSlots k0_NoSlots k1_NoSlots k2_NoSlots k3_NoSlots k5_NoSlots "ValueError.__new__"))
    (r_NoSlots : PySem.HandSPX.refsVE bm_NoSlots = true)
    (sa_NoSlots : PySem.W.findIn K (.ref e_NoSlots) "__setattr__" = some (some (.builtin "object.__setattr__")))
    (ex_NoSlots : PySem.W.subIn K (.ref e_NoSlots) (.type "BaseException") = some true)
    (ty_NoSlots : PySem.W.typeIn K (.ref e_NoSlots) = some (.type "type"))
    (kC_NoSlots : PySem.W.keepIn K (.ref e_NoSlots) = true)
    (i_NoSlots : PySem.W.findIn K (.ref e_NoSlots) "__init__" = some (some (.ref f_NoSlots_init)))
    (ti_NoSlots : PySem.W.typeIn K (.ref f_NoSlots_init) = some (.type "function"))
    (l_NoSlots_init : K.lookup f_NoSlots_init = some ⟨oc_NoSlots_init, od_NoSlots_init, .func (PySem.W.fnOf "__init__" "NoSlots.__init__" (defArgs s_NoSlots_init) (defBody s_NoSlots_init) (defScope s_NoSlots_init) .none kV_NoSlots_init dc_NoSlots_init pm_NoSlots_init an_NoSlots_init cd_NoSlots_init ct_NoSlots_init), sl_NoSlots_init⟩)
    (cc_NoSlots_init : PySem.W.codeIn K cd_NoSlots_init "NoSlots.__init__" = true)
    (kk_NoSlots_init : PySem.W.keepIn K (.ref f_NoSlots_init) = true)
    (no_NoSlots_why : PySem.W.findIn K (.ref e_NoSlots) "why" = some none)
    (a_is_integer : PySem.W.nsIn K mainGlobals "is_integer" = some (some (.ref f_is_integer)))
    (l_is_integer : K.lookup f_is_integer = some ⟨oc_is_integer, od_is_integer, .func (PySem.W.fnOf "is_integer" "is_integer" (defArgs s_is_integer) (defBody s_is_integer) (defScope s_is_integer) .none kV_is_integer dc_is_integer pm_is_integer an_is_integer cd_is_integer ct_is_integer), sl_is_integer⟩)
    (cc_is_integer : PySem.W.codeIn K cd_is_integer "is_integer" = true)
    (kk_is_integer : PySem.W.keepIn K (.ref f_is_integer) = true)
    (a_is_between : PySem.W.nsIn K mainGlobals "is_between" = some (some (.ref f_is_between)))
    (l_is_between : K.lookup f_is_between = some ⟨oc_is_between, od_is_between, .func (PySem.W.fnOf "is_between" "is_between" (defArgs s_is_between) (defBody s_is_between) (defScope s_is_between) .none kV_is_between dc_is_between pm_is_between an_is_between cd_is_between ct_is_between), sl_is_between⟩)
    (cc_is_between : PySem.W.codeIn K cd_is_between "is_between" = true)
    (kk_is_between : PySem.W.keepIn K (.ref f_is_between) = true)
    (a_is_rule : PySem.W.nsIn K mainGlobals "is_rule" = some (some (.ref f_is_rule)))
    (l_is_rule : K.lookup f_is_rule = some ⟨oc_is_rule, od_is_rule, .func (PySem.W.fnOf "is_rule" "is_rule" (defArgs s_is_rule) (defBody s_is_rule) (defScope s_is_rule) .none kV_is_rule dc_is_rule pm_is_rule an_is_rule cd_is_rule ct_is_rule), sl_is_rule⟩)
    (cc_is_rule : PySem.W.codeIn K cd_is_rule "is_rule" = true)
    (kk_is_rule : PySem.W.keepIn K (.ref f_is_rule) = true)
    (a_check_map : PySem.W.nsIn K mainGlobals "check_map" = some (some (.ref f_check_map)))
    (l_check_map : K.lookup f_check_map = some ⟨oc_check_map, od_check_map, .func (PySem.W.fnOf "check_map" "check_map" (defArgs s_check_map) (defBody s_check_map) (defScope s_check_map) .none kV_check_map dc_check_map pm_check_map an_check_map cd_check_map ct_check_map), sl_check_map⟩)
    (cc_check_map : PySem.W.codeIn K cd_check_map "check_map" = true)
    (kk_check_map : PySem.W.keepIn K (.ref f_check_map) = true)
    (a_full_horizon : PySem.W.nsIn K mainGlobals "full_horizon" = some (some (.ref f_full_horizon)))
    (l_full_horizon : K.lookup f_full_horizon = some ⟨oc_full_horizon, od_full_horizon, .func (PySem.W.fnOf "full_horizon" "full_horizon" (defArgs s_full_horizon) (defBody s_full_horizon) (defScope s_full_horizon) .none kV_full_horizon dc_full_horizon pm_full_horizon an_full_horizon cd_full_horizon ct_full_horizon), sl_full_horizon⟩)
    (cc_full_horizon : PySem.W.codeIn K cd_full_horizon "full_horizon" = true)
    (kk_full_horizon : PySem.W.keepIn K (.ref f_full_horizon) = true)
    (a_horizon : PySem.W.nsIn K mainGlobals "horizon" = some (some (.ref f_horizon)))
    (l_horizon : K.lookup f_horizon = some ⟨oc_horizon, od_horizon, .func (PySem.W.fnOf "horizon" "horizon" (defArgs s_horizon) (defBody s_horizon) (defScope s_horizon) .none kV_horizon dc_horizon pm_horizon an_horizon cd_horizon ct_horizon), sl_horizon⟩)
    (cc_horizon : PySem.W.codeIn K cd_horizon "horizon" = true)
    (kk_horizon : PySem.W.keepIn K (.ref f_horizon) = true)
    (a_retired : PySem.W.nsIn K mainGlobals "retired" = some (some (.ref f_retired)))
    (l_retired : K.lookup f_retired = some ⟨oc_retired, od_retired, .func (PySem.W.fnOf "retired" "retired" (defArgs s_retired) (defBody s_retired) (defScope s_retired) .none kV_retired dc_retired pm_retired an_retired cd_retired ct_retired), sl_retired⟩)
    (cc_retired : PySem.W.codeIn K cd_retired "retired" = true)
    (kk_retired : PySem.W.keepIn K (.ref f_retired) = true)
    (a__law_source_of : PySem.W.nsIn K mainGlobals "_law_source_of" = some (some (.ref f__law_source_of)))
    (l__law_source_of : K.lookup f__law_source_of = some ⟨oc__law_source_of, od__law_source_of, .func (PySem.W.fnOf "_law_source_of" "_law_source_of" (defArgs s__law_source_of) (defBody s__law_source_of) (defScope s__law_source_of) .none kV__law_source_of dc__law_source_of pm__law_source_of an__law_source_of cd__law_source_of ct__law_source_of), sl__law_source_of⟩)
    (cc__law_source_of : PySem.W.codeIn K cd__law_source_of "_law_source_of" = true)
    (kk__law_source_of : PySem.W.keepIn K (.ref f__law_source_of) = true)
    (a__law_next : PySem.W.nsIn K mainGlobals "_law_next" = some (some (.ref f__law_next)))
    (l__law_next : K.lookup f__law_next = some ⟨oc__law_next, od__law_next, .func (PySem.W.fnOf "_law_next" "_law_next" (defArgs s__law_next) (defBody s__law_next) (defScope s__law_next) .none kV__law_next dc__law_next pm__law_next an__law_next cd__law_next ct__law_next), sl__law_next⟩)
    (cc__law_next : PySem.W.codeIn K cd__law_next "_law_next" = true)
    (kk__law_next : PySem.W.keepIn K (.ref f__law_next) = true)
    (a__law_one : PySem.W.nsIn K mainGlobals "_law_one" = some (some (.ref f__law_one)))
    (l__law_one : K.lookup f__law_one = some ⟨oc__law_one, od__law_one, .func (PySem.W.fnOf "_law_one" "_law_one" (defArgs s__law_one) (defBody s__law_one) (defScope s__law_one) .none kV__law_one dc__law_one pm__law_one an__law_one cd__law_one ct__law_one), sl__law_one⟩)
    (cc__law_one : PySem.W.codeIn K cd__law_one "_law_one" = true)
    (kk__law_one : PySem.W.keepIn K (.ref f__law_one) = true)
    (a__law_chosen : PySem.W.nsIn K mainGlobals "_law_chosen" = some (some (.ref f__law_chosen)))
    (l__law_chosen : K.lookup f__law_chosen = some ⟨oc__law_chosen, od__law_chosen, .func (PySem.W.fnOf "_law_chosen" "_law_chosen" (defArgs s__law_chosen) (defBody s__law_chosen) (defScope s__law_chosen) .none kV__law_chosen dc__law_chosen pm__law_chosen an__law_chosen (.ref c__law_chosen) ct__law_chosen), sl__law_chosen⟩)
    (cc__law_chosen : PySem.W.codeIn K (.ref c__law_chosen) "_law_chosen" = true)
    (kk__law_chosen : PySem.W.keepIn K (.ref f__law_chosen) = true)
    (q__law_chosen : p__law_chosen = 133)
    (ch__law_chosen : PySem.W.codeHdIn K c__law_chosen p__law_chosen = true)
    (nl__law_chosen : K.lookup p__law_chosen = none)
    (ht__law_chosen : h.get? p__law_chosen = some (PySem.W.tabObj #[]))
    (a__law_played : PySem.W.nsIn K mainGlobals "_law_played" = some (some (.ref f__law_played)))
    (l__law_played : K.lookup f__law_played = some ⟨oc__law_played, od__law_played, .func (PySem.W.fnOf "_law_played" "_law_played" (defArgs s__law_played) (defBody s__law_played) (defScope s__law_played) .none kV__law_played dc__law_played pm__law_played an__law_played cd__law_played ct__law_played), sl__law_played⟩)
    (cc__law_played : PySem.W.codeIn K cd__law_played "_law_played" = true)
    (kk__law_played : PySem.W.keepIn K (.ref f__law_played) = true)
    (a_law : PySem.W.nsIn K mainGlobals "law" = some (some (.ref f_law)))
    (l_law : K.lookup f_law = some ⟨oc_law, od_law, .func (PySem.W.fnOf "law" "law" (defArgs s_law) (defBody s_law) (defScope s_law) .none kV_law dc_law pm_law an_law cd_law ct_law), sl_law⟩)
    (cc_law : PySem.W.codeIn K cd_law "law" = true)
    (kk_law : PySem.W.keepIn K (.ref f_law) = true)
    : LamX.LawAtS l w K (L2.CX l.prog w) 7 63 "_law_script" mg fa h := by
  have e := hfa.symm.trans (PySem.W.mg_of KX G0 a_law)
  cases e
  let G : Gx := { K := K, CS := 0, aRULES := a_R, lc := fun x => if x = "_law_chosen" then c__law_chosen else 0, lt := fun x => if x = "_law_chosen" then p__law_chosen else 0, eSlotError := e_SlotError, eNoSlots := e_NoSlots, eFull := 0, eNoHandle := 0, eNoSlot := 0, eNoTimes := 0, eNever := 0, eTooLong := 0, eNoBlock := 0, eStuck := 0 }
  have T : Txt G mg := ⟨PySem.W.mg_none_of KX G0 hb_bool, PySem.W.mg_none_of KX G0 hb_int, PySem.W.mg_none_of KX G0 hb_isinstance, PySem.W.mg_none_of KX G0 hb_len, PySem.W.mg_none_of KX G0 hb_list, PySem.W.mg_none_of KX G0 hb_range, PySem.W.mg_none_of KX G0 hb_sorted, PySem.W.mg_none_of KX G0 hb_str, gRef KX G0 a_RULES, gInt KX G0 hg_MOST_SLOTS, gLoose XLH hg_MOST_GENERATIONS, k4 l_RULES, PySem.W.mg_of KX G0 a_SlotError, PySem.W.mg_of KX G0 a_NoSlots⟩
  have F_NoSlots_init : TopE K mg "NoSlots" "NoSlots.__init__" e_NoSlots ["why"] s_NoSlots_init := TopE.k KX G0 a_NoSlots (OexC.k l_NoSlots r_NoSlots sa_NoSlots ex_NoSlots ty_NoSlots kC_NoSlots) i_NoSlots ti_NoSlots l_NoSlots_init cc_NoSlots_init kk_NoSlots_init (no1 no_NoSlots_why)
  have F_is_integer : TopF K mg "is_integer" s_is_integer := TopF.k KX G0 a_is_integer l_is_integer cc_is_integer kk_is_integer
  have F_is_between : TopF K mg "is_between" s_is_between := TopF.k KX G0 a_is_between l_is_between cc_is_between kk_is_between
  have F_is_rule : TopF K mg "is_rule" s_is_rule := TopF.k KX G0 a_is_rule l_is_rule cc_is_rule kk_is_rule
  have F_check_map : TopF K mg "check_map" s_check_map := TopF.k KX G0 a_check_map l_check_map cc_check_map kk_check_map
  have F_full_horizon : TopF K mg "full_horizon" s_full_horizon := TopF.k KX G0 a_full_horizon l_full_horizon cc_full_horizon kk_full_horizon
  have F_horizon : TopF K mg "horizon" s_horizon := TopF.k KX G0 a_horizon l_horizon cc_horizon kk_horizon
  have F_retired : TopF K mg "retired" s_retired := TopF.k KX G0 a_retired l_retired cc_retired kk_retired
  have F__law_source_of : TopF K mg "_law_source_of" s__law_source_of := TopF.k KX G0 a__law_source_of l__law_source_of cc__law_source_of kk__law_source_of
  have F__law_next : TopF K mg "_law_next" s__law_next := TopF.k KX G0 a__law_next l__law_next cc__law_next kk__law_next
  have F__law_one : TopF K mg "_law_one" s__law_one := TopF.k KX G0 a__law_one l__law_one cc__law_one kk__law_one
  have F__law_chosen : TopFL K mg "_law_chosen" s__law_chosen c__law_chosen := TopFL.k KX G0 a__law_chosen l__law_chosen cc__law_chosen kk__law_chosen
  have F__law_played : TopF K mg "_law_played" s__law_played := TopF.k KX G0 a__law_played l__law_played cc__law_played kk__law_played
  have F_law : TopF K mg "law" s_law := TopF.k KX G0 a_law l_law cc_law kk_law
  have M1 : ∀ p ∈ ([(c__law_chosen, p__law_chosen)] : List (Addr × Addr)), h.get? p.2 = some { cls := .none, data := .fields #[] } := by
    intro p hp
    have hp : p = (c__law_chosen, p__law_chosen) := by simpa using hp
    rcases hp with rfl
    · exact ht__law_chosen
  have M2 : ∀ p ∈ ([(c__law_chosen, p__law_chosen)] : List (Addr × Addr)), K.lookup p.2 = none := by
    intro p hp
    have hp : p = (c__law_chosen, p__law_chosen) := by simpa using hp
    rcases hp with rfl
    · exact nl__law_chosen
  have M3 : ∀ p ∈ ([(c__law_chosen, p__law_chosen)] : List (Addr × Addr)), PySem.W.CodeHd h p.1 p.2 := by
    intro p hp
    have hp : p = (c__law_chosen, p__law_chosen) := by simpa using hp
    rcases hp with rfl
    · exact PySem.W.codeHd_of_K KX ch__law_chosen
  refine ⟨PySem.W.fnOf "law" "law" (defArgs s_law) (defBody s_law) (defScope s_law) .none kV_law dc_law pm_law an_law cd_law ct_law, [(c__law_chosen, p__law_chosen)], sp_law G, M1, M2, M3, fun s u => .of_eq rfl, fun H a ns hl hb hT hS => ?_, fun base KB GB hTB => ?_⟩
  · have S := law_start (ts := [(p__law_chosen, lamQ "_law_chosen")]) hS (by simp; try omega) (fun p hp => by
      have hp : p = (p__law_chosen, lamQ "_law_chosen") := by simpa using hp
      rcases hp with rfl
      · exact hT (c__law_chosen, p__law_chosen) (by simp))
    exact lawsp S hl hb
  have c_NoSlots : CalE l.prog w G.K mg base "NoSlots" G.eNoSlots 1 ["self", "why"] (sp_NoSlots_init G) := ok_NoSlots_init F_NoSlots_init
  have c_is_integer : Cal l.prog w G.K mg base "is_integer" 1 ["value"] (sp_is_integer G) := ok_is_integer T F_is_integer
  have c_is_between : CalKw l.prog w G.K mg base "is_between" 2 1 ["value", "low", "high"] ["low", "high"] (sp_is_between G) := ok_is_between T c_is_integer F_is_between
  have c_is_rule : Cal l.prog w G.K mg base "is_rule" 1 ["value"] (sp_is_rule G) := ok_is_rule T F_is_rule
  have c_check_map : Cal l.prog w G.K mg base "check_map" 3 ["n", "limit", "generations", "rule"] (sp_check_map G) := ok_check_map T c_is_between c_NoSlots c_is_rule F_check_map
  have c_full_horizon : Cal l.prog w G.K mg base "full_horizon" 1 ["n", "limit", "generations"] (sp_full_horizon G) := ok_full_horizon T F_full_horizon
  have c_horizon : Cal l.prog w G.K mg base "horizon" 4 ["n", "limit", "generations", "rule"] (sp_horizon G) := ok_horizon T c_check_map c_full_horizon F_horizon
  have c_retired : Cal l.prog w G.K mg base "retired" 4 ["n", "limit", "generations"] (sp_retired G) := ok_retired T c_check_map c_full_horizon F_retired
  have c__law_source_of : Cal l.prog w G.K mg base "_law_source_of" 1 ["_law_cell"] (sp__law_source_of G) := ok__law_source_of T F__law_source_of
  have c__law_next : Cal l.prog w G.K mg base "_law_next" 1 ["_law_source", "_law_many"] (sp__law_next G) := ok__law_next T F__law_next
  have c__law_one : Cal l.prog w G.K mg base "_law_one" 2 ["_law_source", "_law_some"] (sp__law_one G) := ok__law_one T c__law_next F__law_one
  have c__law_chosen : Cal l.prog w G.K mg base "_law_chosen" 5 ["_law_source", "_law_rule", "_law_free", "_law_counts", "_law_generations"] (sp__law_chosen G) := ok__law_chosen T (hTB (c__law_chosen, p__law_chosen) (by simp)) c__law_one F__law_chosen
  have c__law_played : Cal l.prog w G.K mg base "_law_played" 6 ["_law_source", "_law_rule", "_law_n", "_law_limit", "_law_generations", "_law_is_retiring"] (sp__law_played G) := ok__law_played T c__law_chosen F__law_played
  have c_law : CalX l.prog w G.K mg base "law" 7 ["_law_script"] (sp_law G) := ok_law T c__law_source_of c_horizon c__law_next c__law_played c_retired F_law
  obtain ⟨f, fd, oc, od, sl, hm, lk, F⟩ := c_law.ex
  have e := (PySem.W.mg_of KX G0 a_law).symm.trans hm
  cases e
  have e2 := l_law.symm.trans lk
  cases e2
  exact F
end Sw
open PySem PySem.W PyProof.Rows Sw
theorem PySem.Challenge.cw_slotwraps_k65_whole_any_rule_of_reuse_holds : PySem.Challenge.rw_slotwraps_k65_whole_any_rule_of_reuse.Holds := by
  w_on; o_law
  k_head
  case hw => w_witness2
  k_fill
  refine Sw.walk_ofTX (l := PySem.Challenge.rw_slotwraps_k65_whole_any_rule_of_reuse) (n := 63) (k := 7) (x := "_law_script") (CX := fun w => L2.CX (PySem.Challenge.rw_slotwraps_k65_whole_any_rule_of_reuse).prog w) rfl (by decide) rfl ⟨rfl, by decide, by decide⟩ (fun w h Y => by first | exact PySem.W.km_in_of Y | exact PySem.W.kIn_of Y) ?F (fun _ _ _ _ _ z => Sw.cx_never z)
  intro w mg fa h Y XLH KX G0 hmg
  refine' Sw.law_at KX G0 XLH hmg ?a_SlotError ?a_NoSlots ?hb_bool ?hb_int ?hb_isinstance ?hb_len ?hb_list ?hb_range ?hb_sorted ?hb_str ?a_RULES ?l_RULES ?hg_MOST_SLOTS ?hg_MOST_GENERATIONS ?l_NoSlots ?r_NoSlots ?sa_NoSlots ?ex_NoSlots ?ty_NoSlots ?kC_NoSlots ?i_NoSlots ?ti_NoSlots ?l_NoSlots_init ?cc_NoSlots_init ?kk_NoSlots_init ?no_NoSlots_why ?a_is_integer ?l_is_integer ?cc_is_integer ?kk_is_integer ?a_is_between ?l_is_between ?cc_is_between ?kk_is_between ?a_is_rule ?l_is_rule ?cc_is_rule ?kk_is_rule ?a_check_map ?l_check_map ?cc_check_map ?kk_check_map ?a_full_horizon ?l_full_horizon ?cc_full_horizon ?kk_full_horizon ?a_horizon ?l_horizon ?cc_horizon ?kk_horizon ?a_retired ?l_retired ?cc_retired ?kk_retired ?a__law_source_of ?l__law_source_of ?cc__law_source_of ?kk__law_source_of ?a__law_next ?l__law_next ?cc__law_next ?kk__law_next ?a__law_one ?l__law_one ?cc__law_one ?kk__law_one ?a__law_chosen ?l__law_chosen ?cc__law_chosen ?kk__law_chosen ?q__law_chosen ?ch__law_chosen ?nl__law_chosen ?ht__law_chosen ?a__law_played ?l__law_played ?cc__law_played ?kk__law_played ?a_law ?l_law ?cc_law ?kk_law
  (case a_SlotError => k_is); (case a_NoSlots => k_is); (case hb_bool => k_is); (case hb_int => k_is); (case hb_isinstance => k_is); (case hb_len => k_is)
  (case hb_list => k_is); (case hb_range => k_is); (case hb_sorted => k_is); (case hb_str => k_is); (case a_RULES => k_is); (case l_RULES => k_is)
  (case hg_MOST_SLOTS => k_is); (case hg_MOST_GENERATIONS => first | exact List.mem_cons_self | exact List.mem_cons_of_mem _ List.mem_cons_self | exact List.mem_cons_of_mem _ (List.mem_cons_of_mem _ List.mem_cons_self)); (case l_NoSlots => k_is); (case r_NoSlots => kernel_rfl); (case sa_NoSlots => k_is); (case ex_NoSlots => k_is)
  (case ty_NoSlots => k_is); (case kC_NoSlots => k_is); (case i_NoSlots => k_is); (case ti_NoSlots => k_is); (case l_NoSlots_init => k_is); (case cc_NoSlots_init => k_is)
  (case kk_NoSlots_init => k_is); (case no_NoSlots_why => k_is); (case a_is_integer => k_is); (case l_is_integer => k_is); (case cc_is_integer => k_is); (case kk_is_integer => k_is)
  (case a_is_between => k_is); (case l_is_between => k_is); (case cc_is_between => k_is); (case kk_is_between => k_is); (case a_is_rule => k_is); (case l_is_rule => k_is)
  (case cc_is_rule => k_is); (case kk_is_rule => k_is); (case a_check_map => k_is); (case l_check_map => k_is); (case cc_check_map => k_is); (case kk_check_map => k_is)
  (case a_full_horizon => k_is); (case l_full_horizon => k_is); (case cc_full_horizon => k_is); (case kk_full_horizon => k_is); (case a_horizon => k_is); (case l_horizon => k_is)
  (case cc_horizon => k_is); (case kk_horizon => k_is); (case a_retired => k_is); (case l_retired => k_is); (case cc_retired => k_is); (case kk_retired => k_is)
  (case a__law_source_of => k_is); (case l__law_source_of => k_is); (case cc__law_source_of => k_is); (case kk__law_source_of => k_is); (case a__law_next => k_is); (case l__law_next => k_is)
  (case cc__law_next => k_is); (case kk__law_next => k_is); (case a__law_one => k_is); (case l__law_one => k_is); (case cc__law_one => k_is); (case kk__law_one => k_is)
  (case a__law_chosen => k_is); (case l__law_chosen => k_is); (case cc__law_chosen => k_is); (case kk__law_chosen => k_is); (case q__law_chosen => rfl); (case ch__law_chosen => kernel_rfl)
  (case nl__law_chosen => kernel_rfl); (case ht__law_chosen => exact PySem.W.km_tabs_of Y _ (by decide)); (case a__law_played => k_is); (case l__law_played => k_is); (case cc__law_played => k_is); (case kk__law_played => k_is)
  (case a_law => k_is); (case l_law => k_is); (case cc_law => k_is); (case kk_law => k_is)
